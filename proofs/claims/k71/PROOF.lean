import PyProof.Rows.All
import Wide.All
import OpenK.AllK
import Wide.FinOn
import HandS.ForMost
import HandS.IsInst
import HandS.SetFor
import HandS.Conv
import HandS.Wide
import HandS.OwnEq
import HandS.Style
import HandS.Codes
import HandS.TupMul
import HandS.Walk
import HandS.TupSets
import PyProof.InstNe
import HandS.ForExc
import HandS.ExcInit
import HandS.ExcField
import HandS.Defaults
import HandS.Zip
import PySem.Challenge.RW_elderdraw_k71_whole_webs_keep_their_orde
set_option Elab.async false
set_option linter.all false
set_option maxRecDepth 100000
set_option maxHeartbeats 2000000
namespace El
open PySem PySem.Spec L2

/-! ### heaps -/
def Ex (H H' : Hp) : Prop := ∀ a o, H a = some o → H' a = some o
theorem Ex.refl (H : Hp) : Ex H H := fun _ _ h => h
theorem Ex.trans {H H1 H2 : Hp} (a : Ex H H1) (b : Ex H1 H2) : Ex H H2 := fun x o h => b x o (a x o h)
theorem Ex.new {H : Hp} {p : Addr} {o : HO} (h : H p = none) : Ex H (upd H p o) := fun a u e => by
  rw [upd_ne (ne_of_none e h)]
  exact e
theorem Ex.mut {H H' : Hp} {p : Addr} {o : HO} (e : Ex H H') (h : H p = none) : Ex H (upd H' p o) := fun a u ha => by
  rw [upd_ne (ne_of_none ha h)]
  exact e a u ha
theorem Ex.free {H H' : Hp} (e : Ex H H') {p : Addr} (h : H' p = none) : H p = none := by
  cases q : H p with
  | none => rfl
  | some o => rw [e p o q] at h; cases h
theorem Ex.both {F H : Hp} {p : Addr} {o : HO} (e : Ex F H) : Ex (upd F p o) (upd H p o) := fun a u h => by
  by_cases q : a = p
  · subst q; rw [upd_same] at h ⊢; exact h
  · rw [upd_ne q] at h ⊢; exact e a u h
/-- growth: F the frozen part, H all; M may be changed -/
structure Gr (M : Addr → Prop) (F H F' H' : Hp) : Prop where
  ff : Ex F F'
  fh : Ex F' H'
  hh : ∀ b o, ¬ M b → H b = some o → H' b = some o
  nw : ∀ b, ¬ M b → H b ≠ none → F b = none → F' b = none
  dm : ∀ b, H b ≠ none → H' b ≠ none
abbrev M0 : Addr → Prop := fun _ => False
abbrev M1 (a : Addr) : Addr → Prop := fun b => b = a
theorem Gr.refl {M : Addr → Prop} {F H : Hp} (e : Ex F H) : Gr M F H F H := ⟨Ex.refl F, e, fun _ _ _ h => h, fun _ _ _ h => h, fun _ h => h⟩
theorem Gr.trans {M : Addr → Prop} {F H F1 H1 F2 H2 : Hp} (a : Gr M F H F1 H1) (b : Gr M F1 H1 F2 H2) : Gr M F H F2 H2 :=
  ⟨a.ff.trans b.ff, b.fh, fun c o m h => b.hh c o m (a.hh c o m h), fun c m h n => b.nw c m (a.dm c h) (a.nw c m h n), fun c h => b.dm c (a.dm c h)⟩
theorem Gr.mono {M M' : Addr → Prop} {F H F1 H1 : Hp} (a : Gr M F H F1 H1) (m : ∀ b, M b → M' b) : Gr M' F H F1 H1 :=
  ⟨a.ff, a.fh, fun c o n h => a.hh c o (fun z => n (m c z)) h, fun c n h => a.nw c (fun z => n (m c z)) h, a.dm⟩
theorem Gr.up {M : Addr → Prop} {F H F1 H1 : Hp} (a : Gr M0 F H F1 H1) : Gr M F H F1 H1 := a.mono fun _ z => z.elim
theorem Gr.hx {F H F1 H1 : Hp} (a : Gr M0 F H F1 H1) : Ex H H1 := fun b o h => a.hh b o (fun z => z) h
/-- a new thing, frozen -/
theorem Gr.new {M : Addr → Prop} {F H : Hp} {p : Addr} {o : HO} (e : Ex F H) (h : H p = none) : Gr M F H (upd F p o) (upd H p o) where
  ff := Ex.new (e.free h)
  fh := e.both
  hh := fun b u _ q => Ex.new h b u q
  nw := fun b _ q n => by
    by_cases z : b = p
    · subst z; exact absurd h q
    · rw [upd_ne z]; exact n
  dm := fun b q => by
    by_cases z : b = p
    · subst z; rw [upd_same]; exact fun x => nomatch x
    · rw [upd_ne z]; exact q
/-- a new thing that may change -/
theorem Gr.loc {M : Addr → Prop} {F H : Hp} {p : Addr} {o : HO} (e : Ex F H) (h : H p = none) : Gr M F H F (upd H p o) where
  ff := Ex.refl F
  fh := e.mut (e.free h)
  hh := fun b u _ q => Ex.new h b u q
  nw := fun b _ q n => n
  dm := fun b q => by
    by_cases z : b = p
    · subst z; rw [upd_same]; exact fun x => nomatch x
    · rw [upd_ne z]; exact q
/-- a change of what stands outside of F -/
theorem Gr.set {M : Addr → Prop} {F H : Hp} {p : Addr} {o : HO} (e : Ex F H) (h : F p = none) (m : M p) : Gr M F H F (upd H p o) where
  ff := Ex.refl F
  fh := e.mut h
  hh := fun b u n q => by
    have z : b ≠ p := fun z => n (z ▸ m)
    rw [upd_ne z]; exact q
  nw := fun b _ q n => n
  dm := fun b q => by
    by_cases z : b = p
    · subst z; rw [upd_same]; exact fun x => nomatch x
    · rw [upd_ne z]; exact q
/-- behind an entry (F₀, H₀), a change of what is younger -/
theorem Gr.set' {M : Addr → Prop} {F0 H0 F H : Hp} {p : Addr} {o : HO} (g : Gr M F0 H0 F H) (h : F p = none) (n : H0 p = none ∨ M p) : Gr M F0 H0 F (upd H p o) where
  ff := g.ff
  fh := g.fh.mut h
  hh := fun b u m q => by
    have z : b ≠ p := fun z => by
      subst z
      rcases n with n | n
      · rw [n] at q; cases q
      · exact m n
    rw [upd_ne z]; exact g.hh b u m q
  nw := g.nw
  dm := fun b q => by
    by_cases z : b = p
    · subst z; rw [upd_same]; exact fun x => nomatch x
    · rw [upd_ne z]; exact g.dm b q
/-- a thing that may change is frozen from here on -/
theorem Gr.frz {M : Addr → Prop} {F0 H0 F H : Hp} {p : Addr} {o : HO} (g : Gr M F0 H0 F H) (h : H p = some o) (n : F0 p = none) (n2 : H0 p = none ∨ M p) : Gr M F0 H0 (upd F p o) H where
  ff := fun b u q => by
    rw [upd_ne (ne_of_none q n)]; exact g.ff b u q
  fh := fun b u q => by
    by_cases z : b = p
    · subst z; rw [upd_same] at q; cases q; exact h
    · rw [upd_ne z] at q; exact g.fh b u q
  hh := g.hh
  nw := fun b w q m => by
    have z : b ≠ p := fun z => by
      subst z
      rcases n2 with n2 | n2
      · exact q n2
      · exact w n2
    rw [upd_ne z]; exact g.nw b w q m
  dm := g.dm
theorem Gr.nn {F H F' H' : Hp} {p : Addr} {o : HO} (g : Gr M0 F H F' H') (h : H p = some o) (n : F p = none) : F' p = none := g.nw p (fun z => z) (by rw [h]; exact fun z => nomatch z) n
theorem Ex.frz {F H : Hp} {p : Addr} {o : HO} (e : Ex F H) (h : H p = some o) (n : F p = none) : Ex F (upd F p o) := fun b u q => by
  rw [upd_ne (ne_of_none q n)]; exact q

/-! ### what a value stands for -/
abbrev Rp (α : Type) := Hp → V → α → Prop
class Mn {α : Type} (R : Rp α) : Prop where
  mono : ∀ {H H' : Hp} {v : V} {x : α}, Ex H H' → R H v x → R H' v x
def rInt : Rp Int := fun _ v i => v = .int i
def rNat : Rp Nat := fun _ v i => v = .int (i : Int)
def rBl : Rp Bool := fun _ v i => v = .bl i
def rStr : Rp Str := fun _ v i => v = .str i
def rNon : Rp Unit := fun _ v _ => v = .non
def rLst {α : Type} (R : Rp α) : Rp (List α) := fun H v xs => ∃ a vs, v = .ref a ∧ H a = some (.lst vs) ∧ Paired (R H) vs xs
def rTup {α : Type} (R : Rp α) : Rp (List α) := fun H v xs => ∃ a vs, v = .ref a ∧ H a = some (.tup vs) ∧ Paired (R H) vs xs
def rPr {α β : Type} (R : Rp α) (S : Rp β) : Rp (α × β) := fun H v p => ∃ a x y, v = .ref a ∧ H a = some (.tup [x, y]) ∧ R H x p.1 ∧ S H y p.2
def rOpt {α : Type} (R : Rp α) : Rp (Option α) := fun H v x => match x with
  | none => v = .non
  | some y => R H v y
instance : Mn rInt := ⟨fun _ h => h⟩
instance : Mn rNat := ⟨fun _ h => h⟩
instance : Mn rBl := ⟨fun _ h => h⟩
instance : Mn rStr := ⟨fun _ h => h⟩
instance : Mn rNon := ⟨fun _ h => h⟩
theorem Paired.up {α : Type} {R : Rp α} [m : Mn R] {H H' : Hp} (e : Ex H H') {vs : List V} {xs : List α} (h : Paired (R H) vs xs) : Paired (R H') vs xs := L2.Paired.mapP h fun _ _ q => m.mono e q
instance {α : Type} {R : Rp α} [Mn R] : Mn (rLst R) := ⟨fun e ⟨a, vs, h1, h2, h3⟩ => ⟨a, vs, h1, e _ _ h2, Paired.up e h3⟩⟩
instance {α : Type} {R : Rp α} [Mn R] : Mn (rTup R) := ⟨fun e ⟨a, vs, h1, h2, h3⟩ => ⟨a, vs, h1, e _ _ h2, Paired.up e h3⟩⟩
instance {α β : Type} {R : Rp α} {S : Rp β} [m : Mn R] [n : Mn S] : Mn (rPr R S) := ⟨fun e ⟨a, x, y, h1, h2, h3, h4⟩ => ⟨a, x, y, h1, e _ _ h2, m.mono e h3, n.mono e h4⟩⟩
instance {α : Type} {R : Rp α} [m : Mn R] : Mn (rOpt R) := ⟨fun {H H' v x} e h => by
  cases x with
  | none => exact h
  | some y => exact m.mono e h⟩
theorem Paired.get {α β : Type} {F : α → β → Prop} : ∀ {as : List α} {bs : List β} {i : Nat} {b : β}, Paired F as bs → bs[i]? = some b → ∃ a, as[i]? = some a ∧ F a b
  | _, _, _, _, .nil, e => by simp at e
  | _, _, 0, _, .cons r _, e => by simp at e; subst e; exact ⟨_, rfl, r⟩
  | _, _, i + 1, _, .cons _ t, e => by
    obtain ⟨a, h1, h2⟩ := Paired.get t (i := i) (by simpa using e)
    exact ⟨a, by simpa using h1, h2⟩
theorem Paired.getL {α β : Type} {F : α → β → Prop} : ∀ {as : List α} {bs : List β} {i : Nat} {a : α}, Paired F as bs → as[i]? = some a → ∃ b, bs[i]? = some b ∧ F a b
  | _, _, _, _, .nil, e => by simp at e
  | _, _, 0, _, .cons r _, e => by simp at e; subst e; exact ⟨_, rfl, r⟩
  | _, _, i + 1, _, .cons _ t, e => by
    obtain ⟨a, h1, h2⟩ := Paired.getL t (i := i) (by simpa using e)
    exact ⟨a, by simpa using h1, h2⟩
theorem Paired.app {α β : Type} {F : α → β → Prop} : ∀ {as cs : List α} {bs ds : List β}, Paired F as bs → Paired F cs ds → Paired F (as ++ cs) (bs ++ ds)
  | _, _, _, _, .nil, h => h
  | _, _, _, _, .cons r t, h => .cons r (Paired.app t h)
theorem Paired.take {α β : Type} {F : α → β → Prop} : ∀ {as : List α} {bs : List β} (n : Nat), Paired F as bs → Paired F (as.take n) (bs.take n)
  | _, _, 0, _ => .nil
  | _, _, _ + 1, .nil => .nil
  | _, _, n + 1, .cons r t => .cons r (Paired.take n t)
theorem Paired.drop {α β : Type} {F : α → β → Prop} : ∀ {as : List α} {bs : List β} (n : Nat), Paired F as bs → Paired F (as.drop n) (bs.drop n)
  | _, _, 0, h => h
  | _, _, _ + 1, .nil => .nil
  | _, _, n + 1, .cons r t => Paired.drop n t
theorem Paired.rev {α β : Type} {F : α → β → Prop} : ∀ {as : List α} {bs : List β}, Paired F as bs → Paired F as.reverse bs.reverse
  | _, _, .nil => .nil
  | _, _, .cons r t => by
    rw [List.reverse_cons, List.reverse_cons]
    exact Paired.app (Paired.rev t) (.cons r .nil)
theorem Paired.set {α β : Type} {F : α → β → Prop} {a : α} {b : β} (r : F a b) : ∀ {as : List α} {bs : List β} (n : Nat), Paired F as bs → Paired F (as.set n a) (bs.set n b)
  | _, _, _, .nil => .nil
  | _, _, 0, .cons _ t => .cons r t
  | _, _, n + 1, .cons q t => .cons q (Paired.set r n t)
/-- ints as they stand -/
theorem ints_paired {H : Hp} : ∀ {vs : List V} {ns : List Int}, Paired (rInt H) vs ns → vs = ns.map V.int
  | _, _, .nil => rfl
  | _, _, .cons r t => by rw [List.map_cons, ints_paired t, show _ = _ from r]
theorem paired_ints {H : Hp} : ∀ ns : List Int, Paired (rInt H) (ns.map V.int) ns
  | [] => .nil
  | n :: ns => .cons rfl (paired_ints ns)
theorem nats_paired {H : Hp} : ∀ {vs : List V} {ns : List Nat}, Paired (rNat H) vs ns → vs = (ns.map fun n : Nat => (n : Int)).map V.int
  | _, _, .nil => rfl
  | _, _, .cons r t => by rw [List.map_cons, List.map_cons, ← nats_paired t, show _ = _ from r]
theorem bls_paired {H : Hp} : ∀ {vs : List V} {ns : List Bool}, Paired (rBl H) vs ns → vs = ns.map V.bl
  | _, _, .nil => rfl
  | _, _, .cons r t => by rw [List.map_cons, ← bls_paired t, show _ = _ from r]
theorem strs_paired {H : Hp} : ∀ {vs : List V} {ns : List Str}, Paired (rStr H) vs ns → vs = ns.map V.str
  | _, _, .nil => rfl
  | _, _, .cons r t => by rw [List.map_cons, ← strs_paired t, show _ = _ from r]

/-! ### what evaluates to what -/
def Ev {α : Type} (R : Rp α) (te : TE) (σ : St) (F H : Hp) (x : α) : Prop :=
  ∀ F1 H1, Gr M0 F H F1 H1 → ∀ Q : VK, (∀ v F2 H2, Gr M0 F1 H1 F2 H2 → R F2 v x → Q v H2) → te σ H1 Q
def EvT (tt : TT) (σ : St) (F H : Hp) (b : Bool) : Prop :=
  ∀ F1 H1, Gr M0 F H F1 H1 → ∀ Q : Bool → Hp → Prop, (∀ F2 H2, Gr M0 F1 H1 F2 H2 → Q b H2) → tt σ H1 Q
def EvA (ta : TA) (σ : St) (F H : Hp) (P : Hp → List V → Prop) : Prop :=
  ∀ F1 H1, Gr M0 F H F1 H1 → ∀ Q : List V → Hp → Prop, (∀ vs F2 H2, Gr M0 F1 H1 F2 H2 → P F2 vs → Q vs H2) → ta σ H1 Q
section
variable {K : PySem.W.Frag} {σ : St} {F H F' H' : Hp} {ta tb tc te : TE} {t u : TT} {α β γ δ ε : Type} {R : Rp α} {S : Rp β} {T : Rp γ} {x : α} {y : β} {z : γ}
theorem Ev.mono (g : Gr M0 F H F' H') (h : Ev R te σ F H x) : Ev R te σ F' H' x := fun F1 H1 g1 Q q => h F1 H1 (g.trans g1) Q q
theorem EvT.mono {b : Bool} (g : Gr M0 F H F' H') (h : EvT t σ F H b) : EvT t σ F' H' b := fun F1 H1 g1 Q q => h F1 H1 (g.trans g1) Q q
theorem Ev.is {x' : α} (h : Ev R te σ F H x) (e : x = x') : Ev R te σ F H x' := e ▸ h
theorem EvT.is {b b' : Bool} (h : EvT t σ F H b) (e : b = b') : EvT t σ F H b' := e ▸ h
/-- another reading of the value -/
theorem Ev.as (h : Ev R te σ F H x) (c : ∀ F v, R F v x → S F v y) : Ev S te σ F H y := fun F1 H1 g Q q => h F1 H1 g Q fun v F2 H2 g2 r => q v F2 H2 g2 (c F2 v r)
theorem Ev.nat {n : Nat} (h : Ev rNat te σ F H n) : Ev rInt te σ F H (n : Int) := h
theorem Ev.toNat {n : Nat} (h : Ev rInt te σ F H (n : Int)) : Ev rNat te σ F H n := h
theorem ev_var {i : Nat} {v : V} (h : σ[i]? = some (some v)) (r : R F v x) (m : Mn R := by infer_instance) : Ev R (tVar i) σ F H x := fun F1 H1 g Q q => ⟨v, h, q v F1 H1 (.refl g.fh) (m.mono g.ff r)⟩
theorem ev_int {i : Int} : Ev rInt (tC (.int i)) σ F H i := fun F1 H1 g Q q => q _ F1 H1 (.refl g.fh) rfl
theorem ev_bl {i : Bool} : Ev rBl (tC (.bl i)) σ F H i := fun F1 H1 g Q q => q _ F1 H1 (.refl g.fh) rfl
theorem ev_str {i : Str} : Ev rStr (tC (.str i)) σ F H i := fun F1 H1 g Q q => q _ F1 H1 (.refl g.fh) rfl
theorem ev_non : Ev rNon (tC .non) σ F H () := fun F1 H1 g Q q => q _ F1 H1 (.refl g.fh) rfl
theorem ev_noneO : Ev (rOpt R) (tC .non) σ F H none := fun F1 H1 g Q q => q _ F1 H1 (.refl g.fh) rfl
theorem ev_someO (h : Ev R te σ F H x) : Ev (rOpt R) te σ F H (some x) := h
/-- operators of two ints -/
theorem ev_I0 {g : Int → Int → V} {i j : Int} (ha : Ev rInt ta σ F H i) (hb : Ev rInt tb σ F H j) (hz : ∀ F, R F (g i j) x) : Ev R (tOp (rI0 g) ta tb) σ F H x := fun F1 H1 g1 Q q =>
  ha F1 H1 g1 _ fun v F2 H2 g2 r => hb F2 H2 (g1.trans g2) _ fun w F3 H3 g3 r2 => ⟨i, j, r, r2, q _ F3 H3 (g2.trans g3) (hz F3)⟩
theorem ev_I {C : Int → Int → Prop} {g : Int → Int → V} {i j : Int} (ha : Ev rInt ta σ F H i) (hb : Ev rInt tb σ F H j) (hc : C i j) (hz : ∀ F, R F (g i j) x) : Ev R (tOp (rI C g) ta tb) σ F H x := fun F1 H1 g1 Q q =>
  ha F1 H1 g1 _ fun v F2 H2 g2 r => hb F2 H2 (g1.trans g2) _ fun w F3 H3 g3 r2 => ⟨i, j, r, r2, hc, q _ F3 H3 (g2.trans g3) (hz F3)⟩
variable {i j : Int}
theorem ev_add (ha : Ev rInt ta σ F H i) (hb : Ev rInt tb σ F H j) : Ev rInt (tOp (rI0 fun i j => .int (i + j)) ta tb) σ F H (i + j) := ev_I0 ha hb fun _ => rfl
theorem ev_sub (ha : Ev rInt ta σ F H i) (hb : Ev rInt tb σ F H j) : Ev rInt (tOp (rI0 fun i j => .int (i - j)) ta tb) σ F H (i - j) := ev_I0 ha hb fun _ => rfl
theorem ev_mul (ha : Ev rInt ta σ F H i) (hb : Ev rInt tb σ F H j) (hc : CMul i j) : Ev rInt (tOp (rI CMul fun i j => .int (i * j)) ta tb) σ F H (i * j) := ev_I ha hb hc fun _ => rfl
theorem ev_mulW (ha : Ev rInt ta σ F H i) (hb : Ev rInt tb σ F H j) (hc : CMulW i j) : Ev rInt (tOp (rI CMulW fun i j => .int (i * j)) ta tb) σ F H (i * j) := ev_I ha hb hc fun _ => rfl
theorem ev_fdiv (ha : Ev rInt ta σ F H i) (hb : Ev rInt tb σ F H j) (hc : CDiv i j) : Ev rInt (tOp (rI CDiv fun i j => .int (i / j)) ta tb) σ F H (i / j) := ev_I ha hb hc fun _ => rfl
theorem ev_mod (ha : Ev rInt ta σ F H i) (hb : Ev rInt tb σ F H j) (hc : 0 < j) : Ev rInt (tOp (rI (fun _ j => 0 < j) fun i j => .int (i % j)) ta tb) σ F H (i % j) := ev_I ha hb hc fun _ => rfl
theorem ev_pow (ha : Ev rInt ta σ F H i) (hb : Ev rInt tb σ F H j) (hc : CPow i j) : Ev rInt (tOp (rI CPow fun i j => .int (i ^ j.toNat)) ta tb) σ F H (i ^ j.toNat) := ev_I ha hb hc fun _ => rfl
theorem ev_lt (ha : Ev rInt ta σ F H i) (hb : Ev rInt tb σ F H j) : Ev rBl (tOp (rI0 fun i j => .bl (decide (i < j))) ta tb) σ F H (decide (i < j)) := ev_I0 ha hb fun _ => rfl
theorem ev_le (ha : Ev rInt ta σ F H i) (hb : Ev rInt tb σ F H j) : Ev rBl (tOp (rI0 fun i j => .bl (decide (i ≤ j))) ta tb) σ F H (decide (i ≤ j)) := ev_I0 ha hb fun _ => rfl
theorem ev_gt (ha : Ev rInt ta σ F H i) (hb : Ev rInt tb σ F H j) : Ev rBl (tOp (rI0 fun i j => .bl (decide (j < i))) ta tb) σ F H (decide (j < i)) := ev_I0 ha hb fun _ => rfl
theorem ev_ge (ha : Ev rInt ta σ F H i) (hb : Ev rInt tb σ F H j) : Ev rBl (tOp (rI0 fun i j => .bl (decide (j ≤ i))) ta tb) σ F H (decide (j ≤ i)) := ev_I0 ha hb fun _ => rfl
theorem ev_neg (ha : Ev rInt ta σ F H i) : Ev rInt (tUn (rU fun i => .int (-i)) ta) σ F H (-i) := fun F1 H1 g1 Q q => ha F1 H1 g1 _ fun v F2 H2 g2 r => ⟨i, r, q _ F2 H2 g2 rfl⟩
theorem ev_eqI (ha : Ev rInt ta σ F H i) (hb : Ev rInt tb σ F H j) : Ev rBl (tOp rEq ta tb) σ F H (decide (i = j)) := fun F1 H1 g1 Q q =>
  ha F1 H1 g1 _ fun v F2 H2 g2 r => hb F2 H2 (g1.trans g2) _ fun w F3 H3 g3 r2 => by
    cases (show v = V.int i from r)
    cases (show w = V.int j from r2)
    refine ⟨rfl, ?_⟩
    have e : decide (V.int i = V.int j) = decide (i = j) := by simp
    rw [e]
    exact q _ F3 H3 (g2.trans g3) rfl
theorem ev_neI (ha : Ev rInt ta σ F H i) (hb : Ev rInt tb σ F H j) : Ev rBl (tOp rNe ta tb) σ F H (!decide (i = j)) := fun F1 H1 g1 Q q =>
  ha F1 H1 g1 _ fun v F2 H2 g2 r => hb F2 H2 (g1.trans g2) _ fun w F3 H3 g3 r2 => by
    cases (show v = V.int i from r)
    cases (show w = V.int j from r2)
    refine ⟨rfl, ?_⟩
    have e : decide (V.int i = V.int j) = decide (i = j) := by simp
    rw [e]
    exact q _ F3 H3 (g2.trans g3) rfl
theorem ev_eqS {a b : Str} (ha : Ev rStr ta σ F H a) (hb : Ev rStr tb σ F H b) : Ev rBl (tOp rEq ta tb) σ F H (decide (a = b)) := fun F1 H1 g1 Q q =>
  ha F1 H1 g1 _ fun v F2 H2 g2 r => hb F2 H2 (g1.trans g2) _ fun w F3 H3 g3 r2 => by
    cases (show v = V.str a from r)
    cases (show w = V.str b from r2)
    refine ⟨rfl, ?_⟩
    have e : decide (V.str a = V.str b) = decide (a = b) := by simp
    rw [e]
    exact q _ F3 H3 (g2.trans g3) rfl
theorem ev_neS {a b : Str} (ha : Ev rStr ta σ F H a) (hb : Ev rStr tb σ F H b) : Ev rBl (tOp rNe ta tb) σ F H (!decide (a = b)) := fun F1 H1 g1 Q q =>
  ha F1 H1 g1 _ fun v F2 H2 g2 r => hb F2 H2 (g1.trans g2) _ fun w F3 H3 g3 r2 => by
    cases (show v = V.str a from r)
    cases (show w = V.str b from r2)
    refine ⟨rfl, ?_⟩
    have e : decide (V.str a = V.str b) = decide (a = b) := by simp
    rw [e]
    exact q _ F3 H3 (g2.trans g3) rfl
/-- is None -/
def rIsN : R2 := fun x y H Q => y = .non ∧ Q (.bl (decide (x = .non))) H
def rNotN : R2 := fun x y H Q => y = .non ∧ Q (.bl (!decide (x = .non))) H
theorem op_isN1 {X : Cx} : OpR X (compareOp .Is) rIsN := op_isN
theorem op_notN1 {X : Cx} : OpR X (compareOp .IsNot) rNotN := op_notN
class NotN {α : Type} (R : Rp α) : Prop where
  nn : ∀ {F v x}, R F v x → v ≠ .non
instance : NotN rInt := ⟨fun h e => by rw [show _ = _ from h] at e; cases e⟩
instance : NotN rNat := ⟨fun h e => by rw [show _ = _ from h] at e; cases e⟩
instance : NotN rStr := ⟨fun h e => by rw [show _ = _ from h] at e; cases e⟩
instance : NotN rBl := ⟨fun h e => by rw [show _ = _ from h] at e; cases e⟩
instance {α : Type} {R : Rp α} : NotN (rLst R) := ⟨fun ⟨_, _, h, _⟩ e => by rw [h] at e; cases e⟩
instance {α : Type} {R : Rp α} : NotN (rTup R) := ⟨fun ⟨_, _, h, _⟩ e => by rw [h] at e; cases e⟩
instance {α β : Type} {R : Rp α} {S : Rp β} : NotN (rPr R S) := ⟨fun ⟨_, _, _, h, _⟩ e => by rw [h] at e; cases e⟩
theorem opt_isNone {R : Rp α} [n : NotN R] {v : V} {x : Option α} (h : rOpt R F v x) : decide (v = .non) = x.isNone := by
  cases x with
  | none => exact decide_eq_true h
  | some y => exact decide_eq_false (n.nn h)
theorem ev_isN {x : Option α} (ha : Ev (rOpt R) ta σ F H x) (n : NotN R := by infer_instance) : Ev rBl (tOp rIsN ta (tC .non)) σ F H x.isNone := fun F1 H1 g1 Q q =>
  ha F1 H1 g1 _ fun v F2 H2 g2 r => ⟨rfl, by rw [opt_isNone r]; exact q _ F2 H2 g2 rfl⟩
theorem ev_notN {x : Option α} (ha : Ev (rOpt R) ta σ F H x) (n : NotN R := by infer_instance) : Ev rBl (tOp rNotN ta (tC .non)) σ F H x.isSome := fun F1 H1 g1 Q q =>
  ha F1 H1 g1 _ fun v F2 H2 g2 r => ⟨rfl, by rw [opt_isNone r]; exact q _ F2 H2 g2 (by cases x <;> rfl)⟩
/-! tests -/
theorem et_test {b : Bool} (h : Ev rBl te σ F H b) : EvT (tTest te) σ F H b := fun F1 H1 g Q q => h F1 H1 g _ fun v F2 H2 g2 r => ⟨b, r, q F2 H2 g2⟩
theorem et_B {b : Bool} (h : Ev rBl te σ F H b) : EvT (tB te) σ F H b := fun F1 H1 g Q q => h F1 H1 g _ fun v F2 H2 g2 r => ⟨b, r, q F2 H2 g2⟩
theorem et_and {a b : Bool} (h1 : EvT t σ F H a) (h2 : a = true → EvT u σ F H b) : EvT (tAnd t u) σ F H (a && b) := fun F1 H1 g Q q => h1 F1 H1 g _ fun F2 H2 g2 => by
  cases a with
  | true => exact h2 rfl F2 H2 (g.trans g2) Q fun F3 H3 g3 => q F3 H3 (g2.trans g3)
  | false => exact q F2 H2 g2
theorem et_or {a b : Bool} (h1 : EvT t σ F H a) (h2 : a = false → EvT u σ F H b) : EvT (tOr t u) σ F H (a || b) := fun F1 H1 g Q q => h1 F1 H1 g _ fun F2 H2 g2 => by
  cases a with
  | true => exact q F2 H2 g2
  | false => exact h2 rfl F2 H2 (g.trans g2) Q fun F3 H3 g3 => q F3 H3 (g2.trans g3)
theorem et_not {a : Bool} (h1 : EvT t σ F H a) : EvT (tNot t) σ F H (!a) := fun F1 H1 g Q q => h1 F1 H1 g _ fun F2 H2 g2 => q F2 H2 g2
theorem ev_andV {a b : Bool} (h1 : Ev rBl ta σ F H a) (h2 : a = true → Ev rBl tb σ F H b) : Ev rBl (tAndV ta tb) σ F H (a && b) := fun F1 H1 g Q q => h1 F1 H1 g _ fun v F2 H2 g2 r => ⟨a, r, by
  cases a with
  | true => exact h2 rfl F2 H2 (g.trans g2) Q fun w F3 H3 g3 => q w F3 H3 (g2.trans g3)
  | false => exact q _ F2 H2 g2 rfl⟩
theorem ev_orV {a b : Bool} (h1 : Ev rBl ta σ F H a) (h2 : a = false → Ev rBl tb σ F H b) : Ev rBl (tOrV ta tb) σ F H (a || b) := fun F1 H1 g Q q => h1 F1 H1 g _ fun v F2 H2 g2 r => ⟨a, r, by
  cases a with
  | true => exact q _ F2 H2 g2 rfl
  | false => exact h2 rfl F2 H2 (g.trans g2) Q fun w F3 H3 g3 => q w F3 H3 (g2.trans g3)⟩
theorem ev_notV {a : Bool} (h1 : Ev rBl ta σ F H a) : Ev rBl (tNotV ta) σ F H (!a) := fun F1 H1 g Q q => h1 F1 H1 g _ fun v F2 H2 g2 r => ⟨a, r, q _ F2 H2 g2 rfl⟩
theorem ev_if {b : Bool} {x1 x2 : α} (h : EvT t σ F H b) (h1 : b = true → Ev R ta σ F H x1) (h2 : b = false → Ev R tb σ F H x2) : Ev R (tIf t ta tb) σ F H (if b = true then x1 else x2) := fun F1 H1 g Q q => h F1 H1 g _ fun F2 H2 g2 => by
  cases b with
  | true => exact h1 rfl F2 H2 (g.trans g2) Q fun w F3 H3 g3 r => q w F3 H3 (g2.trans g3) (by simpa using r)
  | false => exact h2 rfl F2 H2 (g.trans g2) Q fun w F3 H3 g3 r => q w F3 H3 (g2.trans g3) (by simpa using r)
theorem ev_chain {i j k : Int} {p p' : Int → Int → Bool} (ha : Ev rInt ta σ F H i) (hb : Ev rInt tb σ F H j) (hc : Ev rInt tc σ F H k) :
    Ev rBl (tChain (rI0 fun i j => .bl (p i j)) (rI0 fun i j => .bl (p' i j)) ta tb tc) σ F H (p i j && p' j k) := fun F1 H1 g1 Q q =>
  ha F1 H1 g1 _ fun v F2 H2 g2 r => hb F2 H2 (g1.trans g2) _ fun w F3 H3 g3 r2 => ⟨i, j, r, r2, p i j, rfl, by
    cases e : p i j with
    | true => exact hc F3 H3 ((g1.trans g2).trans g3) _ fun w2 F4 H4 g4 r3 => ⟨j, k, r2, r3, q _ F4 H4 ((g2.trans g3).trans g4) (by rw [e, Bool.true_and]; rfl)⟩
    | false => exact q _ F3 H3 (g2.trans g3) (by rw [e, Bool.false_and]; rfl)⟩
/-! arguments -/
theorem ea_nil : EvA tNil σ F H (fun _ vs => vs = []) := fun F1 H1 g Q q => q _ F1 H1 (.refl g.fh) rfl
theorem ea_cons {tr : TA} {P : Hp → List V → Prop} (h : Ev R te σ F H x) (hr : EvA tr σ F H P) (m : Mn R := by infer_instance) : EvA (tCons te tr) σ F H (fun F vs => ∃ v ws, vs = v :: ws ∧ R F v x ∧ P F ws) := fun F1 H1 g Q q =>
  h F1 H1 g _ fun v F2 H2 g2 r => hr F2 H2 (g.trans g2) _ fun ws F3 H3 g3 p => q _ F3 H3 (g2.trans g3) ⟨v, ws, rfl, m.mono g3.ff r, p⟩
end
end El

set_option Elab.async false
set_option linter.all false
set_option maxRecDepth 100000
set_option maxHeartbeats 2000000
namespace El
open PySem PySem.Spec L2
/-- a reference as it stands -/
def rRef : Rp Addr := fun _ v a => v = .ref a
def rTy : Rp String := fun _ v a => v = .ty a
instance : Mn rRef := ⟨fun _ h => h⟩
instance : Mn rTy := ⟨fun _ h => h⟩
section
variable {K : PySem.W.Frag} {σ : St} {F H F' H' : Hp} {ta tb tc te : TE} {t u : TT} {α β γ δ ε : Type} {R : Rp α} {S : Rp β} {T : Rp γ} {x : α} {y : β} {z : γ} {xs : List α} {i j : Int}
theorem ev_ref {a : Addr} : Ev rRef (tC (.ref a)) σ F H a := fun F1 H1 g Q q => q _ F1 H1 (.refl g.fh) rfl
theorem ev_ty {n : String} : Ev rTy (tC (.ty n)) σ F H n := fun F1 H1 g Q q => q _ F1 H1 (.refl g.fh) rfl

/-! ### index, slice, length -/
theorem atI_paired {f : V → α → Prop} {vs : List V} {xs : List α} {i : Int} {x : α} (p : Paired f vs xs) (h : atI xs i = some x) : ∃ v, atI vs i = some v ∧ f v x := by
  unfold atI at h ⊢
  rw [p.length]
  cases e : ixN xs.length i with
  | none => rw [e] at h; cases h
  | some j =>
    rw [e] at h
    exact El.Paired.get p h
theorem atI_natL {xs : List α} {n : Nat} {x : α} (h : xs[n]? = some x) : atI xs (n : Int) = some x := by
  have hl : n < xs.length := (List.getElem?_eq_some_iff.mp h).1
  unfold atI ixN
  rw [if_pos (by omega), if_pos (by omega)]
  exact h
theorem ev_ixL (ha : Ev (rLst R) ta σ F H xs) (hb : Ev rInt tb σ F H i) (h : atI xs i = some x) (m : Mn R := by infer_instance) : Ev R (tOp (rIxL K) ta tb) σ F H x := fun F1 H1 g1 Q q =>
  ha F1 H1 g1 _ fun v F2 H2 g2 ⟨a, vs, e, hl, p⟩ => hb F2 H2 (g1.trans g2) _ fun w F3 H3 g3 r2 => by
    obtain ⟨y, hy, ry⟩ := atI_paired p h
    exact ⟨a, vs, i, y, e, r2, SqL.of (g3.fh _ _ (g3.ff _ _ hl)), hy, q y F3 H3 (g2.trans g3) (m.mono g3.ff ry)⟩
theorem ev_ixT (ha : Ev (rTup R) ta σ F H xs) (hb : Ev rInt tb σ F H i) (h : atI xs i = some x) (m : Mn R := by infer_instance) : Ev R (tOp (rIxT K) ta tb) σ F H x := fun F1 H1 g1 Q q =>
  ha F1 H1 g1 _ fun v F2 H2 g2 ⟨a, vs, e, hl, p⟩ => hb F2 H2 (g1.trans g2) _ fun w F3 H3 g3 r2 => by
    obtain ⟨y, hy, ry⟩ := atI_paired p h
    exact ⟨a, vs, i, y, e, r2, SqT.of (g3.fh _ _ (g3.ff _ _ hl)), hy, q y F3 H3 (g2.trans g3) (m.mono g3.ff ry)⟩
theorem ev_fst {p : α × β} (ha : Ev (rPr R S) ta σ F H p) (m : Mn R := by infer_instance) : Ev R (tOp (rIxT K) ta (tC (.int 0))) σ F H p.1 := fun F1 H1 g1 Q q =>
  ha F1 H1 g1 _ fun v F2 H2 g2 ⟨a, u, w, e, hl, r1, r2⟩ => ⟨a, [u, w], 0, u, e, rfl, SqT.of (g2.fh _ _ hl), rfl, q u F2 H2 g2 r1⟩
theorem ev_snd {p : α × β} (ha : Ev (rPr R S) ta σ F H p) (m : Mn S := by infer_instance) : Ev S (tOp (rIxT K) ta (tC (.int 1))) σ F H p.2 := fun F1 H1 g1 Q q =>
  ha F1 H1 g1 _ fun v F2 H2 g2 ⟨a, u, w, e, hl, r1, r2⟩ => ⟨a, [u, w], 1, w, e, rfl, SqT.of (g2.fh _ _ hl), rfl, q w F2 H2 g2 r2⟩
/-- a list that may change, as it stands -/
theorem ev_ixM {a : Addr} {vs : List V} {v : V} (ha : Ev rRef ta σ F H a) (hb : Ev rInt tb σ F H i) (hl : H a = some (.lst vs)) (h : atI vs i = some v) (r : R F v x) (m : Mn R := by infer_instance) : Ev R (tOp (rIxL K) ta tb) σ F H x := fun F1 H1 g1 Q q =>
  ha F1 H1 g1 _ fun w F2 H2 g2 e => hb F2 H2 (g1.trans g2) _ fun w2 F3 H3 g3 r2 =>
    ⟨a, vs, i, v, e, r2, SqL.of (g3.hx _ _ (g2.hx _ _ (g1.hx _ _ hl))), h, q v F3 H3 (g2.trans g3) (m.mono ((g1.ff.trans g2.ff).trans g3.ff) r)⟩
def cut (xs : List α) (lo hi : Option Int) : List α := (xs.drop (HT.sIx xs.length 0 lo)).take (HT.sIx xs.length xs.length hi - HT.sIx xs.length 0 lo)
theorem cut_paired {f : V → α → Prop} {vs : List V} {xs : List α} {lo hi : Option Int} (p : Paired f vs xs) : Paired f (cutV vs lo hi) (cut xs lo hi) := by
  unfold cutV cut
  rw [p.length]
  exact Paired.take _ (Paired.drop _ p)
theorem cut_to {n : Nat} : cut xs none (some (n : Int)) = xs.take n := by
  unfold cut
  rw [HT.sIx_none, HT.sIx_nat, List.drop_zero, Nat.sub_zero]
  by_cases h : n ≤ xs.length
  · rw [Nat.min_eq_left h]
  · rw [Nat.min_eq_right (by omega), List.take_of_length_le (Nat.le_refl _), List.take_of_length_le (by omega)]
theorem cut_from {n : Nat} : cut xs (some (n : Int)) none = xs.drop n := by
  unfold cut
  rw [HT.sIx_none, HT.sIx_nat]
  by_cases h : n ≤ xs.length
  · rw [Nat.min_eq_left h]
    exact List.take_of_length_le (by rw [List.length_drop]; exact Nat.le_refl _)
  · rw [Nat.min_eq_right (by omega), List.drop_of_length_le (Nat.le_refl _), List.drop_of_length_le (by omega), List.take_nil]
theorem cut_mid {n k : Nat} (h : n ≤ k) : cut xs (some (n : Int)) (some (k : Int)) = (xs.drop n).take (k - n) := by
  unfold cut
  rw [HT.sIx_nat, HT.sIx_nat]
  by_cases h1 : n ≤ xs.length
  · rw [Nat.min_eq_left h1]
    by_cases h2 : k ≤ xs.length
    · rw [Nat.min_eq_left h2]
    · rw [Nat.min_eq_right (by omega), List.take_of_length_le (by rw [List.length_drop]; exact Nat.le_refl _), List.take_of_length_le (by rw [List.length_drop]; omega)]
  · rw [show min n xs.length = xs.length by omega, List.drop_of_length_le (Nat.le_refl _), List.drop_of_length_le (show xs.length ≤ n by omega), List.take_nil, List.take_nil]
def EvO (to : TO) (σ : St) (F H : Hp) (o : Option Int) : Prop :=
  ∀ F1 H1, Gr M0 F H F1 H1 → ∀ Q : Option Int → Hp → Prop, (∀ F2 H2, Gr M0 F1 H1 F2 H2 → Q o H2) → to σ H1 Q
theorem eo_none : EvO tNoPart σ F H none := fun F1 H1 g Q q => q F1 H1 (.refl g.fh)
theorem eo_some (h : Ev rInt te σ F H i) : EvO (tPart te) σ F H (some i) := fun F1 H1 g Q q => h F1 H1 g _ fun v F2 H2 g2 r => ⟨i, r, q F2 H2 g2⟩
theorem ev_slL {tl th : TO} {lo hi : Option Int} (h : Ev (rLst R) te σ F H xs) (h1 : EvO tl σ F H lo) (h2 : EvO th σ F H hi) (m : Mn R := by infer_instance) : Ev (rLst R) (tSl (rSlL K) te tl th) σ F H (cut xs lo hi) := fun F1 H1 g1 Q q =>
  h F1 H1 g1 _ fun v F2 H2 g2 ⟨a, vs, e, hl, p⟩ => h1 F2 H2 (g1.trans g2) _ fun F3 H3 g3 => h2 F3 H3 ((g1.trans g2).trans g3) _ fun F4 H4 g4 =>
    ⟨a, vs, e, SqL.of (g4.fh _ _ (g4.ff _ _ (g3.ff _ _ hl))), fun D hD => by
      have g5 : Gr M0 F4 H4 (upd F4 D (.lst (cutV vs lo hi))) (upd H4 D (.lst (cutV vs lo hi))) := .new g4.fh hD
      exact q _ _ _ (((g2.trans g3).trans g4).trans g5) ⟨D, _, rfl, upd_same, Paired.up (((g3.ff).trans g4.ff).trans g5.ff) (cut_paired p)⟩⟩
abbrev rLenS (K : PySem.W.Frag) : List V → Hp → VK → Prop := fun xs H Q => ∃ p ys, xs = [.ref p] ∧ (SqL K H p ys ∨ SqT K H p ys) ∧ Q (.int ys.length) H
theorem ev_lenL (ha : Ev (rLst R) ta σ F H xs) : Ev rInt (tCB (rLenS K) (tCons ta tNil)) σ F H (xs.length : Int) := fun F1 H1 g1 Q q =>
  ha F1 H1 g1 _ fun v F2 H2 g2 ⟨a, vs, e, hl, p⟩ => ⟨a, vs, by rw [e], .inl (SqL.of (g2.fh _ _ hl)), q _ F2 H2 g2 (by rw [← p.length]; rfl)⟩
theorem ev_lenT (ha : Ev (rTup R) ta σ F H xs) : Ev rInt (tCB (rLenS K) (tCons ta tNil)) σ F H (xs.length : Int) := fun F1 H1 g1 Q q =>
  ha F1 H1 g1 _ fun v F2 H2 g2 ⟨a, vs, e, hl, p⟩ => ⟨a, vs, by rw [e], .inr (SqT.of (g2.fh _ _ hl)), q _ F2 H2 g2 (by rw [← p.length]; rfl)⟩
theorem ev_lenM {a : Addr} {vs : List V} (ha : Ev rRef ta σ F H a) (hl : H a = some (.lst vs)) : Ev rInt (tCB (rLenS K) (tCons ta tNil)) σ F H (vs.length : Int) := fun F1 H1 g1 Q q =>
  ha F1 H1 g1 _ fun v F2 H2 g2 e => ⟨a, vs, by rw [show v = _ from e], .inl (SqL.of (g2.hx _ _ (g1.hx _ _ hl))), q _ F2 H2 g2 rfl⟩
theorem ev_lenStr {s : Str} (hz : s.length ≤ sizeLine) (ha : Ev rStr ta σ F H s) : Ev rInt (tCB (fun xs H Q => ∃ z, xs = [.str z] ∧ z.length ≤ sizeLine ∧ Q (.int z.length) H) (tCons ta tNil)) σ F H (s.length : Int) := fun F1 H1 g1 Q q =>
  ha F1 H1 g1 _ fun v F2 H2 g2 e => ⟨s, by rw [show v = _ from e], hz, q _ F2 H2 g2 rfl⟩

/-! ### displays, list(..), tuple(..) -/
def EvL {α : Type} (R : Rp α) (ta : TA) (σ : St) (F H : Hp) (xs : List α) : Prop := EvA ta σ F H (fun F vs => Paired (R F) vs xs)
theorem el_nil : EvL R tNil σ F H [] := fun F1 H1 g Q q => q _ F1 H1 (.refl g.fh) .nil
theorem el_cons {tr : TA} (h : Ev R te σ F H x) (hr : EvL R tr σ F H xs) (m : Mn R := by infer_instance) : EvL R (tCons te tr) σ F H (x :: xs) := fun F1 H1 g Q q =>
  h F1 H1 g _ fun v F2 H2 g2 r => hr F2 H2 (g.trans g2) _ fun ws F3 H3 g3 p => q _ F3 H3 (g2.trans g3) (.cons (m.mono g3.ff r) p)
theorem ev_lst {t : TA} (h : EvL R t σ F H xs) (hz : xs.length ≤ sizeLine) (m : Mn R := by infer_instance) : Ev (rLst R) (tLst t) σ F H xs := fun F1 H1 g Q q =>
  h F1 H1 g _ fun vs F2 H2 g2 p => ⟨by rw [p.length]; exact hz, fun D hD => q _ _ _ (g2.trans (.new g2.fh hD)) ⟨D, vs, rfl, upd_same, Paired.up (Gr.new (M := M0) g2.fh hD).ff p⟩⟩
theorem ev_tup {t : TA} (h : EvL R t σ F H xs) (hz : xs.length ≤ sizeLine) (m : Mn R := by infer_instance) : Ev (rTup R) (tTup t) σ F H xs := fun F1 H1 g Q q =>
  h F1 H1 g _ fun vs F2 H2 g2 p => ⟨by rw [p.length]; exact hz, fun D hD => q _ _ _ (g2.trans (.new g2.fh hD)) ⟨D, vs, rfl, upd_same, Paired.up (Gr.new (M := M0) g2.fh hD).ff p⟩⟩
theorem ev_pr (ha : Ev R ta σ F H x) (hb : Ev S tb σ F H y) (m : Mn R := by infer_instance) (n : Mn S := by infer_instance) : Ev (rPr R S) (tTup (tCons ta (tCons tb tNil))) σ F H (x, y) := fun F1 H1 g Q q =>
  ha F1 H1 g _ fun v F2 H2 g2 r => hb F2 H2 (g.trans g2) _ fun w F3 H3 g3 r2 => ⟨by show 2 ≤ sizeLine; decide, fun D hD => by
    have g4 : Gr M0 F3 H3 (upd F3 D (.tup [v, w])) (upd H3 D (.tup [v, w])) := .new g3.fh hD
    exact q _ _ _ ((g2.trans g3).trans g4) ⟨D, v, w, rfl, upd_same, m.mono (g3.ff.trans g4.ff) r, n.mono g4.ff r2⟩⟩
abbrev rListS (K : PySem.W.Frag) : List V → Hp → VK → Prop := fun xs H Q => ∃ p ys, xs = [.ref p] ∧ (SqL K H p ys ∨ SqT K H p ys) ∧ ∀ l, H l = none → Q (.ref l) (upd H l (.lst ys))
abbrev rTupS (K : PySem.W.Frag) : List V → Hp → VK → Prop := fun xs H Q => ∃ p ys, xs = [.ref p] ∧ ((SqL K H p ys ∧ ∀ l, H l = none → Q (.ref l) (upd H l (.tup ys))) ∨ (SqT K H p ys ∧ Q (.ref p) H))
theorem ev_listL (ha : Ev (rLst R) ta σ F H xs) (m : Mn R := by infer_instance) : Ev (rLst R) (tCB (rListS K) (tCons ta tNil)) σ F H xs := fun F1 H1 g1 Q q =>
  ha F1 H1 g1 _ fun v F2 H2 g2 ⟨a, vs, e, hl, p⟩ => ⟨a, vs, by rw [e], .inl (SqL.of (g2.fh _ _ hl)), fun D hD => q _ _ _ (g2.trans (.new g2.fh hD)) ⟨D, vs, rfl, upd_same, Paired.up (Gr.new (M := M0) g2.fh hD).ff p⟩⟩
theorem ev_listT (ha : Ev (rTup R) ta σ F H xs) (m : Mn R := by infer_instance) : Ev (rLst R) (tCB (rListS K) (tCons ta tNil)) σ F H xs := fun F1 H1 g1 Q q =>
  ha F1 H1 g1 _ fun v F2 H2 g2 ⟨a, vs, e, hl, p⟩ => ⟨a, vs, by rw [e], .inr (SqT.of (g2.fh _ _ hl)), fun D hD => q _ _ _ (g2.trans (.new g2.fh hD)) ⟨D, vs, rfl, upd_same, Paired.up (Gr.new (M := M0) g2.fh hD).ff p⟩⟩
theorem ev_tupL (ha : Ev (rLst R) ta σ F H xs) (m : Mn R := by infer_instance) : Ev (rTup R) (tCB (rTupS K) (tCons ta tNil)) σ F H xs := fun F1 H1 g1 Q q =>
  ha F1 H1 g1 _ fun v F2 H2 g2 ⟨a, vs, e, hl, p⟩ => ⟨a, vs, by rw [e], .inl ⟨SqL.of (g2.fh _ _ hl), fun D hD => q _ _ _ (g2.trans (.new g2.fh hD)) ⟨D, vs, rfl, upd_same, Paired.up (Gr.new (M := M0) g2.fh hD).ff p⟩⟩⟩
theorem rgV_paired {H : Hp} (n : Nat) : Paired (rNat H) (rgV 0 (n : Int)) (List.range n) := by
  unfold rgV
  rw [show ((n : Int) - 0).toNat = n by omega]
  have : ∀ l : List Nat, Paired (rNat H) (l.map fun i => V.int (0 + (i : Nat))) l := fun l => by
    induction l with
    | nil => exact .nil
    | cons a l ih => exact .cons (show V.int (0 + (a : Int)) = V.int (a : Int) by rw [Int.zero_add]) ih
  exact this _
theorem ev_tupRg {n : Nat} (ha : Ev rInt ta σ F H (n : Int)) (hn : n ≤ 1000000) : Ev (rTup rNat) (tTupRg (tRg1 ta)) σ F H (List.range n) := fun F1 H1 g1 Q q =>
  ha F1 H1 g1 _ fun v F2 H2 g2 e => ⟨n, e, .of_le (by omega) (by omega) (by omega) (by omega), fun D hD => q _ _ _ (g2.trans (.new g2.fh hD)) ⟨D, _, rfl, upd_same, rgV_paired n⟩⟩
theorem ev_lstRg {n : Nat} (ha : Ev rInt ta σ F H (n : Int)) (hn : n ≤ 1000000) : Ev (rLst rNat) (tLstRg (tRg1 ta)) σ F H (List.range n) := fun F1 H1 g1 Q q =>
  ha F1 H1 g1 _ fun v F2 H2 g2 e => ⟨n, e, .of_le (by omega) (by omega) (by omega) (by omega), fun D hD => q _ _ _ (g2.trans (.new g2.fh hD)) ⟨D, _, rfl, upd_same, rgV_paired n⟩⟩
theorem ev_all {bs : List Bool} (ha : Ev (rLst rBl) ta σ F H bs) : Ev rBl (tCB (rAll K) (tCons ta tNil)) σ F H (bs.all id) := fun F1 H1 g1 Q q =>
  ha F1 H1 g1 _ fun v F2 H2 g2 ⟨a, vs, e, hl, p⟩ => ⟨a, bs, by rw [e], by rw [← bls_paired p]; exact SqL.of (g2.fh _ _ hl), q _ F2 H2 g2 rfl⟩
theorem ev_any {bs : List Bool} (ha : Ev (rLst rBl) ta σ F H bs) : Ev rBl (tCB (rAny K) (tCons ta tNil)) σ F H (bs.any id) := fun F1 H1 g1 Q q =>
  ha F1 H1 g1 _ fun v F2 H2 g2 ⟨a, vs, e, hl, p⟩ => ⟨a, bs, by rw [e], by rw [← bls_paired p]; exact SqL.of (g2.fh _ _ hl), q _ F2 H2 g2 rfl⟩
theorem ev_sum {ns : List Int} (ha : Ev (rLst rInt) ta σ F H ns) : Ev rInt (tCB (rSum K) (tCons ta tNil)) σ F H ns.sum := fun F1 H1 g1 Q q =>
  ha F1 H1 g1 _ fun v F2 H2 g2 ⟨a, vs, e, hl, p⟩ => ⟨a, ns, by rw [e], by rw [← ints_paired p]; exact SqL.of (g2.fh _ _ hl), q _ F2 H2 g2 rfl⟩
theorem ev_cat {xs ys : List α} (ha : Ev (rLst R) ta σ F H xs) (hb : Ev (rLst R) tb σ F H ys) (hz : xs.length + ys.length ≤ sizeLine) (m : Mn R := by infer_instance) : Ev (rLst R) (tOp rCat ta tb) σ F H (xs ++ ys) := fun F1 H1 g1 Q q =>
  ha F1 H1 g1 _ fun v F2 H2 g2 ⟨a, vs, e, hl, p⟩ => hb F2 H2 (g1.trans g2) _ fun w F3 H3 g3 ⟨b, ws, e2, hl2, p2⟩ =>
    ⟨a, b, vs, ws, e, e2, g3.fh _ _ (g3.ff _ _ hl), g3.fh _ _ hl2, by rw [p.length, p2.length]; exact hz, fun D hD => by
      have g4 : Gr M0 F3 H3 (upd F3 D (.lst (vs ++ ws))) (upd H3 D (.lst (vs ++ ws))) := .new g3.fh hD
      exact q _ _ _ ((g2.trans g3).trans g4) ⟨D, _, rfl, upd_same, Paired.app (Paired.up (g3.ff.trans g4.ff) p) (Paired.up g4.ff p2)⟩⟩
theorem ev_rep1 {n : Int} (ha : Ev (rLst R) ta σ F H [x]) (hb : Ev rInt tb σ F H n) (hn : n ≤ 1000000) (h0 : -1000000 ≤ n) (m : Mn R := by infer_instance) : Ev (rLst R) (tOp rRep ta tb) σ F H (List.replicate n.toNat x) := fun F1 H1 g1 Q q =>
  ha F1 H1 g1 _ fun v F2 H2 g2 ⟨a, vs, e, hl, p⟩ => hb F2 H2 (g1.trans g2) _ fun w F3 H3 g3 e2 => by
    cases p with
    | cons r p =>
      cases p
      rename_i y
      refine ⟨a, n, [y], e, e2, g3.fh _ _ (g3.ff _ _ hl), by omega, by omega, by show 1 * n.toNat ≤ sizeLine; rw [sizeLine_eq]; omega, fun D hD => ?_⟩
      have g4 : ∀ o, Gr M0 F3 H3 (upd F3 D o) (upd H3 D o) := fun o => .new g3.fh hD
      refine q _ _ _ ((g2.trans g3).trans (g4 _)) ⟨D, _, rfl, upd_same, ?_⟩
      have r' := fun o => m.mono (g3.ff.trans (g4 o).ff) r
      generalize e5 : HO.lst _ = o5
      have r5 := r' o5
      have : ∀ k, Paired (R (upd F3 D o5)) (List.replicate k [y]).flatten (List.replicate k x) := fun k => by
        induction k with
        | zero => exact .nil
        | succ k ih => exact .cons r5 ih
      exact this _
end
end El

set_option Elab.async false
set_option linter.all false
set_option maxRecDepth 100000
set_option maxHeartbeats 2000000
namespace El
open PySem PySem.Spec L2
section
variable {K : PySem.W.Frag} {σ : St} {F H F' H' : Hp} {ta tb tc te tl : TE} {tt t u : TT} {α β γ δ ε : Type} {R : Rp α} {S : Rp β} {T : Rp γ} {x : α} {y : β} {z : γ} {xs : List α} {ys : List β} {i j : Int} {D : Ends} {ts tu : TS}

/-! ### statements -/
theorem x_set {i : Nat} (e : Ex F H) (h : Ev R te σ F H x) (k : ∀ v F' H', Gr M0 F H F' H' → R F' v x → D.nx (σ.set i (some v)) H') : tAsg te (gName i) D σ H := h F H (.refl e) _ fun v F' H' g r => k v F' H' g r
theorem x_ret (e : Ex F H) (h : Ev R te σ F H x) (k : ∀ v F' H', Gr M0 F H F' H' → R F' v x → D.rt v H') : tRet te D σ H := h F H (.refl e) _ k
theorem x_drop (e : Ex F H) (h : Ev R te σ F H x) (k : ∀ F' H', Gr M0 F H F' H' → D.nx σ H') : tDrop te D σ H := h F H (.refl e) _ fun v F' H' g _ => k F' H' g
theorem x_if {b : Bool} (e : Ex F H) (h : EvT t σ F H b) (k1 : b = true → ∀ F' H', Gr M0 F H F' H' → ts D σ H') (k2 : b = false → ∀ F' H', Gr M0 F H F' H' → tu D σ H') : tIfS t ts tu D σ H := h F H (.refl e) _ fun F' H' g => by
  cases b with
  | true => exact k1 rfl F' H' g
  | false => exact k2 rfl F' H' g
/-- name += int -/
theorem x_aug {i : Nat} {a b : Int} {f : Int → Int → Int} (e : Ex F H) (hx : σ[i]? = some (some (.int a))) (h : Ev rInt te σ F H b) (k : ∀ F' H', Gr M0 F H F' H' → D.nx (σ.set i (some (.int (f a b)))) H') : tAug i te (ipI f) D σ H :=
  ⟨.int a, hx, h F H (.refl e) _ fun v F' H' g r => ⟨a, b, rfl, r, k F' H' g⟩⟩
/-- a new list that may change: x = [] -/
theorem x_nil {i : Nat} (e : Ex F H) (k : ∀ l, H l = none → D.nx (σ.set i (some (.ref l))) (upd H l (.lst []))) : tAsg (tLst tNil) (gName i) D σ H := ⟨Nat.zero_le _, fun l hl => k l hl⟩
/-- a new list that may change, by what it evaluates to -/
theorem x_setM {i : Nat} (e : Ex F H) (h : Ev (rLst R) te σ F H xs) (k : ∀ v F' H', Gr M0 F H F' H' → rLst R F' v xs → D.nx (σ.set i (some v)) H') : tAsg te (gName i) D σ H := x_set e h k
/-- xs.append(e) -/
theorem x_app {l : Addr} {vs : List V} (e : Ex F H) (ha : Ev rRef ta σ F H l) (hl : H l = some (.lst vs)) (h : Ev R te σ F H x) (hz : vs.length < sizeLine)
    (k : ∀ v F' H', Gr M0 F H F' H' → R F' v x → H' l = some (.lst vs) → D.nx σ (upd H' l (.lst (vs ++ [v])))) : tDrop (tBM K "list" rAppend ta (tCons te tNil)) D σ H :=
  ha F H (.refl e) _ fun v F1 H1 g1 r1 => by
    cases (show v = _ from r1)
    exact ⟨.inl ⟨rfl, vs, SqL.of (g1.hx _ _ hl)⟩, h F1 H1 g1 _ fun w F2 H2 g2 r2 => ⟨l, vs, w, rfl, rfl, g2.hx _ _ (g1.hx _ _ hl), hz, k w F2 H2 (g1.trans g2) r2 (g2.hx _ _ (g1.hx _ _ hl))⟩⟩
/-- xs.extend(e) -/
theorem x_ext {l : Addr} {vs : List V} {zs : List α} (e : Ex F H) (ha : Ev rRef ta σ F H l) (hl : H l = some (.lst vs)) (h : Ev (rLst R) te σ F H zs) (hz : vs.length + zs.length ≤ sizeLine)
    (k : ∀ ws F' H', Gr M0 F H F' H' → Paired (R F') ws zs → H' l = some (.lst vs) → D.nx σ (upd H' l (.lst (vs ++ ws)))) : tDrop (tBM K "list" rExtend ta (tCons te tNil)) D σ H :=
  ha F H (.refl e) _ fun v F1 H1 g1 r1 => by
    cases (show v = _ from r1)
    exact ⟨.inl ⟨rfl, vs, SqL.of (g1.hx _ _ hl)⟩, h F1 H1 g1 _ fun w F2 H2 g2 ⟨b, ws, eb, hb, p⟩ => by
      subst eb
      exact ⟨l, b, vs, ws, rfl, rfl, g2.hx _ _ (g1.hx _ _ hl), g2.fh _ _ hb, by rw [p.length]; exact hz, k ws F2 H2 (g1.trans g2) p (g2.hx _ _ (g1.hx _ _ hl))⟩⟩
/-- xs[i] = e -/
theorem x_setI {l : Addr} {vs : List V} {n : Nat} (e : Ex F H) (h : Ev R te σ F H x) (ha : Ev rRef ta σ F H l) (hi : Ev rInt tb σ F H (n : Int)) (hl : H l = some (.lst vs)) (hn : n < vs.length)
    (k : ∀ v F' H', Gr M0 F H F' H' → R F' v x → H' l = some (.lst vs) → D.nx σ (upd H' l (.lst (vs.set n v)))) (m : Mn R := by infer_instance) : tAsg te (gSub ta tb rSetL) D σ H :=
  h F H (.refl e) _ fun v F1 H1 g1 r1 => ha F1 H1 g1 _ fun w F2 H2 g2 r2 => hi F2 H2 (g1.trans g2) _ fun w3 F3 H3 g3 r3 => by
    refine ⟨l, vs, (n : Int), n, r2, r3, g3.hx _ _ (g2.hx _ _ (g1.hx _ _ hl)), ?_, k v F3 H3 ((g1.trans g2).trans g3) (m.mono (g2.ff.trans g3.ff) r1) (g3.hx _ _ (g2.hx _ _ (g1.hx _ _ hl)))⟩
    unfold ixN
    rw [if_pos (by omega), if_pos (by omega)]
    rfl

/-! ### loops -/
/-- for x in a frozen list -/
theorem x_forL {n : Nat} (e : Ex F H) (h : Ev (rLst R) tl σ F H xs) (Pv : Nat → St → Hp → Hp → Prop) (h0 : ∀ F1 H1, Gr M0 F H F1 H1 → Pv 0 σ F1 H1)
    (hs : ∀ F1, Ex F F1 → ∀ i x v σ' F' H', xs[i]? = some x → Ex F1 F' → Ex F' H' → R F' v x → Pv i σ' F' H' →
      ts { D with nx := fun σ2 H2 => ∃ F2, Ex F1 F2 ∧ Ex F2 H2 ∧ Pv (i + 1) σ2 F2 H2, ct := fun σ2 H2 => ∃ F2, Ex F1 F2 ∧ Ex F2 H2 ∧ Pv (i + 1) σ2 F2 H2, bk := D.nx } (σ'.set n (some v)) H')
    (hd : ∀ σ' F' H', Ex F F' → Ex F' H' → Pv xs.length σ' F' H' → D.nx σ' H') (m : Mn R := by infer_instance) : tFor (iList K tl) (gName n) ts D σ H := by
  refine h F H (.refl e) _ fun v F1 H1 g1 ⟨a, vs, ea, hl, p⟩ => ⟨a, ea, ⟨vs, SqL.of (g1.fh _ _ hl)⟩, ?_⟩
  refine for_list (xs := vs) (fun i σ' H' => ∃ F', Ex F1 F' ∧ Ex F' H' ∧ Pv i σ' F' H') ⟨F1, Ex.refl _, g1.fh, h0 F1 H1 g1⟩ (fun i σ' H' _ ⟨F', e1, e2, _⟩ => SqL.of (e2 _ _ (e1 _ _ hl))) ?_ ?_
  · rintro i w σ' H' hi ⟨F', e1, e2, pv⟩
    obtain ⟨x, hx, rx⟩ := Paired.getL p hi
    exact hs F1 g1.ff i x w σ' F' H' hx e1 e2 (m.mono e1 rx) pv
  · rintro σ' H' ⟨F', e1, e2, pv⟩
    rw [p.length] at pv
    exact hd σ' F' H' (g1.ff.trans e1) e2 pv
theorem x_forT {n : Nat} (e : Ex F H) (h : Ev (rTup R) tl σ F H xs) (Pv : Nat → St → Hp → Hp → Prop) (h0 : ∀ F1 H1, Gr M0 F H F1 H1 → Pv 0 σ F1 H1)
    (hs : ∀ F1, Ex F F1 → ∀ i x v σ' F' H', xs[i]? = some x → Ex F1 F' → Ex F' H' → R F' v x → Pv i σ' F' H' →
      ts { D with nx := fun σ2 H2 => ∃ F2, Ex F1 F2 ∧ Ex F2 H2 ∧ Pv (i + 1) σ2 F2 H2, ct := fun σ2 H2 => ∃ F2, Ex F1 F2 ∧ Ex F2 H2 ∧ Pv (i + 1) σ2 F2 H2, bk := D.nx } (σ'.set n (some v)) H')
    (hd : ∀ σ' F' H', Ex F F' → Ex F' H' → Pv xs.length σ' F' H' → D.nx σ' H') (m : Mn R := by infer_instance) : tFor (iTup K tl) (gName n) ts D σ H := by
  refine h F H (.refl e) _ fun v F1 H1 g1 ⟨a, vs, ea, hl, p⟩ => ⟨a, ea, ⟨vs, SqT.of (g1.fh _ _ hl)⟩, ?_⟩
  refine for_tup (xs := vs) (fun i σ' H' => ∃ F', Ex F1 F' ∧ Ex F' H' ∧ Pv i σ' F' H') ⟨F1, Ex.refl _, g1.fh, h0 F1 H1 g1⟩ (fun i σ' H' _ ⟨F', e1, e2, _⟩ => SqT.of (e2 _ _ (e1 _ _ hl))) ?_ ?_
  · rintro i w σ' H' hi ⟨F', e1, e2, pv⟩
    obtain ⟨x, hx, rx⟩ := Paired.getL p hi
    exact hs F1 g1.ff i x w σ' F' H' hx e1 e2 (m.mono e1 rx) pv
  · rintro σ' H' ⟨F', e1, e2, pv⟩
    rw [p.length] at pv
    exact hd σ' F' H' (g1.ff.trans e1) e2 pv
/-- for k in range(n) -/
theorem x_forR {j : Nat} {n : Nat} {ta : TE} (e : Ex F H) (h : Ev rInt ta σ F H (n : Int)) (hn : n ≤ 1000000000) (Pv : Nat → St → Hp → Hp → Prop) (h0 : ∀ F1 H1, Gr M0 F H F1 H1 → Pv 0 σ F1 H1)
    (hs : ∀ F1, Ex F F1 → ∀ i σ' F' H', i < n → Ex F1 F' → Ex F' H' → Pv i σ' F' H' →
      ts { D with nx := fun σ2 H2 => ∃ F2, Ex F1 F2 ∧ Ex F2 H2 ∧ Pv (i + 1) σ2 F2 H2, ct := fun σ2 H2 => ∃ F2, Ex F1 F2 ∧ Ex F2 H2 ∧ Pv (i + 1) σ2 F2 H2, bk := D.nx } (σ'.set j (some (.int (i : Int)))) H')
    (hd : ∀ σ' F' H', Ex F F' → Ex F' H' → Pv n σ' F' H' → D.nx σ' H') : tFor (iRng1 (tCons ta tNil)) (gName j) ts D σ H := by
  refine h F H (.refl e) _ fun v F1 H1 g1 ea => ⟨(n : Int), by rw [show v = _ from ea], by omega, by omega, ?_⟩
  rw [Int.toNat_natCast]
  refine for_range (lo := 0) (n := n) (fun i σ' H' => ∃ F', Ex F1 F' ∧ Ex F' H' ∧ Pv i σ' F' H') ⟨F1, Ex.refl _, g1.fh, h0 F1 H1 g1⟩ ?_ ?_
  · rintro i σ' H' hi ⟨F', e1, e2, pv⟩
    have e0 : (0 : Int) + (i : Int) = (i : Int) := Int.zero_add _
    show ts _ (σ'.set j (some (.int ((0 : Int) + (i : Int))))) H'
    rw [e0]
    exact hs F1 g1.ff i σ' F' H' hi e1 e2 pv
  · rintro σ' H' ⟨F', e1, e2, pv⟩
    exact hd σ' F' H' (g1.ff.trans e1) e2 pv
/-- for k in range(a, b) -/
theorem x_forR2 {j : Nat} {a b : Nat} {ta tb : TE} (e : Ex F H) (h : Ev rInt ta σ F H (a : Int)) (h2 : Ev rInt tb σ F H (b : Int)) (hn : b ≤ 1000000000) (ha : a ≤ 1000000000) (Pv : Nat → St → Hp → Hp → Prop) (h0 : ∀ F1 H1, Gr M0 F H F1 H1 → Pv 0 σ F1 H1)
    (hs : ∀ F1, Ex F F1 → ∀ i σ' F' H', a + i < b → Ex F1 F' → Ex F' H' → Pv i σ' F' H' →
      ts { D with nx := fun σ2 H2 => ∃ F2, Ex F1 F2 ∧ Ex F2 H2 ∧ Pv (i + 1) σ2 F2 H2, ct := fun σ2 H2 => ∃ F2, Ex F1 F2 ∧ Ex F2 H2 ∧ Pv (i + 1) σ2 F2 H2, bk := D.nx } (σ'.set j (some (.int ((a + i : Nat) : Int)))) H')
    (hd : ∀ σ' F' H', Ex F F' → Ex F' H' → Pv (b - a) σ' F' H' → D.nx σ' H') : tFor (iRng2 (tCons ta (tCons tb tNil))) (gName j) ts D σ H := by
  refine h F H (.refl e) _ fun v F1 H1 g1 ea => h2 F1 H1 g1 _ fun w F2 H2 g2 eb => ⟨(a : Int), (b : Int), by rw [show v = _ from ea, show w = _ from eb], ⟨by omega, by omega, by omega, by omega⟩, ?_⟩
  rw [show ((b : Int) - (a : Int)).toNat = b - a by omega]
  refine for_range (lo := (a : Int)) (n := b - a) (fun i σ' H' => ∃ F', Ex F2 F' ∧ Ex F' H' ∧ Pv i σ' F' H') ⟨F2, Ex.refl _, g2.fh, h0 F2 H2 (g1.trans g2)⟩ ?_ ?_
  · rintro i σ' H' hi ⟨F', e1, e2, pv⟩
    have e0 : ((a : Int) + (i : Int)) = ((a + i : Nat) : Int) := by omega
    show ts _ (σ'.set j (some (.int ((a : Int) + (i : Int))))) H'
    rw [e0]
    exact hs F2 (g1.ff.trans g2.ff) i σ' F' H' (by omega) e1 e2 pv
  · rintro σ' H' ⟨F', e1, e2, pv⟩
    exact hd σ' F' H' ((g1.ff.trans g2.ff).trans e1) e2 pv
/-- while: a test that is pure, a measure -/
theorem x_while {tc : TT} (e : Ex F H) (Pv : Nat → St → Hp → Hp → Prop) (m0 : Nat) (h0 : Pv m0 σ F H) (b : Nat → St → Hp → Hp → Bool) (hc : ∀ m σ' F' H', Ex F F' → Ex F' H' → Pv m σ' F' H' → EvT tc σ' F' H' (b m σ' F' H'))
    (st : ∀ m σ' F' H' F2 H2, Gr M0 F' H' F2 H2 → Pv m σ' F' H' → Pv m σ' F2 H2)
    (hs : ∀ m σ' F' H' F2 H2, Ex F F' → Gr M0 F' H' F2 H2 → b m σ' F' H' = true → Pv m σ' F' H' → Pv m σ' F2 H2 → 
      ts { D with nx := fun σ2 H2 => ∃ F2 m', Ex F F2 ∧ Ex F2 H2 ∧ m' < m ∧ Pv m' σ2 F2 H2, ct := fun σ2 H2 => ∃ F2 m', Ex F F2 ∧ Ex F2 H2 ∧ m' < m ∧ Pv m' σ2 F2 H2, bk := D.nx } σ' H2)
    (hd : ∀ m σ' F' H' F2 H2, Ex F F' → Gr M0 F' H' F2 H2 → b m σ' F' H' = false → Pv m σ' F' H' → Pv m σ' F2 H2 → D.nx σ' H2) : tWhile tc ts D σ H := by
  refine ⟨fun m σ' H' => ∃ F', Ex F F' ∧ Ex F' H' ∧ Pv m σ' F' H', ⟨m0, F, Ex.refl _, e, h0⟩, ?_⟩
  rintro m σ' H' ⟨F', e1, e2, pv⟩
  refine hc m σ' F' H' e1 e2 pv F' H' (.refl e2) _ fun F2 H2 g => ?_
  cases q : b m σ' F' H' with
  | true => exact ⟨_, fun σ2 H3 ⟨F3, m', a1, a2, a3, a4⟩ => ⟨m', a3, F3, a1, a2, a4⟩, hs m σ' F' H' F2 H2 e1 g q pv (st _ _ _ _ _ _ g pv)⟩
  | false => exact hd m σ' F' H' F2 H2 e1 g q pv (st _ _ _ _ _ _ g pv)

/-! ### comprehensions -/
/-- [elt for x in list], of each item an answer -/
theorem ev_lc {n : Nat} {vs : List Nat} (h : Ev (rLst R) tl σ F H xs) (hlen : ys.length = xs.length) (hz : xs.length ≤ 1000000) (hw : ∀ v, wipe ((wipe σ vs).set n (some v)) vs = wipe σ vs)
    (he : ∀ (i : Nat) x y v F1 H1, xs[i]? = some x → ys[i]? = some y → Gr M0 F H F1 H1 → R F1 v x → Ev S te ((wipe σ vs).set n (some v)) F1 H1 y) (m : Mn R := by infer_instance) (m' : Mn S := by infer_instance) : Ev (rLst S) (tLc (iList K tl) (gName n) tYes te vs) σ F H ys := by
  intro F1 H1 g1 Q q
  refine h F1 H1 g1 _ fun v F2 H2 g2 ⟨a, ws, ea, hl, p⟩ => ⟨a, ea, ⟨ws, SqL.of (g2.fh _ _ hl)⟩, fun D hD => ?_⟩
  refine lc_list (xs := ws) (fun i H' => ∃ F' us, Gr M0 F2 H2 F' H' ∧ F' D = none ∧ H' D = some (.lst us) ∧ Paired (S F') us (ys.take i)) ⟨F2, [], .loc g2.fh hD, g2.fh.free hD, upd_same, .nil⟩ (fun i H' _ ⟨F', us, g, _⟩ => SqL.of (g.fh _ _ (g.ff _ _ hl))) ?_ ?_
  · rintro i w H' hi ⟨F', us, g, fD, hD', pu⟩
    obtain ⟨x, hx, rx⟩ := Paired.getL p hi
    have hil : i < ys.length := by rw [hlen]; exact (List.getElem?_eq_some_iff.mp hx).1
    have hy : ys[i]? = some ys[i] := List.getElem?_eq_getElem hil
    refine ⟨hw w, ?_⟩
    refine he i x ys[i] w F' H' hx hy ((g1.trans g2).trans g) (m.mono g.ff rx) F' H' (.refl g.fh) _ fun u F3 H3 g3 r3 => ?_
    refine ⟨us, g3.hx _ _ hD', ?_, F3, us ++ [u], (g.trans g3).set' (g3.nn hD' fD) (.inl hD), g3.nn hD' fD, upd_same, ?_⟩
    · rw [pu.length, List.length_take, sizeLine_eq]
      omega
    · rw [List.take_add_one, hy]
      exact (Paired.up g3.ff pu).snoc r3
  · rintro H' ⟨F', us, g, fD, hD', pu⟩
    rw [p.length, ← hlen, List.take_length] at pu
    exact q _ _ _ (g2.trans (g.frz hD' (g2.fh.free hD) (.inl hD))) ⟨D, us, rfl, upd_same, Paired.up (g.fh.frz hD' fD) pu⟩
theorem ev_lcT {n : Nat} {vs : List Nat} (h : Ev (rTup R) tl σ F H xs) (hlen : ys.length = xs.length) (hz : xs.length ≤ 1000000) (hw : ∀ v, wipe ((wipe σ vs).set n (some v)) vs = wipe σ vs)
    (he : ∀ (i : Nat) x y v F1 H1, xs[i]? = some x → ys[i]? = some y → Gr M0 F H F1 H1 → R F1 v x → Ev S te ((wipe σ vs).set n (some v)) F1 H1 y) (m : Mn R := by infer_instance) (m' : Mn S := by infer_instance) : Ev (rLst S) (tLc (iTup K tl) (gName n) tYes te vs) σ F H ys := by
  intro F1 H1 g1 Q q
  refine h F1 H1 g1 _ fun v F2 H2 g2 ⟨a, ws, ea, hl, p⟩ => ⟨a, ea, ⟨ws, SqT.of (g2.fh _ _ hl)⟩, fun D hD => ?_⟩
  refine lc_tup (xs := ws) (fun i H' => ∃ F' us, Gr M0 F2 H2 F' H' ∧ F' D = none ∧ H' D = some (.lst us) ∧ Paired (S F') us (ys.take i)) ⟨F2, [], .loc g2.fh hD, g2.fh.free hD, upd_same, .nil⟩ (fun i H' _ ⟨F', us, g, _⟩ => SqT.of (g.fh _ _ (g.ff _ _ hl))) ?_ ?_
  · rintro i w H' hi ⟨F', us, g, fD, hD', pu⟩
    obtain ⟨x, hx, rx⟩ := Paired.getL p hi
    have hil : i < ys.length := by rw [hlen]; exact (List.getElem?_eq_some_iff.mp hx).1
    have hy : ys[i]? = some ys[i] := List.getElem?_eq_getElem hil
    refine ⟨hw w, ?_⟩
    refine he i x ys[i] w F' H' hx hy ((g1.trans g2).trans g) (m.mono g.ff rx) F' H' (.refl g.fh) _ fun u F3 H3 g3 r3 => ?_
    refine ⟨us, g3.hx _ _ hD', ?_, F3, us ++ [u], (g.trans g3).set' (g3.nn hD' fD) (.inl hD), g3.nn hD' fD, upd_same, ?_⟩
    · rw [pu.length, List.length_take, sizeLine_eq]
      omega
    · rw [List.take_add_one, hy]
      exact (Paired.up g3.ff pu).snoc r3
  · rintro H' ⟨F', us, g, fD, hD', pu⟩
    rw [p.length, ← hlen, List.take_length] at pu
    exact q _ _ _ (g2.trans (g.frz hD' (g2.fh.free hD) (.inl hD))) ⟨D, us, rfl, upd_same, Paired.up (g.fh.frz hD' fD) pu⟩
/-- [elt for k in range(n)] -/
theorem ev_lcR {j n : Nat} {vs : List Nat} {ta : TE} (h : Ev rInt ta σ F H (n : Int)) (hlen : ys.length = n) (hz : n ≤ 1000000) (hw : ∀ v, wipe ((wipe σ vs).set j (some v)) vs = wipe σ vs)
    (he : ∀ i y F1 H1, i < n → ys[i]? = some y → Gr M0 F H F1 H1 → Ev S te ((wipe σ vs).set j (some (.int (i : Int)))) F1 H1 y) (m' : Mn S := by infer_instance) : Ev (rLst S) (tLc (iRng1 (tCons ta tNil)) (gName j) tYes te vs) σ F H ys := by
  intro F1 H1 g1 Q q
  refine h F1 H1 g1 _ fun v F2 H2 g2 ea => ⟨(n : Int), by rw [show v = _ from ea], by omega, by omega, fun D hD => ?_⟩
  rw [Int.toNat_natCast]
  refine lc_range (lo := 0) (n := n) (fun i H' => ∃ F' us, Gr M0 F2 H2 F' H' ∧ F' D = none ∧ H' D = some (.lst us) ∧ Paired (S F') us (ys.take i)) ⟨F2, [], .loc g2.fh hD, g2.fh.free hD, upd_same, .nil⟩ ?_ ?_
  · rintro i H' hi ⟨F', us, g, fD, hD', pu⟩
    have hil : i < ys.length := by rw [hlen]; exact hi
    have hy : ys[i]? = some ys[i] := List.getElem?_eq_getElem hil
    have e0 : (0 : Int) + (i : Int) = (i : Int) := Int.zero_add _
    rw [e0]
    refine ⟨hw _, ?_⟩
    refine he i ys[i] F' H' hi hy ((g1.trans g2).trans g) F' H' (.refl g.fh) _ fun u F3 H3 g3 r3 => ?_
    refine ⟨us, g3.hx _ _ hD', ?_, F3, us ++ [u], (g.trans g3).set' (g3.nn hD' fD) (.inl hD), g3.nn hD' fD, upd_same, ?_⟩
    · rw [pu.length, List.length_take, sizeLine_eq]
      omega
    · rw [List.take_add_one, hy]
      exact (Paired.up g3.ff pu).snoc r3
  · rintro H' ⟨F', us, g, fD, hD', pu⟩
    rw [← hlen, List.take_length] at pu
    exact q _ _ _ (g2.trans (g.frz hD' (g2.fh.free hD) (.inl hD))) ⟨D, us, rfl, upd_same, Paired.up (g.fh.frz hD' fD) pu⟩
end

/-! ### promises of pure defs -/
def Sp1 {α β : Type} (R : Rp α) (Pre : α → Prop) (S : Rp β) (f : α → β) : Sp := fun vs H Q _ => ∃ F v x, vs = [v] ∧ Ex F H ∧ R F v x ∧ Pre x ∧ ∀ w F' H', Gr M0 F H F' H' → S F' w (f x) → Q w H'
def Sp2 {α β γ : Type} (R : Rp α) (S : Rp β) (Pre : α → β → Prop) (T : Rp γ) (f : α → β → γ) : Sp := fun vs H Q _ => ∃ F v w x y, vs = [v, w] ∧ Ex F H ∧ R F v x ∧ S F w y ∧ Pre x y ∧ ∀ z F' H', Gr M0 F H F' H' → T F' z (f x y) → Q z H'
def Sp3 {α β γ δ : Type} (R : Rp α) (S : Rp β) (T : Rp γ) (Pre : α → β → γ → Prop) (U : Rp δ) (f : α → β → γ → δ) : Sp := fun vs H Q _ => ∃ F v w u x y z, vs = [v, w, u] ∧ Ex F H ∧ R F v x ∧ S F w y ∧ T F u z ∧ Pre x y z ∧ ∀ r F' H', Gr M0 F H F' H' → U F' r (f x y z) → Q r H'
def Sp4 {α β γ δ ε : Type} (R : Rp α) (S : Rp β) (T : Rp γ) (U : Rp δ) (Pre : α → β → γ → δ → Prop) (W : Rp ε) (f : α → β → γ → δ → ε) : Sp := fun vs H Q _ => ∃ F v w u u' x y z z', vs = [v, w, u, u'] ∧ Ex F H ∧ R F v x ∧ S F w y ∧ T F u z ∧ U F u' z' ∧ Pre x y z z' ∧ ∀ r F' H', Gr M0 F H F' H' → W F' r (f x y z z') → Q r H'
section
variable {K : PySem.W.Frag} {σ : St} {F H F' H' : Hp} {ta tb tc td te tl : TE} {α β γ δ ε : Type} {R : Rp α} {S : Rp β} {T : Rp γ} {U : Rp δ} {W : Rp ε} {x : α} {y : β} {z : γ} {u : δ} {E : XK}
theorem ev_call1 {Pre : α → Prop} {f : α → β} (ha : Ev R ta σ F H x) (p : Pre x) : Ev S (tCall (Sp1 R Pre S f) [] E (tCons ta tNil)) σ F H (f x) := fun F1 H1 g1 Q q =>
  ha F1 H1 g1 _ fun v F2 H2 g2 r => ⟨F2, v, x, rfl, g2.fh, r, p, fun w F' H' g k => q w F' H' (g2.trans g) k⟩
theorem ev_call2 {Pre : α → β → Prop} {f : α → β → γ} (ha : Ev R ta σ F H x) (hb : Ev S tb σ F H y) (p : Pre x y) (m : Mn R := by infer_instance) : Ev T (tCall (Sp2 R S Pre T f) [] E (tCons ta (tCons tb tNil))) σ F H (f x y) := fun F1 H1 g1 Q q =>
  ha F1 H1 g1 _ fun v F2 H2 g2 r => hb F2 H2 (g1.trans g2) _ fun w F3 H3 g3 r3 => ⟨F3, v, w, x, y, rfl, g3.fh, m.mono g3.ff r, r3, p, fun w F' H' g k => q w F' H' ((g2.trans g3).trans g) k⟩
theorem ev_call3 {Pre : α → β → γ → Prop} {f : α → β → γ → δ} (ha : Ev R ta σ F H x) (hb : Ev S tb σ F H y) (hc : Ev T tc σ F H z) (p : Pre x y z) (m : Mn R := by infer_instance) (n : Mn S := by infer_instance) : Ev U (tCall (Sp3 R S T Pre U f) [] E (tCons ta (tCons tb (tCons tc tNil)))) σ F H (f x y z) := fun F1 H1 g1 Q q =>
  ha F1 H1 g1 _ fun v F2 H2 g2 r => hb F2 H2 (g1.trans g2) _ fun w F3 H3 g3 r3 => hc F3 H3 ((g1.trans g2).trans g3) _ fun w' F4 H4 g4 r4 =>
    ⟨F4, v, w, w', x, y, z, rfl, g4.fh, m.mono (g3.ff.trans g4.ff) r, n.mono g4.ff r3, r4, p, fun w F' H' g k => q w F' H' (((g2.trans g3).trans g4).trans g) k⟩
theorem ev_call4 {Pre : α → β → γ → δ → Prop} {f : α → β → γ → δ → ε} (ha : Ev R ta σ F H x) (hb : Ev S tb σ F H y) (hc : Ev T tc σ F H z) (hd : Ev U td σ F H u) (p : Pre x y z u) (m : Mn R := by infer_instance) (n : Mn S := by infer_instance) (o : Mn T := by infer_instance) :
    Ev W (tCall (Sp4 R S T U Pre W f) [] E (tCons ta (tCons tb (tCons tc (tCons td tNil))))) σ F H (f x y z u) := fun F1 H1 g1 Q q =>
  ha F1 H1 g1 _ fun v F2 H2 g2 r => hb F2 H2 (g1.trans g2) _ fun w F3 H3 g3 r3 => hc F3 H3 ((g1.trans g2).trans g3) _ fun w' F4 H4 g4 r4 => hd F4 H4 (((g1.trans g2).trans g3).trans g4) _ fun w'' F5 H5 g5 r5 =>
    ⟨F5, v, w, w', w'', x, y, z, u, rfl, g5.fh, m.mono ((g3.ff.trans g4.ff).trans g5.ff) r, n.mono (g4.ff.trans g5.ff) r3, o.mono g5.ff r4, r5, p, fun w F' H' g k => q w F' H' ((((g2.trans g3).trans g4).trans g5).trans g) k⟩
/-- instances: what stands at the address -/
class IsI {α : Type} (R : Rp α) (C : Addr) (m : Str) : Prop where
  at_ : ∀ {F v x}, R F v x → ∃ a dx fs, v = .ref a ∧ F a = some (.ins C dx fs) ∧ fs.lookup m = none
theorem ev_meth0 {C : Addr} {m : Str} {Pre : α → Prop} {f : α → β} [c : IsI R C m] (ha : Ev R ta σ F H x) (p : Pre x) : Ev S (tMeth C m (Sp1 R Pre S f) [] E ta tNil) σ F H (f x) := fun F1 H1 g1 Q q =>
  ha F1 H1 g1 _ fun v F2 H2 g2 r => by
    obtain ⟨a, dx, fs, e, h, l⟩ := c.at_ r
    exact ⟨a, dx, fs, e, g2.fh _ _ h, l, F2, v, x, rfl, g2.fh, r, p, fun w F' H' g k => q w F' H' (g2.trans g) k⟩
theorem ev_meth1 {C : Addr} {m : Str} {Pre : α → β → Prop} {f : α → β → γ} [c : IsI R C m] (ha : Ev R ta σ F H x) (hb : Ev S tb σ F H y) (p : Pre x y) (m' : Mn R := by infer_instance) : Ev T (tMeth C m (Sp2 R S Pre T f) [] E ta (tCons tb tNil)) σ F H (f x y) := fun F1 H1 g1 Q q =>
  ha F1 H1 g1 _ fun v F2 H2 g2 r => by
    obtain ⟨a, dx, fs, e, h, l⟩ := c.at_ r
    exact ⟨a, dx, fs, e, g2.fh _ _ h, l, hb F2 H2 (g1.trans g2) _ fun w F3 H3 g3 r3 => ⟨F3, v, w, x, y, rfl, g3.fh, m'.mono g3.ff r, r3, p, fun w F' H' g k => q w F' H' ((g2.trans g3).trans g) k⟩⟩
theorem ev_meth2 {C : Addr} {m : Str} {Pre : α → β → γ → Prop} {f : α → β → γ → δ} [c : IsI R C m] (ha : Ev R ta σ F H x) (hb : Ev S tb σ F H y) (hc : Ev T tc σ F H z) (p : Pre x y z) (m' : Mn R := by infer_instance) (n' : Mn S := by infer_instance) : Ev U (tMeth C m (Sp3 R S T Pre U f) [] E ta (tCons tb (tCons tc tNil))) σ F H (f x y z) := fun F1 H1 g1 Q q =>
  ha F1 H1 g1 _ fun v F2 H2 g2 r => by
    obtain ⟨a, dx, fs, e, h, l⟩ := c.at_ r
    exact ⟨a, dx, fs, e, g2.fh _ _ h, l, hb F2 H2 (g1.trans g2) _ fun w F3 H3 g3 r3 => hc F3 H3 ((g1.trans g2).trans g3) _ fun w' F4 H4 g4 r4 => ⟨F4, v, w, w', x, y, z, rfl, g4.fh, m'.mono (g3.ff.trans g4.ff) r, n'.mono g4.ff r3, r4, p, fun w F' H' g k => q w F' H' (((g2.trans g3).trans g4).trans g) k⟩⟩
/-- o.f -/
class IsF {α : Type} {β : outParam Type} (R : Rp α) (K : PySem.W.Frag) (f : Str) (S : outParam (Rp β)) (p : outParam (α → β)) : Prop where
  at_ : ∀ {F v x}, R F v x → ∃ a C dx fs w, v = .ref a ∧ F a = some (.ins C dx fs) ∧ Cls K C ∧ NoAttr K C f ∧ fs.lookup f = some w ∧ S F w (p x)
theorem ev_fld {f : Str} {p : α → β} (ha : Ev R ta σ F H x) (c : IsF R K f S p := by infer_instance) : Ev S (tFld K ta f) σ F H (p x) := fun F1 H1 g1 Q q =>
  ha F1 H1 g1 _ fun v F2 H2 g2 r => by
    obtain ⟨a, C, dx, fs, w, e, h, c1, c2, l, s⟩ := c.at_ r
    exact ⟨a, C, dx, fs, w, e, g2.fh _ _ h, c1, c2, l, q w F2 H2 g2 s⟩

/-! ### isinstance -/
theorem ev_isi {T : String} {b : Bool} (ha : Ev R ta σ F H x) (ht : ∀ F H v, Ex F H → R F v x → ∃ t, TyX K H v t ∧ PySem.W.kitOne K t (.type T) = some b) : Ev rBl (tCB (rIsi K) (tCons ta (tCons (tC (.ty T)) tNil))) σ F H b := fun F1 H1 g1 Q q =>
  ha F1 H1 g1 _ fun v F2 H2 g2 r => by
    obtain ⟨t, h1, h2⟩ := ht F2 H2 v g2.fh r
    exact ⟨v, .ty T, t, .type T, b, rfl, .ty T, h1, h2, q _ F2 H2 g2 rfl⟩
theorem kit_same {t : Value} : PySem.W.kitOne K t t = some true := if_pos (beq_self_eq_true _)
theorem ev_isIntInt {i : Int} (ha : Ev rInt ta σ F H i) : Ev rBl (tCB (rIsi K) (tCons ta (tCons (tC (.ty "int")) tNil))) σ F H true := ev_isi ha fun F H v _ r => ⟨_, .base (by cases (show v = _ from r); exact .int i), kit_same⟩
theorem ev_isIntBool {i : Int} (ha : Ev rInt ta σ F H i) : Ev rBl (tCB (rIsi K) (tCons ta (tCons (tC (.ty "bool")) tNil))) σ F H false := ev_isi ha fun F H v _ r => ⟨_, .base (by cases (show v = _ from r); exact .int i), kit_ty (by decide +kernel)⟩
theorem ev_isTup {xs : List α} (ha : Ev (rTup R) ta σ F H xs) : Ev rBl (tCB (rIsi K) (tCons ta (tCons (tC (.ty "tuple")) tNil))) σ F H true := ev_isi ha fun F H v e r => ⟨_, .base (by obtain ⟨a, vs, rfl, h, _⟩ := r; exact .tup (e _ _ h)), kit_same⟩
theorem ev_isLst {xs : List α} (ha : Ev (rLst R) ta σ F H xs) : Ev rBl (tCB (rIsi K) (tCons ta (tCons (tC (.ty "list")) tNil))) σ F H true := ev_isi ha fun F H v e r => ⟨_, .base (by obtain ⟨a, vs, rfl, h, _⟩ := r; exact .lst (e _ _ h)), kit_same⟩
theorem ev_isStr {s : Str} (ha : Ev rStr ta σ F H s) : Ev rBl (tCB (rIsi K) (tCons ta (tCons (tC (.ty "str")) tNil))) σ F H true := ev_isi ha fun F H v _ r => ⟨_, .base (by cases (show v = _ from r); exact .str s), kit_same⟩
end
end El
namespace El
open PySem PySem.Spec L2
theorem rpm {α : Type} {R : Rp α} {H H' : Hp} {v : V} {x : α} (e : Ex H H') (r : R H v x) (m : Mn R) : R H' v x := m.mono e r
theorem sn {D : Ends} {σ : St} {H : Hp} (h : D.nx σ H) : tNext D σ H := h
theorem sq {t u : TS} {D : Ends} {σ : St} {H : Hp} (h : t { D with nx := u D } σ H) : tSeq t u D σ H := h
theorem x_fld {K : PySem.W.Frag} {σ : St} {F H : Hp} {ta tv : TE} {α : Type} {R : Rp α} {x : α} {D : Ends} {f : Str} {a C dx : Addr} {fs : List (Str × V)} (e : Ex F H) (h : Ev R tv σ F H x) (ha : Ev rRef ta σ F H a) (ho : H a = some (.ins C dx fs)) (c : Cls K C) (n : NoAttr K C f) (l : fs.length < 1000)
    (k : ∀ v F' H', Gr M0 F H F' H' → R F' v x → H' a = some (.ins C dx fs) → D.nx σ (upd H' a (.ins C dx (putF f v fs)))) (m : Mn R := by infer_instance) : sFld K ta tv f D σ H :=
  h F H (.refl e) _ fun v F1 H1 g1 r1 => ha F1 H1 g1 _ fun w F2 H2 g2 r2 => ⟨a, C, dx, fs, r2, g2.hx _ _ (g1.hx _ _ ho), c, n, l, k v F2 H2 (g1.trans g2) (m.mono g2.ff r1) (g2.hx _ _ (g1.hx _ _ ho))⟩
end El

set_option Elab.async false
set_option linter.all false
set_option maxRecDepth 100000
set_option maxHeartbeats 2000000
namespace El
open PySem PySem.Spec L2
/-! ### len of an instance with its own __len__ -/
def rLenOwn (C : Addr) (sp : Sp) (E : XK) : List V → Hp → VK → Prop := fun xs H Q => ∃ a dx fs, xs = [V.ref a] ∧ H a = some (.ins C dx fs) ∧ sp [.ref a] H (fun v H' => ∃ n : Int, v = .int n ∧ 0 ≤ n ∧ n < 2 ^ 63 ∧ Q v H') E
theorem call_lenOwn {X : Cx} {CX : CXT} {n : Nat} {C f : Addr} {fd : FuncData} {ps : List Str} {sp : Sp} {E : XK} (F : FnOk X.prog X.w X.K X.mg X.base CX n f fd ps sp) (hr : Room (n + 1) X.A) (hs : PySem.W.findIn X.K (.ref C) "__len__" = some (some (.ref f))) (hf : PySem.W.isFn X.K (.ref f) = true)
    (hb : Binds X.K fd ps []) (hx : Passes CX X E) : CallR X (.builtin "len") (rLenOwn C sp E) := by
  intro pins s σ H xs us Q I r h
  obtain ⟨a, dx, fs, rfl, ha, hsp⟩ := h
  cases r with
  | cons r1 r2 =>
    cases r2
    cases r1
    obtain ⟨mA, J, _⟩ := ins_get I.hok ha
    obtain ⟨od, J, _⟩ := J.look
    obtain ⟨m, hF⟩ := I.fr
    refine PySem.W.len_K hF I.ok.mod.kin J hs hf ?_
    have e0 : Env0 X.prog X.w X.K X.mg X.base X.A.in1 X.stack s H := by
      have e := I.env0
      exact ⟨e.frames, e.mod, e.bs, e.bsz, e.funs, e.frf, e.hok, e.bare⟩
    have hl := F.len _ _ _ _ hsp
    have r2 : Vals [V.ref a] [Value.ref a] := .cons rfl .nil
    refine wpAny_call (codeAny_mono (F.run X.A.in1 X.stack s H ⟨[.ref a], []⟩ [.ref a] [.ref a] _ E hr.in1 e0 (by
      have := hb s [.ref a] I.kIn (by simpa using hl)
      simpa using this) r2 hsp) fun r s' hq => ?_)
    cases r with
    | error e => exact hx pins σ H s e s' I hq
    | ok fl =>
      cases fl with
      | ret w =>
        obtain ⟨z, H', I', rz, k, ez, h0, h1, q⟩ := I.after hq
        subst ez
        obtain ⟨t, rfl⟩ := rz
        exact ⟨⟨h0, h1⟩, .int k, H', I'.tok _, ⟨_, rfl⟩, q⟩
      | next => exact False.elim hq
      | brk => exact False.elim hq
      | cont => exact False.elim hq
section
variable {K : PySem.W.Frag} {σ : St} {F H : Hp} {ta : TE} {α : Type} {R : Rp α} {x : α} {E : XK}
theorem ev_lenOwn {C : Addr} {f : α → Nat} [c : IsI R C "__len__"] (ha : Ev R ta σ F H x) (hz : f x < 2 ^ 62) : Ev rInt (tCB (rLenOwn C (Sp1 R (fun _ => True) rNat f) E) (tCons ta tNil)) σ F H (f x : Int) := fun F1 H1 g1 Q q =>
  ha F1 H1 g1 _ fun v F2 H2 g2 r => by
    obtain ⟨a, dx, fs, e, h, l⟩ := c.at_ r
    subst e
    exact ⟨a, dx, fs, rfl, g2.fh _ _ h, F2, _, x, rfl, g2.fh, r, True.intro, fun w F' H' g k => ⟨(f x : Int), k, by omega, by omega, q w F' H' (g2.trans g) k⟩⟩
end
/-! ### len(set(xs)) of ints -/
def tLenSetJ (K : PySem.W.Frag) (ta : TE) : TE := fun σ H Q => ta σ H fun x H1 => ∃ (l : Addr) (ns : List Int), x = .ref l ∧ SqT K H1 l (ns.map V.int) ∧ ns.length ≤ 4000 ∧ ∀ out : List Int, out.Nodup → (∀ k, k ∈ out ↔ k ∈ ns) → Q (.int (out.length : Nat)) H1
open PyProof.Rows in
theorem pe_lenSetJ {X : Cx} {a : Expr} {ta : TE} {p p2 q pos : Pos} (hg : Gl X "len") (hm : X.mg "len" = none) (hg2 : Gl X "set") (hm2 : X.mg "set" = none) (ha : PE X a ta) (hc : X.calm = true := by rfl)
    (na : starEach [a] X.env = (false, eval a X.env) :: starEach [] X.env := by rfl) : PE X (.Call (.Name "len" p) [.Call (.Name "set" p2) [a] [] q] [] pos) (tLenSetJ X.K ta) := by
  refine ⟨fun pins s σ H Q I h => ?_⟩
  refine Call_ (ld_blt I hg hm boot_len ?_)
  refine PyProof.Rows.callWith_builtin1 (PyProof.Rows.args_cons ?_ rfl) rfl rfl
  refine Call_ (ld_blt I hg2 hm2 boot_set ?_)
  refine PyProof.Rows.callWith_type1 (PyProof.Rows.args_cons (thn (ha.run pins s σ H _ I h) fun v s1 ⟨x, H1, I1, r1, q1⟩ => PyProof.Rows.args_nil ?_) na) na rfl
  obtain ⟨l, ns, rfl, hq, hl, q1⟩ := q1
  cases r1
  obtain ⟨its, r, pt, hz⟩ := I1.tuple hq
  have hi : PyProof.Rows.IntsAre its.toArray.toList ns := ints_of_vals r
  refine call_set_tupI ns (I1.ok.hd hc) (show s1.heap.IsTuple l its.toArray from pt) hi (by unfold scanBound; omega) fun h' tk c R1 hcn k => ?_
  refine PyProof.Rows.args_nil ?_
  obtain ⟨o, es, ep, t, ho, hex, hdt, g, nd, hm3, hb, hf, hn, hr, hl2⟩ := R1
  have I2 : Inv X pins σ H1 { s1 with heap := h', toks := tk } := I1.kept fun b o e => k b o e
  have hlen : (es.toList.map keyOf).length = es.size := by rw [List.length_map, Array.length_toList]
  refine call_len_set ho hex hdt hf (by omega) ⟨.int es.size, H1, I2.tok _, ⟨_, rfl⟩, ?_⟩
  have := q1 (es.toList.map keyOf) nd fun j => by rw [← hm3 j, decide_eq_true_eq]
  rw [hlen] at this
  exact this
/-- the things of a list, each once -/
def uniq (ns : List Nat) : List Nat := ns.foldr (fun n l => if n ∈ l then l else n :: l) []
theorem mem_uniq {k : Nat} : ∀ {ns : List Nat}, k ∈ uniq ns ↔ k ∈ ns
  | [] => Iff.rfl
  | n :: ns => by
    show k ∈ (if n ∈ uniq ns then uniq ns else n :: uniq ns) ↔ _
    split
    · rename_i h
      rw [mem_uniq, List.mem_cons]
      exact ⟨.inr, fun z => z.elim (fun e => by rw [e]; exact mem_uniq.mp h) id⟩
    · rw [List.mem_cons, List.mem_cons, mem_uniq]
theorem nodup_uniq : ∀ ns : List Nat, (uniq ns).Nodup
  | [] => List.nodup_nil
  | n :: ns => by
    show (if n ∈ uniq ns then uniq ns else n :: uniq ns).Nodup
    split
    · exact nodup_uniq ns
    · rename_i h
      exact List.nodup_cons.mpr ⟨h, nodup_uniq ns⟩
theorem nodup_len_of_mem {α : Type} [DecidableEq α] {as bs : List α} (ha : as.Nodup) (hb : bs.Nodup) (h : ∀ k, k ∈ as ↔ k ∈ bs) : as.length = bs.length := by
  have p : as.Perm bs := (List.perm_ext_iff_of_nodup ha hb).mpr h
  exact p.length_eq
section
variable {K : PySem.W.Frag} {σ : St} {F H : Hp} {ta : TE}
theorem ev_lenSet {ns : List Nat} (ha : Ev (rTup rNat) ta σ F H ns) (hz : ns.length ≤ 4000) : Ev rInt (tLenSetJ K ta) σ F H ((uniq ns).length : Int) := fun F1 H1 g1 Q q =>
  ha F1 H1 g1 _ fun v F2 H2 g2 ⟨a, vs, e, hl, p⟩ => ⟨a, ns.map fun n : Nat => (n : Int), e, by rw [← nats_paired p]; exact SqT.of (g2.fh _ _ hl), by rw [List.length_map]; exact hz, fun out nd hm => by
    have : out.length = ((uniq ns).map fun n : Nat => (n : Int)).length := by
      refine nodup_len_of_mem nd ?_ fun k => ?_
      · refine List.Pairwise.map _ ?_ (nodup_uniq ns)
        intro a b h e
        exact h (by omega)
      · rw [hm, List.mem_map, List.mem_map]
        exact ⟨fun ⟨n, h, e⟩ => ⟨n, mem_uniq.mpr h, e⟩, fun ⟨n, h, e⟩ => ⟨n, mem_uniq.mp h, e⟩⟩
    rw [this, List.length_map]
    exact q _ F2 H2 g2 rfl⟩
end
/-! ### the laws' own source of draws -/
/-- a source at a: so many more draws may be made of it -/
def Src (H : Hp) (a : Addr) (N : Nat) : Prop := ∃ n c k : Int, H a = some (.lst [.int n, .int c, .int k]) ∧ 0 ≤ n ∧ 0 ≤ c ∧ c < 2147483648 ∧ 0 ≤ k ∧ k + N ≤ 1099511627776
theorem Src.le {H : Hp} {a : Addr} {N M : Nat} (h : Src H a N) (l : M ≤ N) : Src H a M := by
  obtain ⟨n, c, k, h1, h2, h3, h4, h5, h6⟩ := h
  exact ⟨n, c, k, h1, h2, h3, h4, h5, by omega⟩
theorem Src.hn {H : Hp} {a : Addr} {N : Nat} (h : Src H a N) : H a ≠ none := by
  obtain ⟨n, c, k, h1, _⟩ := h
  rw [h1]
  exact fun z => nomatch z
theorem Src.ex {H H' : Hp} {a : Addr} {N : Nat} (h : Src H a N) (e : H' a = H a) : Src H' a N := by
  unfold Src
  rw [e]
  exact h
theorem Src.gr {F H F' H' : Hp} {a : Addr} {N : Nat} (h : Src H a N) (g : Gr M0 F H F' H') : Src H' a N := by
  obtain ⟨n, c, k, h1, h2⟩ := h
  exact ⟨n, c, k, g.hx _ _ h1, h2⟩
theorem Src.upd {H : Hp} {a b : Addr} {o : HO} {N : Nat} (h : Src H a N) (e : a ≠ b) : Src (upd H b o) a N := h.ex (upd_ne e)
end El

set_option Elab.async false
set_option linter.all false
set_option maxRecDepth 100000
set_option maxHeartbeats 2000000
namespace El
open PySem PySem.Spec L2
section
variable {K : PySem.W.Frag} {σ : St} {F H F' H' : Hp} {ta tb tc te tl : TE} {tt t u : TT} {α β γ δ ε : Type} {R : Rp α} {S : Rp β} {xs : List α} {n : Nat} {vs : List Nat}
theorem ev_lcm (f : α → β) (h : Ev (rLst R) tl σ F H xs) (hz : xs.length ≤ 1000000) (hw : ∀ v, wipe ((wipe σ vs).set n (some v)) vs = wipe σ vs)
    (he : ∀ (i : Nat) x v F1 H1, xs[i]? = some x → Gr M0 F H F1 H1 → R F1 v x → Ev S te ((wipe σ vs).set n (some v)) F1 H1 (f x)) (m : Mn R := by infer_instance) (m' : Mn S := by infer_instance) : Ev (rLst S) (tLc (iList K tl) (gName n) tYes te vs) σ F H (xs.map f) :=
  ev_lc h (List.length_map _) hz hw fun i x y v F1 H1 hx hy g r => by
    rw [List.getElem?_map, hx] at hy
    cases hy
    exact he i x v F1 H1 hx g r
theorem ev_lcTm (f : α → β) (h : Ev (rTup R) tl σ F H xs) (hz : xs.length ≤ 1000000) (hw : ∀ v, wipe ((wipe σ vs).set n (some v)) vs = wipe σ vs)
    (he : ∀ (i : Nat) x v F1 H1, xs[i]? = some x → Gr M0 F H F1 H1 → R F1 v x → Ev S te ((wipe σ vs).set n (some v)) F1 H1 (f x)) (m : Mn R := by infer_instance) (m' : Mn S := by infer_instance) : Ev (rLst S) (tLc (iTup K tl) (gName n) tYes te vs) σ F H (xs.map f) :=
  ev_lcT h (List.length_map _) hz hw fun i x y v F1 H1 hx hy g r => by
    rw [List.getElem?_map, hx] at hy
    cases hy
    exact he i x v F1 H1 hx g r
theorem ev_lcRm (f : Nat → β) {j : Nat} {ta : TE} (h : Ev rInt ta σ F H (n : Int)) (hz : n ≤ 1000000) (hw : ∀ v, wipe ((wipe σ vs).set j (some v)) vs = wipe σ vs)
    (he : ∀ i F1 H1, i < n → Gr M0 F H F1 H1 → Ev S te ((wipe σ vs).set j (some (.int (i : Int)))) F1 H1 (f i)) (m' : Mn S := by infer_instance) : Ev (rLst S) (tLc (iRng1 (tCons ta tNil)) (gName j) tYes te vs) σ F H ((List.range n).map f) :=
  ev_lcR h (by rw [List.length_map, List.length_range]) hz hw fun i y F1 H1 hi hy g => by
    rw [List.getElem?_map, List.getElem?_range hi] at hy
    cases hy
    exact he i F1 H1 hi g
theorem mem_of_at {xs : List α} {i : Nat} {x : α} (h : xs[i]? = some x) : x ∈ xs := List.mem_of_getElem? h
end

/-! ### turns -/
structure Tn where
  many : Nat
  maps : List (List Nat)
  h0 : 1 ≤ many
  h1 : many ≤ 32
  h2 : 1 ≤ maps.length
  h3 : maps.length ≤ 200
  h4 : ∀ m ∈ maps, m.length = many ∧ ∀ x ∈ m, x < many
def rTurns (C : Addr) : Rp Tn := fun H v T => ∃ a dx l, v = .ref a ∧ H a = some (.ins C dx [("many", .int (T.many : Int)), ("maps", l)]) ∧ rLst (rTup rNat) H l T.maps
instance {C : Addr} : Mn (rTurns C) := ⟨fun e ⟨a, dx, l, h1, h2, h3⟩ => ⟨a, dx, l, h1, e _ _ h2, Mn.mono e h3⟩⟩
instance {C : Addr} : NotN (rTurns C) := ⟨fun ⟨_, _, _, h, _⟩ e => by rw [h] at e; cases e⟩
instance {C : Addr} : IsI (rTurns C) C "__len__" := ⟨fun ⟨a, dx, l, h1, h2, h3⟩ => ⟨a, dx, _, h1, h2, rfl⟩⟩
theorem fld_many {K : PySem.W.Frag} {C : Addr} (c : Cls K C) (n : NoAttr K C "many") : IsF (rTurns C) K "many" rNat Tn.many := ⟨fun ⟨a, dx, l, h1, h2, h3⟩ => ⟨a, C, dx, _, _, h1, h2, c, n, rfl, rfl⟩⟩
theorem fld_maps {K : PySem.W.Frag} {C : Addr} (c : Cls K C) (n : NoAttr K C "maps") : IsF (rTurns C) K "maps" (rLst (rTup rNat)) Tn.maps := ⟨fun ⟨a, dx, l, h1, h2, h3⟩ => ⟨a, C, dx, _, _, h1, h2, c, n, rfl, h3⟩⟩
/-- what C(..) makes of turns: the promise of __init__ -/
def SpTurns (C : Addr) : Sp := fun vs H Q _ => ∃ (F : Hp) (a dx : Addr) (l : V) (T : Tn), vs = [.ref a, .int (T.many : Int), l] ∧ Ex F H ∧ F a = none ∧ H a = some (.ins C dx []) ∧ rLst (rTup rNat) F l T.maps ∧
  ∀ F' H', Gr (M1 a) F H F' H' → rTurns C F' (.ref a) T → Q .non H'
theorem ev_Turns {σ : St} {F H : Hp} {ta tb : TE} {C : Addr} {T : Tn} {E : XK} (ha : Ev rInt ta σ F H (T.many : Int)) (hb : Ev (rLst (rTup rNat)) tb σ F H T.maps) : Ev (rTurns C) (tMake C (SpTurns C) [] E (tCons ta (tCons tb tNil))) σ F H T := fun F1 H1 g1 Q q =>
  ha F1 H1 g1 _ fun v F2 H2 g2 r => hb F2 H2 (g1.trans g2) _ fun w F3 H3 g3 r3 => fun x dx nx ndx nex => by
    cases (show v = _ from r)
    have h1 : (upd H3 dx (.own x)) x = none := by rw [upd_ne nex.symm]; exact nx
    have e1 : Ex F3 (upd (upd H3 dx (.own x)) x (.ins C dx [])) := (g3.fh.mut (g3.fh.free ndx)).mut (g3.fh.free nx)
    refine ⟨F3, x, dx, w, T, rfl, e1, g3.fh.free nx, upd_same, r3, fun F' H' g k => ⟨rfl, q _ F' H' ((g2.trans g3).trans ⟨g.ff, g.fh, fun b o _ h => ?_, fun b _ h n => ?_, fun b h => ?_⟩) k⟩⟩
    · have b1 : b ≠ x := fun z => by subst z; rw [nx] at h; cases h
      have b2 : b ≠ dx := fun z => by subst z; rw [ndx] at h; cases h
      exact g.hh b o b1 (by rw [upd_ne b1, upd_ne b2]; exact h)
    · have b1 : b ≠ x := fun z => h (z ▸ nx)
      have b2 : b ≠ dx := fun z => h (z ▸ ndx)
      exact g.nw b b1 (by rw [upd_ne b1, upd_ne b2]; exact h) n
    · have b1 : b ≠ x := fun z => h (z ▸ nx)
      have b2 : b ≠ dx := fun z => h (z ▸ ndx)
      exact g.dm b (by rw [upd_ne b1, upd_ne b2]; exact h)
/-- mirrors -/
def idMap (n : Nat) : List Nat := List.range n
def thenM (a b : List Nat) : List Nat := a.map fun x => b.getD x 0
def metB (a : List Nat) : Bool := decide ((uniq a).length = 1)
def mapFrom (T : Tn) (m : List Nat) (w : List Nat) : List Nat := w.foldl (fun m s => thenM m (T.maps.getD s [])) m
def mapW (T : Tn) (w : List Nat) : List Nat := mapFrom T (idMap T.many) w
/-- a map of the turns' places -/
def IsMap (n : Nat) (m : List Nat) : Prop := m.length = n ∧ ∀ x ∈ m, x < n
theorem isMap_id (n : Nat) : IsMap n (idMap n) := ⟨List.length_range, fun x h => List.mem_range.mp h⟩
theorem isMap_then {n : Nat} {a b : List Nat} (ha : IsMap n a) (hb : IsMap n b) : IsMap n (thenM a b) := by
  refine ⟨by unfold thenM; rw [List.length_map]; exact ha.1, fun x h => ?_⟩
  obtain ⟨y, hy, rfl⟩ := List.mem_map.mp h
  have hl : y < b.length := by rw [hb.1]; exact ha.2 y hy
  rw [List.getD_eq_getElem?_getD, List.getElem?_eq_getElem hl]
  exact hb.2 _ (List.getElem_mem hl)
theorem Tn.isMap (T : Tn) {s : Nat} (h : s < T.maps.length) : IsMap T.many (T.maps.getD s []) := by
  rw [List.getD_eq_getElem?_getD, List.getElem?_eq_getElem h]
  exact T.h4 _ (List.getElem_mem h)
theorem isMap_from {T : Tn} : ∀ {w : List Nat} {m : List Nat}, IsMap T.many m → (∀ s ∈ w, s < T.maps.length) → IsMap T.many (mapFrom T m w)
  | [], _, h, _ => h
  | s :: w, m, h, hs => isMap_from (w := w) (m := thenM m (T.maps.getD s [])) (isMap_then h (T.isMap (hs s List.mem_cons_self))) fun s' h' => hs s' (List.mem_cons_of_mem _ h')
theorem isMap_mapW {T : Tn} {w : List Nat} (hs : ∀ s ∈ w, s < T.maps.length) : IsMap T.many (mapW T w) := isMap_from (isMap_id _) hs
theorem getD_at {α : Type} {xs : List α} {i : Nat} {d : α} (h : i < xs.length) : xs[i]? = some (xs.getD i d) := by
  rw [List.getD_eq_getElem?_getD, List.getElem?_eq_getElem h]
  rfl
end El

set_option Elab.async false
set_option linter.all false
set_option maxRecDepth 100000
set_option maxHeartbeats 2000000
namespace El
open PySem PySem.Spec L2
section
variable {X : Cx} (K : PySem.W.Frag)
theorem kfld {e : Expr} {f : Str} {pos : Pos} {ta : TE} (he : PE X e ta) (hb : attributeBase e f X.env (eval e X.env) = eval e X.env) (hK : X.K = K := by rfl) : PE X (.Attribute e f pos) (tFld K ta f) := by
  subst hK
  exact pe_fld he hb
theorem kset {o value : Expr} {f : Str} {pos pos' : Pos} {ta tv : TE} (ha : PE X o ta) (hv : PE X value tv) (hs : swapsWith value (some (.Attribute o f pos')) pos.line X.env = pure false) (hK : X.K = K := by rfl) : PS X (.Assign [.Attribute o f pos'] value pos) (sFld K ta tv f) := by
  subst hK
  exact ps_fld ha hv hs
theorem kaug {o value : Expr} {f : Str} {pos tpos : Pos} {ta tv : TE} {op : Operator} {rd : V → V → Hp → VK → Prop} (ha : PE X o ta) (hv : PE X value tv) (hop : InOp X op rd) (hK : X.K = K := by rfl) : PS X (.AugAssign (.Attribute o f tpos) op value pos) (sFldAug K ta tv rd f) := by
  subst hK
  exact ps_fldaug ha hv hop
theorem klist {tg l : Expr} {tl : TE} (hl : PE X l tl) (hK : X.K = K := by rfl) : PI X tg l (iList K tl) := by
  subst hK
  exact pi_list hl
theorem ktup {tg l : Expr} {tl : TE} (hl : PE X l tl) (hK : X.K = K := by rfl) : PI X tg l (iTup K tl) := by
  subst hK
  exact pi_tup hl
theorem kptup {es : List Expr} {k : Nat} {t : TGs} {n : Nat} {pos : Pos} (hc : X.calm = true) (h : PGs X es t)
    (hn : (assignEach es X.env).length = n := by rfl) (hst : (assignEach es X.env).findIdx? (·.1) = none := by rfl) (hK : X.K = K := by rfl) : PG X (.Tuple es k pos) (gTup K n t) := by
  subst hK
  exact pg_tup hc h hn hst
theorem klenset {a : Expr} {ta : TE} {p p2 q pos : Pos} (hg : Gl X "len") (hm : X.mg "len" = none) (hg2 : Gl X "set") (hm2 : X.mg "set" = none) (ha : PE X a ta) (hc : X.calm = true := by rfl)
    (na : starEach [a] X.env = (false, eval a X.env) :: starEach [] X.env := by rfl) (hK : X.K = K := by rfl) : PE X (.Call (.Name "len" p) [.Call (.Name "set" p2) [a] [] q] [] pos) (tLenSetJ K ta) := by
  subst hK
  exact pe_lenSetJ hg hm hg2 hm2 ha hc na
theorem kenum {e : Expr} {ta : TA} {p pos tpos : Pos} {elts : List Expr} {kk : Nat} (hg : Gl X "enumerate") (hm : X.mg "enumerate" = none) (ha : PA X [e] ta) (hs : starEach [e] X.env = [(false, eval e X.env)] := by rfl) (hK : X.K = K := by rfl) :
    PI X (.Tuple elts kk tpos) (.Call (.Name "enumerate" p) [e] [] pos) (iEnum K ta) := by
  subst hK
  exact pi_enum hg hm ha hs
theorem kbm0 {T : String} {name : Str} {id : String} {r : V → List V → Hp → VK → Prop} {o : Expr} {to : TE} {apos cpos : Pos} (pa : PlainAttrs T) (slot : Slot T name id) (hty : typeOf (.builtin id) = pure (.type "method_descriptor")) (hm : MtR X id r) (ho : PE X o to)
    (hbase : attributeBase o name X.env (eval o X.env) = eval o X.env := by rfl) (hline : (apos.endLine == cpos.line) = true := by rfl) (hK : X.K = K := by rfl) : PE X (.Call (.Attribute o name apos) [] [] cpos) (tBM0 K T r to) := by
  subst hK
  exact pe_bm0 pa slot hty hm ho hbase hline
theorem kbm {T : String} {name : Str} {id : String} {r : V → List V → Hp → VK → Prop} {o e : Expr} {es : List Expr} {to : TE} {t : TA} {apos cpos : Pos} (pa : PlainAttrs T) (slot : Slot T name id) (hty : typeOf (.builtin id) = pure (.type "method_descriptor")) (hm : MtR X id r) (ho : PE X o to) (ha : PA X (e :: es) t)
    (hbase : attributeBase o name X.env (eval o X.env) = eval o X.env := by rfl)
    (hfew : ((backTo cpos (starEach (e :: es) X.env)).all (fun x => !x.1) && (backToKw cpos (keywordEach [] X.env)).all (fun x => x.1.isSome)
      && decide ((e :: es).length + ([] : List Keyword).length + (if ([] : List Keyword).isEmpty then 0 else 1) < 30)) = true := by rfl) 
    (hline : (apos.endLine == cpos.line) = true := by rfl) (hs : starEach (e :: es) X.env = (false, eval e X.env) :: starEach es X.env := by rfl) (hplain : (backTo cpos (starEach es X.env)).any (·.1) = false := by rfl) (hK : X.K = K := by rfl) : PE X (.Call (.Attribute o name apos) (e :: es) [] cpos) (tBM K T r to t) := by
  subst hK
  exact pe_bm pa slot hty hm ho ha hbase hfew hline hs hplain
end
end El

namespace El
open PySem PySem.Spec L2
section
variable {K : PySem.W.Frag} {σ : St} {F H F' H' : Hp} {ta tb tc te tl : TE} {α β : Type} {R : Rp α} {S : Rp β} {x : α} {y : β}
/-- o.f of an instance that may change -/
theorem ev_fldM {f : Str} {a C dx : Addr} {fs : List (Str × V)} {w : V} (ha : Ev rRef ta σ F H a) (ho : H a = some (.ins C dx fs)) (c : Cls K C) (n : NoAttr K C f) (l : fs.lookup f = some w) (s : S F w y) (m : Mn S := by infer_instance) : Ev S (tFld K ta f) σ F H y := fun F1 H1 g1 Q q =>
  ha F1 H1 g1 _ fun v F2 H2 g2 r => ⟨a, C, dx, fs, w, r, g2.hx _ _ (g1.hx _ _ ho), c, n, l, q w F2 H2 g2 (m.mono (g1.ff.trans g2.ff) s)⟩
end
/-! ### draws -/
structure DrAt (CD CT : Addr) (F H : Hp) (a l : Addr) (T : Tn) (m : List Nat) (n : Nat) (ws : List V) : Prop where
  ne : a ≠ l
  fa : F a = none
  fl : F l = none
  ha : ∃ dx tv fv, H a = some (.ins CD dx [("turns", tv), ("found", fv), ("many", .int (n : Int)), ("told", .ref l)]) ∧ rTurns CT F tv T ∧ rTup rNat F fv m
  hl : H l = some (.lst ws)
theorem DrAt.gr {CD CT : Addr} {F H F' H' : Hp} {a l : Addr} {T : Tn} {m : List Nat} {n : Nat} {ws : List V} (d : DrAt CD CT F H a l T m n ws) (g : Gr M0 F H F' H') : DrAt CD CT F' H' a l T m n ws := by
  obtain ⟨ne, fa, fl, ⟨dx, tv, fv, h1, h2, h3⟩, hl⟩ := d
  exact ⟨ne, g.nn h1 fa, g.nn hl fl, ⟨dx, tv, fv, g.hx _ _ h1, Mn.mono g.ff h2, Mn.mono g.ff h3⟩, g.hx _ _ hl⟩
def drStep (T : Tn) (p : List Nat × Nat) (s : Nat) : List Nat × Nat := if metB p.1 = true then p else (thenM (T.maps.getD s []) p.1, p.2 + 1)
def drRun (T : Tn) (w : List Nat) : List Nat × Nat := w.foldl (drStep T) (idMap T.many, 0)
def plc (m : List Nat) : Option Nat := if metB m = true then some (m.headD 0) else none
def drawnM (T : Tn) (w : List Nat) : Option (Nat × Nat) := match plc (drRun T w).1 with
  | none => none
  | some p => some (p, (drRun T w).2)
/-- what begins a draw -/
def SpDraw (CD CT : Addr) : Sp := fun vs H Q _ => ∃ (F : Hp) (a dx : Addr) (tv : V) (T : Tn), vs = [.ref a, tv] ∧ Ex F H ∧ F a = none ∧ H a = some (.ins CD dx []) ∧ rTurns CT F tv T ∧
  ∀ l F' H', Gr (M1 a) F H F' H' → H l = none → DrAt CD CT F' H' a l T (idMap T.many) 0 [] → Q .non H'
def SpElder (CD CT : Addr) : Sp := fun vs H Q _ => ∃ (F : Hp) (a l : Addr) (T : Tn) (m : List Nat) (n : Nat) (ws : List V) (s : Nat), vs = [.ref a, .int (s : Int)] ∧ Ex F H ∧ DrAt CD CT F H a l T m n ws ∧ IsMap T.many m ∧ s < T.maps.length ∧ ws.length ≤ 1000000 ∧
  ∀ v F' H', Gr (fun b => b = a ∨ b = l) F H F' H' → DrAt CD CT F' H' a l T (drStep T (m, n) s).1 (drStep T (m, n) s).2 (ws ++ [.int (s : Int)]) → rOpt rNat F' v (plc (drStep T (m, n) s).1) → Q v H'
def SpPlace (CD CT : Addr) : Sp := fun vs H Q _ => ∃ (F : Hp) (a l : Addr) (T : Tn) (m : List Nat) (n : Nat) (ws : List V), vs = [.ref a] ∧ Ex F H ∧ DrAt CD CT F H a l T m n ws ∧ IsMap T.many m ∧
  ∀ v F' H', Gr M0 F H F' H' → rOpt rNat F' v (plc m) → Q v H'
def SpUsed (CD CT : Addr) : Sp := fun vs H Q _ => ∃ (F : Hp) (a l : Addr) (T : Tn) (m : List Nat) (n : Nat) (ws : List V), vs = [.ref a] ∧ Ex F H ∧ DrAt CD CT F H a l T m n ws ∧
  ∀ v F' H', Gr M0 F H F' H' → rNat F' v n → Q v H'
section
variable {K : PySem.W.Frag} {σ : St} {F H F' H' : Hp} {ta : TE} {CD CT a l : Addr} {T : Tn} {m : List Nat} {n : Nat} {ws : List V} {E : XK}
theorem ev_place (ha : Ev rRef ta σ F H a) (d : DrAt CD CT F H a l T m n ws) (hm : IsMap T.many m) : Ev (rOpt rNat) (tMeth CD "place" (SpPlace CD CT) [] E ta tNil) σ F H (plc m) := fun F1 H1 g1 Q q =>
  ha F1 H1 g1 _ fun v F2 H2 g2 r => by
    cases (show v = _ from r)
    have d2 := d.gr (g1.trans g2)
    obtain ⟨dx, tv, fv, h1, h2, h3⟩ := id d2.ha
    exact ⟨a, dx, _, rfl, h1, rfl, F2, a, l, T, m, n, ws, rfl, g2.fh, d2, hm, fun v F' H' g k => q v F' H' (g2.trans g) k⟩
theorem ev_used (ha : Ev rRef ta σ F H a) (d : DrAt CD CT F H a l T m n ws) : Ev rNat (tMeth CD "used" (SpUsed CD CT) [] E ta tNil) σ F H n := fun F1 H1 g1 Q q =>
  ha F1 H1 g1 _ fun v F2 H2 g2 r => by
    cases (show v = _ from r)
    have d2 := d.gr (g1.trans g2)
    obtain ⟨dx, tv, fv, h1, h2, h3⟩ := id d2.ha
    exact ⟨a, dx, _, rfl, h1, rfl, F2, a, l, T, m, n, ws, rfl, g2.fh, d2, fun v F' H' g k => q v F' H' (g2.trans g) k⟩
end
theorem isMap_step {T : Tn} {p : List Nat × Nat} {s : Nat} (h : IsMap T.many p.1) (hs : s < T.maps.length) : IsMap T.many (drStep T p s).1 := by
  unfold drStep
  split
  · exact h
  · exact isMap_then (T.isMap hs) h
theorem isMap_run {T : Tn} {w : List Nat} (hs : ∀ s ∈ w, s < T.maps.length) : IsMap T.many (drRun T w).1 := by
  have : ∀ (w : List Nat) (p : List Nat × Nat), IsMap T.many p.1 → (∀ s ∈ w, s < T.maps.length) → IsMap T.many (w.foldl (drStep T) p).1 := fun w => by
    induction w with
    | nil => exact fun p h _ => h
    | cons s w ih => exact fun p h hs => ih _ (isMap_step h (hs s List.mem_cons_self)) fun s' h' => hs s' (List.mem_cons_of_mem _ h')
  exact this w _ (isMap_id _) hs
theorem headD_lt {n : Nat} {m : List Nat} (h : IsMap n m) (h0 : 1 ≤ n) : m.headD 0 < n := by
  cases m with
  | nil => have := h.1; simp at this; omega
  | cons a m => exact h.2 a List.mem_cons_self
theorem at0 {m : List Nat} (h : 1 ≤ m.length) : atI m 0 = some (m.headD 0) := by
  cases m with
  | nil => simp at h
  | cons a m => exact atI_natL (n := 0) rfl
end El
namespace El
open PySem PySem.Spec L2
theorem Gr.seq0 {M : Addr → Prop} {F H F1 H1 F2 H2 : Hp} (g : Gr M0 F H F1 H1) (g2 : Gr M F1 H1 F2 H2) (n : ∀ b, M b → H b = none) : Gr M0 F H F2 H2 where
  ff := g.ff.trans g2.ff
  fh := g2.fh
  hh := fun b o _ h => g2.hh b o (fun z => by rw [n b z] at h; cases h) (g.hx b o h)
  nw := fun b _ h f => g2.nw b (fun z => h (n b z)) (g.dm b h) (g.nw b (fun z => z) h f)
  dm := fun b h => g2.dm b (g.dm b h)
/-- a new instance, its dict laid -/
theorem Gr.make {F H F' H' : Hp} {x dx C : Addr} (e : Ex F H) (nx : H x = none) (ndx : H dx = none) (nex : dx ≠ x) (g : Gr (M1 x) F (upd (upd H dx (.own x)) x (.ins C dx [])) F' H') : Gr M0 F H F' H' where
  ff := g.ff
  fh := g.fh
  hh := fun b o _ h => by
    have b1 : b ≠ x := fun z => by subst z; rw [nx] at h; cases h
    have b2 : b ≠ dx := fun z => by subst z; rw [ndx] at h; cases h
    exact g.hh b o b1 (by rw [upd_ne b1, upd_ne b2]; exact h)
  nw := fun b _ h n => by
    have b1 : b ≠ x := fun z => h (z ▸ nx)
    have b2 : b ≠ dx := fun z => h (z ▸ ndx)
    exact g.nw b b1 (by rw [upd_ne b1, upd_ne b2]; exact h) n
  dm := fun b h => by
    have b1 : b ≠ x := fun z => h (z ▸ nx)
    have b2 : b ≠ dx := fun z => h (z ▸ ndx)
    exact g.dm b (by rw [upd_ne b1, upd_ne b2]; exact h)
theorem Ex.make {F H : Hp} {x dx C : Addr} (e : Ex F H) (nx : H x = none) (ndx : H dx = none) : Ex F (upd (upd H dx (.own x)) x (.ins C dx [])) := (e.mut (e.free ndx)).mut (e.free nx)
/-! reading once -/
def roLoop (t : Tn) (long : Nat) (w : List Nat) : Nat → Nat → Option Nat → Option (Nat × Nat)
  | 0, _, _ => none
  | n + 1, k, none => roLoop t long w n (k + 1) (plc (mapW t ((w.drop (k * long)).take long)))
  | n + 1, k, some s => if metB (mapW t ((w.drop (k * long)).take long)) = true then some (s, k + 1) else roLoop t long w n (k + 1) (some ((mapW t ((w.drop (k * long)).take long)).getD s 0))
def readOnceM (t : Tn) (long : Nat) (w : List Nat) : Option (Nat × Nat) := roLoop t long w (w.length / long) 0 none
end El

set_option Elab.async false
set_option linter.all false
set_option maxRecDepth 100000
set_option maxHeartbeats 2000000
namespace El
open PySem PySem.Spec L2
/-! ### what draws of a source -/
def EvS {α : Type} (a : Addr) (c : Nat) (R : Rp α) (te : TE) (σ : St) (F H : Hp) (P : α → Prop) : Prop :=
  ∀ F1 H1 N, Gr (M1 a) F H F1 H1 → F1 a = none → Src H1 a (N + c) → ∀ Q : VK, (∀ v x F2 H2, Gr (M1 a) F1 H1 F2 H2 → F2 a = none → Src H2 a N → P x → R F2 v x → Q v H2) → te σ H1 Q
def EvTS (a : Addr) (c : Nat) (tt : TT) (σ : St) (F H : Hp) (P : Bool → Prop) : Prop :=
  ∀ F1 H1 N, Gr (M1 a) F H F1 H1 → F1 a = none → Src H1 a (N + c) → ∀ Q : Bool → Hp → Prop, (∀ b F2 H2, Gr (M1 a) F1 H1 F2 H2 → F2 a = none → Src H2 a N → P b → Q b H2) → tt σ H1 Q
def SpS0 (c : Nat) {β : Type} (S : Rp β) (P : β → Prop) : Sp := fun vs H Q _ => ∃ F a N, vs = [.ref a] ∧ Ex F H ∧ F a = none ∧ Src H a (N + c) ∧
  ∀ w y F' H', Gr (M1 a) F H F' H' → F' a = none → Src H' a N → P y → S F' w y → Q w H'
def SpS1 (c : Nat) {α β : Type} (R : Rp α) (Pre : α → Prop) (S : Rp β) (P : α → β → Prop) : Sp := fun vs H Q _ => ∃ F a N v x, vs = [.ref a, v] ∧ Ex F H ∧ F a = none ∧ Src H a (N + c) ∧ R F v x ∧ Pre x ∧
  ∀ w y F' H', Gr (M1 a) F H F' H' → F' a = none → Src H' a N → P x y → S F' w y → Q w H'
def SpS2 (c : Nat) {α β γ : Type} (R : Rp α) (R2 : Rp γ) (Pre : α → γ → Prop) (S : Rp β) (P : α → γ → β → Prop) : Sp := fun vs H Q _ => ∃ F a N v u x z, vs = [.ref a, v, u] ∧ Ex F H ∧ F a = none ∧ Src H a (N + c) ∧ R F v x ∧ R2 F u z ∧ Pre x z ∧
  ∀ w y F' H', Gr (M1 a) F H F' H' → F' a = none → Src H' a N → P x z y → S F' w y → Q w H'
class SpLen (sp : Sp) (n : outParam Nat) : Prop where
  len : ∀ {vs H Q E}, sp vs H Q E → vs.length = n
section
variable {α β γ δ ε : Type} {R : Rp α} {S : Rp β} {T : Rp γ} {U : Rp δ} {W : Rp ε}
instance {p : α → Prop} {f : α → β} : SpLen (Sp1 R p S f) 1 := ⟨fun ⟨_, _, _, h, _⟩ => by rw [h]; rfl⟩
instance {p : α → β → Prop} {f : α → β → γ} : SpLen (Sp2 R S p T f) 2 := ⟨fun ⟨_, _, _, _, _, h, _⟩ => by rw [h]; rfl⟩
instance {p : α → β → γ → Prop} {f : α → β → γ → δ} : SpLen (Sp3 R S T p U f) 3 := ⟨fun ⟨_, _, _, _, _, _, _, h, _⟩ => by rw [h]; rfl⟩
instance {p : α → β → γ → δ → Prop} {f : α → β → γ → δ → ε} : SpLen (Sp4 R S T U p W f) 4 := ⟨fun ⟨_, _, _, _, _, _, _, _, _, h, _⟩ => by rw [h]; rfl⟩
instance {c : Nat} {P : β → Prop} : SpLen (SpS0 c S P) 1 := ⟨fun ⟨_, _, _, h, _⟩ => by rw [h]; rfl⟩
instance {c : Nat} {p : α → Prop} {P : α → β → Prop} : SpLen (SpS1 c R p S P) 2 := ⟨fun ⟨_, _, _, _, _, h, _⟩ => by rw [h]; rfl⟩
instance {c : Nat} {p : α → γ → Prop} {P : α → γ → β → Prop} : SpLen (SpS2 c R T p S P) 3 := ⟨fun ⟨_, _, _, _, _, _, _, h, _⟩ => by rw [h]; rfl⟩
instance {a b : Addr} : SpLen (SpDraw a b) 2 := ⟨fun ⟨_, _, _, _, _, h, _⟩ => by rw [h]; rfl⟩
instance {a b : Addr} : SpLen (SpElder a b) 2 := ⟨fun ⟨_, _, _, _, _, _, _, _, h, _⟩ => by rw [h]; rfl⟩
instance {a b : Addr} : SpLen (SpPlace a b) 1 := ⟨fun ⟨_, _, _, _, _, _, _, h, _⟩ => by rw [h]; rfl⟩
instance {a b : Addr} : SpLen (SpUsed a b) 1 := ⟨fun ⟨_, _, _, _, _, _, _, h, _⟩ => by rw [h]; rfl⟩
instance {C : Addr} : SpLen (SpTurns C) 3 := ⟨fun ⟨_, _, _, _, _, h, _⟩ => by rw [h]; rfl⟩
end
section
variable {K : PySem.W.Frag} {σ : St} {F H F' H' : Hp} {ta tb tc te tl : TE} {tt t u : TT} {α β γ δ ε : Type} {R : Rp α} {S : Rp β} {T : Rp γ} {x : α} {y : β} {z : γ} {xs : List α} {a : Addr} {c c1 c2 N : Nat} {P P1 : α → Prop} {P2 : β → Prop} {D : Ends} {ts tu : TS} {E : XK}
theorem EvS.mono {c' : Nat} {P' : α → Prop} (h : EvS a c R te σ F H P) (hp : ∀ x, P x → P' x) (hc : c ≤ c') : EvS a c' R te σ F H P' := fun F1 H1 N g fa s Q q =>
  h F1 H1 (N + (c' - c)) g fa (s.le (by omega)) Q fun v x F2 H2 g2 fa2 s2 p r => q v x F2 H2 g2 fa2 (s2.le (by omega)) (hp x p) r
theorem EvS.gr (h : EvS a c R te σ F H P) (g : Gr (M1 a) F H F' H') : EvS a c R te σ F' H' P := fun F1 H1 N g1 fa s Q q => h F1 H1 N (g.trans g1) fa s Q q
theorem Src.someO {H : Hp} (s : Src H a N) : ∃ o, H a = some o := by
  obtain ⟨n, c, k, h, _⟩ := s
  exact ⟨_, h⟩
theorem es_pure (h : ∀ F1 H1, Gr (M1 a) F H F1 H1 → F1 a = none → Ev R te σ F1 H1 x) : EvS a 0 R te σ F H (fun y => y = x) := fun F1 H1 N g fa s Q q =>
  h F1 H1 g fa F1 H1 (.refl g.fh) Q fun v F2 H2 g2 r => by
    obtain ⟨o, ho⟩ := s.someO
    exact q v x F2 H2 g2.up (g2.nn ho fa) (s.gr g2) rfl r
theorem ets_pure {b : Bool} (h : ∀ F1 H1, Gr (M1 a) F H F1 H1 → F1 a = none → EvT tt σ F1 H1 b) : EvTS a 0 tt σ F H (fun y => y = b) := fun F1 H1 N g fa s Q q =>
  h F1 H1 g fa F1 H1 (.refl g.fh) Q fun F2 H2 g2 => by
    obtain ⟨o, ho⟩ := s.someO
    exact q b F2 H2 g2.up (g2.nn ho fa) (s.gr g2) rfl
theorem es_var {i : Nat} {v : V} (h : σ[i]? = some (some v)) (r : R F v x) (m : Mn R := by infer_instance) : EvS a 0 R (tVar i) σ F H (fun y => y = x) := es_pure fun F1 H1 g _ => ev_var h (m.mono g.ff r)
theorem es_int {i : Int} : EvS a 0 rInt (tC (.int i)) σ F H (fun y => y = i) := es_pure fun _ _ _ _ => ev_int
theorem ev_lit {i : Int} {n : Nat} (h : i = (n : Int) := by rfl) : Ev rNat (tC (.int i)) σ F H n := by
  subst h
  exact ev_int
theorem es_lit {i : Int} {n : Nat} (h : i = (n : Int) := by rfl) : EvS a 0 rNat (tC (.int i)) σ F H (fun y => y = n) := es_pure fun _ _ _ _ => ev_lit h
theorem EvS.nat {P : Nat → Prop} (h : EvS a c rNat te σ F H P) : EvS a c rInt te σ F H (fun i => ∃ n : Nat, i = (n : Int) ∧ P n) := fun F1 H1 N g fa s Q q =>
  h F1 H1 N g fa s Q fun v x F2 H2 g2 fa2 s2 p r => q v (x : Int) F2 H2 g2 fa2 s2 ⟨x, rfl, p⟩ r
theorem EvS.toNat {P : Int → Prop} {P' : Nat → Prop} (h : EvS a c rInt te σ F H P) (hp : ∀ i, P i → ∃ n : Nat, i = (n : Int) ∧ P' n) : EvS a c rNat te σ F H P' := fun F1 H1 N g fa s Q q =>
  h F1 H1 N g fa s Q fun v x F2 H2 g2 fa2 s2 p r => by
    obtain ⟨n, rfl, p'⟩ := hp x p
    exact q v n F2 H2 g2 fa2 s2 p' r
/-- two parts, one behind the other -/
theorem es_two {r : R2} {P' : γ → Prop} (ha : EvS a c1 R ta σ F H P1) (hb : EvS a c2 S tb σ F H P2) (m : Mn R)
    (k : ∀ F3 H3 N v w x y (Q : VK), Ex F3 H3 → F3 a = none → Src H3 a N → P1 x → P2 y → R F3 v x → S F3 w y → (∀ u z F4 H4, Gr M0 F3 H3 F4 H4 → P' z → T F4 u z → Q u H4) → r v w H3 Q) : EvS a (c1 + c2) T (tOp r ta tb) σ F H P' := fun F1 H1 N g fa s Q q =>
  ha F1 H1 (N + c2) g fa (s.le (by omega)) _ fun v x F2 H2 g2 fa2 s2 p1 r1 => hb F2 H2 N (g.trans g2) fa2 s2 _ fun w y F3 H3 g3 fa3 s3 p2 r2 =>
    k F3 H3 N v w x y Q g3.fh fa3 s3 p1 p2 (m.mono g3.ff r1) r2 fun u z F4 H4 g4 p4 r4 => by
      obtain ⟨o, ho⟩ := s3.someO
      exact q u z F4 H4 ((g2.trans g3).trans g4.up) (g4.nn ho fa3) (s3.gr g4) p4 r4
theorem es_I0 {P1 P2 : Int → Prop} {g : Int → Int → V} {f : Int → Int → γ} (ha : EvS a c1 rInt ta σ F H P1) (hb : EvS a c2 rInt tb σ F H P2) (hz : ∀ F i j, T F (g i j) (f i j)) : EvS a (c1 + c2) T (tOp (rI0 g) ta tb) σ F H (fun z => ∃ i j, P1 i ∧ P2 j ∧ z = f i j) :=
  es_two ha hb inferInstance fun F3 H3 N v w i j Q e fa s p1 p2 r1 r2 q => ⟨i, j, r1, r2, q _ _ F3 H3 (.refl e) ⟨i, j, p1, p2, rfl⟩ (hz F3 i j)⟩
theorem es_I {P1 P2 : Int → Prop} {C : Int → Int → Prop} {g : Int → Int → V} {f : Int → Int → γ} (ha : EvS a c1 rInt ta σ F H P1) (hb : EvS a c2 rInt tb σ F H P2) (hc : ∀ i j, P1 i → P2 j → C i j) (hz : ∀ F i j, T F (g i j) (f i j)) : EvS a (c1 + c2) T (tOp (rI C g) ta tb) σ F H (fun z => ∃ i j, P1 i ∧ P2 j ∧ z = f i j) :=
  es_two ha hb inferInstance fun F3 H3 N v w i j Q e fa s p1 p2 r1 r2 q => ⟨i, j, r1, r2, hc i j p1 p2, q _ _ F3 H3 (.refl e) ⟨i, j, p1, p2, rfl⟩ (hz F3 i j)⟩
theorem es_add {P1 P2 : Int → Prop} (ha : EvS a c1 rInt ta σ F H P1) (hb : EvS a c2 rInt tb σ F H P2) : EvS a (c1 + c2) rInt (tOp (rI0 fun i j => .int (i + j)) ta tb) σ F H (fun z => ∃ i j, P1 i ∧ P2 j ∧ z = i + j) := es_I0 ha hb fun _ _ _ => rfl
theorem es_sub {P1 P2 : Int → Prop} (ha : EvS a c1 rInt ta σ F H P1) (hb : EvS a c2 rInt tb σ F H P2) : EvS a (c1 + c2) rInt (tOp (rI0 fun i j => .int (i - j)) ta tb) σ F H (fun z => ∃ i j, P1 i ∧ P2 j ∧ z = i - j) := es_I0 ha hb fun _ _ _ => rfl
theorem es_mul {P1 P2 : Int → Prop} (ha : EvS a c1 rInt ta σ F H P1) (hb : EvS a c2 rInt tb σ F H P2) (hc : ∀ i j, P1 i → P2 j → CMul i j) : EvS a (c1 + c2) rInt (tOp (rI CMul fun i j => .int (i * j)) ta tb) σ F H (fun z => ∃ i j, P1 i ∧ P2 j ∧ z = i * j) := es_I ha hb hc fun _ _ _ => rfl
theorem es_eqI {P1 P2 : Int → Prop} (ha : EvS a c1 rInt ta σ F H P1) (hb : EvS a c2 rInt tb σ F H P2) : EvS a (c1 + c2) rBl (tOp rEq ta tb) σ F H (fun z => ∃ i j, P1 i ∧ P2 j ∧ z = decide (i = j)) :=
  es_two ha hb inferInstance fun F3 H3 N v w i j Q e fa s p1 p2 r1 r2 q => by
    cases (show v = _ from r1)
    cases (show w = _ from r2)
    refine ⟨rfl, ?_⟩
    have e1 : decide (V.int i = V.int j) = decide (i = j) := by simp
    rw [e1]
    exact q _ _ F3 H3 (.refl e) ⟨i, j, p1, p2, rfl⟩ rfl
theorem es_gtI {P1 P2 : Int → Prop} (ha : EvS a c1 rInt ta σ F H P1) (hb : EvS a c2 rInt tb σ F H P2) : EvS a (c1 + c2) rBl (tOp (rI0 fun i j => .bl (decide (j < i))) ta tb) σ F H (fun z => ∃ i j, P1 i ∧ P2 j ∧ z = decide (j < i)) := es_I0 ha hb fun _ _ _ => rfl
/-- an item of a frozen list, at a drawn place -/
theorem es_ixL {P2 : Int → Prop} (ha : ∀ F1 H1, Gr (M1 a) F H F1 H1 → F1 a = none → Ev (rLst R) ta σ F1 H1 xs) (hb : EvS a c rInt tb σ F H P2) (h : ∀ i, P2 i → ∃ x, atI xs i = some x) (m : Mn R := by infer_instance) : EvS a c R (tOp (rIxL K) ta tb) σ F H (fun x => ∃ i, P2 i ∧ atI xs i = some x) :=
  (es_two (es_pure ha) hb inferInstance fun F3 H3 N v w ys i Q e fa s p1 p2 ⟨b, vs, eb, hl, p⟩ r2 q => by
    subst p1
    obtain ⟨x, hx⟩ := h i p2
    obtain ⟨y, hy, ry⟩ := atI_paired p hx
    exact ⟨b, vs, i, y, eb, r2, SqL.of (e _ _ hl), hy, q y x F3 H3 (.refl e) ⟨i, p2, hx⟩ ry⟩).mono (fun _ h => h) (by omega)
theorem es_pr {P1 : α → Prop} (ha : EvS a c1 R ta σ F H P1) (hb : EvS a c2 S tb σ F H P2) (m : Mn R := by infer_instance) (n : Mn S := by infer_instance) : EvS a (c1 + c2) (rPr R S) (tTup (tCons ta (tCons tb tNil))) σ F H (fun p => P1 p.1 ∧ P2 p.2) := fun F1 H1 N g fa s Q q =>
  ha F1 H1 (N + c2) g fa (s.le (by omega)) _ fun v x F2 H2 g2 fa2 s2 p1 r1 => hb F2 H2 N (g.trans g2) fa2 s2 _ fun w y F3 H3 g3 fa3 s3 p2 r2 => ⟨by show 2 ≤ sizeLine; decide, fun B hB => by
    have g4 : Gr M0 F3 H3 (upd F3 B (.tup [v, w])) (upd H3 B (.tup [v, w])) := .new g3.fh hB
    obtain ⟨o, ho⟩ := s3.someO
    exact q _ (x, y) _ _ ((g2.trans g3).trans g4.up) (g4.nn ho fa3) (s3.gr g4) ⟨p1, p2⟩ ⟨B, v, w, rfl, upd_same, m.mono (g3.ff.trans g4.ff) r1, n.mono g4.ff r2⟩⟩
theorem es_tupL {P : List α → Prop} (ha : EvS a c (rLst R) ta σ F H P) (m : Mn R := by infer_instance) : EvS a c (rTup R) (tCB (rTupS K) (tCons ta tNil)) σ F H P := fun F1 H1 N g fa s Q q =>
  ha F1 H1 N g fa s _ fun v x F2 H2 g2 fa2 s2 p ⟨b, vs, e, hl, pr⟩ => ⟨b, vs, by rw [e], .inl ⟨SqL.of (g2.fh _ _ hl), fun B hB => by
    have g4 : Gr M0 F2 H2 (upd F2 B (.tup vs)) (upd H2 B (.tup vs)) := .new g2.fh hB
    obtain ⟨o, ho⟩ := s2.someO
    exact q _ x _ _ (g2.trans g4.up) (g4.nn ho fa2) (s2.gr g4) p ⟨B, vs, rfl, upd_same, Paired.up g4.ff pr⟩⟩⟩
/-! calls -/
theorem es_call0 {i : Nat} (hv : σ[i]? = some (some (.ref a))) : EvS a c S (tCall (SpS0 c S P2) [] E (tCons (tVar i) tNil)) σ F H P2 := fun F1 H1 N g fa s Q q =>
  ⟨.ref a, hv, F1, a, N, rfl, g.fh, fa, s, fun w y F' H' g' fa' s' p r => q w y F' H' g' fa' s' p r⟩
theorem es_call1 {i : Nat} {Pre : α → Prop} {P' : α → β → Prop} (hv : σ[i]? = some (some (.ref a))) (hb : EvS a c2 R tb σ F H P1) (hp : ∀ x, P1 x → Pre x) : EvS a (c2 + c) S (tCall (SpS1 c R Pre S P') [] E (tCons (tVar i) (tCons tb tNil))) σ F H (fun y => ∃ x, P1 x ∧ P' x y) := fun F1 H1 N g fa s Q q =>
  ⟨.ref a, hv, hb F1 H1 (N + c) g fa (s.le (by omega)) _ fun v x F2 H2 g2 fa2 s2 p r => ⟨F2, a, N, v, x, rfl, g2.fh, fa2, s2, r, hp x p, fun w y F' H' g' fa' s' p' r' => q w y F' H' (g2.trans g') fa' s' ⟨x, p, p'⟩ r'⟩⟩
theorem es_call2 {i : Nat} {Pre : α → γ → Prop} {P' : α → γ → β → Prop} {P3 : γ → Prop} {c3 : Nat} (hv : σ[i]? = some (some (.ref a))) (hb : EvS a c2 R tb σ F H P1) (hc : EvS a c3 T tc σ F H P3) (hp : ∀ x z, P1 x → P3 z → Pre x z) (m : Mn R := by infer_instance) : EvS a (c2 + c3 + c) S (tCall (SpS2 c R T Pre S P') [] E (tCons (tVar i) (tCons tb (tCons tc tNil)))) σ F H (fun y => ∃ x z, P1 x ∧ P3 z ∧ P' x z y) := fun F1 H1 N g fa s Q q =>
  ⟨.ref a, hv, hb F1 H1 (N + c3 + c) g fa (s.le (by omega)) _ fun v x F2 H2 g2 fa2 s2 p r => hc F2 H2 (N + c) (g.trans g2) fa2 (s2.le (by omega)) _ fun u z F3 H3 g3 fa3 s3 p3 r3 => ⟨F3, a, N, v, u, x, z, rfl, g3.fh, fa3, s3, m.mono g3.ff r, r3, hp x z p p3, fun w y F' H' g' fa' s' p' r' => q w y F' H' ((g2.trans g3).trans g') fa' s' ⟨x, z, p, p3, p'⟩ r'⟩⟩
/-! [elt for k in range(n)] -/
theorem es_lcR {j B : Nat} {vs : List Nat} {P1 : Int → Prop} {P2 : Nat → β → Prop} (h : EvS a c1 rInt ta σ F H P1) (hn : ∀ n, P1 n → 0 ≤ n ∧ n ≤ (B : Int)) (hB : B ≤ 1000000) (hw : ∀ v, wipe ((wipe σ vs).set j (some v)) vs = wipe σ vs)
    (he : ∀ i : Nat, i < B → ∀ F1 H1, Gr (M1 a) F H F1 H1 → F1 a = none → EvS a c2 S te ((wipe σ vs).set j (some (.int (i : Int)))) F1 H1 (P2 i)) (m' : Mn S := by infer_instance) :
    EvS a (c1 + B * c2) (rLst S) (tLc (iRng1 (tCons ta tNil)) (gName j) tYes te vs) σ F H (fun l => ∃ n, P1 n ∧ (l.length : Int) = n ∧ ∀ (i : Nat) x, l[i]? = some x → P2 i x) := by
  intro F1 H1 N g1 fa s Q q
  refine h F1 H1 (N + B * c2) g1 fa (s.le (by omega)) _ fun v n F2 H2 g2 fa2 s2 p ea => ?_
  obtain ⟨n0, n1⟩ := hn n p
  refine ⟨n, by rw [show v = _ from ea], by omega, by omega, fun B' hD => ?_⟩
  obtain ⟨k, hk⟩ : ∃ k : Nat, n = (k : Int) := ⟨n.toNat, by omega⟩
  subst hk
  rw [Int.toNat_natCast]
  have hne : B' ≠ a := fun z => by
    subst z
    exact s2.hn hD
  refine lc_range (lo := 0) (n := k) (fun i H' => ∃ F' us l, Gr (M1 a) F2 H2 F' H' ∧ F' a = none ∧ Src H' a (N + (B - i) * c2) ∧ F' B' = none ∧ H' B' = some (.lst us) ∧ l.length = i ∧ Paired (S F') us l ∧ ∀ (t : Nat) x, l[t]? = some x → P2 t x)
    ⟨F2, [], [], .loc g2.fh hD, fa2, (by rw [Nat.sub_zero]; exact s2.ex (upd_ne hne.symm)), g2.fh.free hD, upd_same, rfl, .nil, fun t x hx => by simp at hx⟩ ?_ ?_
  · rintro i H' hi ⟨F', us, l, g, fa', s', fD, hD', hl, pu, hP⟩
    have e0 : (0 : Int) + (i : Int) = (i : Int) := Int.zero_add _
    rw [e0]
    refine ⟨hw _, ?_⟩
    have hb : (B - i) * c2 = (B - (i + 1)) * c2 + c2 := by
      rw [show B - i = (B - (i + 1)) + 1 by omega, Nat.succ_mul]
    refine he i (by omega) F' H' ((g1.trans g2).trans g) fa' F' H' (N + (B - (i + 1)) * c2) (.refl g.fh) fa' (s'.le (by omega)) _ fun u y F3 H3 g3 fa3 s3 py r3 => ?_
    have hD3 : H3 B' = some (.lst us) := g3.hh _ _ hne hD'
    have fD3 : F3 B' = none := g3.nw B' hne (by rw [hD']; exact fun z => nomatch z) fD
    refine ⟨us, hD3, ?_, F3, us ++ [u], l ++ [y], (g.trans g3).set' fD3 (.inl hD), fa3, s3.ex (upd_ne hne.symm), fD3, upd_same, by rw [List.length_append, hl]; rfl, (Paired.up g3.ff pu).snoc r3, ?_⟩
    · rw [pu.length, hl, sizeLine_eq]
      omega
    · intro t x hx
      by_cases ht : t < l.length
      · rw [List.getElem?_append_left ht] at hx
        exact hP t x hx
      · have ht2 : t < (l ++ [y]).length := (List.getElem?_eq_some_iff.mp hx).1
        rw [List.length_append] at ht2
        have e1 : t = l.length := by simp at ht2; omega
        subst e1
        rw [List.getElem?_append_right (Nat.le_refl _), Nat.sub_self] at hx
        cases hx
        rw [hl]
        exact py
  · rintro H' ⟨F', us, l, g, fa', s', fD, hD', hl, pu, hP⟩
    exact q _ l _ _ (g2.trans (g.frz hD' (g2.fh.free hD) (.inl hD))) (by rw [upd_ne hne.symm]; exact fa') (s'.le (Nat.le_add_right _ _)) ⟨(k : Int), p, by rw [hl], hP⟩ ⟨B', us, rfl, upd_same, Paired.up (g.fh.frz hD' fD) pu⟩
theorem es_callP {i : Nat} {Pre : α → Prop} {P' : α → β → Prop} (hv : σ[i]? = some (some (.ref a))) (hb : ∀ F1 H1, Gr (M1 a) F H F1 H1 → F1 a = none → Ev R tb σ F1 H1 x) (hp : Pre x) : EvS a c S (tCall (SpS1 c R Pre S P') [] E (tCons (tVar i) (tCons tb tNil))) σ F H (fun y => P' x y) :=
  (es_call1 hv (es_pure hb) (fun z e => by rw [e]; exact hp)).mono (fun y ⟨z, e, p⟩ => by rw [← e]; exact p) (by omega)
theorem es_callP2 {i : Nat} {Pre : α → γ → Prop} {P' : α → γ → β → Prop} (hv : σ[i]? = some (some (.ref a))) (hb : ∀ F1 H1, Gr (M1 a) F H F1 H1 → F1 a = none → Ev R tb σ F1 H1 x) (hc : ∀ F1 H1, Gr (M1 a) F H F1 H1 → F1 a = none → Ev T tc σ F1 H1 z) (hp : Pre x z) (m : Mn R := by infer_instance) : EvS a c S (tCall (SpS2 c R T Pre S P') [] E (tCons (tVar i) (tCons tb (tCons tc tNil)))) σ F H (fun y => P' x z y) :=
  (es_call2 hv (es_pure hb) (es_pure hc) (fun u w e e2 => by rw [e, e2]; exact hp) m).mono (fun y ⟨u, w, e, e2, p⟩ => by rw [← e, ← e2]; exact p) (by omega)
theorem es_lcRP {j n B : Nat} {vs : List Nat} {P2 : Nat → β → Prop} (h : ∀ F1 H1, Gr (M1 a) F H F1 H1 → F1 a = none → Ev rInt ta σ F1 H1 (n : Int)) (hn : n ≤ B) (hB : B ≤ 1000000) (hw : ∀ v, wipe ((wipe σ vs).set j (some v)) vs = wipe σ vs)
    (he : ∀ i : Nat, i < n → ∀ F1 H1, Gr (M1 a) F H F1 H1 → F1 a = none → EvS a c2 S te ((wipe σ vs).set j (some (.int (i : Int)))) F1 H1 (P2 i)) (m' : Mn S := by infer_instance) :
    EvS a (B * c2) (rLst S) (tLc (iRng1 (tCons ta tNil)) (gName j) tYes te vs) σ F H (fun l => l.length = n ∧ ∀ (i : Nat) x, l[i]? = some x → P2 i x) :=
  (es_lcR (B := n) (es_pure h) (fun k e => by rw [e]; omega) (by omega) hw he m').mono (fun l ⟨k, e, hl, p⟩ => ⟨by omega, p⟩) (by rw [Nat.zero_add]; exact Nat.mul_le_mul_right _ hn)
/-! tests -/
theorem ets_test {P : Bool → Prop} (h : EvS a c rBl te σ F H P) : EvTS a c (tTest te) σ F H P := fun F1 H1 N g fa s Q q => h F1 H1 N g fa s _ fun v b F2 H2 g2 fa2 s2 p r => ⟨b, r, q b F2 H2 g2 fa2 s2 p⟩
theorem ets_B {P : Bool → Prop} (h : EvS a c rBl te σ F H P) : EvTS a c (tB te) σ F H P := fun F1 H1 N g fa s Q q => h F1 H1 N g fa s _ fun v b F2 H2 g2 fa2 s2 p r => ⟨b, r, q b F2 H2 g2 fa2 s2 p⟩
theorem ets_and {P1 P2 : Bool → Prop} (h1 : EvTS a c1 t σ F H P1) (h2 : EvTS a c2 u σ F H P2) : EvTS a (c1 + c2) (tAnd t u) σ F H (fun b => b = true → P1 true ∧ P2 true) := fun F1 H1 N g fa s Q q =>
  h1 F1 H1 (N + c2) g fa (s.le (by omega)) _ fun b F2 H2 g2 fa2 s2 p => by
    cases b with
    | true => exact h2 F2 H2 N (g.trans g2) fa2 s2 _ fun b F3 H3 g3 fa3 s3 p3 => q b F3 H3 (g2.trans g3) fa3 s3 fun e => ⟨p, e ▸ p3⟩
    | false => exact q false F2 H2 g2 fa2 (s2.le (by omega)) fun e => nomatch e
/-! statements -/
theorem x_setS {i : Nat} (h : EvS a c R te σ F H P) (e : Ex F H) (fa : F a = none) (s : Src H a N) (hc : c ≤ N) (k : ∀ v x F' H', Gr (M1 a) F H F' H' → F' a = none → Src H' a (N - c) → P x → R F' v x → D.nx (σ.set i (some v)) H') : tAsg te (gName i) D σ H :=
  h F H (N - c) (.refl e) fa (s.le (by omega)) _ fun v x F' H' g fa' s' p r => k v x F' H' g fa' s' p r
theorem x_retS (h : EvS a c R te σ F H P) (e : Ex F H) (fa : F a = none) (s : Src H a N) (hc : c ≤ N) (k : ∀ v x F' H', Gr (M1 a) F H F' H' → F' a = none → Src H' a (N - c) → P x → R F' v x → D.rt v H') : tRet te D σ H :=
  h F H (N - c) (.refl e) fa (s.le (by omega)) _ fun v x F' H' g fa' s' p r => k v x F' H' g fa' s' p r
theorem x_ifS {P : Bool → Prop} (h : EvTS a c t σ F H P) (e : Ex F H) (fa : F a = none) (s : Src H a N) (hc : c ≤ N) (k1 : P true → ∀ F' H', Gr (M1 a) F H F' H' → F' a = none → Src H' a (N - c) → ts D σ H') (k2 : P false → ∀ F' H', Gr (M1 a) F H F' H' → F' a = none → Src H' a (N - c) → tu D σ H') : tIfS t ts tu D σ H :=
  h F H (N - c) (.refl e) fa (s.le (by omega)) _ fun b F' H' g fa' s' p => by
    cases b with
    | true => exact k1 p F' H' g fa' s'
    | false => exact k2 p F' H' g fa' s'
/-- x, y = e, e a pair -/
theorem x_pairS {i j : Nat} {P : α × β → Prop} (h : EvS a c (rPr R S) te σ F H P) (e : Ex F H) (fa : F a = none) (s : Src H a N) (hc : c ≤ N)
    (k : ∀ v w x F' H', Gr (M1 a) F H F' H' → F' a = none → Src H' a (N - c) → P x → R F' v x.1 → S F' w x.2 → D.nx ((σ.set i (some v)).set j (some w)) H') : tAsg te (gTup K 2 (gCons (gName i) (gCons (gName j) gNil))) D σ H :=
  h F H (N - c) (.refl e) fa (s.le (by omega)) _ fun v x F' H' g fa' s' p ⟨b, u, w, eb, hb, r1, r2⟩ => by
    subst eb
    refine ⟨b, [u, w], rfl, SqT.of (g.fh _ _ hb), rfl, u, [w], rfl, w, [], rfl, rfl, ?_⟩
    exact k u w x F' H' g fa' s' p r1 r2
end
end El

set_option Elab.async false
set_option linter.all false
set_option maxRecDepth 100000
set_option maxHeartbeats 2000000
namespace El
open PySem PySem.Spec L2
/-! ### == of data -/
class Dt {α : Type} (R : Rp α) where
  data : α → PyData
  rep : ∀ {K : PySem.W.Frag} {F H : Hp} {v : V} {x : α}, Ex F H → R F v x → Dp K H v (data x)
  lay : ∀ x, (data x).canLay0 = true
  dep : Nat
  depth : ∀ x, (data x).depth ≤ dep
  eqv : ∀ x y, PyData.eqv (data x) (data y) = true ↔ x = y
instance : Dt rInt where
  data := .int
  rep := fun e r => by cases (show _ = _ from r); exact .int _
  lay := fun _ => rfl
  dep := 0
  depth := fun _ => Nat.le_refl _
  eqv := fun x y => by show (x == y) = true ↔ x = y; exact beq_iff_eq
instance : Dt rNat where
  data := fun n => .int (n : Int)
  rep := fun e r => by cases (show _ = _ from r); exact .int _
  lay := fun _ => rfl
  dep := 0
  depth := fun _ => Nat.le_refl _
  eqv := fun x y => by show ((x : Int) == (y : Int)) = true ↔ x = y; rw [beq_iff_eq]; omega
instance : Dt rBl where
  data := .bool
  rep := fun e r => by cases (show _ = _ from r); exact .bl _
  lay := fun _ => rfl
  dep := 0
  depth := fun _ => Nat.le_refl _
  eqv := fun x y => by show (x == y) = true ↔ x = y; exact beq_iff_eq
theorem dpAll {α : Type} {R : Rp α} [d : Dt R] {K : PySem.W.Frag} {F H : Hp} (e : Ex F H) : ∀ {vs : List V} {xs : List α}, Paired (R F) vs xs → DpAll K H vs (xs.map d.data)
  | _, _, .nil => .nil
  | _, _, .cons r t => .cons (d.rep e r) (dpAll e t)
theorem layAll {α : Type} {R : Rp α} [d : Dt R] : ∀ xs : List α, PyData.canLayAll0 (xs.map d.data) = true
  | [] => rfl
  | x :: xs => by
    show (PyData.canLay0 (d.data x) && PyData.canLayAll0 (xs.map d.data)) = true
    rw [d.lay x, layAll xs]
    rfl
theorem depAll {α : Type} {R : Rp α} [d : Dt R] : ∀ xs : List α, PyData.depthAll (xs.map d.data) ≤ d.dep
  | [] => Nat.zero_le _
  | x :: xs => by
    show max (PyData.depth (d.data x)) (PyData.depthAll (xs.map d.data)) ≤ _
    exact Nat.max_le.mpr ⟨d.depth x, depAll xs⟩
theorem eqvAllD {α : Type} {R : Rp α} [d : Dt R] : ∀ xs ys : List α, PyData.eqvAll (xs.map d.data) (ys.map d.data) = true ↔ xs = ys
  | [], [] => by simp [PyData.eqvAll]
  | x :: xs, [] => by simp [PyData.eqvAll]
  | [], y :: ys => by simp [PyData.eqvAll]
  | x :: xs, y :: ys => by
    show (PyData.eqv (d.data x) (d.data y) && PyData.eqvAll (xs.map d.data) (ys.map d.data)) = true ↔ _
    rw [Bool.and_eq_true, d.eqv, eqvAllD xs ys, List.cons.injEq]
instance {α : Type} {R : Rp α} [d : Dt R] : Dt (rLst R) where
  data := fun xs => .list (xs.map d.data)
  rep := fun e ⟨a, vs, h1, h2, h3⟩ => by subst h1; exact .lst (SqL.of (e _ _ h2)) (dpAll e h3)
  lay := fun xs => by show PyData.canLayAll0 _ = true; exact layAll xs
  dep := d.dep + 1
  depth := fun xs => by show PyData.depthAll _ + 1 ≤ _; exact Nat.succ_le_succ (depAll xs)
  eqv := fun xs ys => by show PyData.eqvAll _ _ = true ↔ _; exact eqvAllD xs ys
instance {α : Type} {R : Rp α} [d : Dt R] : Dt (rTup R) where
  data := fun xs => .tuple (xs.map d.data)
  rep := fun e ⟨a, vs, h1, h2, h3⟩ => by subst h1; exact .tup (SqT.of (e _ _ h2)) (dpAll e h3)
  lay := fun xs => by show PyData.canLayAll0 _ = true; exact layAll xs
  dep := d.dep + 1
  depth := fun xs => by show PyData.depthAll _ + 1 ≤ _; exact Nat.succ_le_succ (depAll xs)
  eqv := fun xs ys => by show PyData.eqvAll _ _ = true ↔ _; exact eqvAllD xs ys
instance {α β : Type} {R : Rp α} {S : Rp β} [d : Dt R] [f : Dt S] : Dt (rPr R S) where
  data := fun p => .tuple [d.data p.1, f.data p.2]
  rep := fun e ⟨a, x, y, h1, h2, h3, h4⟩ => by subst h1; exact .tup (SqT.of (e _ _ h2)) (.cons (d.rep e h3) (.cons (f.rep e h4) .nil))
  lay := fun p => by
    show (PyData.canLay0 _ && (PyData.canLay0 _ && true)) = true
    rw [d.lay, f.lay]
    rfl
  dep := max d.dep f.dep + 1
  depth := fun p => by
    show max (PyData.depth (d.data p.1)) (max (PyData.depth (f.data p.2)) 0) + 1 ≤ _
    have := d.depth p.1
    have := f.depth p.2
    omega
  eqv := fun p q => by
    show (PyData.eqv _ _ && (PyData.eqv _ _ && true)) = true ↔ _
    rw [Bool.and_true, Bool.and_eq_true, d.eqv, f.eqv, Prod.ext_iff]
class NotNoneD {α : Type} (R : Rp α) [d : Dt R] : Prop where
  nn : ∀ x, d.data x ≠ .none
instance : NotNoneD rInt := ⟨fun _ => fun z => nomatch z⟩
instance : NotNoneD rNat := ⟨fun _ => fun z => nomatch z⟩
instance : NotNoneD rBl := ⟨fun _ => fun z => nomatch z⟩
instance {α : Type} {R : Rp α} [d : Dt R] : NotNoneD (rLst R) := ⟨fun _ => fun z => nomatch z⟩
instance {α : Type} {R : Rp α} [d : Dt R] : NotNoneD (rTup R) := ⟨fun _ => fun z => nomatch z⟩
instance {α β : Type} {R : Rp α} {S : Rp β} [d : Dt R] [f : Dt S] : NotNoneD (rPr R S) := ⟨fun _ => fun z => nomatch z⟩
theorem eqv_none {d : PyData} (h : d ≠ .none) : PyData.eqv .none d = false ∧ PyData.eqv d .none = false := by
  cases d with
  | none => exact absurd rfl h
  | bool _ => exact ⟨rfl, rfl⟩
  | int _ => exact ⟨rfl, rfl⟩
  | str _ => exact ⟨rfl, rfl⟩
  | list _ => exact ⟨rfl, rfl⟩
  | tuple _ => exact ⟨rfl, rfl⟩
  | dict _ => exact ⟨rfl, rfl⟩
instance {α : Type} {R : Rp α} [d : Dt R] [n : NotNoneD R] : Dt (rOpt R) where
  data := fun x => match x with
    | none => .none
    | some y => d.data y
  rep := fun {K F H v x} e r => by
    cases x with
    | none => cases (show _ = _ from r); exact .non
    | some y => exact d.rep e r
  lay := fun x => by
    cases x with
    | none => rfl
    | some y => exact d.lay y
  dep := d.dep
  depth := fun x => by
    cases x with
    | none => exact Nat.zero_le _
    | some y => exact d.depth y
  eqv := fun x y => by
    cases x with
    | none =>
      cases y with
      | none => exact ⟨fun _ => rfl, fun _ => rfl⟩
      | some y => exact ⟨(fun h => by rw [(eqv_none (n.nn y)).1] at h; exact Bool.noConfusion h), (fun h => nomatch h)⟩
    | some x =>
      cases y with
      | none => exact ⟨(fun h => by rw [(eqv_none (n.nn x)).2] at h; exact Bool.noConfusion h), (fun h => nomatch h)⟩
      | some y => exact (d.eqv x y).trans ⟨fun h => by rw [h], fun h => Option.some.inj h⟩
section
variable {K : PySem.W.Frag} {σ : St} {F H F' H' : Hp} {ta tb tc te tl : TE} {α β : Type} {R : Rp α} {S : Rp β} {x y : α} {xs : List α}
theorem shapedD (d : Dt R) (h : d.dep ≤ 64) (x : α) : SeqAt.shaped (d.data x) = true := by
  show (PyData.canLay0 _ && decide _) = true
  rw [d.lay, decide_eq_true (Nat.le_trans (d.depth x) h)]
  rfl
theorem ev_eqD [DecidableEq α] (ha : Ev R ta σ F H x) (hb : Ev R tb σ F H y) (d : Dt R := by infer_instance) (m : Mn R := by infer_instance) (h : d.dep ≤ 64 := by decide) : Ev rBl (tOp (rEqD K) ta tb) σ F H (decide (x = y)) := fun F1 H1 g1 Q q =>
  ha F1 H1 g1 _ fun v F2 H2 g2 r => hb F2 H2 (g1.trans g2) _ fun w F3 H3 g3 r3 => ⟨d.data x, d.data y, d.rep g3.fh (m.mono g3.ff r), d.rep g3.fh r3, shapedD d h x, shapedD d h y, by
    have e : PyData.eqv (d.data x) (d.data y) = decide (x = y) := by
      by_cases z : x = y
      · rw [decide_eq_true z]; exact (d.eqv x y).mpr z
      · rw [decide_eq_false z]
        cases q : PyData.eqv (d.data x) (d.data y) with
        | false => rfl
        | true => exact absurd ((d.eqv x y).mp q) z
    rw [e]
    exact q _ F3 H3 (g2.trans g3) rfl⟩
theorem ev_neD [DecidableEq α] (ha : Ev R ta σ F H x) (hb : Ev R tb σ F H y) (d : Dt R := by infer_instance) (m : Mn R := by infer_instance) (h : d.dep ≤ 64 := by decide) : Ev rBl (tOp (rNeD K) ta tb) σ F H (!decide (x = y)) := fun F1 H1 g1 Q q =>
  ha F1 H1 g1 _ fun v F2 H2 g2 r => hb F2 H2 (g1.trans g2) _ fun w F3 H3 g3 r3 => ⟨d.data x, d.data y, d.rep g3.fh (m.mono g3.ff r), d.rep g3.fh r3, shapedD d h x, shapedD d h y, by
    have e : PyData.eqv (d.data x) (d.data y) = decide (x = y) := by
      by_cases z : x = y
      · rw [decide_eq_true z]; exact (d.eqv x y).mpr z
      · rw [decide_eq_false z]
        cases q : PyData.eqv (d.data x) (d.data y) with
        | false => rfl
        | true => exact absurd ((d.eqv x y).mp q) z
    rw [e]
    exact q _ F3 H3 (g2.trans g3) rfl⟩
theorem ev_neB {a b : Bool} (ha : Ev rBl ta σ F H a) (hb : Ev rBl tb σ F H b) : Ev rBl (tOp rNe ta tb) σ F H (!decide (a = b)) := fun F1 H1 g1 Q q =>
  ha F1 H1 g1 _ fun v F2 H2 g2 r => hb F2 H2 (g1.trans g2) _ fun w F3 H3 g3 r2 => by
    cases (show v = V.bl a from r)
    cases (show w = V.bl b from r2)
    refine ⟨rfl, ?_⟩
    have e : decide (V.bl a = V.bl b) = decide (a = b) := by simp
    rw [e]
    exact q _ F3 H3 (g2.trans g3) rfl
theorem ev_eqB {a b : Bool} (ha : Ev rBl ta σ F H a) (hb : Ev rBl tb σ F H b) : Ev rBl (tOp rEq ta tb) σ F H (decide (a = b)) := fun F1 H1 g1 Q q =>
  ha F1 H1 g1 _ fun v F2 H2 g2 r => hb F2 H2 (g1.trans g2) _ fun w F3 H3 g3 r2 => by
    cases (show v = V.bl a from r)
    cases (show w = V.bl b from r2)
    refine ⟨rfl, ?_⟩
    have e : decide (V.bl a = V.bl b) = decide (a = b) := by simp
    rw [e]
    exact q _ F3 H3 (g2.trans g3) rfl
/-- x == y of options of ints -/
theorem krev {X : Cx} (K : PySem.W.Frag) {e : Expr} {te : TE} {k : Nat} {p1 p2 p3 pos : Pos} (he : PE X e te) (hK : X.K = K := by rfl) : PE X (.Subscript e (.Slice none none (some (.UnaryOp .USub (.Constant (.int 1) k p1) p2)) p3) pos) (tRevL K te) := by
  subst hK
  exact pe_revL he
theorem ev_rev (ha : Ev (rLst R) ta σ F H xs) (m : Mn R := by infer_instance) : Ev (rLst R) (tRevL K ta) σ F H xs.reverse := fun F1 H1 g1 Q q =>
  ha F1 H1 g1 _ fun v F2 H2 g2 ⟨a, vs, e, hl, p⟩ => ⟨a, vs, e, SqL.of (g2.fh _ _ hl), fun D hD => q _ _ _ (g2.trans (.new g2.fh hD)) ⟨D, _, rfl, upd_same, Paired.rev (Paired.up (Gr.new (M := M0) g2.fh hD).ff p)⟩⟩
/-- the script's items -/
theorem Ex.seq {K : PySem.W.Frag} {H H' : Hp} {a : Addr} {xs : List V} (e : Ex H H') (h : SqL K H a xs) : SqL K H' a xs := by
  rcases h with (h | ⟨o, h⟩) | h
  · exact .inl (.inl (e _ _ h))
  · exact .inl (.inr ⟨o, e _ _ h⟩)
  · exact .inr h
theorem ev_script {a : Addr} {ns : List Int} {n : Nat} (ha : Ev rRef te σ F H a) (h : SqL K H a (ns.map V.int)) : Ev (rLst rInt) (tSl (rSlL K) te tNoPart (tPart (tC (.int (n : Int))))) σ F H (ns.take n) := fun F1 H1 g1 Q q =>
  ha F1 H1 g1 _ fun v F2 H2 g2 e => ⟨(n : Int), rfl, a, ns.map V.int, e, (g1.hx.trans g2.hx).seq h, fun D hD => q _ _ _ (g2.trans (.new g2.fh hD)) ⟨D, _, rfl, upd_same, by
    rw [← cut_to]
    exact cut_paired (paired_ints ns)⟩⟩
end
theorem gsx {M : Addr → Prop} {F0 H0 F H F' H' : Hp} (g : Gr M0 F0 H0 F H) (g2 : Gr M F H F' H') (n : ∀ b, M b → H0 b = none) : Gr M0 F0 H0 F' H' := g.seq0 g2 n
end El

set_option Elab.async false
set_option linter.all false
set_option maxHeartbeats 2000000
namespace El
/-! ### plain facts of maps and words -/
theorem uniq_const {c : Nat} : ∀ {l : List Nat}, (∀ x ∈ l, x = c) → l ≠ [] → uniq l = [c]
  | [], _, h => absurd rfl h
  | x :: l, h, _ => by
    have hx : x = c := h x List.mem_cons_self
    have hl : ∀ y ∈ l, y = c := fun y hy => h y (List.mem_cons_of_mem _ hy)
    show (if x ∈ uniq l then uniq l else x :: uniq l) = [c]
    by_cases hn : l = []
    · subst hn
      subst hx
      rfl
    · rw [uniq_const hl hn, if_pos (by rw [hx]; exact List.mem_singleton.mpr rfl)]
theorem metB_iff {l : List Nat} : metB l = true ↔ l ≠ [] ∧ ∃ c, ∀ x ∈ l, x = c := by
  constructor
  · intro h
    have h1 : (uniq l).length = 1 := of_decide_eq_true h
    obtain ⟨c, hc⟩ := List.length_eq_one_iff.mp h1
    refine ⟨fun e => ?_, c, fun x hx => ?_⟩
    · subst e; cases hc
    · have := mem_uniq.mpr hx
      rw [hc] at this
      exact List.mem_singleton.mp this
  · rintro ⟨h1, c, h2⟩
    unfold metB
    rw [uniq_const h2 h1]
    rfl
theorem metB_eq {l : List Nat} {x y : Nat} (h : metB l = true) (hx : x ∈ l) (hy : y ∈ l) : x = y := by
  obtain ⟨_, c, hc⟩ := metB_iff.mp h
  rw [hc x hx, hc y hy]
theorem metB_repl {n c : Nat} (h : 1 ≤ n) : metB (List.replicate n c) = true := metB_iff.mpr ⟨fun e => by have := congrArg List.length e; simp at this; omega, c, fun x hx => (List.mem_replicate.mp hx).2⟩
theorem isMap_repl {n c : Nat} {m : List Nat} (hm : IsMap n m) (h : ∀ x ∈ m, x = c) : m = List.replicate n c := by
  rw [List.eq_replicate_iff]
  exact ⟨hm.1, h⟩
theorem metB_const {n : Nat} {m : List Nat} (hm : IsMap n m) (h0 : 1 ≤ n) (h : metB m = true) : m = List.replicate n (m.headD 0) := by
  refine isMap_repl hm fun x hx => metB_eq h hx ?_
  cases m with
  | nil => have := hm.1; simp at this; omega
  | cons a m => exact List.mem_cons_self
theorem then_id {n : Nat} {m : List Nat} (h : IsMap n m) : thenM m (idMap n) = m := by
  unfold thenM idMap
  apply List.ext_getElem
  · rw [List.length_map]
  · intro i h1 h2
    rw [List.getElem_map, List.getD_eq_getElem?_getD, List.getElem?_range (h.2 _ (List.getElem_mem h2))]
    rfl
theorem id_then {n : Nat} {m : List Nat} (h : IsMap n m) : thenM (idMap n) m = m := by
  unfold thenM idMap
  apply List.ext_getElem
  · rw [List.length_map, List.length_range, h.1]
  · intro i h1 h2
    rw [List.getElem_map, List.getElem_range, List.getD_eq_getElem?_getD, List.getElem?_eq_getElem h2]
    rfl
theorem then_get {a b : List Nat} {x : Nat} (h : x < a.length) : (thenM a b).getD x 0 = b.getD (a.getD x 0) 0 := by
  unfold thenM
  rw [List.getD_eq_getElem?_getD, List.getElem?_map, List.getElem?_eq_getElem h, List.getD_eq_getElem?_getD (l := a), List.getElem?_eq_getElem h]
  rfl
theorem map_getD {b : List Nat} {f : Nat → Nat} {x : Nat} (h : x < b.length) : (b.map f).getD x 0 = f (b.getD x 0) := by
  rw [List.getD_eq_getElem?_getD, List.getElem?_map, List.getElem?_eq_getElem h, List.getD_eq_getElem?_getD, List.getElem?_eq_getElem h]
  rfl
theorem then_assoc {n : Nat} {a b c : List Nat} (ha : IsMap n a) (hb : IsMap n b) : thenM (thenM a b) c = thenM a (thenM b c) := by
  unfold thenM
  rw [List.map_map]
  refine List.map_congr_left fun x hx => ?_
  show c.getD (b.getD x 0) 0 = _
  rw [map_getD (by rw [hb.1]; exact ha.2 x hx)]
theorem then_const {n c : Nat} {a : List Nat} (ha : IsMap n a) : thenM a (List.replicate n c) = List.replicate n c := by
  rw [List.eq_replicate_iff]
  refine ⟨by unfold thenM; rw [List.length_map, ha.1], fun x hx => ?_⟩
  obtain ⟨y, hy, rfl⟩ := List.mem_map.mp hx
  rw [List.getD_eq_getElem?_getD, List.getElem?_replicate, if_pos (ha.2 y hy)]
  rfl
/-- a constant map, then another one -/
theorem const_then {n c : Nat} {b : List Nat} : thenM (List.replicate n c) b = List.replicate n (b.getD c 0) := by
  unfold thenM
  rw [List.map_replicate]
/-! words -/
theorem from_then {t : Tn} : ∀ {w : List Nat} {m : List Nat}, IsMap t.many m → (∀ s ∈ w, s < t.maps.length) → mapFrom t m w = thenM m (mapW t w)
  | [], m, hm, _ => (then_id hm).symm
  | s :: w, m, hm, hs => by
    have h1 := hs s List.mem_cons_self
    have h2 : ∀ s' ∈ w, s' < t.maps.length := fun s' h' => hs s' (List.mem_cons_of_mem _ h')
    show mapFrom t (thenM m (t.maps.getD s [])) w = thenM m (mapFrom t (thenM (idMap t.many) (t.maps.getD s [])) w)
    rw [id_then (t.isMap h1), from_then (isMap_then hm (t.isMap h1)) h2, from_then (t.isMap h1) h2, then_assoc hm (t.isMap h1)]
theorem mapW_app {t : Tn} {u v : List Nat} (hu : ∀ s ∈ u, s < t.maps.length) (hv : ∀ s ∈ v, s < t.maps.length) : mapW t (u ++ v) = thenM (mapW t u) (mapW t v) := by
  unfold mapW mapFrom
  rw [List.foldl_append]
  exact from_then (isMap_mapW hu) hv
theorem mapW_cons {t : Tn} {s : Nat} {v : List Nat} (h1 : s < t.maps.length) (hv : ∀ s ∈ v, s < t.maps.length) : mapW t (s :: v) = thenM (t.maps.getD s []) (mapW t v) := by
  show mapFrom t (thenM (idMap t.many) (t.maps.getD s [])) v = _
  rw [id_then (t.isMap h1), from_then (t.isMap h1) hv]
theorem mapW_one {t : Tn} {s : Nat} (h1 : s < t.maps.length) : mapW t [s] = t.maps.getD s [] := id_then (t.isMap h1)
/-! what is drawn: the first signs (the newest on) that meet -/
theorem drRun_snoc {t : Tn} {w : List Nat} {s : Nat} : drRun t (w ++ [s]) = drStep t (drRun t w) s := by
  unfold drRun
  rw [List.foldl_append]
  rfl
/-- the run: its map is that of its first signs, turned about; and it met no earlier -/
theorem drRun_spec {t : Tn} : ∀ (n : Nat) (w : List Nat), w.length = n → (∀ s ∈ w, s < t.maps.length) →
    (drRun t w).1 = mapW t (w.take (drRun t w).2).reverse ∧ (drRun t w).2 ≤ w.length ∧ (∀ j, j < (drRun t w).2 → metB (mapW t (w.take j).reverse) = false) ∧ ((drRun t w).2 = w.length ∨ metB (drRun t w).1 = true)
  | 0, w, hl, _ => by
    cases w with
    | nil => exact ⟨rfl, Nat.le_refl _, fun j hj => absurd hj (Nat.not_lt_zero _), .inl rfl⟩
    | cons a w => cases hl
  | n + 1, w, hl, hs => by
    obtain ⟨w', s, rfl⟩ : ∃ w' s, w = w' ++ [s] := ⟨w.dropLast, w.getLast (by intro e; subst e; cases hl), (List.dropLast_concat_getLast _).symm⟩
    have hl' : w'.length = n := by simpa using hl
    have h1 : ∀ s ∈ w', s < t.maps.length := fun s h => hs s (List.mem_append_left _ h)
    have h2 : s < t.maps.length := hs s (List.mem_append_right _ List.mem_cons_self)
    obtain ⟨i1, i2, i3, i4⟩ := drRun_spec n w' hl' h1
    rw [drRun_snoc]
    unfold drStep
    by_cases hm : metB (drRun t w').1 = true
    · rw [if_pos hm]
      refine ⟨?_, by rw [List.length_append]; omega, fun j hj => ?_, .inr hm⟩
      · rw [List.take_append_of_le_length i2]
        exact i1
      · rw [List.take_append_of_le_length (by omega)]
        exact i3 j hj
    · rw [if_neg hm]
      have e : (drRun t w').2 = w'.length := i4.resolve_right hm
      refine ⟨?_, by rw [List.length_append, e]; exact Nat.le_refl _, fun j hj => ?_, .inl (by rw [List.length_append, e]; rfl)⟩
      · rw [List.take_of_length_le (by rw [List.length_append, e]; exact Nat.le_refl _), List.reverse_append]
        show thenM (t.maps.getD s []) (drRun t w').1 = mapW t (s :: w'.reverse)
        rw [mapW_cons h2 (fun x hx => h1 x (List.mem_reverse.mp hx)), i1, e, List.take_length]
      · have hj' : j ≤ w'.length := by have : j < (drRun t w').2 + 1 := hj; omega
        rw [List.take_append_of_le_length hj']
        by_cases hj2 : j < w'.length
        · exact i3 j (by omega)
        · have : j = w'.length := by omega
          rw [this, List.take_length]
          have e2 := i1
          rw [e, List.take_length] at e2
          rw [← e2]
          simpa using hm
/-- the elder signs that are read behind the first that meet change nothing -/
theorem drawn_of_met {t : Tn} {w : List Nat} (hs : ∀ s ∈ w, s < t.maps.length) {j : Nat} (hj : j ≤ w.length) (hm : metB (mapW t (w.take j).reverse) = true) : ∃ u, u ≤ j ∧ drawnM t w = some ((mapW t w.reverse).headD 0, u) := by
  obtain ⟨h1, h2, h3, h4⟩ := drRun_spec w.length w rfl hs
  have hu : (drRun t w).2 ≤ j := by
    rcases Nat.lt_or_ge j (drRun t w).2 with h | h
    · rw [h3 j h] at hm; cases hm
    · exact h
  have t0 := t.h0
  have hm2 : metB (drRun t w).1 = true := by
    rcases h4 with h4 | h4
    · have : j = (drRun t w).2 := by omega
      rw [h1, ← this]; exact hm
    · exact h4
  have him : IsMap t.many (drRun t w).1 := isMap_run hs
  refine ⟨(drRun t w).2, hu, ?_⟩
  have ew : (mapW t w.reverse) = List.replicate t.many ((drRun t w).1.headD 0) := by
    have e : w.reverse = (w.drop (drRun t w).2).reverse ++ (w.take (drRun t w).2).reverse := by rw [← List.reverse_append, List.take_append_drop]
    have a1 : ∀ s ∈ (w.drop (drRun t w).2).reverse, s < t.maps.length := fun s h => hs s (List.mem_of_mem_drop (List.mem_reverse.mp h))
    have a2 : ∀ s ∈ (w.take (drRun t w).2).reverse, s < t.maps.length := fun s h => hs s (List.mem_of_mem_take (List.mem_reverse.mp h))
    rw [e, mapW_app a1 a2, ← h1, metB_const him t0 hm2, then_const (isMap_mapW a1)]
    cases hq : t.many with
    | zero => omega
    | succ k => rfl
  unfold drawnM plc
  rw [if_pos hm2]
  show some ((drRun t w).1.headD 0, _) = some ((mapW t w.reverse).headD 0, _)
  rw [ew]
  cases hq : t.many with
  | zero => omega
  | succ k => rfl
end El

set_option Elab.async false
set_option linter.all false
set_option maxHeartbeats 2000000
namespace El
def blkM (t : Tn) (n : Nat) (w : List Nat) (k : Nat) : List Nat := mapW t ((w.drop (k * n)).take n)
def meetM (t : Tn) (n : Nat) (w : List Nat) : List Nat := (List.range (w.length / n)).filter fun k => metB (blkM t n w k)
section
variable {t : Tn} {n : Nat} {w : List Nat}
theorem take_succ_blk (k : Nat) : w.take ((k + 1) * n) = w.take (k * n) ++ (w.drop (k * n)).take n := by
  rw [Nat.succ_mul, List.take_add]
theorem blk_ok (hs : ∀ s ∈ w, s < t.maps.length) (k : Nat) : ∀ s ∈ (w.drop (k * n)).take n, s < t.maps.length := fun s h => hs s (List.mem_of_mem_drop (List.mem_of_mem_take h))
theorem take_ok (hs : ∀ s ∈ w, s < t.maps.length) (k : Nat) : ∀ s ∈ w.take k, s < t.maps.length := fun s h => hs s (List.mem_of_mem_take h)
theorem map_succ (hs : ∀ s ∈ w, s < t.maps.length) (k : Nat) : mapW t (w.take ((k + 1) * n)) = thenM (mapW t (w.take (k * n))) (blkM t n w k) := by
  rw [take_succ_blk, mapW_app (take_ok hs _) (blk_ok hs k)]
  rfl
def roInv (t : Tn) (n : Nat) (w : List Nat) (k : Nat) : Option Nat → Prop
  | none => (List.range k).filter (fun k => metB (blkM t n w k)) = []
  | some s => ∃ i0, i0 < k ∧ (List.range k).filter (fun k => metB (blkM t n w k)) = [i0] ∧ mapW t (w.take (k * n)) = List.replicate t.many s ∧ metB (mapW t ((w.take (k * n)).drop (i0 * n))) = true
def roEnd (t : Tn) (n : Nat) (w : List Nat) (L : Nat) : Option (Nat × Nat) → Prop
  | none => ((List.range L).filter (fun k => metB (blkM t n w k))).length < 2
  | some (s, k) => ∃ i0 i1 rest, (List.range L).filter (fun k => metB (blkM t n w k)) = i0 :: i1 :: rest ∧ k = i1 + 1 ∧ i0 < i1 ∧ i1 < L ∧ mapW t (w.take (i1 * n)) = List.replicate t.many s ∧ metB (mapW t ((w.take (i1 * n)).drop (i0 * n))) = true
theorem roLoop_spec (hs : ∀ s ∈ w, s < t.maps.length) (L : Nat) (hL : L * n ≤ w.length) : ∀ (r k : Nat) (st : Option Nat), k + r = L → roInv t n w k st → roEnd t n w L (roLoop t n w r k st)
  | 0, k, st, hk, h => by
    have : k = L := by omega
    subst this
    show ((List.range k).filter (fun k => metB (blkM t n w k))).length < 2
    cases st with
    | none => rw [show (List.range k).filter _ = [] from h]; exact Nat.zero_lt_succ _
    | some s => obtain ⟨i0, _, e, _⟩ := h; rw [e]; exact Nat.lt_succ_self _
  | r + 1, k, none, hk, h => by
    have t0 := t.h0
    refine roLoop_spec hs L hL r (k + 1) _ (by omega) ?_
    have him : IsMap t.many (blkM t n w k) := isMap_mapW (blk_ok hs k)
    show roInv t n w (k + 1) (plc (blkM t n w k))
    unfold plc
    have e0 : (List.range k).filter (fun k => metB (blkM t n w k)) = [] := h
    by_cases hm : metB (blkM t n w k) = true
    · rw [if_pos hm]
      refine ⟨k, Nat.lt_succ_self k, ?_, ?_, ?_⟩
      · rw [List.range_succ, List.filter_append, e0, List.filter_cons, if_pos hm]
        rfl
      · rw [map_succ hs, metB_const him t0 hm, then_const (isMap_mapW (take_ok hs _))]
        cases hq : t.many with
        | zero => omega
        | succ k => rfl
      · rw [take_succ_blk]
        have hl : (w.take (k * n)).length = k * n := by
          rw [List.length_take]
          have : k * n ≤ L * n := Nat.mul_le_mul_right _ (by omega)
          omega
        rw [List.drop_append_of_le_length (by omega), List.drop_of_length_le (by omega)]
        exact hm
    · rw [if_neg hm]
      show (List.range (k + 1)).filter _ = []
      rw [List.range_succ, List.filter_append, e0, List.filter_cons, if_neg hm]
      rfl
  | r + 1, k, some s, hk, h => by
    have t0 := t.h0
    have him : IsMap t.many (blkM t n w k) := isMap_mapW (blk_ok hs k)
    obtain ⟨i0, hi, e0, e1, e2⟩ := h
    show roEnd t n w L (if metB (blkM t n w k) = true then some (s, k + 1) else roLoop t n w r (k + 1) (some ((blkM t n w k).getD s 0)))
    by_cases hm : metB (blkM t n w k) = true
    · rw [if_pos hm]
      refine ⟨i0, k, (List.range' (k + 1) r).filter (fun k => metB (blkM t n w k)), ?_, rfl, hi, by omega, e1, e2⟩
      have : List.range L = List.range k ++ (k :: List.range' (k + 1) r) := by
        rw [← hk, List.range_eq_range', List.range_eq_range', ← List.range'_append_1, Nat.zero_add]
        rfl
      rw [this, List.filter_append, e0, List.filter_cons, if_pos hm]
      rfl
    · rw [if_neg hm]
      refine roLoop_spec hs L hL r (k + 1) _ (by omega) ⟨i0, by omega, ?_, ?_, ?_⟩
      · rw [List.range_succ, List.filter_append, e0, List.filter_cons, if_neg hm]
        rfl
      · rw [map_succ hs, e1, const_then]
      · have hl : (w.take (k * n)).length = k * n := by
          rw [List.length_take]
          have : k * n ≤ L * n := Nat.mul_le_mul_right _ (by omega)
          omega
        have hi2 : i0 * n ≤ k * n := Nat.mul_le_mul_right _ (by omega)
        rw [take_succ_blk, List.drop_append_of_le_length (by omega), mapW_app (fun s h => take_ok hs _ s (List.mem_of_mem_drop h)) (blk_ok hs k)]
        rw [metB_const (isMap_mapW (fun s h => take_ok hs _ s (List.mem_of_mem_drop h))) t0 e2, const_then]
        exact metB_repl t0
/-- the whole of the law -/
theorem once_law (hs : ∀ s ∈ w, s < t.maps.length) : match readOnceM t n w with
    | none => (meetM t n w).length < 2
    | some (s, k) => ∃ i0 i1 rest, meetM t n w = i0 :: i1 :: rest ∧ k = i1 + 1 ∧ i0 < i1 ∧ i1 * n ≤ w.length ∧ mapW t (w.take (i1 * n)) = List.replicate t.many s ∧ ∃ u, drawnM t (w.take (i1 * n)).reverse = some (s, u) ∧ u ≤ (i1 - i0) * n := by
  have t0 := t.h0
  have h := roLoop_spec (n := n) hs (w.length / n) (Nat.div_mul_le_self _ _) (w.length / n) 0 none (by omega) rfl
  unfold readOnceM
  revert h
  cases roLoop t n w (w.length / n) 0 none with
  | none => exact fun h => h
  | some p =>
    obtain ⟨s, k⟩ := p
    rintro ⟨i0, i1, rest, e1, e2, e3, e4, e5, e6⟩
    have hle : i1 * n ≤ w.length := Nat.le_trans (Nat.mul_le_mul_right n (Nat.le_of_lt e4)) (Nat.div_mul_le_self _ _)
    have hlen : (w.take (i1 * n)).length = i1 * n := by rw [List.length_take]; omega
    have hi : i0 * n ≤ i1 * n := Nat.mul_le_mul_right _ (by omega)
    have hj : i1 * n - (i1 - i0) * n = i0 * n := by rw [← Nat.sub_mul, show i1 - (i1 - i0) = i0 by omega]
    have hjl : (i1 - i0) * n ≤ i1 * n := Nat.mul_le_mul_right _ (by omega)
    obtain ⟨u, hu, hd⟩ := drawn_of_met (t := t) (w := (w.take (i1 * n)).reverse) (fun s h => take_ok hs _ s (List.mem_reverse.mp h)) (j := (i1 - i0) * n) (by rw [List.length_reverse]; omega) (by
      rw [List.take_reverse, List.reverse_reverse, hlen, hj]
      exact e6)
    refine ⟨i0, i1, rest, e1, e2, e3, hle, e5, u, ?_, hu⟩
    rw [hd, List.reverse_reverse, e5]
    cases hq : t.many with
    | zero => omega
    | succ k => rfl
end
end El

set_option Elab.async false
set_option linter.all false
set_option maxRecDepth 100000
set_option maxHeartbeats 4000000
namespace El
open PySem PySem.Spec L2
/-! ### tuple * 1 and more -/
theorem tuple_mul1 (l : Addr) (items : Array Value) (n : Nat) (dd : Option Addr) (sl : Array (Option Value)) (u : Tok) (hl0 : items.isEmpty = false) :
    Meets (Builtin.«tuple.__mul__» ⟨[.ref l, .int 1 u], []⟩) (fun _ R s => s.heap.get? l = some { cls := .type "tuple", dict := dd, data := .seq items n, slots := sl } ∧
      R (.ok (.ret (Value.ref l))) s) :=
  .of_wp fun prog w A R s h => by
    obtain ⟨hp, g, d, tk, os⟩ := s
    obtain ⟨hl, h⟩ := h
    have f1 := AutoSeq1.idx_int
    wp_walk using wpAny_loadPart' hl
    repeat (first
      | (refine wpAny_ite_false (decide_eq_false (by decide)) ?_; wp_walk using wpAny_loadPart' hl)
      | (refine wpAny_ite_true (decide_eq_true (by rw [hl0]; rfl)) ?_; wp_walk using wpAny_loadPart' hl))
    exact ⟨_, rfl, h⟩

def rRepU (K : PySem.W.Frag) : R2 := fun x y H Q => ∃ l k xs, x = .ref l ∧ y = .int k ∧ SqT K H l xs ∧ xs ≠ [] ∧ 1 ≤ k ∧ k ≤ 1000 ∧ xs.length ≤ 1000 ∧ (k = 1 → Q x H) ∧ ∀ p, H p = none → Q (.ref p) (upd H p (.tup (List.replicate k.toNat xs).flatten))
theorem op_repU {X : Cx} : OpR X (binaryOp .Mult) (rRepU X.K) := by
  intro pins s σ H x y v u Q I rx ry h
  obtain ⟨l, k, xs, rfl, rfl, hT, hne, h1, h2, hz, q1, q⟩ := h
  by_cases hk : k = 1
  · subst hk
    have rx' := rx
    cases rx'
    obtain ⟨t, rfl⟩ := ry
    obtain ⟨its, r, ⟨⟨cls, dd, data, sl⟩, ho, hc, n, hd⟩, hs⟩ := I.tuple hT
    simp only at hc hd
    subst hc hd
    have hle : its.length = xs.length := r.length.symm
    have hi : its.toArray.isEmpty = false := by
      cases its with
      | nil => exact absurd (List.eq_nil_of_length_eq_zero hle.symm) hne
      | cons a b => rfl
    refine wpAny_binaryOp_repeat_ref (T := "tuple") (U := "int") (by decide) ⟨_, ho, rfl⟩ (fun s' => typeIs_int s' 1 t) noFill_tuple_mul F.fills_int_mul F.slot_int_rmul repeat_tuple F.slot_int_index.lookup
      (call_meets F.slot_int_rmul (typeIs_int s 1 t) F.entry_int_rmul (F.args_int_rmul_2 _ _) (int_rmul_tuple 1 t l its.toArray n dd sl)
        ⟨ho, rfl, ⟨_, ho, rfl⟩, call_meets F.slot_tuple_mul ⟨_, ho, rfl⟩ F.entry_tuple_mul (F.args_tuple_mul_2 _ _) (tuple_mul1 l its.toArray n dd sl t hi) ⟨ho, ?_⟩⟩)
    exact ⟨.ref l, H, I, rfl, q1 rfl⟩
  · exact op_repT pins s σ H (.ref l) (.int k) v u Q I rx ry ⟨l, k, xs, rfl, rfl, hT, hne, by omega, h2, hz, q⟩

/-! ### texts -/
def num (n : Nat) : Str := Str.ofString (toString ((n : Nat) : Int))
theorem tl_numE (n : Nat) : TL.tl (num n) = TL.numL n := TL.tl_num n
/-- the text of a number -/
def rNum : Rp Nat := fun _ v n => v = .str (num n)
instance : Mn rNum := ⟨fun _ h => h⟩
section
variable {K : PySem.W.Frag} {σ : St} {F H F' H' : Hp} {ta tb tc te tl to : TE} {α β γ : Type} {R : Rp α} {S : Rp β} {x : α} {y : β} {xs : List α} {ys : List β} {a b z : Str} {D : Ends} {ts : TS}
theorem ev_strN {n : Nat} (ha : Ev rInt ta σ F H (n : Int)) (hn : n < 1000000) : Ev rNum (tCB (fun xs H Q => ∃ i : Int, xs = [.int i] ∧ i.natAbs.log2 < 1920 ∧ Q (.str (toString i)) H) (tCons ta tNil)) σ F H n := fun F1 H1 g1 Q q =>
  ha F1 H1 g1 _ fun v F2 H2 g2 r => ⟨(n : Int), by rw [show v = _ from r], by
    rw [Int.natAbs_natCast]
    have : n.log2 ≤ n := by
      rw [Nat.log2_def]
      split
      · have := Nat.log2_lt (n := n / 2) (k := n) (by omega)
        by_cases h : n / 2 = 0
        · rw [h]; omega
        · have := (Nat.log2_lt (n := n / 2) (k := n / 2) h).mpr Nat.lt_two_pow_self
          omega
      · omega
    have h2 : n.log2 < 20 := by
      by_cases h : n = 0
      · subst h; decide
      · exact (Nat.log2_lt h).mpr (Nat.lt_of_lt_of_le hn (by decide))
    omega, q _ F2 H2 g2 rfl⟩
theorem Ev.str {n : Nat} (h : Ev rNum ta σ F H n) : Ev rStr ta σ F H (num n) := h
theorem Ev.num {n : Nat} (h : Ev rStr ta σ F H (num n)) : Ev rNum ta σ F H n := h
abbrev rJoinS (K : PySem.W.Frag) : V → List V → Hp → VK → Prop := fun x xs H Q => ∃ a p, ∃ ys : List Str, x = .str a ∧ xs = [.ref p] ∧ (SqL K H p (ys.map V.str) ∨ SqT K H p (ys.map V.str)) ∧ (ys.map (·.length)).sum + ys.length * a.length ≤ 16777216 ∧ Q (.str (Txt.join a ys)) H
theorem ev_join {ys : List Str} (ha : Ev rStr to σ F H a) (hb : Ev (rLst rStr) te σ F H ys) (hz : (ys.map (·.length)).sum + ys.length * a.length ≤ 16777216) : Ev rStr (tM1 (rJoinS K) to te) σ F H (Txt.join a ys) := fun F1 H1 g1 Q q =>
  ha F1 H1 g1 _ fun v F2 H2 g2 r => ⟨⟨a, r⟩, hb F2 H2 (g1.trans g2) _ fun w F3 H3 g3 ⟨p, vs, e, hp, pr⟩ => ⟨a, p, ys, r, by rw [e], .inl (by rw [← strs_paired pr]; exact SqL.of (g3.fh _ _ hp)), hz, q _ F3 H3 (g2.trans g3) rfl⟩⟩
theorem paired_strs {H : Hp} : ∀ ns : List Str, Paired (rStr H) (ns.map V.str) ns
  | [] => .nil
  | n :: ns => .cons rfl (paired_strs ns)
theorem ev_joinM {p : Addr} {ys : List Str} (ha : Ev rStr to σ F H a) (hb : Ev rRef te σ F H p) (hp : H p = some (.lst (ys.map V.str))) (hz : (ys.map (·.length)).sum + ys.length * a.length ≤ 16777216) : Ev rStr (tM1 (rJoinS K) to te) σ F H (Txt.join a ys) := fun F1 H1 g1 Q q =>
  ha F1 H1 g1 _ fun v F2 H2 g2 r => ⟨⟨a, r⟩, hb F2 H2 (g1.trans g2) _ fun w F3 H3 g3 e => ⟨a, p, ys, r, by rw [show w = _ from e], .inl (SqL.of (g3.hx _ _ (g2.hx _ _ (g1.hx _ _ hp)))), hz, q _ F3 H3 (g2.trans g3) rfl⟩⟩
theorem ev_split (ha : Ev rStr to σ F H a) (hb : Ev rStr te σ F H b) (h0 : (b.length == 0) = false) (hz : a.length + 2 ≤ sizeLine) : Ev (rLst rStr) (tM1 (fun x xs H Q => ∃ a b, x = .str a ∧ xs = [.str b] ∧ (b.length == 0) = false ∧ a.length + 2 ≤ sizeLine ∧ rNewStrs (Txt.split a b) H Q) to te) σ F H (Txt.split a b) := fun F1 H1 g1 Q q =>
  ha F1 H1 g1 _ fun v F2 H2 g2 r => ⟨⟨a, r⟩, hb F2 H2 (g1.trans g2) _ fun w F3 H3 g3 e => ⟨a, b, r, by rw [show w = _ from e], h0, hz, fun p hp => q _ _ _ ((g2.trans g3).trans (.new g3.fh hp)) ⟨p, _, rfl, upd_same, paired_strs _⟩⟩⟩
theorem ev_intS {n : Int} (ha : Ev rStr ta σ F H a) (hn : PySem.intText? a = some n) (hz : a.length ≤ 640) : Ev rInt (tCB (fun xs H Q => ∃ a n, xs = [.str a] ∧ PySem.intText? a = some n ∧ a.length ≤ 640 ∧ Q (.int n) H) (tCons ta tNil)) σ F H n := fun F1 H1 g1 Q q =>
  ha F1 H1 g1 _ fun v F2 H2 g2 r => ⟨a, n, by rw [show v = _ from r], hn, hz, q _ F2 H2 g2 rfl⟩
theorem ev_inSign {c : Nat} (ha : Ev rStr ta σ F H ⟨#[c]⟩) (hb : Ev rStr tb σ F H z) : Ev rBl (tOp (fun x y H Q => ∃ (c : Nat) (z : Str), x = .str ⟨#[c]⟩ ∧ y = .str z ∧ Q (.bl (decide (c ∈ z.cps.toList))) H) ta tb) σ F H (decide (c ∈ z.cps.toList)) := fun F1 H1 g1 Q q =>
  ha F1 H1 g1 _ fun v F2 H2 g2 r => hb F2 H2 (g1.trans g2) _ fun w F3 H3 g3 e => ⟨c, z, r, e, q _ F3 H3 (g2.trans g3) rfl⟩
theorem ev_ixS {i : Int} {c : Nat} (ha : Ev rStr ta σ F H z) (hb : Ev rInt tb σ F H i) (hz : z.length ≤ sizeLine) (hi : atI z.cps.toList i = some c) : Ev rStr (tOp rIxS ta tb) σ F H ⟨#[c]⟩ := fun F1 H1 g1 Q q =>
  ha F1 H1 g1 _ fun v F2 H2 g2 r => hb F2 H2 (g1.trans g2) _ fun w F3 H3 g3 e => ⟨z, i, c, r, e, hz, hi, q _ F3 H3 (g2.trans g3) rfl⟩
/-- [elt for sign in text] -/
theorem ev_lcS {n : Nat} {vs : List Nat} (h : Ev rStr tl σ F H z) (hlen : ys.length = z.cps.size) (hz : z.cps.size ≤ 1000000) (hw : ∀ v, wipe ((wipe σ vs).set n (some v)) vs = wipe σ vs)
    (he : ∀ (i : Nat) c y F1 H1, z.cps[i]? = some c → ys[i]? = some y → Gr M0 F H F1 H1 → Ev S te ((wipe σ vs).set n (some (.str ⟨#[c]⟩))) F1 H1 y) (m' : Mn S := by infer_instance) : Ev (rLst S) (tLc (iStr tl) (gName n) tYes te vs) σ F H ys := by
  intro F1 H1 g1 Q q
  refine h F1 H1 g1 _ fun v F2 H2 g2 ea => ⟨z, ea, fun D hD => ?_⟩
  refine lc_it walk_str (fun i H' => ∃ F' us, Gr M0 F2 H2 F' H' ∧ F' D = none ∧ H' D = some (.lst us) ∧ Paired (S F') us (ys.take i)) ⟨F2, [], .loc g2.fh hD, g2.fh.free hD, upd_same, .nil⟩ (fun _ _ _ _ => trivial) ?_ ?_
  · rintro i w H' H0 hi ⟨F', us, g, fD, hD', pu⟩ ⟨eq, c, hc, rfl⟩
    obtain rfl : H' = H0 := eq.symm
    have hil : i < ys.length := by rw [hlen]; exact hi
    have hy : ys[i]? = some ys[i] := List.getElem?_eq_getElem hil
    refine ⟨hw _, ?_⟩
    refine he i c ys[i] F' H' hc hy ((g1.trans g2).trans g) F' H' (.refl g.fh) _ fun u F3 H3 g3 r3 => ?_
    refine ⟨us, g3.hx _ _ hD', ?_, F3, us ++ [u], (g.trans g3).set' (g3.nn hD' fD) (.inl hD), g3.nn hD' fD, upd_same, ?_⟩
    · rw [pu.length, List.length_take, sizeLine_eq]
      omega
    · rw [List.take_add_one, hy]
      exact (Paired.up g3.ff pu).snoc r3
  · rintro H' ⟨F', us, g, fD, hD', pu⟩
    rw [← hlen, List.take_length] at pu
    exact q _ _ _ (g2.trans (g.frz hD' (g2.fh.free hD) (.inl hD))) ⟨D, us, rfl, upd_same, Paired.up (g.fh.frz hD' fD) pu⟩
/-- tuple * n -/
theorem ev_repU {n : Int} (ha : Ev (rTup R) ta σ F H [x]) (hb : Ev rInt tb σ F H n) (h1 : 1 ≤ n) (h2 : n ≤ 1000) (m : Mn R := by infer_instance) : Ev (rTup R) (tOp (rRepU K) ta tb) σ F H (List.replicate n.toNat x) := fun F1 H1 g1 Q q =>
  ha F1 H1 g1 _ fun v F2 H2 g2 ⟨a, vs, e, hl, p⟩ => hb F2 H2 (g1.trans g2) _ fun w F3 H3 g3 e2 => by
    cases p with
    | cons r p =>
      cases p
      rename_i y
      refine ⟨a, n, [y], e, e2, SqT.of (g3.fh _ _ (g3.ff _ _ hl)), by simp, h1, h2, by simp, fun hn => ?_, fun D hD => ?_⟩
      · subst hn
        exact q _ F3 H3 (g2.trans g3) ⟨a, [y], e, g3.ff _ _ hl, .cons (m.mono g3.ff r) .nil⟩
      · have g4 : Gr M0 F3 H3 (upd F3 D (.tup (List.replicate n.toNat [y]).flatten)) (upd H3 D (.tup (List.replicate n.toNat [y]).flatten)) := .new g3.fh hD
        refine q _ _ _ ((g2.trans g3).trans g4) ⟨D, _, rfl, upd_same, ?_⟩
        have : ∀ k : Nat, Paired (R (upd F3 D (.tup (List.replicate n.toNat [y]).flatten))) (List.replicate k [y]).flatten (List.replicate k x) := fun k => by
          induction k with
          | zero => exact .nil
          | succ k ih =>
            rw [List.replicate_succ, List.replicate_succ, List.flatten_cons]
            exact .cons (m.mono (g3.ff.trans g4.ff) r) ih
        exact this _
/-- min of two -/
theorem ev_min2 {i j : Int} (ha : Ev rInt ta σ F H i) (hb : Ev rInt tb σ F H j) : Ev rInt (tCB (fun xs H Q => ∃ i j : Int, xs = [.int i, .int j] ∧ Q (.int (if j < i then j else i)) H) (tCons ta (tCons tb tNil))) σ F H (if j < i then j else i) := fun F1 H1 g1 Q q =>
  ha F1 H1 g1 _ fun v F2 H2 g2 r => hb F2 H2 (g1.trans g2) _ fun w F3 H3 g3 r2 => ⟨i, j, by rw [show v = _ from r, show w = _ from r2], q _ F3 H3 (g2.trans g3) rfl⟩
theorem ev_max2 {i j : Int} (ha : Ev rInt ta σ F H i) (hb : Ev rInt tb σ F H j) : Ev rInt (tCB (fun xs H Q => ∃ i j : Int, xs = [.int i, .int j] ∧ Q (.int (if j > i then j else i)) H) (tCons ta (tCons tb tNil))) σ F H (if j > i then j else i) := fun F1 H1 g1 Q q =>
  ha F1 H1 g1 _ fun v F2 H2 g2 r => hb F2 H2 (g1.trans g2) _ fun w F3 H3 g3 r2 => ⟨i, j, by rw [show v = _ from r, show w = _ from r2], q _ F3 H3 (g2.trans g3) rfl⟩

/-! ### own == of turns, isinstance -/
theorem Gr.ext {F H H' : Hp} (e : Ex F H) (x : Ext H H') : Gr M0 F H F H' := ⟨Ex.refl F, fun a o h => x a o (e a o h), fun b o _ h => x b o h, fun _ _ _ h => h, fun b h => by
  cases q : H b with
  | none => exact absurd q h
  | some o => rw [x b o q]; exact fun z => nomatch z⟩
def REq (C : Addr) : Addr → Addr → Hp → Prop := fun a b H => ∃ F t, Ex F H ∧ rTurns C F (.ref a) t ∧ rTurns C F (.ref b) t
instance {R : Addr → Addr → Hp → Prop} : SpLen (spEq R) 2 := ⟨fun ⟨_, _, h, _⟩ => by rw [h]; rfl⟩
theorem ev_eqTurns {C : Addr} {t : Tn} (ha : Ev (rTurns C) ta σ F H t) (hb : Ev (rTurns C) tb σ F H t) : Ev rBl (tOp (rEqG (DIns C (REq C))) ta tb) σ F H true := fun F1 H1 g1 Q q =>
  ha F1 H1 g1 _ fun v F2 H2 g2 r => hb F2 H2 (g1.trans g2) _ fun w F3 H3 g3 r2 => by
    have r' := Mn.mono g3.ff r
    have r3 := r'
    have r4 := r2
    obtain ⟨a, dx, l, rfl, h1, h2⟩ := r3
    obtain ⟨b, dy, l', rfl, h3, h4⟩ := r4
    exact ⟨⟨a, b, dx, dy, _, _, rfl, rfl, g3.fh _ _ h1, g3.fh _ _ h3, F3, t, g3.fh, r', r2⟩, fun H' x => q _ F3 H' ((g2.trans g3).trans (.ext g3.fh x)) rfl⟩
abbrev rIsC (C : Addr) : List V → Hp → VK → Prop := fun xs H Q => ∃ a dx fs, xs = [.ref a, .ref C] ∧ H a = some (.ins C dx fs) ∧ Q (.bl true) H
theorem ev_isTurns {C : Addr} {t : Tn} (ha : Ev (rTurns C) ta σ F H t) : Ev rBl (tCB (rIsC C) (tCons ta (tCons (tC (.ref C)) tNil))) σ F H true := fun F1 H1 g1 Q q =>
  ha F1 H1 g1 _ fun v F2 H2 g2 ⟨a, dx, l, e, h1, h2⟩ => ⟨a, dx, _, by rw [e], g2.fh _ _ h1, q _ F2 H2 g2 rfl⟩

/-! ### statements -/
/-- x = [e]: a list that may change -/
theorem x_lst1 {i : Nat} (e : Ex F H) (h : Ev R te σ F H x) (k : ∀ v l F' H', Gr M0 F H F' H' → R F' v x → H' l = none → D.nx (σ.set i (some (.ref l))) (upd H' l (.lst [v]))) : tAsg (tLst (tCons te tNil)) (gName i) D σ H :=
  h F H (.refl e) _ fun v F' H' g r => ⟨by show 1 ≤ sizeLine; decide, fun l hl => k v l F' H' g r hl⟩
/-- xs.append(e), e a draw -/
theorem x_appS {a l : Addr} {c N : Nat} {P : α → Prop} {vs : List V} {i : Nat} (hne : l ≠ a) (h : EvS a c R te σ F H P) (e : Ex F H) (fa : F a = none) (s : Src H a N) (hc : c ≤ N) (hv : σ[i]? = some (some (.ref l))) (hl : H l = some (.lst vs)) (hz : vs.length < sizeLine)
    (k : ∀ v x F' H', Gr (M1 a) F H F' H' → F' a = none → Src H' a (N - c) → P x → R F' v x → H' l = some (.lst vs) → D.nx σ (upd H' l (.lst (vs ++ [v])))) : tDrop (tBM K "list" rAppend (tVar i) (tCons te tNil)) D σ H :=
  ⟨.ref l, hv, .inl ⟨rfl, vs, SqL.of hl⟩, h F H (N - c) (.refl e) fa (s.le (by omega)) _ fun w x F' H' g fa' s' p r => ⟨l, vs, w, rfl, rfl, g.hh _ _ hne hl, hz, k w x F' H' g fa' s' p r (g.hh _ _ hne hl)⟩⟩
/-- for k in range(n), n a draw -/
theorem x_forRS {a : Addr} {c N j : Nat} {P1 : Int → Prop} (h : EvS a c rInt ta σ F H P1) (e : Ex F H) (fa : F a = none) (s : Src H a N) (hc : c ≤ N) (hn : ∀ n, P1 n → 0 ≤ n ∧ n ≤ 1000000)
    (k : ∀ n : Nat, P1 (n : Int) → ∀ F1 H1, Gr (M1 a) F H F1 H1 → F1 a = none → Src H1 a (N - c) → ∃ Pv : Nat → St → Hp → Hp → Prop, Pv 0 σ F1 H1 ∧
      (∀ i σ' F' H', i < n → Ex F1 F' → Ex F' H' → Pv i σ' F' H' →
        ts { D with nx := fun σ2 H2 => ∃ F2, Ex F1 F2 ∧ Ex F2 H2 ∧ Pv (i + 1) σ2 F2 H2, ct := fun σ2 H2 => ∃ F2, Ex F1 F2 ∧ Ex F2 H2 ∧ Pv (i + 1) σ2 F2 H2, bk := D.nx } (σ'.set j (some (.int (i : Int)))) H') ∧
      ∀ σ' F' H', Ex F1 F' → Ex F' H' → Pv n σ' F' H' → D.nx σ' H') : tFor (iRng1 (tCons ta tNil)) (gName j) ts D σ H := by
  refine h F H (N - c) (.refl e) fa (s.le (by omega)) _ fun v n F1 H1 g1 fa1 s1 p ea => ?_
  obtain ⟨n0, n1⟩ := hn n p
  obtain ⟨m, rfl⟩ : ∃ m : Nat, n = (m : Int) := ⟨n.toNat, by omega⟩
  obtain ⟨Pv, h0, hs, hd⟩ := k m p F1 H1 g1 fa1 s1
  refine ⟨(m : Int), by rw [show v = _ from ea], by omega, by omega, ?_⟩
  rw [Int.toNat_natCast]
  refine for_range (lo := 0) (n := m) (fun i σ' H' => ∃ F', Ex F1 F' ∧ Ex F' H' ∧ Pv i σ' F' H') ⟨F1, Ex.refl _, g1.fh, h0⟩ ?_ ?_
  · rintro i σ' H' hi ⟨F', e1, e2, pv⟩
    have e0 : (0 : Int) + (i : Int) = (i : Int) := Int.zero_add _
    show ts _ (σ'.set j (some (.int ((0 : Int) + (i : Int))))) H'
    rw [e0]
    exact hs i σ' F' H' hi e1 e2 pv
  · rintro σ' H' ⟨F', e1, e2, pv⟩
    exact hd σ' F' H' e1 e2 pv
end
/-- the script, or any list that is only read -/
def rQ (K : PySem.W.Frag) : Rp (List Int) := fun F v ns => ∃ a, v = .ref a ∧ SqL K F a (ns.map V.int)
instance {K : PySem.W.Frag} : Mn (rQ K) := ⟨fun e ⟨a, h1, h2⟩ => ⟨a, h1, Ex.seq e h2⟩⟩
end El

set_option Elab.async false
set_option linter.all false
set_option maxRecDepth 100000
set_option maxHeartbeats 4000000
namespace El
open PySem PySem.Spec L2
/-! ### dicts of whole numbers, as sets -/
def kvsOf (ks : List Nat) : List (Key × V) := ks.map fun k : Nat => ((Sum.inl (k : Int) : Key), V.bl true)
def rDct : Rp (List Nat) := fun F v ks => ∃ a, v = .ref a ∧ F a = some (.dK (kvsOf ks))
instance : Mn rDct := ⟨fun e ⟨a, h1, h2⟩ => ⟨a, h1, e _ _ h2⟩⟩
theorem val_kvs {k : Nat} : ∀ {ks : List Nat}, (valV (kvsOf ks) (Sum.inl (k : Int))).isSome = decide (k ∈ ks)
  | [] => rfl
  | j :: ks => by
    by_cases h : j = k
    · subst h
      rw [show kvsOf (j :: ks) = ((Sum.inl (j : Int) : Key), V.bl true) :: kvsOf ks from rfl, valV_pos rfl, decide_eq_true List.mem_cons_self]
      rfl
    · rw [show kvsOf (j :: ks) = ((Sum.inl (j : Int) : Key), V.bl true) :: kvsOf ks from rfl, valV_neg (fun e => h (by injection e with e; omega)), val_kvs (ks := ks)]
      have : (k ∈ j :: ks) ↔ k ∈ ks := by rw [List.mem_cons]; exact ⟨fun z => z.elim (fun e => absurd e.symm h) id, .inr⟩
      rw [decide_eq_decide.mpr this]
theorem put_kvs {k : Nat} {ks : List Nat} (h : k ∉ ks) : putK (kvsOf ks) (Sum.inl (k : Int)) (.bl true) = kvsOf (ks ++ [k]) := by
  have e : valV (kvsOf ks) (Sum.inl (k : Int)) = none := by
    have := val_kvs (k := k) (ks := ks)
    rw [decide_eq_false h] at this
    cases q : valV (kvsOf ks) (Sum.inl (k : Int)) with
    | none => rfl
    | some v => rw [q] at this; cases this
  rw [putK_new _ e]
  unfold kvsOf
  rw [List.map_append]
  rfl
theorem len_kvs (ks : List Nat) : (kvsOf ks).length = ks.length := List.length_map _
section
variable {K : PySem.W.Frag} {σ : St} {F H F' H' : Hp} {ta tb tc td ty tv te tl to : TE} {α β γ : Type} {R : Rp α} {S : Rp β} {U : Rp γ} {x : α} {y : β} {xs : List α} {ys : List β} {D : Ends} {ts : TS} {d l : Addr} {ks : List Nat} {k : Nat}
theorem ev_din (ha : Ev rNat ta σ F H k) (hd : Ev rDct td σ F H ks) : Ev rBl (tDIn ta td) σ F H (decide (k ∈ ks)) := fun F1 H1 g1 Q q =>
  ha F1 H1 g1 _ fun v F2 H2 g2 r => hd F2 H2 (g1.trans g2) _ fun w F3 H3 g3 ⟨a, e, h⟩ => ⟨a, _, e, by
    cases (show v = _ from r)
    exact DGet.k (k := Sum.inl (k : Int)) (g3.fh _ _ h), by rw [val_kvs]; exact q _ F3 H3 (g2.trans g3) rfl⟩
theorem ev_dnotM (ha : Ev rNat ta σ F H k) (hd : Ev rRef td σ F H d) (h : H d = some (.dK (kvsOf ks))) : Ev rBl (tDNotIn ta td) σ F H (!decide (k ∈ ks)) := fun F1 H1 g1 Q q =>
  ha F1 H1 g1 _ fun v F2 H2 g2 r => hd F2 H2 (g1.trans g2) _ fun w F3 H3 g3 e => ⟨d, _, e, by
    cases (show v = _ from r)
    exact DGet.k (k := Sum.inl (k : Int)) (g3.hx _ _ (g2.hx _ _ (g1.hx _ _ h))), by rw [val_kvs]; exact q _ F3 H3 (g2.trans g3) rfl⟩
theorem ev_lenD (hd : Ev rDct td σ F H ks) : Ev rInt (tCB (fun xs H Q => ∃ a kvs, xs = [V.ref a] ∧ H a = some (.dK kvs) ∧ Q (.int kvs.length) H) (tCons td tNil)) σ F H (ks.length : Int) := fun F1 H1 g1 Q q =>
  hd F1 H1 g1 _ fun v F2 H2 g2 ⟨a, e, h⟩ => ⟨a, _, by rw [e], g2.fh _ _ h, q _ F2 H2 g2 (by rw [len_kvs]; rfl)⟩
theorem x_dict {i : Nat} (k : ∀ p, H p = none → D.nx (σ.set i (some (.ref p))) (upd H p (.dK (kvsOf [])))) : tAsg tDNewK (gName i) D σ H := fun p hp => k p hp
theorem x_dput (e : Ex F H) (hv : Ev rBl tv σ F H true) (hd : Ev rRef td σ F H d) (hy : Ev rNat ty σ F H k) (h : H d = some (.dK (kvsOf ks))) (hn : k ∉ ks) (hz : ks.length < sizeLine)
    (kk : ∀ F' H', Gr M0 F H F' H' → H' d = some (.dK (kvsOf ks)) → D.nx σ (upd H' d (.dK (kvsOf (ks ++ [k]))))) : sDPut td ty tv D σ H :=
  hv F H (.refl e) _ fun v F1 H1 g1 r1 => hd F1 H1 g1 _ fun w F2 H2 g2 r2 => hy F2 H2 (g1.trans g2) _ fun u F3 H3 g3 r3 => by
    cases (show v = _ from r1)
    cases (show u = _ from r3)
    have h3 := g3.hx _ _ (g2.hx _ _ (g1.hx _ _ h))
    refine ⟨d, _, r2, DPut.k (k := Sum.inl (k : Int)) h3 (by rw [len_kvs]; exact hz), ?_⟩
    rw [put_kvs hn]
    exact kk F3 H3 ((g1.trans g2).trans g3) h3
theorem x_pop {i w : Nat} {vs : List V} {y : V} (hv : σ[w]? = some (some (.ref l))) (hl : H l = some (.lst vs)) (hy : vs[vs.length - 1]? = some y) (k : D.nx (σ.set i (some y)) (upd H l (.lst vs.dropLast))) : tAsg (tBM0 K "list" rPop (tVar w)) (gName i) D σ H :=
  ⟨.ref l, hv, .inl ⟨rfl, vs, SqL.of hl⟩, l, vs, y, rfl, rfl, hl, hy, k⟩
theorem x_listM {i : Nat} (e : Ex F H) (h : Ev (rLst R) te σ F H xs) (k : ∀ vs l F' H', Gr M0 F H F' H' → Paired (R F') vs xs → H' l = none → D.nx (σ.set i (some (.ref l))) (upd H' l (.lst vs))) : tAsg (tCB (rListS K) (tCons te tNil)) (gName i) D σ H :=
  h F H (.refl e) _ fun v F' H' g ⟨a, vs, ea, hl, p⟩ => ⟨a, vs, by rw [ea], .inl (SqL.of (g.fh _ _ hl)), fun l hl' => k vs l F' H' g p hl'⟩
/-- xs != [], of a list that may change -/
abbrev dtN : Dt (rLst rNat) := inferInstance
theorem dtN_dep : dtN.dep ≤ 64 := by decide
theorem ev_neNilM {ns : List Nat} (ha : Ev rRef ta σ F H l) (hl : H l = some (.lst (ns.map fun n : Nat => V.int (n : Int)))) : Ev rBl (tOp (rNeD K) ta (tLst tNil)) σ F H (!decide (ns = [])) := fun F1 H1 g1 Q q =>
  ha F1 H1 g1 _ fun v F2 H2 g2 r => ⟨Nat.zero_le _, fun p hp => by
    have x2 : Ex H H2 := (g1.hx).trans g2.hx
    have g3 : Gr M0 F2 H2 (upd F2 p (.lst [])) (upd H2 p (.lst [])) := .new g2.fh hp
    have pm : ∀ (HH : Hp) (ks : List Nat), Paired (rNat HH) (ks.map fun k : Nat => V.int (k : Int)) ks := fun HH ks => by
      induction ks with
      | nil => exact .nil
      | cons a l ih => exact .cons rfl ih
    have r1 : rLst rNat H v ns := ⟨l, _, r, hl, pm _ _⟩
    have r2 : rLst rNat (upd F2 p (.lst [])) (.ref p) [] := ⟨p, [], rfl, upd_same, .nil⟩
    refine ⟨dtN.data ns, dtN.data [], dtN.rep (x2.trans g3.hx) r1, dtN.rep g3.fh r2, shapedD dtN dtN_dep _, shapedD dtN dtN_dep _, ?_⟩
    have e : PyData.eqv (dtN.data ns) (dtN.data []) = decide (ns = []) := by
      by_cases z : ns = []
      · rw [decide_eq_true z]; exact (dtN.eqv _ _).mpr z
      · rw [decide_eq_false z]
        cases q : PyData.eqv (dtN.data ns) (dtN.data []) with
        | false => rfl
        | true => exact absurd ((dtN.eqv _ _).mp q) z
    rw [e]
    exact q _ _ _ (g2.trans g3) rfl⟩
/-! ### loops with pairs -/
theorem x_forLP {i j : Nat} (e : Ex F H) (h : Ev (rLst (rPr R S)) tl σ F H ps) (Pv : Nat → St → Hp → Hp → Prop) (h0 : ∀ F1 H1, Gr M0 F H F1 H1 → Pv 0 σ F1 H1)
    (hs : ∀ F1, Ex F F1 → ∀ n x v w σ' F' H', ps[n]? = some x → Ex F1 F' → Ex F' H' → R F' v x.1 → S F' w x.2 → Pv n σ' F' H' →
      ts { D with nx := fun σ2 H2 => ∃ F2, Ex F1 F2 ∧ Ex F2 H2 ∧ Pv (n + 1) σ2 F2 H2, ct := fun σ2 H2 => ∃ F2, Ex F1 F2 ∧ Ex F2 H2 ∧ Pv (n + 1) σ2 F2 H2, bk := D.nx } ((σ'.set i (some v)).set j (some w)) H')
    (hd : ∀ σ' F' H', Ex F F' → Ex F' H' → Pv ps.length σ' F' H' → D.nx σ' H') (m : Mn R := by infer_instance) (m2 : Mn S := by infer_instance) : tFor (iList K tl) (gTup K 2 (gCons (gName i) (gCons (gName j) gNil))) ts D σ H := by
  refine h F H (.refl e) _ fun v F1 H1 g1 ⟨a, vs, ea, hl, p⟩ => ⟨a, ea, ⟨vs, SqL.of (g1.fh _ _ hl)⟩, ?_⟩
  refine for_list (xs := vs) (fun i σ' H' => ∃ F', Ex F1 F' ∧ Ex F' H' ∧ Pv i σ' F' H') ⟨F1, Ex.refl _, g1.fh, h0 F1 H1 g1⟩ (fun i σ' H' _ ⟨F', e1, e2, _⟩ => SqL.of (e2 _ _ (e1 _ _ hl))) ?_ ?_
  · rintro n w σ' H' hi ⟨F', e1, e2, pv⟩
    obtain ⟨x, hx, rx⟩ := Paired.getL p hi
    obtain ⟨b, u, w, eb, hb, r1, r2⟩ := Mn.mono e1 rx
    subst eb
    exact ⟨b, [u, w], rfl, SqT.of (e2 _ _ hb), rfl, u, [w], rfl, w, [], rfl, rfl, hs F1 g1.ff n x u w σ' F' H' hx e1 e2 r1 r2 pv⟩
  · rintro σ' H' ⟨F', e1, e2, pv⟩
    rw [p.length] at pv
    exact hd σ' F' H' (g1.ff.trans e1) e2 pv
theorem x_forE {i j : Nat} (e : Ex F H) (h : Ev (rLst R) tl σ F H xs) (Pv : Nat → St → Hp → Hp → Prop) (h0 : ∀ F1 H1, Gr M0 F H F1 H1 → Pv 0 σ F1 H1)
    (hst : ∀ n σ' F' H' F2 H2, Gr M0 F' H' F2 H2 → Pv n σ' F' H' → Pv n σ' F2 H2)
    (hs : ∀ F1, Ex F F1 → ∀ n x v σ' F' H', xs[n]? = some x → Ex F1 F' → Ex F' H' → R F' v x → Pv n σ' F' H' →
      ts { D with nx := fun σ2 H2 => ∃ F2, Ex F1 F2 ∧ Ex F2 H2 ∧ Pv (n + 1) σ2 F2 H2, ct := fun σ2 H2 => ∃ F2, Ex F1 F2 ∧ Ex F2 H2 ∧ Pv (n + 1) σ2 F2 H2, bk := D.nx } ((σ'.set i (some (.int (n : Int)))).set j (some v)) H')
    (hd : ∀ σ' F' H', Ex F F' → Ex F' H' → Pv xs.length σ' F' H' → D.nx σ' H') (m : Mn R := by infer_instance) : tFor (iEnum K (tCons tl tNil)) (gTup K 2 (gCons (gName i) (gCons (gName j) gNil))) ts D σ H := by
  refine h F H (.refl e) _ fun v F1 H1 g1 ⟨a, vs, ea, hl, p⟩ => ⟨a, vs, by rw [ea], SqL.of (g1.fh _ _ hl), ?_⟩
  refine for_it walk_enum (fun i σ' H' => ∃ F', Ex F1 F' ∧ Ex F' H' ∧ Pv i σ' F' H') ⟨F1, Ex.refl _, g1.fh, h0 F1 H1 g1⟩ (fun i σ' H' _ ⟨F', e1, e2, _⟩ => SqL.of (e2 _ _ (e1 _ _ hl))) ?_ ?_
  · rintro n w σ' H' H2 hi ⟨F', e1, e2, pv⟩ ⟨T, u, w2, rfl, hT, rfl, h1, h2⟩
    obtain ⟨x, hx, rx⟩ := Paired.getL p h2
    cases h1
    have g2 : Gr M0 F' H' F' (upd H' T (.tup [.int (n : Nat), w2])) := .loc e2 hT
    exact ⟨T, [.int (n : Nat), w2], rfl, SqT.of upd_same, rfl, _, [w2], rfl, w2, [], rfl, rfl, hs F1 g1.ff n x w2 σ' F' _ hx e1 g2.fh (m.mono e1 rx) (hst _ _ _ _ _ _ g2 pv)⟩
  · rintro σ' H' ⟨F', e1, e2, pv⟩
    rw [p.length] at pv
    exact hd σ' F' H' (g1.ff.trans e1) e2 pv
end
end El

set_option Elab.async false
set_option linter.all false
set_option maxRecDepth 100000
set_option maxHeartbeats 4000000
namespace El
open PySem PySem.Spec L2
theorem take_filter_succ {α β : Type} {p : α → Bool} {f : α → β} {xs : List α} {i : Nat} {x : α} (hx : xs[i]? = some x) : ((xs.take (i + 1)).filter p).map f = if p x = true then ((xs.take i).filter p).map f ++ [f x] else ((xs.take i).filter p).map f := by
  rw [List.take_add_one, hx, List.filter_append]
  show List.map f (_ ++ List.filter p [x]) = _
  rw [List.filter_cons]
  split
  · rw [List.map_append]; rfl
  · rw [List.filter_nil, List.append_nil]
section
variable {K : PySem.W.Frag} {σ : St} {F H F' H' : Hp} {ta tb tc td ty tv te tl to : TE} {tt : TT} {α β γ : Type} {R : Rp α} {S : Rp β} {U : Rp γ} {x : α} {y : β} {xs : List α} {ys : List β} {D : Ends} {ts : TS}
theorem et_yes : EvT tYes σ F H true := fun F1 H1 g Q q => q F1 H1 (.refl g.fh)
/-- [elt for x in list if test] -/
theorem ev_lcF (p : α → Bool) (f : α → γ) {n : Nat} {vs : List Nat} (h : Ev (rLst R) tl σ F H xs) (hz : xs.length ≤ 1000000) (hw : ∀ v, wipe ((wipe σ vs).set n (some v)) vs = wipe σ vs)
    (ht : ∀ (i : Nat) x v F1 H1, xs[i]? = some x → Gr M0 F H F1 H1 → R F1 v x → EvT tt ((wipe σ vs).set n (some v)) F1 H1 (p x))
    (he : ∀ (i : Nat) x v F1 H1, xs[i]? = some x → p x = true → Gr M0 F H F1 H1 → R F1 v x → Ev U te ((wipe σ vs).set n (some v)) F1 H1 (f x)) (m : Mn R := by infer_instance) (m' : Mn U := by infer_instance) : Ev (rLst U) (tLc (iList K tl) (gName n) tt te vs) σ F H ((xs.filter p).map f) := by
  intro F1 H1 g1 Q q
  refine h F1 H1 g1 _ fun v F2 H2 g2 ⟨a, ws, ea, hl, pr⟩ => ⟨a, ea, ⟨ws, SqL.of (g2.fh _ _ hl)⟩, fun D hD => ?_⟩
  refine lc_list (xs := ws) (fun i H' => ∃ F' us, Gr M0 F2 H2 F' H' ∧ F' D = none ∧ H' D = some (.lst us) ∧ Paired (U F') us (((xs.take i).filter p).map f)) ⟨F2, [], .loc g2.fh hD, g2.fh.free hD, upd_same, .nil⟩ (fun i H' _ ⟨F', us, g, _⟩ => SqL.of (g.fh _ _ (g.ff _ _ hl))) ?_ ?_
  · rintro i w H' hi ⟨F', us, g, fD, hD', pu⟩
    obtain ⟨x, hx, rx⟩ := Paired.getL pr hi
    have rx' := m.mono g.ff rx
    refine ⟨hw w, ?_⟩
    refine ht i x w F' H' hx ((g1.trans g2).trans g) rx' F' H' (.refl g.fh) _ fun F3 H3 g3 => ?_
    have e3 := take_filter_succ (p := p) (f := f) hx
    cases hp : p x with
    | false =>
      rw [hp] at e3
      refine ⟨F3, us, g.trans g3, g3.nn hD' fD, g3.hx _ _ hD', ?_⟩
      rw [e3]
      exact Paired.up g3.ff pu
    | true =>
      rw [hp] at e3
      refine he i x w F3 H3 hx hp (((g1.trans g2).trans g).trans g3) (m.mono g3.ff rx') F3 H3 (.refl g3.fh) _ fun u F4 H4 g4 r4 => ?_
      have g34 := g3.trans g4
      refine ⟨us, g34.hx _ _ hD', ?_, F4, us ++ [u], (g.trans g34).set' (g34.nn hD' fD) (.inl hD), g34.nn hD' fD, upd_same, ?_⟩
      · rw [pu.length, List.length_map, sizeLine_eq]
        have := List.length_filter_le p (xs.take i)
        rw [List.length_take] at this
        omega
      · rw [e3]
        exact (Paired.up g34.ff pu).snoc r4
  · rintro H' ⟨F', us, g, fD, hD', pu⟩
    rw [pr.length, List.take_length] at pu
    exact q _ _ _ (g2.trans (g.frz hD' (g2.fh.free hD) (.inl hD))) ⟨D, us, rfl, upd_same, Paired.up (g.fh.frz hD' fD) pu⟩
/-- [elt for k in range(n) if test] -/
theorem ev_lcRF (p : Nat → Bool) (f : Nat → γ) {n j : Nat} {vs : List Nat} (h : Ev rInt ta σ F H (n : Int)) (hz : n ≤ 1000000) (hw : ∀ v, wipe ((wipe σ vs).set j (some v)) vs = wipe σ vs)
    (ht : ∀ (i : Nat) F1 H1, i < n → Gr M0 F H F1 H1 → EvT tt ((wipe σ vs).set j (some (.int (i : Int)))) F1 H1 (p i))
    (he : ∀ (i : Nat) F1 H1, i < n → p i = true → Gr M0 F H F1 H1 → Ev U te ((wipe σ vs).set j (some (.int (i : Int)))) F1 H1 (f i)) (m' : Mn U := by infer_instance) : Ev (rLst U) (tLc (iRng1 (tCons ta tNil)) (gName j) tt te vs) σ F H (((List.range n).filter p).map f) := by
  intro F1 H1 g1 Q q
  refine h F1 H1 g1 _ fun v F2 H2 g2 ea => ⟨(n : Int), by rw [show v = _ from ea], by omega, by omega, fun D hD => ?_⟩
  rw [Int.toNat_natCast]
  refine lc_range (lo := 0) (n := n) (fun i H' => ∃ F' us, Gr M0 F2 H2 F' H' ∧ F' D = none ∧ H' D = some (.lst us) ∧ Paired (U F') us ((((List.range n).take i).filter p).map f)) ⟨F2, [], .loc g2.fh hD, g2.fh.free hD, upd_same, .nil⟩ ?_ ?_
  · rintro i H' hi ⟨F', us, g, fD, hD', pu⟩
    have hx : (List.range n)[i]? = some i := List.getElem?_range hi
    have e0 : (0 : Int) + (i : Int) = (i : Int) := Int.zero_add _
    rw [e0]
    refine ⟨hw _, ?_⟩
    refine ht i F' H' hi ((g1.trans g2).trans g) F' H' (.refl g.fh) _ fun F3 H3 g3 => ?_
    have e3 := take_filter_succ (p := p) (f := f) hx
    cases hp : p i with
    | false =>
      rw [hp] at e3
      refine ⟨F3, us, g.trans g3, g3.nn hD' fD, g3.hx _ _ hD', ?_⟩
      rw [e3]
      exact Paired.up g3.ff pu
    | true =>
      rw [hp] at e3
      refine he i F3 H3 hi hp (((g1.trans g2).trans g).trans g3) F3 H3 (.refl g3.fh) _ fun u F4 H4 g4 r4 => ?_
      have g34 := g3.trans g4
      refine ⟨us, g34.hx _ _ hD', ?_, F4, us ++ [u], (g.trans g34).set' (g34.nn hD' fD) (.inl hD), g34.nn hD' fD, upd_same, ?_⟩
      · rw [pu.length, List.length_map, sizeLine_eq]
        have := List.length_filter_le p ((List.range n).take i)
        rw [List.length_take, List.length_range] at this
        omega
      · rw [e3]
        exact (Paired.up g34.ff pu).snoc r4
  · rintro H' ⟨F', us, g, fD, hD', pu⟩
    rw [List.take_of_length_le (by rw [List.length_range]; exact Nat.le_refl _)] at pu
    exact q _ _ _ (g2.trans (g.frz hD' (g2.fh.free hD) (.inl hD))) ⟨D, us, rfl, upd_same, Paired.up (g.fh.frz hD' fD) pu⟩
/-- [elt for x, y in pairs if test] -/
theorem ev_lcPF (p : α × β → Bool) (f : α × β → γ) {ps : List (α × β)} {n j : Nat} {vs : List Nat} (h : Ev (rLst (rPr R S)) tl σ F H ps) (hz : ps.length ≤ 1000000) (hw : ∀ v w, wipe (((wipe σ vs).set n (some v)).set j (some w)) vs = wipe σ vs)
    (ht : ∀ (i : Nat) x v w F1 H1, ps[i]? = some x → Gr M0 F H F1 H1 → R F1 v x.1 → S F1 w x.2 → EvT tt (((wipe σ vs).set n (some v)).set j (some w)) F1 H1 (p x))
    (he : ∀ (i : Nat) x v w F1 H1, ps[i]? = some x → p x = true → Gr M0 F H F1 H1 → R F1 v x.1 → S F1 w x.2 → Ev U te (((wipe σ vs).set n (some v)).set j (some w)) F1 H1 (f x)) (m : Mn R := by infer_instance) (m2 : Mn S := by infer_instance) (m' : Mn U := by infer_instance) :
    Ev (rLst U) (tLc (iList K tl) (gTup K 2 (gCons (gName n) (gCons (gName j) gNil))) tt te vs) σ F H ((ps.filter p).map f) := by
  intro F1 H1 g1 Q q
  refine h F1 H1 g1 _ fun v F2 H2 g2 ⟨a, ws, ea, hl, pr⟩ => ⟨a, ea, ⟨ws, SqL.of (g2.fh _ _ hl)⟩, fun D hD => ?_⟩
  refine lc_list (xs := ws) (fun i H' => ∃ F' us, Gr M0 F2 H2 F' H' ∧ F' D = none ∧ H' D = some (.lst us) ∧ Paired (U F') us (((ps.take i).filter p).map f)) ⟨F2, [], .loc g2.fh hD, g2.fh.free hD, upd_same, .nil⟩ (fun i H' _ ⟨F', us, g, _⟩ => SqL.of (g.fh _ _ (g.ff _ _ hl))) ?_ ?_
  · rintro i w H' hi ⟨F', us, g, fD, hD', pu⟩
    obtain ⟨x, hx, rx⟩ := Paired.getL pr hi
    obtain ⟨b, u1, u2, eb, hb, r1, r2⟩ := Mn.mono g.ff rx
    subst eb
    refine ⟨b, [u1, u2], rfl, SqT.of (g.fh _ _ hb), rfl, u1, [u2], rfl, u2, [], rfl, rfl, hw _ _, ?_⟩
    refine ht i x u1 u2 F' H' hx ((g1.trans g2).trans g) r1 r2 F' H' (.refl g.fh) _ fun F3 H3 g3 => ?_
    have e3 := take_filter_succ (p := p) (f := f) hx
    cases hp : p x with
    | false =>
      rw [hp] at e3
      refine ⟨F3, us, g.trans g3, g3.nn hD' fD, g3.hx _ _ hD', ?_⟩
      rw [e3]
      exact Paired.up g3.ff pu
    | true =>
      rw [hp] at e3
      refine he i x u1 u2 F3 H3 hx hp (((g1.trans g2).trans g).trans g3) (m.mono g3.ff r1) (m2.mono g3.ff r2) F3 H3 (.refl g3.fh) _ fun u F4 H4 g4 r4 => ?_
      have g34 := g3.trans g4
      refine ⟨us, g34.hx _ _ hD', ?_, F4, us ++ [u], (g.trans g34).set' (g34.nn hD' fD) (.inl hD), g34.nn hD' fD, upd_same, ?_⟩
      · rw [pu.length, List.length_map, sizeLine_eq]
        have := List.length_filter_le p (ps.take i)
        rw [List.length_take] at this
        omega
      · rw [e3]
        exact (Paired.up g34.ff pu).snoc r4
  · rintro H' ⟨F', us, g, fD, hD', pu⟩
    rw [pr.length, List.take_length] at pu
    exact q _ _ _ (g2.trans (g.frz hD' (g2.fh.free hD) (.inl hD))) ⟨D, us, rfl, upd_same, Paired.up (g.fh.frz hD' fD) pu⟩
/-- x = [[] for k in range(n)]: n lists that may change -/
theorem x_lists {i j n : Nat} {vs : List Nat} (e : Ex F H) (h : Ev rInt ta σ F H (n : Int)) (hz : n ≤ 1000000) (hw : ∀ v, wipe ((wipe σ vs).set j (some v)) vs = wipe σ vs)
    (k : ∀ (l : Addr) (as : List Addr) F' H', Gr M0 F H F' H' → as.length = n → H l = none → F' l = none → H' l = some (.lst (as.map V.ref)) → as.Nodup → (∀ b ∈ as, H b = none ∧ F' b = none ∧ H' b = some (.lst []) ∧ b ≠ l) → D.nx (σ.set i (some (.ref l))) H') : tAsg (tLc (iRng1 (tCons ta tNil)) (gName j) tYes (tLst tNil) vs) (gName i) D σ H := by
  refine h F H (.refl e) _ fun v F2 H2 g2 ea => ⟨(n : Int), by rw [show v = _ from ea], by omega, by omega, fun B hB => ?_⟩
  rw [Int.toNat_natCast]
  have hB0 : H B = none := Ex.free g2.hx hB
  refine lc_range (lo := 0) (n := n) (fun i H' => ∃ as : List Addr, Gr M0 F H F2 H' ∧ as.length = i ∧ F2 B = none ∧ H' B = some (.lst (as.map V.ref)) ∧ as.Nodup ∧ ∀ b ∈ as, H b = none ∧ F2 b = none ∧ H' b = some (.lst []) ∧ b ≠ B)
    ⟨[], g2.trans (.loc g2.fh hB), rfl, g2.fh.free hB, upd_same, List.nodup_nil, fun _ h => nomatch h⟩ ?_ ?_
  · rintro i H' hi ⟨as, g, hl, fB, hB', nd, hb⟩
    refine ⟨hw _, Nat.zero_le _, fun c hc => ?_⟩
    have hcB : c ≠ B := fun z => by subst z; rw [hB'] at hc; cases hc
    have hcn : c ∉ as := fun z => by rw [(hb c z).2.2.1] at hc; cases hc
    have g3 := g.trans (Gr.loc g.fh hc (o := .lst []))
    have fc : F2 c = none := g.fh.free hc
    have hc0 : H c = none := Ex.free g.hx hc
    refine ⟨as.map V.ref, by rw [upd_ne hcB.symm]; exact hB', by rw [List.length_map, hl, sizeLine_eq]; omega, as ++ [c], g3.set' fB (.inl hB0), by rw [List.length_append, hl]; rfl, fB, by rw [upd_same, List.map_append]; rfl, ?_, fun b hbm => ?_⟩
    · refine List.nodup_append.mpr ⟨nd, by simp, fun x hx y hy => ?_⟩
      rw [List.mem_singleton.mp hy]
      intro z
      rw [z] at hx
      exact hcn hx
    · rcases List.mem_append.mp hbm with h | h
      · obtain ⟨h1, h2, h3, h4⟩ := hb b h
        refine ⟨h1, h2, ?_, h4⟩
        rw [upd_ne h4, upd_ne (fun z : b = c => hcn (by rw [← z]; exact h))]
        exact h3
      · rw [List.mem_singleton.mp h]
        exact ⟨hc0, fc, by rw [upd_ne hcB, upd_same], hcB⟩
  · rintro H' ⟨as, g, hl, fB, hB', nd, hb⟩
    exact k B as F2 H' g hl hB0 fB hB' nd hb
end
/-- things that may change are frozen, all of them -/
theorem Gr.frzs {M : Addr → Prop} {F0 H0 H : Hp} (e : Ex F0 H0) : ∀ {as : List Addr} {F : Hp}, Gr M F0 H0 F H → (∀ b ∈ as, H b ≠ none ∧ H0 b = none) → ∃ F', Gr M F0 H0 F' H ∧ Ex F F' ∧ ∀ b ∈ as, F' b = H b
  | [], F, g, _ => ⟨F, g, Ex.refl F, fun _ h => nomatch h⟩
  | a :: as, F, g, h => by
    obtain ⟨h1, h2⟩ := h a List.mem_cons_self
    obtain ⟨o, ho⟩ : ∃ o, H a = some o := by
      cases q : H a with
      | none => exact absurd q h1
      | some o => exact ⟨o, rfl⟩
    obtain ⟨F1, g1, e1, k1⟩ : ∃ F1, Gr M F0 H0 F1 H ∧ Ex F F1 ∧ F1 a = H a := by
      cases q : F a with
      | none => exact ⟨_, g.frz ho (e.free h2) (.inl h2), Ex.new q, by rw [upd_same, ho]⟩
      | some o' => exact ⟨F, g, Ex.refl F, by rw [q, g.fh _ _ q]⟩
    obtain ⟨F', g', e', k'⟩ := Gr.frzs e g1 fun b hb => h b (List.mem_cons_of_mem _ hb)
    refine ⟨F', g', e1.trans e', fun b hb => ?_⟩
    rcases List.mem_cons.mp hb with rfl | hb
    · rw [ho]
      exact e' _ _ (by rw [k1, ho])
    · exact k' b hb
end El

set_option Elab.async false
set_option linter.all false
set_option maxRecDepth 100000
set_option maxHeartbeats 4000000
namespace El
open PySem PySem.Spec L2
def onM (n : Nat) (ps : List (Nat × Nat)) : List (List Nat) := (List.range n).map fun x => (ps.filter fun p => p.1 == x).map (·.2)
def dfs (on : List (List Nat)) : Nat → List Nat → List Nat → List Nat
  | 0, _, r => r
  | m + 1, w, r => match w.getLast? with
    | none => r
    | some one => if one ∈ r then dfs on m w.dropLast r else dfs on m (w.dropLast ++ on.getD one []) (r ++ [one])
def fuelM (n : Nat) (ps : List (Nat × Nat)) : Nat := n * (ps.length + 1) + ps.length
def aboveM (n : Nat) (ps : List (Nat × Nat)) : List (List Nat) := (List.range n).map fun p => dfs (onM n ps) (fuelM n ps) ((onM n ps).getD p []) []
def measM (n L : Nat) (w r : List Nat) : Nat := (n - r.length) * (L + 1) + w.length
theorem dfs_nil (on : List (List Nat)) (m : Nat) (r : List Nat) : dfs on m [] r = r := by cases m <;> rfl
theorem dfs_old {on : List (List Nat)} {m : Nat} {w r : List Nat} {one : Nat} (h : one ∈ r) : dfs on (m + 1) (w ++ [one]) r = dfs on m w r := by
  unfold dfs
  simp [h]
  cases m <;> rfl
theorem dfs_new {on : List (List Nat)} {m : Nat} {w r : List Nat} {one : Nat} (h : one ∉ r) : dfs on (m + 1) (w ++ [one]) r = dfs on m (w ++ on.getD one []) (r ++ [one]) := by
  rw [show dfs on (m + 1) (w ++ [one]) r = dfs on (Nat.succ m) (w ++ [one]) r from rfl, dfs]
  rw [List.getLast?_concat, List.dropLast_concat]
  show (if one ∈ r then _ else _) = _
  rw [if_neg h]
theorem on_len {n : Nat} {ps : List (Nat × Nat)} : (onM n ps).length = n := by unfold onM; rw [List.length_map, List.length_range]
theorem on_get {n : Nat} {ps : List (Nat × Nat)} {x : Nat} (h : x < n) : (onM n ps).getD x [] = (ps.filter fun p => p.1 == x).map (·.2) := by
  unfold onM
  rw [List.getD_eq_getElem?_getD, List.getElem?_map, List.getElem?_range h]
  rfl
theorem on_at {n : Nat} {ps : List (Nat × Nat)} {x : Nat} (h : x < n) : (onM n ps)[x]? = some ((onM n ps).getD x []) := getD_at (by rw [on_len]; exact h)
theorem on_le {n : Nat} {ps : List (Nat × Nat)} {x : Nat} : ((onM n ps).getD x []).length ≤ ps.length := by
  by_cases h : x < n
  · rw [on_get h, List.length_map]
    exact List.length_filter_le _ _
  · rw [List.getD_eq_getElem?_getD, List.getElem?_eq_none (by rw [on_len]; omega)]
    exact Nat.zero_le _
theorem on_mem {n : Nat} {ps : List (Nat × Nat)} {x y : Nat} (hp : ∀ p ∈ ps, p.1 < n ∧ p.2 < n) (h : y ∈ (onM n ps).getD x []) : y < n := by
  by_cases hx : x < n
  · rw [on_get hx] at h
    obtain ⟨p, hp1, rfl⟩ := List.mem_map.mp h
    exact (hp p (List.mem_filter.mp hp1).1).2
  · rw [List.getD_eq_getElem?_getD, List.getElem?_eq_none (by rw [on_len]; omega)] at h
    cases h
theorem on_step {n : Nat} {ps : List (Nat × Nat)} {k i : Nat} {p : Nat × Nat} (hp : ps[k]? = some p) (hi : i < n) : (onM n (ps.take (k + 1))).getD i [] = if p.1 = i then (onM n (ps.take k)).getD i [] ++ [p.2] else (onM n (ps.take k)).getD i [] := by
  rw [on_get hi, on_get hi, take_filter_succ (f := (·.2)) hp]
  by_cases h : p.1 = i
  · rw [if_pos h, if_pos (by simp [h])]
  · rw [if_neg h, if_neg (by simp [h])]
theorem nodup_lt {n : Nat} {r : List Nat} (nd : r.Nodup) (h : ∀ y ∈ r, y < n) : r.length ≤ n := by
  have := L2.nat_nodup_len r (List.range n) nd fun x hx => List.mem_range.mpr (h x hx)
  rw [List.length_range] at this
  exact this
theorem above_len {n : Nat} {ps : List (Nat × Nat)} : (aboveM n ps).length = n := by unfold aboveM; rw [List.length_map, List.length_range]
theorem above_get {n : Nat} {ps : List (Nat × Nat)} {x : Nat} (h : x < n) : (aboveM n ps)[x]? = some (dfs (onM n ps) (fuelM n ps) ((onM n ps).getD x []) []) := by
  unfold aboveM
  rw [List.getElem?_map, List.getElem?_range h]
  rfl
theorem meas_old {n L : Nat} {w r : List Nat} {one : Nat} : measM n L w r < measM n L (w ++ [one]) r := by
  unfold measM
  rw [List.length_append]
  show _ < _ + (_ + 1)
  omega
theorem meas_new {n L : Nat} {w r more : List Nat} {one : Nat} (hm : more.length ≤ L) (hr : r.length < n) : measM n L (w ++ more) (r ++ [one]) < measM n L (w ++ [one]) r := by
  unfold measM
  rw [List.length_append, List.length_append, List.length_append]
  have e : n - r.length = (n - (r.length + [one].length)) + 1 := by show _ = n - (r.length + 1) + 1; omega
  rw [e, Nat.succ_mul]
  show _ < _ + (_ + 1)
  omega
theorem paired_of {α β : Type} {F : α → β → Prop} : ∀ {as : List α} {bs : List β}, as.length = bs.length → (∀ (i : Nat) a b, as[i]? = some a → bs[i]? = some b → F a b) → Paired F as bs
  | [], [], _, _ => .nil
  | a :: as, b :: bs, hl, h => .cons (h 0 a b rfl rfl) (paired_of (by simpa using hl) fun i x y hx hy => h (i + 1) x y (by simpa using hx) (by simpa using hy))
theorem nats_P (HH : Hp) : ∀ ks : List Nat, Paired (rNat HH) (ks.map fun k : Nat => V.int (k : Int)) ks
  | [] => .nil
  | _ :: l => .cons rfl (nats_P HH l)
theorem nats_eq {H : Hp} {vs : List V} {ns : List Nat} (p : Paired (rNat H) vs ns) : vs = ns.map fun n : Nat => V.int (n : Int) := by rw [nats_paired p, List.map_map]; rfl
end El

set_option Elab.async false
set_option linter.all false
set_option maxRecDepth 100000
set_option maxHeartbeats 4000000
namespace El
open PySem PySem.Spec L2
/-! ### orders -/
def rOrder (C : Addr) : Rp (List (List Nat)) := fun H v hs => ∃ a dx l, v = .ref a ∧ H a = some (.ins C dx [("higher", l)]) ∧ rLst rDct H l hs
instance {C : Addr} : Mn (rOrder C) := ⟨fun e ⟨a, dx, l, h1, h2, h3⟩ => ⟨a, dx, l, h1, e _ _ h2, Mn.mono e h3⟩⟩
instance {C : Addr} : NotN (rOrder C) := ⟨fun ⟨_, _, _, h, _⟩ e => by rw [h] at e; cases e⟩
instance {C : Addr} : IsI (rOrder C) C "__len__" := ⟨fun ⟨a, dx, l, h1, h2, h3⟩ => ⟨a, dx, _, h1, h2, rfl⟩⟩
instance {C : Addr} : IsI (rOrder C) C "at_most" := ⟨fun ⟨a, dx, l, h1, h2, h3⟩ => ⟨a, dx, _, h1, h2, rfl⟩⟩
instance {C : Addr} : IsI (rOrder C) C "least" := ⟨fun ⟨a, dx, l, h1, h2, h3⟩ => ⟨a, dx, _, h1, h2, rfl⟩⟩
instance {C : Addr} : IsI (rOrder C) C "greatest" := ⟨fun ⟨a, dx, l, h1, h2, h3⟩ => ⟨a, dx, _, h1, h2, rfl⟩⟩
theorem fld_higher {K : PySem.W.Frag} {C : Addr} (c : Cls K C) (n : NoAttr K C "higher") : IsF (rOrder C) K "higher" (rLst rDct) id := ⟨fun ⟨a, dx, l, h1, h2, h3⟩ => ⟨a, C, dx, _, _, h1, h2, c, n, rfl, h3⟩⟩
def GoodO (n : Nat) (ps : List (Nat × Nat)) : Prop := 1 ≤ n ∧ n ≤ 32 ∧ ps.length ≤ 100 ∧ (∀ p ∈ ps, p.1 < n ∧ p.2 < n ∧ p.1 ≠ p.2) ∧ ∀ p, p < n → p ∉ (aboveM n ps).getD p []
def SpOrder (C : Addr) : Sp := fun vs H Q _ => ∃ (F : Hp) (a dx : Addr) (l : V) (n : Nat) (ps : List (Nat × Nat)), vs = [.ref a, .int (n : Int), l] ∧ Ex F H ∧ F a = none ∧ H a = some (.ins C dx []) ∧ rLst (rPr rNat rNat) F l ps ∧ GoodO n ps ∧
  ∀ F' H', Gr (M1 a) F H F' H' → rOrder C F' (.ref a) (aboveM n ps) → Q .non H'
instance {C : Addr} : SpLen (SpOrder C) 3 := ⟨fun ⟨_, _, _, _, _, _, h, _⟩ => by rw [h]; rfl⟩
/-- what C(..) makes, in general -/
theorem Gr.made {M : Addr → Prop} {F H F' H' : Hp} {x dx : Addr} {u w : HO} (nx : H x = none) (ndx : H dx = none) (nex : x ≠ dx) (g : Gr (M1 x) F (upd (upd H dx w) x u) F' H') : Gr M0 F H F' H' := ⟨g.ff, g.fh, fun b o _ h => by
    have b1 : b ≠ x := fun z => by subst z; rw [nx] at h; cases h
    have b2 : b ≠ dx := fun z => by subst z; rw [ndx] at h; cases h
    exact g.hh b o b1 (by rw [upd_ne b1, upd_ne b2]; exact h), fun b _ h n => by
    have b1 : b ≠ x := fun z => h (z ▸ nx)
    have b2 : b ≠ dx := fun z => h (z ▸ ndx)
    exact g.nw b b1 (by rw [upd_ne b1, upd_ne b2]; exact h) n, fun b h => by
    have b1 : b ≠ x := fun z => h (z ▸ nx)
    have b2 : b ≠ dx := fun z => h (z ▸ ndx)
    exact g.dm b (by rw [upd_ne b1, upd_ne b2]; exact h)⟩
theorem ev_Order {σ : St} {F H : Hp} {ta tb : TE} {C : Addr} {n : Nat} {ps : List (Nat × Nat)} {E : XK} (ha : Ev rInt ta σ F H (n : Int)) (hb : Ev (rLst (rPr rNat rNat)) tb σ F H ps) (hg : GoodO n ps) : Ev (rOrder C) (tMake C (SpOrder C) [] E (tCons ta (tCons tb tNil))) σ F H (aboveM n ps) := fun F1 H1 g1 Q q =>
  ha F1 H1 g1 _ fun v F2 H2 g2 r => hb F2 H2 (g1.trans g2) _ fun w F3 H3 g3 r3 => fun x dx nx ndx nex => by
    cases (show v = _ from r)
    have e1 : Ex F3 (upd (upd H3 dx (.own x)) x (.ins C dx [])) := (g3.fh.mut (g3.fh.free ndx)).mut (g3.fh.free nx)
    exact ⟨F3, x, dx, w, n, ps, rfl, e1, g3.fh.free nx, upd_same, r3, hg, fun F' H' g k => ⟨rfl, q _ F' H' ((g2.trans g3).trans (.made (M := M0) nx ndx nex.symm g)) k⟩⟩
def atMostM (hs : List (List Nat)) (x y : Nat) : Bool := decide (x = y) || decide (y ∈ hs.getD x [])
def leastM (hs : List (List Nat)) : Option Nat := (List.range hs.length).find? fun p => decide (((hs.getD p []).length : Int) = (hs.length : Int) - 1)
def greatestM (hs : List (List Nat)) : Option Nat := (List.range hs.length).find? fun p => (List.range hs.length).all fun one => atMostM hs one p
end El

set_option Elab.async false
set_option linter.all false
set_option maxRecDepth 100000
set_option maxHeartbeats 4000000
namespace El
open PySem PySem.Spec L2
/-! ### len(set(pairs)) -/
def tLenSetP (K : PySem.W.Frag) (ta : TE) : TE := fun σ H Q => ta σ H fun x H1 => ∃ (l : Addr) (ks : List (Addr × List Int)), x = .ref l ∧ SqL K H1 l (ks.map fun p => V.ref p.1) ∧ (∀ p ∈ ks, SqT K H1 p.1 (p.2.map V.int)) ∧ ks.length < 64 ∧
  ∀ L : List (Addr × List Int), (∀ p ∈ L, p ∈ ks) → (∀ p ∈ ks, p.2 ∈ L.map (·.2)) → (L.map (·.2)).Nodup → Q (.int (L.length : Nat)) H1
open PyProof.Rows in
theorem klensetP {K : PySem.W.Frag} {X : Cx} {a : Expr} {ta : TE} {p p2 q pos : Pos} (hu : X.A.units + 64 < cLine) (hg : Gl X "len") (hm : X.mg "len" = none) (hg2 : Gl X "set") (hm2 : X.mg "set" = none) (ha : PE X a ta) (hc : X.calm = true := by rfl)
    (na : starEach [a] X.env = (false, eval a X.env) :: starEach [] X.env := by rfl) (hK : X.K = K := by rfl) : PE X (.Call (.Name "len" p) [.Call (.Name "set" p2) [a] [] q] [] pos) (tLenSetP K ta) := by
  subst hK
  refine ⟨fun pins s σ H Q I h => ?_⟩
  refine Call_ (ld_blt I hg hm boot_len ?_)
  refine PyProof.Rows.callWith_builtin1 (PyProof.Rows.args_cons ?_ rfl) rfl rfl
  refine Call_ (ld_blt I hg2 hm2 boot_set ?_)
  refine PyProof.Rows.callWith_type1 (PyProof.Rows.args_cons (thn (ha.run pins s σ H _ I h) fun v s1 ⟨x, H1, I1, r1, q1⟩ => PyProof.Rows.args_nil ?_) na) na rfl
  obtain ⟨l, ks, rfl, hq, hk, hf, q1⟩ := q1
  cases r1
  obtain ⟨its, rv, pl, hz⟩ := I1.list hq
  refine L2.call_set_tups (P := X.prog) (w := X.w) ks (I1.ok.hd hc) pl.isList (by simpa using L2.refs_of_vals rv) (fun p hp => I1.isT (hk p hp)) hf (by omega) fun h' tk L es ep t R g k => ?_
  refine PyProof.Rows.args_nil ?_
  obtain ⟨o, ho, hex, hd⟩ := R.ob
  have hs : es.size = L.length := by
    have h := congrArg List.length R.rows
    unfold L2.rowsOf at h
    rw [Array.length_toList, List.length_map] at h
    exact h
  have hfit : t.fits es.size = true := L2.SetTR.fits (s := { s1 with heap := h' }) R
  have I2 : Inv X pins σ H1 { s1 with heap := h', toks := tk } := I1.kept fun b o e => k b o e
  refine call_len_set ho hex hd hfit (by rw [hs]; have := R.few; omega) ⟨.int es.size, H1, I2.tok _, ⟨_, rfl⟩, ?_⟩
  have := q1 L (fun p hp => List.mem_of_mem_take (g.sub p hp)) (fun p hp => g.all p (by rw [List.take_length]; exact hp)) R.nd
  rw [hs]
  exact this
theorem ints_pr {H : Hp} {a : Addr} {x y : V} {p : Nat × Nat} (h : H a = some (.tup [x, y])) (r1 : rNat H x p.1) (r2 : rNat H y p.2) : H a = some (.tup ([(p.1 : Int), (p.2 : Int)].map V.int)) := by
  rw [h, show x = _ from r1, show y = _ from r2]
  rfl
theorem keys_pr {H : Hp} : ∀ {vs : List V} {ps : List (Nat × Nat)}, Paired (rPr rNat rNat H) vs ps → ∃ ks : List (Addr × List Int), vs = ks.map (fun p => V.ref p.1) ∧ ks.map (·.2) = ps.map (fun p => [(p.1 : Int), (p.2 : Int)]) ∧ ∀ p ∈ ks, H p.1 = some (.tup (p.2.map V.int))
  | _, _, .nil => ⟨[], rfl, rfl, fun _ h => nomatch h⟩
  | v :: vs, b :: bs, .cons ⟨a, x, y, e, h, r1, r2⟩ t => by
    obtain ⟨ks, h1, h2, h3⟩ := keys_pr t
    refine ⟨(a, [(b.1 : Int), (b.2 : Int)]) :: ks, by rw [List.map_cons, ← h1, e], by rw [List.map_cons, List.map_cons, h2], fun p hp => ?_⟩
    rcases List.mem_cons.mp hp with rfl | hp
    · exact ints_pr h r1 r2
    · exact h3 p hp
section
variable {K : PySem.W.Frag} {σ : St} {F H F' H' : Hp} {ta tb tc te : TE}
theorem ev_lenSetP {ps : List (Nat × Nat)} (ha : Ev (rLst (rPr rNat rNat)) ta σ F H ps) (hz : ps.length < 64) (nd : ps.Nodup) : Ev rInt (tLenSetP K ta) σ F H (ps.length : Int) := fun F1 H1 g1 Q q =>
  ha F1 H1 g1 _ fun v F2 H2 g2 ⟨a, vs, e, hl, p⟩ => by
    obtain ⟨ks, h1, h2, h3⟩ := keys_pr p
    have hlen : ks.length = ps.length := by
      have := congrArg List.length h2
      rw [List.length_map, List.length_map] at this
      exact this
    refine ⟨a, ks, e, by rw [← h1]; exact SqL.of (g2.fh _ _ hl), fun p hp => SqT.of (g2.fh _ _ (h3 p hp)), by omega, fun L hL1 hL2 hnd => ?_⟩
    have hks : (ks.map (·.2)).Nodup := by
      rw [h2]
      refine List.Pairwise.map _ (fun x y hxy => ?_) nd
      intro z
      apply hxy
      injection z with z1 z2
      injection z2 with z2 _
      exact Prod.ext (by omega) (by omega)
    have : (L.map (·.2)).length = (ks.map (·.2)).length := nodup_len_of_mem hnd hks fun k => ⟨fun h => by
      obtain ⟨p, hp, rfl⟩ := List.mem_map.mp h
      exact List.mem_map.mpr ⟨p, hL1 p hp, rfl⟩, fun h => by
      obtain ⟨p, hp, rfl⟩ := List.mem_map.mp h
      exact hL2 p hp⟩
    rw [List.length_map, List.length_map, hlen] at this
    rw [this]
    exact q _ F2 H2 g2 rfl
/-! ### tuples of the written part -/
def KTup (K : PySem.W.Frag) (q : Addr) (ns : List Int) : Prop := ∃ (o : Obj) (its : Array Value) (n : Nat), K.lookup q = some o ∧ o.cls = .type "tuple" ∧ o.data = .seq its n ∧ its.size ≤ sizeLine ∧ Vals (ns.map V.int) its.toList
theorem ev_ixK {q : Addr} {ns : List Int} {i x : Int} (h : KTup K q ns) (hb : Ev rInt tb σ F H i) (hx : atI ns i = some x) : Ev rInt (tOp (rIxT K) (tC (.ref q)) tb) σ F H x := fun F1 H1 g1 Q k =>
  hb F1 H1 g1 _ fun w F3 H3 g3 r2 => by
    obtain ⟨y, hy, ry⟩ := atI_paired (paired_ints (H := F3) ns) hx
    exact ⟨q, _, i, y, rfl, r2, .inr h, hy, k y F3 H3 g3 ry⟩
/-- x in (a, b) -/
theorem ev_inPr {k a b : Nat} (hk : Ev rNat ta σ F H k) (ha : Ev (rTup rNat) tb σ F H [a, b]) : Ev rBl (tOp (rIn K false) ta tb) σ F H (decide (k = a) || decide (k = b)) := fun F1 H1 g1 Q q =>
  hk F1 H1 g1 _ fun v F2 H2 g2 r => ha F2 H2 (g1.trans g2) _ fun w F3 H3 g3 ⟨p, vs, e, hp, pr⟩ => by
    cases (show v = _ from r)
    have evs := nats_eq pr
    subst evs
    refine ⟨p, _, e, .inr (SqT.of (g3.fh _ _ hp)), rfl, rfl, ?_⟩
    have : inV (V.int (k : Int)) ([a, b].map fun n : Nat => V.int (n : Int)) = (decide (k = a) || decide (k = b)) := by
      have h1 : ∀ c : Nat, ((c : Int) == (k : Int)) = decide (k = c) := fun c => by
        by_cases h : k = c
        · rw [decide_eq_true h, h]; exact beq_self_eq_true _
        · rw [decide_eq_false h]; exact beq_eq_false_iff_ne.mpr (by omega)
      show (((a : Int) == (k : Int)) || (((b : Int) == (k : Int)) || false)) = _
      rw [h1, h1, Bool.or_false]
    show Q (.bl (inV (V.int (k : Int)) ([a, b].map fun n : Nat => V.int (n : Int)))) H3
    rw [this]
    exact q _ F3 H3 (g2.trans g3) rfl
theorem ev_intB {b : Bool} (ha : Ev rBl ta σ F H b) : Ev rInt (tCB (fun xs H Q => (∃ i, xs = [.int i] ∧ Q (.int i) H) ∨ ∃ k, xs = [.bl k] ∧ Q (.int (if k then 1 else 0)) H) (tCons ta tNil)) σ F H (if b then 1 else 0) := fun F1 H1 g1 Q q =>
  ha F1 H1 g1 _ fun v F2 H2 g2 r => .inr ⟨b, by rw [show v = _ from r], q _ F2 H2 g2 rfl⟩
end
/-! ### webs -/
structure Wb where
  spots : Nat
  ties : List (Nat × Nat)
  whole : Nat
  levels : List Nat
  h0 : 1 ≤ spots
  h1 : spots ≤ 5
  h2 : ∀ p ∈ ties, p.1 < p.2 ∧ p.2 < spots
  h3 : ties.Nodup
  h4 : 1 ≤ whole
  h5 : whole ≤ 40
  h6 : levels.length = spots
  h7 : ∀ l ∈ levels, l ≤ whole
def rWeb (C : Addr) : Rp Wb := fun H v W => ∃ a dx l m, v = .ref a ∧ H a = some (.ins C dx [("spots", .int (W.spots : Int)), ("ties", l), ("whole", .int (W.whole : Int)), ("levels", m)]) ∧ rLst (rPr rNat rNat) H l W.ties ∧ rLst rNat H m W.levels
instance {C : Addr} : Mn (rWeb C) := ⟨fun e ⟨a, dx, l, m, h1, h2, h3, h4⟩ => ⟨a, dx, l, m, h1, e _ _ h2, Mn.mono e h3, Mn.mono e h4⟩⟩
instance {C : Addr} : NotN (rWeb C) := ⟨fun ⟨_, _, _, _, h, _⟩ e => by rw [h] at e; cases e⟩
theorem fld_spots {K : PySem.W.Frag} {C : Addr} (c : Cls K C) (n : NoAttr K C "spots") : IsF (rWeb C) K "spots" rNat Wb.spots := ⟨fun ⟨a, dx, l, m, h1, h2, h3, h4⟩ => ⟨a, C, dx, _, _, h1, h2, c, n, rfl, rfl⟩⟩
theorem fld_ties {K : PySem.W.Frag} {C : Addr} (c : Cls K C) (n : NoAttr K C "ties") : IsF (rWeb C) K "ties" (rLst (rPr rNat rNat)) Wb.ties := ⟨fun ⟨a, dx, l, m, h1, h2, h3, h4⟩ => ⟨a, C, dx, _, _, h1, h2, c, n, rfl, h3⟩⟩
theorem fld_whole {K : PySem.W.Frag} {C : Addr} (c : Cls K C) (n : NoAttr K C "whole") : IsF (rWeb C) K "whole" rNat Wb.whole := ⟨fun ⟨a, dx, l, m, h1, h2, h3, h4⟩ => ⟨a, C, dx, _, _, h1, h2, c, n, rfl, rfl⟩⟩
theorem fld_levels {K : PySem.W.Frag} {C : Addr} (c : Cls K C) (n : NoAttr K C "levels") : IsF (rWeb C) K "levels" (rLst rNat) Wb.levels := ⟨fun ⟨a, dx, l, m, h1, h2, h3, h4⟩ => ⟨a, C, dx, _, _, h1, h2, c, n, rfl, h4⟩⟩
def SpWeb (C : Addr) : Sp := fun vs H Q _ => ∃ (F : Hp) (a dx : Addr) (l m : V) (W : Wb), vs = [.ref a, .int (W.spots : Int), l, .int (W.whole : Int), m] ∧ Ex F H ∧ F a = none ∧ H a = some (.ins C dx []) ∧ rLst (rPr rNat rNat) F l W.ties ∧ rLst rNat F m W.levels ∧
  ∀ F' H', Gr (M1 a) F H F' H' → rWeb C F' (.ref a) W → Q .non H'
instance {C : Addr} : SpLen (SpWeb C) 5 := ⟨fun ⟨_, _, _, _, _, _, h, _⟩ => by rw [h]; rfl⟩
theorem ev_Web {σ : St} {F H : Hp} {ta tb tc td : TE} {C : Addr} {W : Wb} {E : XK} (ha : Ev rInt ta σ F H (W.spots : Int)) (hb : Ev (rLst (rPr rNat rNat)) tb σ F H W.ties) (hc : Ev rInt tc σ F H (W.whole : Int)) (hd : Ev (rLst rNat) td σ F H W.levels) :
    Ev (rWeb C) (tMake C (SpWeb C) [] E (tCons ta (tCons tb (tCons tc (tCons td tNil))))) σ F H W := fun F1 H1 g1 Q q =>
  ha F1 H1 g1 _ fun v F2 H2 g2 r => hb F2 H2 (g1.trans g2) _ fun w F3 H3 g3 r3 => hc F3 H3 ((g1.trans g2).trans g3) _ fun u F4 H4 g4 r4 => hd F4 H4 (((g1.trans g2).trans g3).trans g4) _ fun z F5 H5 g5 r5 => fun x dx nx ndx nex => by
    cases (show v = _ from r)
    cases (show u = _ from r4)
    have e1 : Ex F5 (upd (upd H5 dx (.own x)) x (.ins C dx [])) := (g5.fh.mut (g5.fh.free ndx)).mut (g5.fh.free nx)
    exact ⟨F5, x, dx, w, z, W, rfl, e1, g5.fh.free nx, upd_same, Mn.mono (g4.ff.trans g5.ff) r3, r5, fun F' H' g k => ⟨rfl, q _ F' H' ((((g2.trans g3).trans g4).trans g5).trans (.made (M := M0) nx ndx nex.symm g)) k⟩⟩
end El

set_option Elab.async false
set_option linter.all false
set_option maxRecDepth 100000
set_option maxHeartbeats 4000000
namespace El
open PySem PySem.Spec L2
def upB (p s : Nat) : Bool := decide (p / 2 ^ s % 2 = 1)
def pairsM (n : Nat) : List (Nat × Nat) := ((List.range (2 ^ n)).map fun p => ((List.range n).filter fun s => !upB p s).map fun s => (p, p + 2 ^ s)).flatten
def hsM (n : Nat) : List (List Nat) := aboveM (2 ^ n) (pairsM n)
def subB (n x y : Nat) : Bool := (List.range n).all fun s => upB y s || !upB x s
def factsB (n : Nat) (hs : List (List Nat)) : Bool :=
  (leastM hs == some 0) && (greatestM hs == some (2 ^ n - 1)) && ((List.range (2 ^ n)).all fun x => !decide (x ∈ hs.getD x [])) && ((List.range (2 ^ n)).all fun x => (List.range (2 ^ n)).all fun y => atMostM hs x y == subB n x y)
def pairsB (n : Nat) : Bool := decide ((pairsM n).length ≤ 100) && (pairsM n).all fun p => decide (p.1 < 2 ^ n) && decide (p.2 < 2 ^ n) && !decide (p.1 = p.2)
def hs1 : List (List Nat) := [[1], []]
theorem hs1_eq : hsM 1 = hs1 := by decide +kernel
theorem facts1 : factsB 1 hs1 = true := by decide +kernel
theorem pairs1 : pairsB 1 = true := by decide +kernel
def hs2 : List (List Nat) := [[2, 3, 1], [3], [3], []]
theorem hs2_eq : hsM 2 = hs2 := by decide +kernel
theorem facts2 : factsB 2 hs2 = true := by decide +kernel
theorem pairs2 : pairsB 2 = true := by decide +kernel
def hs3 : List (List Nat) := [[4, 6, 7, 5, 2, 3, 1], [5, 7, 3], [6, 7, 3], [7], [6, 7, 5], [7], [7], []]
theorem hs3_eq : hsM 3 = hs3 := by decide +kernel
theorem facts3 : factsB 3 hs3 = true := by decide +kernel
theorem pairs3 : pairsB 3 = true := by decide +kernel
def hs4 : List (List Nat) := [[8, 12, 14, 15, 13, 10, 11, 9, 4, 6, 7, 5, 2, 3, 1], [9, 13, 15, 11, 5, 7, 3], [10, 14, 15, 11, 6, 7, 3], [11, 15, 7], [12, 14, 15, 13, 6, 7, 5], [13, 15, 7], [14, 15, 7], [15], [12, 14, 15, 13, 10, 11, 9], [13, 15, 11], [14, 15, 11], [15], [14, 15, 13], [15], [15], []]
theorem hs4_eq : hsM 4 = hs4 := by decide +kernel
theorem facts4 : factsB 4 hs4 = true := by decide +kernel
theorem pairs4 : pairsB 4 = true := by decide +kernel
def hs5 : List (List Nat) := [[16, 24, 28, 30, 31, 29, 26, 27, 25, 20, 22, 23, 21, 18, 19, 17, 8, 12, 14, 15, 13, 10, 11, 9, 4, 6, 7, 5, 2, 3, 1], [17, 25, 29, 31, 27, 21, 23, 19, 9, 13, 15, 11, 5, 7, 3], [18, 26, 30, 31, 27, 22, 23, 19, 10, 14, 15, 11, 6, 7, 3], [19, 27, 31, 23, 11, 15, 7], [20, 28, 30, 31, 29, 22, 23, 21, 12, 14, 15, 13, 6, 7, 5], [21, 29, 31, 23, 13, 15, 7], [22, 30, 31, 23, 14, 15, 7], [23, 31, 15], [24, 28, 30, 31, 29, 26, 27, 25, 12, 14, 15, 13, 10, 11, 9], [25, 29, 31, 27, 13, 15, 11], [26, 30, 31, 27, 14, 15, 11], [27, 31, 15], [28, 30, 31, 29, 14, 15, 13], [29, 31, 15], [30, 31, 15], [31], [24, 28, 30, 31, 29, 26, 27, 25, 20, 22, 23, 21, 18, 19, 17], [25, 29, 31, 27, 21, 23, 19], [26, 30, 31, 27, 22, 23, 19], [27, 31, 23], [28, 30, 31, 29, 22, 23, 21], [29, 31, 23], [30, 31, 23], [31], [28, 30, 31, 29, 26, 27, 25], [29, 31, 27], [30, 31, 27], [31], [30, 31, 29], [31], [31], []]
theorem hs5_eq : hsM 5 = hs5 := by decide +kernel
theorem facts5 : factsB 5 hs5 = true := by decide +kernel
theorem pairs5 : pairsB 5 = true := by decide +kernel
theorem facts {n : Nat} (h0 : 1 ≤ n) (h1 : n ≤ 5) : factsB n (hsM n) = true := by
  match n, h0, h1 with
  | 1, _, _ => rw [hs1_eq]; exact facts1
  | 2, _, _ => rw [hs2_eq]; exact facts2
  | 3, _, _ => rw [hs3_eq]; exact facts3
  | 4, _, _ => rw [hs4_eq]; exact facts4
  | 5, _, _ => rw [hs5_eq]; exact facts5
theorem pairs_ok {n : Nat} (h0 : 1 ≤ n) (h1 : n ≤ 5) : pairsB n = true := by
  match n, h0, h1 with
  | 1, _, _ => exact pairs1
  | 2, _, _ => exact pairs2
  | 3, _, _ => exact pairs3
  | 4, _, _ => exact pairs4
  | 5, _, _ => exact pairs5
theorem pow_le {n : Nat} (h1 : n ≤ 5) : 2 ^ n ≤ 32 := by
  have : 2 ^ n ≤ 2 ^ 5 := Nat.pow_le_pow_right (by decide) h1
  exact this
theorem hs_least {n : Nat} (h0 : 1 ≤ n) (h1 : n ≤ 5) : leastM (hsM n) = some 0 := by
  have := facts h0 h1
  unfold factsB at this
  simp only [Bool.and_eq_true, beq_iff_eq] at this
  exact this.1.1.1
theorem hs_greatest {n : Nat} (h0 : 1 ≤ n) (h1 : n ≤ 5) : greatestM (hsM n) = some (2 ^ n - 1) := by
  have := facts h0 h1
  unfold factsB at this
  simp only [Bool.and_eq_true, beq_iff_eq] at this
  exact this.1.1.2
theorem hs_irr {n : Nat} (h0 : 1 ≤ n) (h1 : n ≤ 5) : ∀ x, x < 2 ^ n → x ∉ (hsM n).getD x [] := fun x hx hm => by
  have := facts h0 h1
  unfold factsB at this
  simp only [Bool.and_eq_true] at this
  have h2 := List.all_eq_true.mp this.1.2 x (List.mem_range.mpr hx)
  rw [decide_eq_true hm] at h2
  cases h2
theorem hs_sub {n : Nat} (h0 : 1 ≤ n) (h1 : n ≤ 5) {x y : Nat} (hx : x < 2 ^ n) (hy : y < 2 ^ n) : atMostM (hsM n) x y = subB n x y := by
  have := facts h0 h1
  unfold factsB at this
  simp only [Bool.and_eq_true] at this
  have h2 := List.all_eq_true.mp this.2 x (List.mem_range.mpr hx)
  have h3 := List.all_eq_true.mp h2 y (List.mem_range.mpr hy)
  exact beq_iff_eq.mp h3
theorem good_pairs {n : Nat} (h0 : 1 ≤ n) (h1 : n ≤ 5) : GoodO (2 ^ n) (pairsM n) := by
  have hp := pairs_ok h0 h1
  unfold pairsB at hp
  rw [Bool.and_eq_true] at hp
  refine ⟨Nat.one_le_two_pow, pow_le h1, of_decide_eq_true hp.1, fun p h => ?_, hs_irr h0 h1⟩
  have := List.all_eq_true.mp hp.2 p h
  simp only [Bool.and_eq_true, Bool.not_eq_true', decide_eq_true_eq, decide_eq_false_iff_not] at this
  exact ⟨this.1.1, this.1.2, this.2⟩
/-! ### moving -/
def tiedM (ties : List (Nat × Nat)) (s : Nat) : List Nat := (ties.filter fun x => decide (s = x.1) || decide (s = x.2)).map fun x => x.1 + x.2 - s
def countM (ties : List (Nat × Nat)) (p s : Nat) : Nat := ((tiedM ties s).filter fun y => upB p y).length
def standB (W : Wb) (p s k : Nat) : Bool := decide (k < W.levels.getD (countM W.ties p s) 0)
def movedM (W : Wb) (p s k : Nat) : Nat := p + (if standB W p s k then 2 ^ s else 0) - (if upB p s then 2 ^ s else 0)
theorem up_le {p s : Nat} (h : upB p s = true) : 2 ^ s ≤ p := by
  have h1 : p / 2 ^ s % 2 = 1 := of_decide_eq_true h
  have h2 : 1 ≤ p / 2 ^ s := by
    rcases Nat.eq_zero_or_pos (p / 2 ^ s) with h | h
    · rw [h] at h1; cases h1
    · exact h
  have h3 := (Nat.le_div_iff_mul_le (Nat.two_pow_pos s)).mp h2
  omega
theorem moved_int {W : Wb} {p s k : Nat} : (p : Int) + ((if standB W p s k then 1 else 0) - (if upB p s then 1 else 0)) * ((2 ^ s : Nat) : Int) = (movedM W p s k : Int) := by
  unfold movedM
  have hu := fun h : upB p s = true => up_le h
  revert hu
  generalize 2 ^ s = q
  intro hu
  cases h1 : standB W p s k <;> cases h2 : upB p s
  · simp
  · have := hu h2
    simp only [Bool.false_eq_true, if_false, if_true]
    omega
  · simp
  · have := hu h2
    simp only [if_true]
    omega
theorem add_lt : ((List.range 6).all fun n => (List.range n).all fun s => (List.range (2 ^ n)).all fun p => upB p s || decide (p + 2 ^ s < 2 ^ n)) = true := by decide +kernel
theorem moved_lt {W : Wb} {p s k : Nat} (hp : p < 2 ^ W.spots) (hs : s < W.spots) : movedM W p s k < 2 ^ W.spots := by
  have h1 := W.h1
  have h := List.all_eq_true.mp (List.all_eq_true.mp (List.all_eq_true.mp add_lt W.spots (List.mem_range.mpr (by omega))) s (List.mem_range.mpr hs)) p (List.mem_range.mpr hp)
  unfold movedM
  have hu := fun h : upB p s = true => up_le h
  have hq : upB p s = false → p + 2 ^ s < 2 ^ W.spots := fun h2 => by
    rw [h2] at h
    exact of_decide_eq_true h
  revert hu hq hp
  generalize 2 ^ s = q
  generalize 2 ^ W.spots = N
  intro hp hu hq
  cases h1 : standB W p s k <;> cases h2 : upB p s
  · simpa using hp
  · simp only [Bool.false_eq_true, if_false, if_true]
    omega
  · simpa using hq h2
  · simp only [if_true]
    omega
theorem tied_mem {W : Wb} {s y : Nat} (h : y ∈ tiedM W.ties s) : y < W.spots ∧ y ≠ s := by
  unfold tiedM at h
  obtain ⟨x, hx, rfl⟩ := List.mem_map.mp h
  obtain ⟨h1, h2⟩ := List.mem_filter.mp hx
  obtain ⟨h3, h4⟩ := W.h2 x h1
  rw [Bool.or_eq_true, decide_eq_true_eq, decide_eq_true_eq] at h2
  omega
theorem tied_nodup {W : Wb} {s : Nat} : (tiedM W.ties s).Nodup := by
  unfold tiedM
  have nd : (W.ties.filter fun x => decide (s = x.1) || decide (s = x.2)).Nodup := W.h3.filter _
  have hm : ∀ x ∈ (W.ties.filter fun x => decide (s = x.1) || decide (s = x.2)), (s = x.1 ∨ s = x.2) ∧ x.1 < x.2 := fun x hx => by
    obtain ⟨h1, h2⟩ := List.mem_filter.mp hx
    rw [Bool.or_eq_true, decide_eq_true_eq, decide_eq_true_eq] at h2
    exact ⟨h2, (W.h2 x h1).1⟩
  revert nd hm
  generalize (W.ties.filter fun x => decide (s = x.1) || decide (s = x.2)) = l
  intro nd hm
  rw [List.Nodup, List.pairwise_map]
  refine List.Pairwise.imp_of_mem (fun {x y} hx hy hne => ?_) nd
  intro z
  apply hne
  obtain ⟨a1, a2⟩ := hm x hx
  obtain ⟨b1, b2⟩ := hm y hy
  exact Prod.ext (by omega) (by omega)
theorem tied_len {W : Wb} {s : Nat} (hs : s < W.spots) : (tiedM W.ties s).length < W.spots := by
  have nd : (s :: tiedM W.ties s).Nodup := List.nodup_cons.mpr ⟨fun h => (tied_mem h).2 rfl, tied_nodup⟩
  have := nodup_lt nd fun y hy => by
    rcases List.mem_cons.mp hy with rfl | h
    · exact hs
    · exact (tied_mem h).1
  rw [List.length_cons] at this
  omega
theorem count_lt {W : Wb} {p s : Nat} (hs : s < W.spots) : countM W.ties p s < W.spots := by
  unfold countM
  have := List.length_filter_le (fun y => upB p y) (tiedM W.ties s)
  have := tied_len hs
  omega
def turnsML (W : Wb) : List (List Nat) := ((List.range W.spots).map fun s => (List.range W.whole).map fun k => (List.range (2 ^ W.spots)).map fun p => movedM W p s k).flatten
theorem flat_const {α : Type} {c : Nat} : ∀ {ls : List (List α)}, (∀ l ∈ ls, l.length = c) → ls.flatten.length = ls.length * c
  | [], _ => by simp
  | l :: ls, h => by
    rw [List.flatten_cons, List.length_append, flat_const fun m hm => h m (List.mem_cons_of_mem _ hm), h l List.mem_cons_self, List.length_cons, Nat.succ_mul]
    omega
theorem turns_len {W : Wb} : (turnsML W).length = W.spots * W.whole := by
  unfold turnsML
  rw [flat_const (c := W.whole) fun l hl => by obtain ⟨s, _, rfl⟩ := List.mem_map.mp hl; rw [List.length_map, List.length_range], List.length_map, List.length_range]
def turnsM (W : Wb) : Tn where
  many := 2 ^ W.spots
  maps := turnsML W
  h0 := Nat.one_le_two_pow
  h1 := pow_le W.h1
  h2 := by rw [turns_len]; exact Nat.mul_pos W.h0 W.h4
  h3 := by rw [turns_len]; exact Nat.mul_le_mul W.h1 W.h5
  h4 := fun m hm => by
    obtain ⟨l, hl, hm⟩ := List.mem_flatten.mp hm
    obtain ⟨s, hs, rfl⟩ := List.mem_map.mp hl
    obtain ⟨k, hk, rfl⟩ := List.mem_map.mp hm
    refine ⟨by rw [List.length_map, List.length_range], fun x hx => ?_⟩
    obtain ⟨p, hp, rfl⟩ := List.mem_map.mp hx
    exact moved_lt (List.mem_range.mp hp) (List.mem_range.mp hs)
theorem ties_len (W : Wb) : W.ties.length ≤ 25 := by
  have h1 := W.h1
  have nd : (W.ties.map fun p => p.1 * 5 + p.2).Nodup := by
    rw [List.Nodup, List.pairwise_map]
    refine List.Pairwise.imp_of_mem (fun {x y} hx hy hne => ?_) W.h3
    intro z
    apply hne
    have a := W.h2 x hx
    have b := W.h2 y hy
    exact Prod.ext (by omega) (by omega)
  have := nodup_lt (n := 25) nd fun y hy => by
    obtain ⟨p, hp, rfl⟩ := List.mem_map.mp hy
    have := W.h2 p hp
    omega
  rw [List.length_map] at this
  exact this
theorem worth {s : Nat} (h : s < 6) : atI ([1, 2, 4, 8, 16, 32] : List Int) (s : Int) = some ((2 ^ s : Nat) : Int) := by
  match s, h with
  | 0, _ => rfl
  | 1, _ => rfl
  | 2, _ => rfl
  | 3, _ => rfl
  | 4, _ => rfl
  | 5, _ => rfl
end El

set_option Elab.async false
set_option linter.all false
set_option maxRecDepth 100000
set_option maxHeartbeats 4000000
namespace El
open PySem PySem.Spec PySem.W L2
section
variable {prog : Program} {w : World} {A : Around} {E : Value → Shared → Prop} {s : Shared} {K : Frag} {x C L f : Addr} {h₀ : Heap} {m : Str → Option Value} {ox : Obj} {od : Option Obj} {b : Value}
/-- object.__ne__ of an instance whose class has its own __eq__ -/
theorem objNe_K (X : K.In s.heap) (I : InstAt s.heap x ox C od) (hs : findIn K (.ref C) "__eq__" = some (some (.ref f))) (hf : isFn K (.ref f) = true) (hu : A.units < cLine) {Q : Fin → Shared → Prop}
    (hcall : wpAny (model prog w) A (call (.ref f) [.ref x, b]) (fun v s' => ∃ c, v = .bool c ∧ Q (.done (.ret (.bool (!c)))) s') E s) : wpAny (model prog w) A (Builtin.«object.__ne__» ⟨[.ref x, b], []⟩) Q E s := by
  unfold Builtin.«object.__ne__»
  obtain ⟨hp, g, d, t, os⟩ := s
  repeat (first
    | with_reducible refine wpAny_cRoomFor hu ?_
    | (refine wpAny_bind (m := callSpecialIfBound? (.ref x) (Str.ofString "__eq__") [b])
        (ifBound_K X I hs hf (wpAny_mono hcall (fun v s' hr => by
          obtain ⟨c, rfl, hq⟩ := hr
          repeat (first | exact hq | exact wpAny_pure hq | exact wpAny_truthy_bool hq | (refine wpAny_bind (m := truthy (.bool _)) (wpAny_truthy_bool ?_)) | wp_step)) fun _ _ e => e)))
    | wp_step)
theorem tryNe_K (X : K.In s.heap) (I : InstAt s.heap x ox C od) (hne : findIn K (.ref C) "__ne__" = some (some (.builtin "object.__ne__"))) (hm : mroIn K C (.type "object") = some true)
    (hs : findIn K (.ref C) "__eq__" = some (some (.ref f))) (hf : isFn K (.ref f) = true) (hu : A.in1.units < cLine) {Q : Option Value → Shared → Prop}
    (hcall : wpAny (model prog w) A.in1 (call (.ref f) [.ref x, b]) (fun v s' => ∃ c, v = .bool c ∧ Q (some (.bool (!c))) s') E s) : wpAny (model prog w) A (tryCompare (.ref x) "__ne__" b) Q E s := by
  have FB := PySem.F.cmp_object
  have sub : Looks (model prog w) s.heap (isInstance (.ref x) (.type "object")) true := I.type.andThen (looks_mroIn X hm)
  have one : wpAny (model prog w) A (call (.builtin "object.__ne__") [.ref x, b]) (fun v s' => ∃ c, v = .bool c ∧ Q (some (.bool c)) s') E s :=
    wpAny_call (codeAny_call_builtin FB.ne.plain PySem.F.cmpEntry_ne (@check_slot (model prog w) _ _ s "object.__ne__" "object" "__ne__" (.ref x) [b] [] _ PySem.F.cmpKind_ne PySem.F.cmpSplit_ne sub (PySem.F.cmpArgs_ne (.ref x) b)
      (objNe_K X I hs hf hu (wpAny_mono hcall (fun v s' hv => by
        obtain ⟨c, rfl, hq⟩ := hv
        exact ⟨c, rfl, ⟨!c, rfl, hq⟩⟩) fun _ _ e => e))))
  unfold tryCompare
  refine wpAny_bind ?_
  simp only [callSpecialIfBound?, bindSpecialIfBound?]
  refine wpAny_holding (wpAny_bind (wpAny_bind (wpAny_bind (I.type.here ((looks_findIn X hne).here ?_)))))
  simp only [FB.ne.bind]
  refine wpAny_bind (wpAny_askSetting (wpAny_ite ?_))
  have fin : wpAny (model prog w) A (call (.builtin "object.__ne__") ([.ref x] ++ [b]) >>= fun v => pure (some v)) (fun v s' => ∃ c, v = some (.bool c) ∧ Q (some (.bool c)) s') E s :=
    wpAny_bind (wpAny_mono one (fun v s' h' => by obtain ⟨c, rfl, hq⟩ := h'; exact wpAny_pure ⟨c, rfl, hq⟩) fun _ _ h' => h')
  have back : ∀ (v : Option Value) s', (∃ c, v = some (Value.bool c) ∧ Q (some (.bool c)) s') → wpAny (model prog w) A (match v with | some .notImplemented => pure none | v => pure v) Q E s' := fun v s' ⟨c, e, hq⟩ => by
    subst e
    exact wpAny_pure hq
  split
  · exact wpAny_bind (wpAny_pure (wpAny_pure (wpAny_mono fin (fun v s' h' => by obtain ⟨c, rfl, hq⟩ := h'; exact wpAny_pure hq) fun _ _ e => e)))
  · exact wpAny_tryCatch (wpAny_bind (wpAny_pure (wpAny_pure (wpAny_mono fin (fun v s' h' => by obtain ⟨c, rfl, hq⟩ := h'; exact wpAny_pure hq) fun _ _ e => e))))
theorem richNe_K (F : PyProof.Rows.Fr h₀ L s.heap m) (X₀ : K.In h₀) (I : InstAt s.heap x ox C od) (hb : Looks (model prog w) s.heap (typeOf b) (.ref C)) (hne : findIn K (.ref C) "__ne__" = some (some (.builtin "object.__ne__"))) (hm : mroIn K C (.type "object") = some true)
    (hs : findIn K (.ref C) "__eq__" = some (some (.ref f))) (hf : isFn K (.ref f) = true) (hu : A.units < cLine) (hu1 : A.in1.units < cLine) {Q : Value → Shared → Prop}
    (hcall : wpAny (model prog w) A.in1 (call (.ref f) [.ref x, b]) (fun v s' => ∃ c, v = .bool c ∧ Q (.bool (!c)) s') E s) : wpAny (model prog w) A (richCompare .NotEq (.ref x) b) Q E s := by
  have X := X₀.keeps F.keep
  have one : wpAny (model prog w) A (tryCompare (.ref x) "__ne__" b) (fun r s' => ∃ v, r = some v ∧ Q v s') E s := tryNe_K X I hne hm hs hf hu1 (wpAny_mono hcall (fun v s' hv => by
    obtain ⟨c, rfl, hq⟩ := hv
    exact ⟨c, rfl, _, rfl, hq⟩) fun _ _ e => e)
  unfold richCompare
  simp only [oneThing_ref]
  refine wpAny_holding (wpAny_bind (wpAny_cRoomFor hu ?_))
  rw [cmpInfo_NotEq]
  dsimp only
  refine wpAny_bind (I.type.here (wpAny_bind (hb.here ?_)))
  rw [show (Value.ref C != Value.ref C) = false from by simp]
  simp only [Bool.false_eq_true, if_false]
  refine wpAny_bind (wpAny_pure ?_)
  simp only [Bool.false_eq_true, if_false]
  refine wpAny_bind (wpAny_mono one (fun r s' z => ?_) fun _ _ e => e)
  obtain ⟨v, rfl, hq⟩ := z
  exact wpAny_pure hq
end
/-- x != y, by the class's own ==, which says they are equal -/
def rNeG (D : Eqv) : R2 := fun x y H Q => D x y H ∧ ∀ H', Ext H H' → Q (.bl false) H'
theorem op_neG {X : Cx} {CX : CXT} {n : Nat} {C f : Addr} {fd : FuncData} {ps : List Str} {R : Addr → Addr → Hp → Prop} {E : XK} (F : FnOk X.prog X.w X.K X.mg X.base CX n f fd ps (spEq R))
    (hs : findIn X.K (.ref C) "__eq__" = some (some (.ref f))) (hf : isFn X.K (.ref f) = true) (hne : findIn X.K (.ref C) "__ne__" = some (some (.builtin "object.__ne__"))) (hm : mroIn X.K C (.type "object") = some true) (hb : Binds X.K fd ps []) (hx : Passes CX X E) (hr : Room (n + 1) X.A) : OpR X (compareOp .NotEq) (rNeG (DIns C R)) := by
  intro pins s σ H x y v u Q I rx ry hq
  obtain ⟨d, q⟩ := hq
  show wpAny (model X.prog X.w) X.A (richCompare .NotEq v u) (EP X pins σ Q) X.xe s
  obtain ⟨a, b, dx, dy, fs, gs, rfl, rfl, ha, hb', hr'⟩ := d
  cases rx
  cases ry
  obtain ⟨mA, J, _⟩ := ins_get I.hok ha
  obtain ⟨mB, J', _⟩ := ins_get I.hok hb'
  obtain ⟨od, J, _⟩ := J.look
  obtain ⟨od', J', _⟩ := J'.look
  obtain ⟨m, hF⟩ := I.fr
  have hu1 := hr.in1.units
  have hu2 := hr.units
  refine richNe_K hF I.ok.mod.kin J J'.type hne hm hs hf (by omega) (by omega) ?_
  have hsp : spEq R [.ref a, .ref b] H (fun v H' => v = .bl true ∧ Ext H H') E := ⟨a, b, rfl, hr', fun H' e => ⟨rfl, e⟩⟩
  have e0 : Env0 X.prog X.w X.K X.mg X.base X.A.in1 X.stack s H := by
    have e := I.env0
    exact ⟨e.frames, e.mod, e.bs, e.bsz, e.funs, e.frf, e.hok, e.bare⟩
  have hl := F.len _ _ _ _ hsp
  have r2 : Vals [V.ref a, V.ref b] [Value.ref a, Value.ref b] := .cons rfl (.cons rfl .nil)
  refine wpAny_call (codeAny_mono (F.run X.A.in1 X.stack s H ⟨[.ref a, .ref b], []⟩ [.ref a, .ref b] [.ref a, .ref b] _ E hr.in1 e0 (by
    have := hb s [.ref a, .ref b] I.kIn (by simpa using hl)
    simpa using this) r2 hsp) fun r s' hq => ?_)
  cases r with
  | error e => exact hx pins σ H s e s' I hq
  | ok fl =>
    cases fl with
    | ret w =>
      obtain ⟨z, H', I', rz, ez, ex⟩ := I.after hq
      subst ez
      cases rz
      exact ⟨true, rfl, .bl false, H', I', rfl, q H' ex⟩
    | next => exact False.elim hq
    | brk => exact False.elim hq
    | cont => exact False.elim hq
theorem ev_neTurns {σ : St} {F H : Hp} {ta tb : TE} {C : Addr} {t : Tn} (ha : Ev (rTurns C) ta σ F H t) (hb : Ev (rTurns C) tb σ F H t) : Ev rBl (tOp (rNeG (DIns C (REq C))) ta tb) σ F H false := fun F1 H1 g1 Q q =>
  ha F1 H1 g1 _ fun v F2 H2 g2 r => hb F2 H2 (g1.trans g2) _ fun w F3 H3 g3 r2 => by
    have r' := Mn.mono g3.ff r
    have r3 := r'
    have r4 := r2
    obtain ⟨a, dx, l, rfl, h1, h2⟩ := r3
    obtain ⟨b, dy, l', rfl, h3, h4⟩ := r4
    exact ⟨⟨a, b, dx, dy, _, _, rfl, rfl, g3.fh _ _ h1, g3.fh _ _ h3, F3, t, g3.fh, r', r2⟩, fun H' x => q _ F3 H' ((g2.trans g3).trans (.ext g3.fh x)) rfl⟩
end El

set_option Elab.async false
set_option linter.all false
set_option maxRecDepth 100000
set_option maxHeartbeats 4000000
namespace El
open PySem PySem.Spec L2
/-! ### tuples of four -/
def r4 {α β γ δ : Type} (R : Rp α) (S : Rp β) (T : Rp γ) (U : Rp δ) : Rp (α × β × γ × δ) := fun H v p => ∃ a x y z u, v = .ref a ∧ H a = some (.tup [x, y, z, u]) ∧ R H x p.1 ∧ S H y p.2.1 ∧ T H z p.2.2.1 ∧ U H u p.2.2.2
instance {α β γ δ : Type} {R : Rp α} {S : Rp β} {T : Rp γ} {U : Rp δ} [m : Mn R] [n : Mn S] [o : Mn T] [q : Mn U] : Mn (r4 R S T U) := ⟨fun e ⟨a, x, y, z, u, h1, h2, h3, h4, h5, h6⟩ => ⟨a, x, y, z, u, h1, e _ _ h2, m.mono e h3, n.mono e h4, o.mono e h5, q.mono e h6⟩⟩
instance {α β γ δ : Type} {R : Rp α} {S : Rp β} {T : Rp γ} {U : Rp δ} [d1 : Dt R] [d2 : Dt S] [d3 : Dt T] [d4 : Dt U] : Dt (r4 R S T U) where
  data := fun p => .tuple [d1.data p.1, d2.data p.2.1, d3.data p.2.2.1, d4.data p.2.2.2]
  rep := fun e ⟨a, x, y, z, u, h1, h2, h3, h4, h5, h6⟩ => by
    subst h1
    exact .tup (SqT.of (e _ _ h2)) (.cons (d1.rep e h3) (.cons (d2.rep e h4) (.cons (d3.rep e h5) (.cons (d4.rep e h6) .nil))))
  lay := fun p => by
    show (PyData.canLay0 (d1.data p.1) && (PyData.canLay0 (d2.data p.2.1) && (PyData.canLay0 (d3.data p.2.2.1) && (PyData.canLay0 (d4.data p.2.2.2) && true)))) = true
    rw [d1.lay, d2.lay, d3.lay, d4.lay]
    rfl
  dep := 1 + max d1.dep (max d2.dep (max d3.dep d4.dep))
  depth := fun p => by
    have h1 := d1.depth p.1
    have h2 := d2.depth p.2.1
    have h3 := d3.depth p.2.2.1
    have h4 := d4.depth p.2.2.2
    show max (PyData.depth (d1.data p.1)) (max (PyData.depth (d2.data p.2.1)) (max (PyData.depth (d3.data p.2.2.1)) (max (PyData.depth (d4.data p.2.2.2)) 0))) + 1 ≤ _
    omega
  eqv := fun x y => by
    show (PyData.eqv (d1.data x.1) (d1.data y.1) && (PyData.eqv (d2.data x.2.1) (d2.data y.2.1) && (PyData.eqv (d3.data x.2.2.1) (d3.data y.2.2.1) && (PyData.eqv (d4.data x.2.2.2) (d4.data y.2.2.2) && true)))) = true ↔ _
    rw [Bool.and_eq_true, Bool.and_eq_true, Bool.and_eq_true, Bool.and_true, d1.eqv, d2.eqv, d3.eqv, d4.eqv]
    obtain ⟨a, b, c, d⟩ := x
    obtain ⟨a', b', c', d'⟩ := y
    simp
theorem Paired.erase {α β : Type} {F : α → β → Prop} : ∀ {as : List α} {bs : List β} (n : Nat), Paired F as bs → Paired F (as.eraseIdx n) (bs.eraseIdx n)
  | _, _, _, .nil => .nil
  | _, _, 0, .cons _ t => t
  | _, _, n + 1, .cons r t => .cons r (Paired.erase n t)
theorem erase_perm {α : Type} : ∀ {l : List α} {i : Nat} {x : α}, l[i]? = some x → (x :: l.eraseIdx i).Perm l
  | [], i, x, h => by simp at h
  | a :: l, 0, x, h => by simp at h; subst h; exact .refl _
  | a :: l, i + 1, x, h => (List.Perm.swap a x _).trans (.cons a (erase_perm (by simpa using h)))
theorem seqIx {d len : Nat} (h : d < len) : seqIndex? (d : Int) len = some d := by
  unfold seqIndex?
  simp
  omega
def Sp5 {α β γ δ ε ζ : Type} (R : Rp α) (S : Rp β) (T : Rp γ) (U : Rp δ) (X : Rp ζ) (Pre : α → β → γ → δ → ζ → Prop) (W : Rp ε) (f : α → β → γ → δ → ζ → ε) : Sp := fun vs H Q _ => ∃ F v w u u' u'' x y z z' z'', vs = [v, w, u, u', u''] ∧ Ex F H ∧ R F v x ∧ S F w y ∧ T F u z ∧ U F u' z' ∧ X F u'' z'' ∧ Pre x y z z' z'' ∧ ∀ r F' H', Gr M0 F H F' H' → W F' r (f x y z z' z'') → Q r H'
instance {α β γ δ ε ζ : Type} {R : Rp α} {S : Rp β} {T : Rp γ} {U : Rp δ} {X : Rp ζ} {W : Rp ε} {p : α → β → γ → δ → ζ → Prop} {f : α → β → γ → δ → ζ → ε} : SpLen (Sp5 R S T U X p W f) 5 := ⟨fun ⟨_, _, _, _, _, _, _, _, _, _, _, h, _⟩ => by rw [h]; rfl⟩
section
variable {K : PySem.W.Frag} {σ : St} {F H F' H' : Hp} {ta tb tc td te tl tx : TE} {tt : TT} {α β γ δ ε ζ : Type} {R : Rp α} {S : Rp β} {T : Rp γ} {U : Rp δ} {X : Rp ζ} {W : Rp ε} {x : α} {y : β} {z : γ} {u : δ} {o : ζ} {xs : List α} {ys : List β} {a : Addr} {c N : Nat} {D : Ends} {ts : TS} {E : XK}
theorem ev_call5 {Pre : α → β → γ → δ → ζ → Prop} {f : α → β → γ → δ → ζ → ε} (ha : Ev R ta σ F H x) (hb : Ev S tb σ F H y) (hc : Ev T tc σ F H z) (hd : Ev U td σ F H u) (hx : Ev X tx σ F H o) (p : Pre x y z u o) (m : Mn R := by infer_instance) (n : Mn S := by infer_instance) (m2 : Mn T := by infer_instance) (m3 : Mn U := by infer_instance) :
    Ev W (tCall (Sp5 R S T U X Pre W f) [] E (tCons ta (tCons tb (tCons tc (tCons td (tCons tx tNil)))))) σ F H (f x y z u o) := fun F1 H1 g1 Q q =>
  ha F1 H1 g1 _ fun v F2 H2 g2 r1 => hb F2 H2 (g1.trans g2) _ fun w F3 H3 g3 r2 => hc F3 H3 ((g1.trans g2).trans g3) _ fun v3 F4 H4 g4 r3 => hd F4 H4 (((g1.trans g2).trans g3).trans g4) _ fun v4 F5 H5 g5 r4 => hx F5 H5 ((((g1.trans g2).trans g3).trans g4).trans g5) _ fun v5 F6 H6 g6 r5 =>
    ⟨F6, v, w, v3, v4, v5, x, y, z, u, o, rfl, g6.fh, m.mono (g3.ff.trans (g4.ff.trans (g5.ff.trans g6.ff))) r1, n.mono (g4.ff.trans (g5.ff.trans g6.ff)) r2, m2.mono (g5.ff.trans g6.ff) r3, m3.mono g6.ff r4, r5, p, fun r F' H' g k => q r F' H' (g2.trans (g3.trans (g4.trans (g5.trans (g6.trans g))))) k⟩
/-- a tuple of four, as an expression -/
theorem ev_r4 (ha : Ev R ta σ F H x) (hb : Ev S tb σ F H y) (hc : Ev T tc σ F H z) (hd : Ev U td σ F H u) (m : Mn R := by infer_instance) (n : Mn S := by infer_instance) (m2 : Mn T := by infer_instance) (m3 : Mn U := by infer_instance) :
    Ev (r4 R S T U) (tTup (tCons ta (tCons tb (tCons tc (tCons td tNil))))) σ F H (x, y, z, u) := fun F1 H1 g1 Q q =>
  ha F1 H1 g1 _ fun v F2 H2 g2 r1 => hb F2 H2 (g1.trans g2) _ fun w F3 H3 g3 r2 => hc F3 H3 ((g1.trans g2).trans g3) _ fun v3 F4 H4 g4 r3 => hd F4 H4 (((g1.trans g2).trans g3).trans g4) _ fun v4 F5 H5 g5 r4 =>
    ⟨by show 4 ≤ sizeLine; decide, fun B hB => by
      have g6 : Gr M0 F5 H5 (upd F5 B (.tup [v, w, v3, v4])) (upd H5 B (.tup [v, w, v3, v4])) := .new g5.fh hB
      exact q _ _ _ (g2.trans (g3.trans (g4.trans (g5.trans g6)))) ⟨B, v, w, v3, v4, rfl, upd_same, m.mono (g3.ff.trans (g4.ff.trans (g5.ff.trans g6.ff))) r1, n.mono (g4.ff.trans (g5.ff.trans g6.ff)) r2, m2.mono (g5.ff.trans g6.ff) r3, m3.mono g6.ff r4⟩⟩
theorem es_r4 {P1 : α → Prop} {P2 : β → Prop} {P3 : γ → Prop} {P4 : δ → Prop} {c1 c2 c3 c4 : Nat} (ha : EvS a c1 R ta σ F H P1) (hb : EvS a c2 S tb σ F H P2) (hc : EvS a c3 T tc σ F H P3) (hd : EvS a c4 U td σ F H P4) (m : Mn R := by infer_instance) (n : Mn S := by infer_instance) (m2 : Mn T := by infer_instance) (m3 : Mn U := by infer_instance) :
    EvS a (c1 + c2 + c3 + c4) (r4 R S T U) (tTup (tCons ta (tCons tb (tCons tc (tCons td tNil))))) σ F H (fun p => P1 p.1 ∧ P2 p.2.1 ∧ P3 p.2.2.1 ∧ P4 p.2.2.2) := fun F1 H1 N g fa s Q q =>
  ha F1 H1 (N + c4 + c3 + c2) g fa (s.le (by omega)) _ fun v x F2 H2 g2 fa2 s2 p1 r1 => hb F2 H2 (N + c4 + c3) (g.trans g2) fa2 s2 _ fun w y F3 H3 g3 fa3 s3 p2 r2 => hc F3 H3 (N + c4) ((g.trans g2).trans g3) fa3 s3 _ fun v3 z F4 H4 g4 fa4 s4 p3 r3 => hd F4 H4 N (((g.trans g2).trans g3).trans g4) fa4 s4 _ fun v4 u F5 H5 g5 fa5 s5 p4 r4 =>
    ⟨by show 4 ≤ sizeLine; decide, fun B hB => by
      have g6 : Gr M0 F5 H5 (upd F5 B (.tup [v, w, v3, v4])) (upd H5 B (.tup [v, w, v3, v4])) := .new g5.fh hB
      obtain ⟨o, ho⟩ := s5.someO
      exact q _ (x, y, z, u) _ _ (g2.trans (g3.trans (g4.trans (g5.trans g6.up)))) (g6.nn ho fa5) (s5.gr g6) ⟨p1, p2, p3, p4⟩ ⟨B, v, w, v3, v4, rfl, upd_same, m.mono (g3.ff.trans (g4.ff.trans (g5.ff.trans g6.ff))) r1, n.mono (g4.ff.trans (g5.ff.trans g6.ff)) r2, m2.mono (g5.ff.trans g6.ff) r3, m3.mono g6.ff r4⟩⟩
/-- x, y, z, u = e, e a tuple of four -/
theorem x_quadS {i j k l : Nat} {P : α × β × γ × δ → Prop} (h : EvS a c (r4 R S T U) te σ F H P) (e : Ex F H) (fa : F a = none) (s : Src H a N) (hc : c ≤ N)
    (kk : ∀ v w v3 v4 x F' H', Gr (M1 a) F H F' H' → F' a = none → Src H' a (N - c) → P x → R F' v x.1 → S F' w x.2.1 → T F' v3 x.2.2.1 → U F' v4 x.2.2.2 → D.nx ((((σ.set i (some v)).set j (some w)).set k (some v3)).set l (some v4)) H') : tAsg te (gTup K 4 (gCons (gName i) (gCons (gName j) (gCons (gName k) (gCons (gName l) gNil))))) D σ H :=
  h F H (N - c) (.refl e) fa (s.le (by omega)) _ fun v x F' H' g fa' s' p ⟨b, u1, u2, u3, u4, eb, hb, r1, r2, r3, r4⟩ => by
    subst eb
    exact ⟨b, [u1, u2, u3, u4], rfl, SqT.of (g.fh _ _ hb), rfl, u1, [u2, u3, u4], rfl, u2, [u3, u4], rfl, u3, [u4], rfl, u4, [], rfl, rfl, kk u1 u2 u3 u4 x F' H' g fa' s' p r1 r2 r3 r4⟩
/-- xs.extend(e), e a draw -/
theorem x_extS {l : Addr} {i : Nat} {P : List α → Prop} {vs : List V} (hne : l ≠ a) (h : EvS a c (rLst R) te σ F H P) (e : Ex F H) (fa : F a = none) (s : Src H a N) (hc : c ≤ N) (hv : σ[i]? = some (some (.ref l))) (hl : H l = some (.lst vs)) (hz : ∀ zs, P zs → vs.length + zs.length ≤ sizeLine)
    (k : ∀ ws zs F' H', Gr (M1 a) F H F' H' → F' a = none → Src H' a (N - c) → P zs → Paired (R F') ws zs → H' l = some (.lst vs) → D.nx σ (upd H' l (.lst (vs ++ ws)))) : tDrop (tBM K "list" rExtend (tVar i) (tCons te tNil)) D σ H :=
  ⟨.ref l, hv, .inl ⟨rfl, vs, SqL.of hl⟩, h F H (N - c) (.refl e) fa (s.le (by omega)) _ fun w zs F' H' g fa' s' p ⟨b, ws, eb, hb, pr⟩ => by
    subst eb
    exact ⟨l, b, vs, ws, rfl, rfl, g.hh _ _ hne hl, g.fh _ _ hb, by rw [pr.length]; exact hz zs p, k ws zs F' H' g fa' s' p pr (g.hh _ _ hne hl)⟩⟩
/-- [elt for k in range(m, n) if test], the test a draw -/
theorem es_lcR2F {j B m n c2 : Nat} {vs : List Nat} (f : Nat → β) (ha : ∀ F1 H1, Gr (M1 a) F H F1 H1 → F1 a = none → Ev rInt ta σ F1 H1 (m : Int)) (hb : ∀ F1 H1, Gr (M1 a) F H F1 H1 → F1 a = none → Ev rInt tb σ F1 H1 (n : Int)) (hB : n - m ≤ B) (hB2 : B ≤ 1000000) (hm : m ≤ 1000000) (hn : n ≤ 1000000) (hw : ∀ v, wipe ((wipe σ vs).set j (some v)) vs = wipe σ vs)
    (ht : ∀ i : Nat, m + i < n → ∀ F1 H1, Gr (M1 a) F H F1 H1 → F1 a = none → EvTS a c2 tt ((wipe σ vs).set j (some (.int ((m + i : Nat) : Int)))) F1 H1 (fun _ => True))
    (he : ∀ i : Nat, m + i < n → ∀ F1 H1, Gr (M1 a) F H F1 H1 → F1 a = none → Ev S te ((wipe σ vs).set j (some (.int ((m + i : Nat) : Int)))) F1 H1 (f (m + i))) (m' : Mn S := by infer_instance) :
    EvS a (B * c2) (rLst S) (tLc (iRng2 (tCons ta (tCons tb tNil))) (gName j) tt te vs) σ F H (fun l => ∃ is : List Nat, l = is.map f ∧ is.Nodup ∧ is.length ≤ n - m ∧ ∀ i ∈ is, m ≤ i ∧ i < n) := by
  intro F1 H1 N g1 fa s Q q
  obtain ⟨o1, ho1⟩ := s.someO
  refine ha F1 H1 g1 fa F1 H1 (.refl g1.fh) _ fun v F2 H2 g2 ea => ?_
  have fa2 := g2.nn ho1 fa
  have s2 := s.gr g2
  obtain ⟨o2, ho2⟩ := s2.someO
  refine hb F2 H2 (g1.trans g2.up) fa2 F2 H2 (.refl g2.fh) _ fun w F3 H3 g3 eb => ?_
  have fa3 := g3.nn ho2 fa2
  have s3 := s2.gr g3
  have g123 := g1.trans (g2.trans g3).up
  refine ⟨(m : Int), (n : Int), by rw [show v = _ from ea, show w = _ from eb], ⟨by omega, by omega, by omega, by omega⟩, fun B' hD => ?_⟩
  rw [show ((n : Int) - (m : Int)).toNat = n - m by omega]
  have hne : B' ≠ a := fun z => by
    subst z
    exact s3.hn hD
  refine lc_range (lo := (m : Int)) (n := n - m) (fun i H' => ∃ F' us is, Gr (M1 a) F3 H3 F' H' ∧ F' a = none ∧ Src H' a (N + (B - i) * c2) ∧ F' B' = none ∧ H' B' = some (.lst us) ∧ is.length ≤ i ∧ Paired (S F') us (is.map f) ∧ is.Nodup ∧ ∀ t ∈ is, m ≤ t ∧ t < m + i)
    ⟨F3, [], [], .loc g3.fh hD, fa3, (by rw [Nat.sub_zero]; exact s3.ex (upd_ne hne.symm)), g3.fh.free hD, upd_same, Nat.le_refl _, .nil, List.nodup_nil, fun t h => nomatch h⟩ ?_ ?_
  · rintro i H' hi ⟨F', us, is, g, fa', s', fD, hD', hl, pu, nd, hP⟩
    have e0 : (m : Int) + (i : Int) = ((m + i : Nat) : Int) := by omega
    rw [e0]
    refine ⟨hw _, ?_⟩
    have hbb : (B - i) * c2 = (B - (i + 1)) * c2 + c2 := by
      rw [show B - i = (B - (i + 1)) + 1 by omega, Nat.succ_mul]
    refine ht i (by omega) F' H' (g123.trans g) fa' F' H' (N + (B - (i + 1)) * c2) (.refl g.fh) fa' (s'.le (by omega)) _ fun b F4 H4 g4 fa4 s4 _ => ?_
    have hD4 : H4 B' = some (.lst us) := g4.hh _ _ hne hD'
    have fD4 : F4 B' = none := g4.nw B' hne (by rw [hD']; exact fun z => nomatch z) fD
    cases b with
    | false => exact ⟨F4, us, is, g.trans g4, fa4, s4, fD4, hD4, by omega, Paired.up g4.ff pu, nd, fun t ht => by have := hP t ht; omega⟩
    | true =>
      refine he i (by omega) F4 H4 (g123.trans (g.trans g4)) fa4 F4 H4 (.refl g4.fh) _ fun u5 F5 H5 g5 r5 => ?_
      obtain ⟨o4, ho4⟩ := s4.someO
      have hD5 := g5.hx _ _ hD4
      have fD5 := g5.nn hD4 fD4
      refine ⟨us, hD5, ?_, F5, us ++ [u5], is ++ [m + i], ((g.trans g4).trans g5.up).set' fD5 (.inl hD), g5.nn ho4 fa4, (s4.gr g5).ex (upd_ne hne.symm), fD5, upd_same, by rw [List.length_append]; show _ + 1 ≤ _; omega, ?_, ?_, fun t ht => ?_⟩
      · rw [pu.length, List.length_map, sizeLine_eq]
        omega
      · rw [List.map_append]
        exact (Paired.up (g4.ff.trans g5.ff) pu).snoc r5
      · refine List.nodup_append.mpr ⟨nd, by simp, fun x hx y hy => ?_⟩
        rw [List.mem_singleton.mp hy]
        have := hP x hx
        omega
      · rcases List.mem_append.mp ht with h | h
        · have := hP t h; omega
        · rw [List.mem_singleton.mp h]; omega
  · rintro H' ⟨F', us, is, g, fa', s', fD, hD', hl, pu, nd, hP⟩
    exact q _ (is.map f) _ _ ((g2.trans g3).up.trans (g.frz hD' (g3.fh.free hD) (.inl hD))) (by rw [upd_ne hne.symm]; exact fa') (s'.le (Nat.le_add_right _ _)) ⟨is, rfl, nd, hl, fun t ht => by have := hP t ht; omega⟩ ⟨B', us, rfl, upd_same, Paired.up (g.fh.frz hD' fD) pu⟩
/-- [elt for x, y in zip(xs, ys)] -/
theorem ev_lcZ {zs : List γ} {i j : Nat} {vs : List Nat} (ha : Ev (rLst R) ta σ F H xs) (hb : Ev (rLst S) tb σ F H ys) (hlen : zs.length = min xs.length ys.length) (hz : zs.length ≤ 1000000) (hw : ∀ v w, wipe (((wipe σ vs).set i (some v)).set j (some w)) vs = wipe σ vs)
    (he : ∀ (n : Nat) x y z v w F1 H1, xs[n]? = some x → ys[n]? = some y → zs[n]? = some z → Gr M0 F H F1 H1 → R F1 v x → S F1 w y → Ev T te (((wipe σ vs).set i (some v)).set j (some w)) F1 H1 z) (m : Mn R := by infer_instance) (m2 : Mn S := by infer_instance) (m' : Mn T := by infer_instance) :
    Ev (rLst T) (tLc (iZip K (tCons ta (tCons tb tNil))) (gTup K 2 (gCons (gName i) (gCons (gName j) gNil))) tYes te vs) σ F H zs := by
  intro F1 H1 g1 Q q
  refine ha F1 H1 g1 _ fun v F2 H2 g2 ⟨a, ws, ea, hl, pr⟩ => hb F2 H2 (g1.trans g2) _ fun v2 F3 H3 g3 ⟨b, us2, eb, hl2, pr2⟩ => ⟨a, b, ws, us2, by rw [ea, eb], SqL.of (g3.fh _ _ (g3.ff _ _ hl)), SqL.of (g3.fh _ _ hl2), fun D hD => ?_⟩
  refine lc_it (walk_zip (n := zs.length) (by rw [pr.length, pr2.length]; exact hlen)) (fun i H' => ∃ F' us, Gr M0 F3 H3 F' H' ∧ F' D = none ∧ H' D = some (.lst us) ∧ Paired (T F') us (zs.take i)) ⟨F3, [], .loc g3.fh hD, g3.fh.free hD, upd_same, .nil⟩ (fun i H' _ ⟨F', us, g, _⟩ => ⟨SqL.of (g.fh _ _ (g.ff _ _ (g3.ff _ _ hl))), SqL.of (g.fh _ _ (g.ff _ _ hl2))⟩) ?_ ?_
  · rintro n w H' H4 hi ⟨F', us, g, fD, hD', pu⟩ ⟨B, u1, u2, rfl, hT, rfl, h1, h2⟩
    obtain ⟨x, hx, rx⟩ := Paired.getL pr h1
    obtain ⟨y, hy, ry⟩ := Paired.getL pr2 h2
    have hzn : zs[n]? = some zs[n] := List.getElem?_eq_getElem hi
    have gB : Gr M0 F' H' F' (upd H' B (.tup [u1, u2])) := .loc g.fh hT
    have hBD : B ≠ D := fun z => by subst z; rw [hD'] at hT; cases hT
    refine ⟨B, [u1, u2], rfl, SqT.of upd_same, rfl, u1, [u2], rfl, u2, [], rfl, rfl, hw _ _, ?_⟩
    refine he n x y zs[n] u1 u2 F' _ hx hy hzn ((((g1.trans g2).trans g3).trans g).trans gB) (m.mono (g3.ff.trans g.ff) rx) (m2.mono g.ff ry) F' _ (.refl gB.fh) _ fun u F5 H5 g5 r5 => ?_
    have hD2 := gB.hx _ _ hD'
    have g45 := gB.trans g5
    refine ⟨us, g45.hx _ _ hD', ?_, F5, us ++ [u], (g.trans g45).set' (g45.nn hD' fD) (.inl hD), g45.nn hD' fD, upd_same, ?_⟩
    · rw [pu.length, List.length_take, sizeLine_eq]
      omega
    · rw [List.take_add_one, hzn]
      exact (Paired.up g45.ff pu).snoc r5
  · rintro H' ⟨F', us, g, fD, hD', pu⟩
    rw [List.take_length] at pu
    exact q _ _ _ ((g2.trans g3).trans (g.frz hD' (g3.fh.free hD) (.inl hD))) ⟨D, us, rfl, upd_same, Paired.up (g.fh.frz hD' fD) pu⟩
theorem kzip {e e2 : Expr} {ta : TA} {p pos tpos : Pos} {elts : List Expr} {kk : Nat} {X : Cx} (hg : Gl X "zip") (hm : X.mg "zip" = none) (ha : PA X [e, e2] ta)
    (hs : starEach [e, e2] X.env = (false, eval e X.env) :: starEach [e2] X.env := by rfl) (hpl : (backTo pos (starEach [e2] X.env)).any (·.1) = false := by rfl) (hK : X.K = K := by rfl) :
    PI X (.Tuple elts kk tpos) (.Call (.Name "zip" p) [e, e2] [] pos) (iZip K ta) := by
  subst hK
  exact pi_zip hg hm ha hs hpl
end
end El

set_option Elab.async false
set_option linter.all false
set_option maxRecDepth 100000
set_option maxHeartbeats 4000000
namespace El
open PySem PySem.Spec L2
def upsM (p n : Nat) : List Bool := (List.range n).map (upB p)
def placeM (us : List Bool) : Nat := us.foldr (fun b a => 2 * a + (if b = true then 1 else 0)) 0
def besideM (ties : List (Nat × Nat)) (s : Nat) : List Nat := ((ties.filter fun x => decide (x.1 = s)).map (·.2)) ++ ((ties.filter fun x => decide (x.2 = s)).map (·.1))
def lcntM (ups : List Bool) (ties : List (Nat × Nat)) (s : Nat) : Nat := ((besideM ties s).filter fun o => ups.getD o false).length
def lmovedM (ups : List Bool) (ties : List (Nat × Nat)) (levels : List Nat) (s k : Nat) : List Bool := ups.set s (decide (k < levels.getD (lcntM ups ties s) 0))
def mvM (ties : List (Nat × Nat)) (levels : List Nat) (p s k : Nat) : Nat := p + (if decide (k < levels.getD (countM ties p s) 0) = true then 2 ^ s else 0) - (if upB p s = true then 2 ^ s else 0)
def lmapsM (spots : Nat) (ties : List (Nat × Nat)) (whole : Nat) (levels : List Nat) (many : Nat) : List (List Nat) := ((List.range spots).map fun s => (List.range whole).map fun k => (List.range many).map fun p => mvM ties levels p s k).flatten
theorem lmaps_eq (W : Wb) : lmapsM W.spots W.ties W.whole W.levels (2 ^ W.spots) = turnsML W := rfl
theorem beside_len (g : Nat → Bool) (s : Nat) : ∀ ties : List (Nat × Nat), (∀ x ∈ ties, x.1 < x.2) → ((besideM ties s).filter g).length = ((tiedM ties s).filter g).length
  | [], _ => rfl
  | x :: l, h => by
    have ih := beside_len g s l fun y hy => h y (List.mem_cons_of_mem _ hy)
    have hx := h x List.mem_cons_self
    unfold besideM tiedM at ih ⊢
    rw [List.filter_append, List.length_append] at ih ⊢
    rw [List.filter_cons, List.filter_cons, List.filter_cons]
    by_cases h1 : x.1 = s
    · have h2 : x.2 ≠ s := by omega
      rw [if_pos (decide_eq_true h1), if_neg (by rw [decide_eq_false h2]; exact Bool.false_ne_true), if_pos (by rw [decide_eq_true h1.symm]; rfl), List.map_cons, List.map_cons, List.filter_cons, List.filter_cons, show x.1 + x.2 - s = x.2 by omega]
      split
      · rw [List.length_cons, List.length_cons]; omega
      · exact ih
    · by_cases h2 : x.2 = s
      · rw [if_neg (by rw [decide_eq_false h1]; exact Bool.false_ne_true), if_pos (decide_eq_true h2), if_pos (by rw [decide_eq_true h2.symm]; exact Bool.or_true _), List.map_cons, List.map_cons, List.filter_cons, List.filter_cons, show x.1 + x.2 - s = x.1 by omega]
        split
        · rw [List.length_cons, List.length_cons]; omega
        · exact ih
      · rw [if_neg (by rw [decide_eq_false h1]; exact Bool.false_ne_true), if_neg (by rw [decide_eq_false h2]; exact Bool.false_ne_true), if_neg (by rw [decide_eq_false (fun z => h1 z.symm), decide_eq_false (fun z => h2 z.symm)]; exact Bool.false_ne_true)]
        exact ih
theorem ups_len {p n : Nat} : (upsM p n).length = n := by unfold upsM; rw [List.length_map, List.length_range]
theorem ups_get {p n s : Nat} (h : s < n) : (upsM p n).getD s false = upB p s := by
  unfold upsM
  rw [List.getD_eq_getElem?_getD, List.getElem?_map, List.getElem?_range h]
  rfl
theorem ups_at {p n s : Nat} (h : s < n) : (upsM p n)[s]? = some (upB p s) := by
  unfold upsM
  rw [List.getElem?_map, List.getElem?_range h]
  rfl
theorem beside_mem {W : Wb} {s y : Nat} (h : y ∈ besideM W.ties s) : y < W.spots := by
  unfold besideM at h
  rcases List.mem_append.mp h with h | h
  · obtain ⟨x, hx, rfl⟩ := List.mem_map.mp h
    exact (W.h2 x (List.mem_filter.mp hx).1).2
  · obtain ⟨x, hx, rfl⟩ := List.mem_map.mp h
    have := W.h2 x (List.mem_filter.mp hx).1
    omega
theorem beside_le {W : Wb} {s : Nat} : (besideM W.ties s).length ≤ 50 := by
  unfold besideM
  have := ties_len W
  have h1 := List.length_filter_le (fun x : Nat × Nat => decide (x.1 = s)) W.ties
  have h2 := List.length_filter_le (fun x : Nat × Nat => decide (x.2 = s)) W.ties
  rw [List.length_append, List.length_map, List.length_map]
  omega
theorem lcnt_eq {W : Wb} {p s : Nat} : lcntM (upsM p W.spots) W.ties s = countM W.ties p s := by
  unfold lcntM countM
  rw [beside_len (fun o => (upsM p W.spots).getD o false) s W.ties fun x hx => (W.h2 x hx).1]
  congr 1
  refine List.filter_congr fun y hy => ?_
  exact ups_get (tied_mem hy).1
theorem set_all : ((List.range 6).all fun n => (List.range n).all fun s => (List.range (2 ^ n)).all fun p => [true, false].all fun b => placeM ((upsM p n).set s b) == p + (if b = true then 2 ^ s else 0) - (if upB p s = true then 2 ^ s else 0)) = true := by decide +kernel
theorem lmoved_eq {W : Wb} {p s k : Nat} (hp : p < 2 ^ W.spots) (hs : s < W.spots) : placeM (lmovedM (upsM p W.spots) W.ties W.levels s k) = mvM W.ties W.levels p s k := by
  have h1 := W.h1
  have h := List.all_eq_true.mp (List.all_eq_true.mp (List.all_eq_true.mp set_all W.spots (List.mem_range.mpr (by omega))) s (List.mem_range.mpr hs)) p (List.mem_range.mpr hp)
  have h2 := List.all_eq_true.mp h (decide (k < W.levels.getD (countM W.ties p s) 0)) (by cases decide (k < W.levels.getD (countM W.ties p s) 0) <;> simp)
  unfold lmovedM mvM
  rw [lcnt_eq]
  exact beq_iff_eq.mp h2
theorem full_all : ((List.range 6).all fun n => placeM (List.replicate n true) + 1 == 2 ^ n) = true := by decide +kernel
theorem full_eq {n : Nat} (h : n ≤ 5) : placeM (List.replicate n true) + 1 = 2 ^ n := beq_iff_eq.mp (List.all_eq_true.mp full_all n (List.mem_range.mpr (by omega)))
theorem place_le {us : List Bool} : placeM us < 2 ^ us.length := by
  induction us with
  | nil => decide
  | cons b us ih =>
    show 2 * placeM us + (if b = true then 1 else 0) < 2 ^ (us.length + 1)
    rw [Nat.pow_succ]
    split <;> omega
end El

set_option Elab.async false
set_option linter.all false
set_option maxRecDepth 100000
set_option maxHeartbeats 4000000
namespace El
open PySem PySem.Spec L2
/-! ### Base.__init__(self, ..), Base an own class that has ValueError's -/
structure BaseC (K : PySem.W.Frag) (B : Addr) : Prop where
  ga : PySem.W.specialIn K (.ref B) "__getattribute__" = some (some (.builtin "type.__getattribute__"))
  rd : PySem.W.readsIn K B (.type "type") = true
  ty : PySem.W.typeIn K (.ref B) = some (.type "type")
  ini : PySem.W.findCls K (.ref B) (.type "type") "__init__" = some (.val (.builtin "ValueError.__init__"))
section
variable {X : Cx} {e : Expr} {es : List Expr} {ta : TA} {p1 p2 pos : Pos}
theorem pe_dinit {pl : Sem Bool} {x : Str} {B : Addr} (T : BaseC X.K B) (hg : Gl X x) (hm : X.mg x = some (.ref B)) (ha : PA X (e :: es) ta)
    (hc : eval (.Call (.Attribute (.Name x p1) "__init__" p2) (e :: es) [] pos) X.env = (do
      let ov ← eval (.Name x p1) X.env
      standAt p2.atName
      let (f, first) ← holding [ov] (getMethod ov "__init__" pl)
      callWith pos f first (backTo pos (starEach (e :: es) X.env)) (backToKw pos (keywordEach [] X.env))) := by rfl)
    (he : starEach (e :: es) X.env = (false, eval e X.env) :: starEach es X.env := by rfl) (hpl : (backTo pos (starEach es X.env)).any (·.1) = false := by rfl) (hdb : (x == ("__debug__" : Str)) = false := by decide) :
    PE X (.Call (.Attribute (.Name x p1) "__init__" p2) (e :: es) [] pos) (tVeI X.K ta) := by
  refine ⟨fun pins s σ H Q I h => ?_⟩
  refine PySem.W.methodCall_KW (ld_glob I hg hm ?_ hdb) hc
  obtain ⟨m, fr⟩ := I.fr
  refine PySem.W.method_of_cls fr I.ok.mod.kin T.ga (PySem.W.cls_val fr I.ok.mod.kin T.ty T.rd T.ini (by decide +kernel) ?_)
  show wpAny _ _ (callWith pos (Value.builtin "ValueError.__init__") [] (backTo pos (starEach (e :: es) X.env)) []) _ _ _
  refine PyProof.Rows.callWith_method1 (thn (ha.run pos pins _ σ H _ (I.tok _) h) fun us s1 ⟨vs, H1, I1, r1, a, C, ws, ev, hl, T, ea, q⟩ => ?_) he hpl
  subst ev
  cases r1 with
  | @cons _ u0 _ ur ra rw' =>
    obtain rfl : u0 = Value.ref a := ra
    have hlen : ur.length ≤ sizeLine := by
      rw [← Paired.length rw', sizeLine_eq]
      omega
    exact oinit_ok T I1 ea hlen fun s' J => ⟨.non, H1, J, rfl, q⟩
end
end El

set_option Elab.async false
set_option linter.all false
set_option maxRecDepth 100000
set_option maxHeartbeats 4000000
namespace El
open PySem PySem.Spec L2
/-! ### sorted -/
def insN (a : Nat) : List Nat → List Nat
  | [] => [a]
  | b :: l => if a ≤ b then a :: b :: l else b :: insN a l
def sortN (l : List Nat) : List Nat := l.foldr insN []
theorem ins_perm (a : Nat) : ∀ l : List Nat, (insN a l).Perm (a :: l)
  | [] => .refl _
  | b :: l => by
    show (if a ≤ b then a :: b :: l else b :: insN a l).Perm _
    split
    · exact .refl _
    · exact ((ins_perm a l).cons b).trans (.swap a b l)
theorem sort_perm : ∀ l : List Nat, (sortN l).Perm l
  | [] => .refl _
  | a :: l => (ins_perm a (sortN l)).trans ((sort_perm l).cons a)
theorem ins_sorted {a : Nat} : ∀ {l : List Nat}, l.Pairwise (· ≤ ·) → (insN a l).Pairwise (· ≤ ·)
  | [], _ => List.pairwise_singleton _ _
  | b :: l, h => by
    obtain ⟨h1, h2⟩ := List.pairwise_cons.mp h
    show (if a ≤ b then a :: b :: l else b :: insN a l).Pairwise _
    split
    · rename_i hab
      refine List.pairwise_cons.mpr ⟨fun c hc => ?_, h⟩
      rcases List.mem_cons.mp hc with rfl | hc
      · exact hab
      · exact Nat.le_trans hab (h1 c hc)
    · rename_i hab
      refine List.pairwise_cons.mpr ⟨fun c hc => ?_, ins_sorted h2⟩
      rcases List.mem_cons.mp ((ins_perm a l).mem_iff.mp hc) with rfl | hc
      · omega
      · exact h1 c hc
theorem sort_sorted : ∀ l : List Nat, (sortN l).Pairwise (· ≤ ·)
  | [] => .nil
  | _ :: l => ins_sorted (sort_sorted l)
theorem sorted_eq : ∀ {l m : List Nat}, l.Perm m → l.Pairwise (· ≤ ·) → m.Pairwise (· ≤ ·) → l = m
  | [], m, p, _, _ => by rw [p.nil_eq]
  | a :: l, [], p, _, _ => by have := p.length_eq; cases this
  | a :: l, b :: m, p, h1, h2 => by
    obtain ⟨a1, a2⟩ := List.pairwise_cons.mp h1
    obtain ⟨b1, b2⟩ := List.pairwise_cons.mp h2
    have e : a = b := by
      have ha : a ∈ b :: m := p.mem_iff.mp List.mem_cons_self
      have hb : b ∈ a :: l := p.mem_iff.mpr List.mem_cons_self
      rcases List.mem_cons.mp ha with h | h
      · exact h
      · rcases List.mem_cons.mp hb with h' | h'
        · exact h'.symm
        · have := b1 a h; have := a1 b h'; omega
    subst e
    rw [sorted_eq (List.Perm.cons_inv p) a2 b2]
theorem sort_mem {l : List Nat} {x : Nat} : x ∈ sortN l ↔ x ∈ l := (sort_perm l).mem_iff
theorem ints_nats : ∀ {ks : List Int} {ns : List Nat}, ks.Perm (ns.map fun n : Nat => (n : Int)) → ∃ ms : List Nat, ks = ms.map fun n : Nat => (n : Int) := fun {ks ns} p => by
  have : ∀ k ∈ ks, ∃ n : Nat, k = (n : Int) := fun k hk => by
    obtain ⟨n, _, rfl⟩ := List.mem_map.mp (p.mem_iff.mp hk)
    exact ⟨n, rfl⟩
  clear p
  induction ks with
  | nil => exact ⟨[], rfl⟩
  | cons k ks ih =>
    obtain ⟨n, rfl⟩ := this k List.mem_cons_self
    obtain ⟨ms, rfl⟩ := ih fun j hj => this j (List.mem_cons_of_mem _ hj)
    exact ⟨n :: ms, rfl⟩
theorem perm_nats : ∀ {ms ns : List Nat}, (ms.map fun n : Nat => (n : Int)).Perm (ns.map fun n : Nat => (n : Int)) → ms.Perm ns := fun {ms ns} p => by
  have h := p.map Int.toNat
  rw [List.map_map, List.map_map] at h
  have e : ∀ l : List Nat, l.map (Int.toNat ∘ fun n : Nat => (n : Int)) = l := fun l => by
    have : l.map (Int.toNat ∘ fun n : Nat => (n : Int)) = l.map id := List.map_congr_left fun n _ => Int.toNat_natCast n
    rw [this, List.map_id]
  rw [e, e] at h
  exact h
theorem sorted_ints {ys : List Int} {ks : List Nat} (p : ys.Perm (ks.map fun n : Nat => (n : Int))) (h : ys.Pairwise (· ≤ ·)) : ys = (sortN ks).map fun n : Nat => (n : Int) := by
  obtain ⟨ms, rfl⟩ := ints_nats p
  have p2 := perm_nats p
  rw [List.pairwise_map] at h
  rw [sorted_eq (p2.trans (sort_perm ks).symm) (h.imp fun {a b} hab => by omega) (sort_sorted ks)]
section
variable {K : PySem.W.Frag} {σ : St} {F H F' H' : Hp} {ta td te tl : TE} {ks : List Nat}
theorem ev_sortD (hd : Ev rDct td σ F H ks) (hz : ks.length < 64) : Ev (rLst rNat) (tCB (fun xs H Q => ∃ (a : Addr) (kvs : List (Key × V)) (ks : List Int), xs = [.ref a] ∧ Rd H a (.dK kvs) ∧ kvs.map (·.1) = ks.map Sum.inl ∧ ks.length < 64 ∧
    ∀ (ys : List Int) (p : Addr), ys.Perm ks → ys.Pairwise (· ≤ ·) → H p = none → Q (.ref p) (upd H p (.lst (ys.map V.int)))) (tCons td tNil)) σ F H (sortN ks) := fun F1 H1 g1 Q q =>
  hd F1 H1 g1 _ fun v F2 H2 g2 ⟨a, e, h⟩ => ⟨a, kvsOf ks, ks.map fun n : Nat => (n : Int), by rw [e], .inl (g2.fh _ _ h), by unfold kvsOf; rw [List.map_map, List.map_map]; rfl, by rw [List.length_map]; exact hz, fun ys p hp hs hn => by
    rw [sorted_ints hp hs, List.map_map]
    exact q _ _ _ (g2.trans (.new g2.fh hn)) ⟨p, _, rfl, upd_same, nats_P _ _⟩⟩
theorem ev_sortL (hd : Ev (rLst rNat) td σ F H ks) (hz : ks.length < 64) : Ev (rLst rNat) (tCB (rSorted K) (tCons td tNil)) σ F H (sortN ks) := fun F1 H1 g1 Q q =>
  hd F1 H1 g1 _ fun v F2 H2 g2 ⟨a, vs, e, h, p⟩ => ⟨a, ks.map fun n : Nat => (n : Int), by rw [e], by rw [← nats_paired p]; exact SqL.of (g2.fh _ _ h), by rw [List.length_map]; exact hz, fun ys p hp hs hn => by
    rw [sorted_ints hp hs, List.map_map]
    exact q _ _ _ (g2.trans (.new g2.fh hn)) ⟨p, _, rfl, upd_same, nats_P _ _⟩⟩
end
end El

set_option Elab.async false
set_option linter.all false
set_option maxRecDepth 100000
set_option maxHeartbeats 4000000
namespace El
open PySem PySem.Spec L2
/-! ### tuples of three -/
def r3 {α β γ : Type} (R : Rp α) (S : Rp β) (T : Rp γ) : Rp (α × β × γ) := fun H v p => ∃ a x y z, v = .ref a ∧ H a = some (.tup [x, y, z]) ∧ R H x p.1 ∧ S H y p.2.1 ∧ T H z p.2.2
instance {α β γ : Type} {R : Rp α} {S : Rp β} {T : Rp γ} [m : Mn R] [n : Mn S] [o : Mn T] : Mn (r3 R S T) := ⟨fun e ⟨a, x, y, z, h1, h2, h3, h4, h5⟩ => ⟨a, x, y, z, h1, e _ _ h2, m.mono e h3, n.mono e h4, o.mono e h5⟩⟩
instance {α β γ : Type} {R : Rp α} {S : Rp β} {T : Rp γ} : NotN (r3 R S T) := ⟨fun ⟨_, _, _, _, h, _⟩ e => by rw [h] at e; cases e⟩
instance {α β γ : Type} {R : Rp α} {S : Rp β} {T : Rp γ} [d1 : Dt R] [d2 : Dt S] [d3 : Dt T] : Dt (r3 R S T) where
  data := fun p => .tuple [d1.data p.1, d2.data p.2.1, d3.data p.2.2]
  rep := fun e ⟨a, x, y, z, h1, h2, h3, h4, h5⟩ => by
    subst h1
    exact .tup (SqT.of (e _ _ h2)) (.cons (d1.rep e h3) (.cons (d2.rep e h4) (.cons (d3.rep e h5) .nil)))
  lay := fun p => by
    show (PyData.canLay0 (d1.data p.1) && (PyData.canLay0 (d2.data p.2.1) && (PyData.canLay0 (d3.data p.2.2) && true))) = true
    rw [d1.lay, d2.lay, d3.lay]
    rfl
  dep := 1 + max d1.dep (max d2.dep d3.dep)
  depth := fun p => by
    have h1 := d1.depth p.1
    have h2 := d2.depth p.2.1
    have h3 := d3.depth p.2.2
    show max (PyData.depth (d1.data p.1)) (max (PyData.depth (d2.data p.2.1)) (max (PyData.depth (d3.data p.2.2)) 0)) + 1 ≤ _
    omega
  eqv := fun x y => by
    show (PyData.eqv (d1.data x.1) (d1.data y.1) && (PyData.eqv (d2.data x.2.1) (d2.data y.2.1) && (PyData.eqv (d3.data x.2.2) (d3.data y.2.2) && true))) = true ↔ _
    rw [Bool.and_eq_true, Bool.and_eq_true, Bool.and_true, d1.eqv, d2.eqv, d3.eqv]
    obtain ⟨a, b, c⟩ := x
    obtain ⟨a', b', c'⟩ := y
    simp
instance {α β γ : Type} {R : Rp α} {S : Rp β} {T : Rp γ} [d1 : Dt R] [d2 : Dt S] [d3 : Dt T] : NotNoneD (r3 R S T) := ⟨fun _ => fun z => nomatch z⟩
theorem ev_r3 {σ : St} {F H : Hp} {ta tb tc : TE} {α β γ : Type} {R : Rp α} {S : Rp β} {T : Rp γ} {x : α} {y : β} {z : γ} (ha : Ev R ta σ F H x) (hb : Ev S tb σ F H y) (hc : Ev T tc σ F H z) (m : Mn R := by infer_instance) (n : Mn S := by infer_instance) (m2 : Mn T := by infer_instance) :
    Ev (r3 R S T) (tTup (tCons ta (tCons tb (tCons tc tNil)))) σ F H (x, y, z) := fun F1 H1 g1 Q q =>
  ha F1 H1 g1 _ fun v F2 H2 g2 r1 => hb F2 H2 (g1.trans g2) _ fun w F3 H3 g3 r2 => hc F3 H3 ((g1.trans g2).trans g3) _ fun v3 F4 H4 g4 r3 =>
    ⟨by show 3 ≤ sizeLine; decide, fun B hB => by
      have g6 : Gr M0 F4 H4 (upd F4 B (.tup [v, w, v3])) (upd H4 B (.tup [v, w, v3])) := .new g4.fh hB
      exact q _ _ _ (g2.trans (g3.trans (g4.trans g6))) ⟨B, v, w, v3, rfl, upd_same, m.mono (g3.ff.trans (g4.ff.trans g6.ff)) r1, n.mono (g4.ff.trans g6.ff) r2, m2.mono g6.ff r3⟩⟩
/-! ### not kept -/
def trisG (hs : List (List Nat)) (s x : Nat) : List (Nat × Nat × Nat) := (sortN (hs.getD x [])).map fun y => (s, x, y)
def trisS (n : Nat) (hs : List (List Nat)) (s : Nat) : List (Nat × Nat × Nat) := ((List.range n).map (trisG hs s)).flatten
def trisM (t : Tn) (hs : List (List Nat)) : List (Nat × Nat × Nat) := ((List.range t.maps.length).map (trisS t.many hs)).flatten
def badB (t : Tn) (hs : List (List Nat)) (p : Nat × Nat × Nat) : Bool := !atMostM hs ((t.maps.getD p.1 []).getD p.2.1 0) ((t.maps.getD p.1 []).getD p.2.2 0)
def notKeptM (t : Tn) (hs : List (List Nat)) : Option (Nat × Nat × Nat) := (trisM t hs).find? (badB t hs)
theorem range_split {n : Nat} : ∀ {s : Nat}, s < n → ∃ post, List.range n = List.range s ++ s :: post := fun {s} h => by
  refine ⟨(List.range n).drop (s + 1), ?_⟩
  have h1 : (List.range n).take s = List.range s := by rw [List.take_range, Nat.min_eq_left (Nat.le_of_lt h)]
  have h2 : (List.range n).drop s = s :: (List.range n).drop (s + 1) := by
    rw [List.drop_eq_getElem_cons (by rw [List.length_range]; exact h), List.getElem_range]
  rw [← h1, ← h2, List.take_append_drop]
theorem flat_split {α : Type} (f : Nat → List α) {n s : Nat} (h : s < n) : ∃ post, ((List.range n).map f).flatten = ((List.range s).map f).flatten ++ (f s ++ post) := by
  obtain ⟨post, hp⟩ := range_split h
  exact ⟨(post.map f).flatten, by rw [hp, List.map_append, List.flatten_append, List.map_cons, List.flatten_cons]⟩
theorem flat_succ {α : Type} (f : Nat → List α) (s : Nat) : ((List.range (s + 1)).map f).flatten = ((List.range s).map f).flatten ++ f s := by
  rw [List.range_succ, List.map_append, List.flatten_append]
  show _ ++ List.flatten [f s] = _
  rw [List.flatten_cons, List.flatten_nil, List.append_nil]
theorem find_none_app {α : Type} {p : α → Bool} {xs ys : List α} (h1 : xs.find? p = none) (h2 : ys.find? p = none) : (xs ++ ys).find? p = none := by
  rw [List.find?_append, h1, h2]
  rfl
theorem find_hit {α : Type} {p : α → Bool} {pre post : List α} {a : α} (h1 : pre.find? p = none) (h2 : p a = true) : (pre ++ a :: post).find? p = some a := by
  rw [List.find?_append, h1, List.find?_cons, h2]
  rfl
theorem tri_hit {t : Tn} {hs : List (List Nat)} {s x k y : Nat} (hs1 : s < t.maps.length) (hx : x < t.many) (hy : (sortN (hs.getD x []))[k]? = some y)
    (h1 : (((List.range s).map (trisS t.many hs)).flatten).find? (badB t hs) = none) (h2 : (((List.range x).map (trisG hs s)).flatten).find? (badB t hs) = none) (h3 : ((trisG hs s x).take k).find? (badB t hs) = none) (hb : badB t hs (s, x, y) = true) : notKeptM t hs = some (s, x, y) := by
  unfold notKeptM trisM
  obtain ⟨p1, e1⟩ := flat_split (trisS t.many hs) hs1
  obtain ⟨p2, e2⟩ := flat_split (trisG hs s) hx
  rw [e1, show trisS t.many hs s = ((List.range t.many).map (trisG hs s)).flatten from rfl, e2]
  have e3 : trisG hs s x = (trisG hs s x).take k ++ (s, x, y) :: (trisG hs s x).drop (k + 1) := by
    have hk : (trisG hs s x)[k]? = some (s, x, y) := by
      unfold trisG
      rw [List.getElem?_map, hy]
      rfl
    obtain ⟨hl, he⟩ := List.getElem?_eq_some_iff.mp hk
    have : (trisG hs s x).drop k = (s, x, y) :: (trisG hs s x).drop (k + 1) := by rw [List.drop_eq_getElem_cons hl, he]
    rw [← this, List.take_append_drop]
  rw [e3]
  rw [show ((List.range s).map (trisS t.many hs)).flatten ++ (((List.range x).map (trisG hs s)).flatten ++ (((trisG hs s x).take k ++ (s, x, y) :: (trisG hs s x).drop (k + 1)) ++ p2) ++ p1) = (((List.range s).map (trisS t.many hs)).flatten ++ (((List.range x).map (trisG hs s)).flatten ++ (trisG hs s x).take k)) ++ (s, x, y) :: ((trisG hs s x).drop (k + 1) ++ p2 ++ p1) by simp [List.append_assoc]]
  exact find_hit (find_none_app h1 (find_none_app h2 h3)) hb
theorem not_none {t : Tn} {hs : List (List Nat)} (h : notKeptM t hs = none) {s x y : Nat} (h1 : s < t.maps.length) (hx : x < t.many) (hy : y ∈ hs.getD x []) : atMostM hs ((t.maps.getD s []).getD x 0) ((t.maps.getD s []).getD y 0) = true := by
  unfold notKeptM at h
  have := List.find?_eq_none.mp h (s, x, y) (List.mem_flatten.mpr ⟨trisS t.many hs s, List.mem_map.mpr ⟨s, List.mem_range.mpr h1, rfl⟩, List.mem_flatten.mpr ⟨trisG hs s x, List.mem_map.mpr ⟨x, List.mem_range.mpr hx, rfl⟩, List.mem_map.mpr ⟨y, sort_mem.mpr hy, rfl⟩⟩⟩)
  unfold badB at this
  simpa using this
theorem not_some {t : Tn} {hs : List (List Nat)} {s x y : Nat} (h : notKeptM t hs = some (s, x, y)) : s < t.maps.length ∧ x < t.many ∧ y ∈ hs.getD x [] ∧ atMostM hs ((t.maps.getD s []).getD x 0) ((t.maps.getD s []).getD y 0) = false := by
  unfold notKeptM at h
  have hb := List.find?_some h
  have hm := List.mem_of_find?_eq_some h
  obtain ⟨l, hl, hm⟩ := List.mem_flatten.mp hm
  obtain ⟨s', hs', rfl⟩ := List.mem_map.mp hl
  obtain ⟨l2, hl2, hm⟩ := List.mem_flatten.mp hm
  obtain ⟨x', hx', rfl⟩ := List.mem_map.mp hl2
  obtain ⟨y', hy', e⟩ := List.mem_map.mp hm
  cases e
  refine ⟨List.mem_range.mp hs', List.mem_range.mp hx', sort_mem.mp hy', ?_⟩
  unfold badB at hb
  simpa using hb
theorem sort_len (l : List Nat) : (sortN l).length = l.length := (sort_perm l).length_eq
end El

set_option Elab.async false
set_option linter.all false
set_option maxRecDepth 100000
set_option maxHeartbeats 4000000
namespace El
open PySem PySem.Spec L2
/-! ### own exceptions that keep a value -/
/-- C.__init__(self, v): Base.__init__(self, text); self.f = v -/
def spKeep (C : Addr) (f : Str) : Sp := fun vs H Q _ => ∃ a v, vs = [.ref a, v] ∧ H a = some (exo a C none) ∧ ∀ dx, H dx = none → dx ≠ a → Q .non (upd (upd H dx (exd dx [(f, v)])) a (exo a C (some dx)))
instance {C : Addr} {f : Str} : SpLen (spKeep C f) 2 := ⟨fun ⟨_, _, h, _⟩ => by rw [h]; rfl⟩
section
variable {K : PySem.W.Frag} {σ : St} {F H F' H' : Hp} {ta te : TE} {α : Type} {R : Rp α} {x : α} {D : Ends} {C : Addr} {f : Str} {W : WX}
theorem x_raise (e : Ex F H) (h : Ev R te σ F H x) (k : ∀ v d F' H', Gr M0 F H F' H' → R F' v x → H' d = none → W (.ref C) (some d) σ (upd H' d (.xd [(f, v)]))) :
    tMkO C (spKeep C f) [] (tCons te tNil) σ H (fun cls d H' => W cls d σ H') :=
  h F H (.refl e) _ fun v F1 H1 g r => ⟨by show 1 ≤ 1000; decide, fun a ha => ⟨a, v, rfl, upd_same, fun dx hdx hne => ⟨rfl, dx, [(f, v)], by rw [upd_same], by rw [upd_ne hne, upd_same], by rw [upd_ne hne] at hdx; exact hdx, by
    have hdx1 : H1 dx = none := by rw [upd_ne hne] at hdx; exact hdx
    have eq : upd (del (upd (upd (upd H1 a (exo a C none)) dx (exd dx [(f, v)])) a (exo a C (some dx))) a) dx (.xd [(f, v)]) = upd H1 dx (.xd [(f, v)]) := by
      funext b
      by_cases hb : b = dx
      · rw [hb, upd_same, upd_same]
      · rw [upd_ne hb, upd_ne hb]
        by_cases hb2 : b = a
        · rw [hb2, del_same, ha]
        · rw [del_ne hb2, upd_ne hb2, upd_ne hb, upd_ne hb2]
    rw [eq]
    exact k v dx F1 H1 g r hdx1⟩⟩⟩
end
end El

set_option Elab.async false
set_option linter.all false
set_option maxRecDepth 100000
set_option maxHeartbeats 4000000
namespace El
open PySem PySem.Spec L2
def loopB (t : Tn) (lo hi : Nat) : List Nat → Nat → List Nat → Option (Nat × Nat)
  | f, k, [] => if f.getD lo 0 = f.getD hi 0 then some (f.getD lo 0, k) else none
  | f, k, s :: xs => if f.getD lo 0 = f.getD hi 0 then some (f.getD lo 0, k) else loopB t lo hi (thenM (t.maps.getD s []) f) (k + 1) xs
theorem loopB_hit {t : Tn} {lo hi k : Nat} {f xs : List Nat} (h : f.getD lo 0 = f.getD hi 0) : loopB t lo hi f k xs = some (f.getD lo 0, k) := by
  cases xs <;> (unfold loopB; rw [if_pos h])
theorem loopB_go {t : Tn} {lo hi k s : Nat} {f xs : List Nat} (h : ¬ f.getD lo 0 = f.getD hi 0) : loopB t lo hi f k (s :: xs) = loopB t lo hi (thenM (t.maps.getD s []) f) (k + 1) xs := by
  rw [loopB, if_neg h]
def GoodK (t : Tn) (hs : List (List Nat)) : Prop := hs.length = t.many ∧ (∀ x, x < t.many → ∀ y ∈ hs.getD x [], y < t.many) ∧ ∀ x, x < t.many → (hs.getD x []).length < 64
def SpBetween (CT CO CX : Addr) : Sp := fun vs H Q E => ∃ (F : Hp) (v w u : V) (t : Tn) (hs : List (List Nat)) (xs : List Nat) (lo hi : Nat), vs = [v, w, u] ∧ Ex F H ∧ rTurns CT F v t ∧ rOrder CO F w hs ∧ rLst rNat F u xs ∧
  GoodK t hs ∧ leastM hs = some lo ∧ greatestM hs = some hi ∧ lo < t.many ∧ hi < t.many ∧ (∀ s ∈ xs, s < t.maps.length) ∧ xs.length ≤ 1000000 ∧
  (notKeptM t hs = none → ∀ r F' H', Gr M0 F H F' H' → rOpt (rPr rNat rNat) F' r (loopB t lo hi (idMap t.many) 0 xs) → Q r H') ∧
  ∀ p, notKeptM t hs = some p → ∀ v d F' H', Gr M0 F H F' H' → r3 rNat rNat rNat F' v p → H' d = none → E (.ref CX) (some d) (upd H' d (.xd [(("kept" : Str), v)]))
instance {a b c : Addr} : SpLen (SpBetween a b c) 3 := ⟨fun ⟨_, _, _, _, _, _, _, _, _, h, _⟩ => by rw [h]; rfl⟩
end El

set_option Elab.async false
set_option linter.all false
set_option maxRecDepth 100000
set_option maxHeartbeats 4000000
namespace El
open PySem PySem.Spec L2
/-! ### what _law_told tells -/
abbrev Told := Sum (Option (Nat × Nat)) (Nat × Nat × Nat)
def rTold : Rp Told := fun F v x => match x with
  | .inl o => ∃ a w, v = .ref a ∧ F a = some (.tup [.str ("told" : Str), w]) ∧ rOpt (rPr rNat rNat) F w o
  | .inr p => ∃ a w, v = .ref a ∧ F a = some (.tup [.str ("not kept" : Str), w]) ∧ r3 rNat rNat rNat F w p
instance : Mn rTold := ⟨fun {H H' v x} e h => by
  cases x with
  | inl o => obtain ⟨a, w, h1, h2, h3⟩ := h; exact ⟨a, w, h1, e _ _ h2, Mn.mono e h3⟩
  | inr p => obtain ⟨a, w, h1, h2, h3⟩ := h; exact ⟨a, w, h1, e _ _ h2, Mn.mono e h3⟩⟩
abbrev dO : Dt (rOpt (rPr rNat rNat)) := inferInstance
abbrev d3 : Dt (r3 rNat rNat rNat) := inferInstance
def toldData : Told → PyData
  | .inl o => .tuple [.str ("told" : Str), dO.data o]
  | .inr p => .tuple [.str ("not kept" : Str), d3.data p]
instance : Dt rTold where
  data := toldData
  rep := fun {K F H v x} e h => by
    cases x with
    | inl o => obtain ⟨a, w, h1, h2, h3⟩ := h; subst h1; exact .tup (SqT.of (e _ _ h2)) (.cons (.str _) (.cons (dO.rep e h3) .nil))
    | inr p => obtain ⟨a, w, h1, h2, h3⟩ := h; subst h1; exact .tup (SqT.of (e _ _ h2)) (.cons (.str _) (.cons (d3.rep e h3) .nil))
  lay := fun x => by
    cases x with
    | inl o =>
      show (PyData.strOk ("told" : Str) && (PyData.canLay0 (dO.data o) && true)) = true
      rw [dO.lay, show PyData.strOk ("told" : Str) = true by decide +kernel]
      rfl
    | inr p =>
      show (PyData.strOk ("not kept" : Str) && (PyData.canLay0 (d3.data p) && true)) = true
      rw [d3.lay, show PyData.strOk ("not kept" : Str) = true by decide +kernel]
      rfl
  dep := 10
  depth := fun x => by
    cases x with
    | inl o =>
      have h1 := dO.depth o
      have h2 : dO.dep ≤ 5 := by decide
      show max 0 (max (PyData.depth (dO.data o)) 0) + 1 ≤ 10
      omega
    | inr p =>
      have h1 := d3.depth p
      have h2 : d3.dep ≤ 5 := by decide
      show max 0 (max (PyData.depth (d3.data p)) 0) + 1 ≤ 10
      omega
  eqv := fun x y => by
    have n1 : (("told" : Str) == ("not kept" : Str)) = false := by decide +kernel
    have n2 : (("not kept" : Str) == ("told" : Str)) = false := by decide +kernel
    cases x with
    | inl o =>
      cases y with
      | inl o' =>
        show ((("told" : Str) == ("told" : Str)) && (PyData.eqv (dO.data o) (dO.data o') && true)) = true ↔ _
        rw [beq_self_eq_true, Bool.true_and, Bool.and_true, dO.eqv]
        exact ⟨fun h => by rw [h], fun h => Sum.inl.inj h⟩
      | inr p =>
        show ((("told" : Str) == ("not kept" : Str)) && (PyData.eqv (dO.data o) (d3.data p) && true)) = true ↔ _
        rw [n1, Bool.false_and]
        exact ⟨(fun h => nomatch h), (fun h => nomatch h)⟩
    | inr p =>
      cases y with
      | inl o =>
        show ((("not kept" : Str) == ("told" : Str)) && (PyData.eqv (d3.data p) (dO.data o) && true)) = true ↔ _
        rw [n2, Bool.false_and]
        exact ⟨(fun h => nomatch h), (fun h => nomatch h)⟩
      | inr p' =>
        show ((("not kept" : Str) == ("not kept" : Str)) && (PyData.eqv (d3.data p) (d3.data p') && true)) = true ↔ _
        rw [beq_self_eq_true, Bool.true_and, Bool.and_true, d3.eqv]
        exact ⟨fun h => by rw [h], fun h => Sum.inr.inj h⟩
def toldM (t : Tn) (hs : List (List Nat)) (lo hi : Nat) (xs : List Nat) : Told := match notKeptM t hs with
  | none => .inl (loopB t lo hi (idMap t.many) 0 xs)
  | some p => .inr p
end El

set_option Elab.async false
set_option linter.all false
set_option maxRecDepth 100000
set_option maxHeartbeats 4000000
namespace El
open PySem PySem.Spec L2
/-- the order's law, in plain words -/
structure OrdOk (n : Nat) (hs : List (List Nat)) (lo hi : Nat) : Prop where
  lo_lt : lo < n
  hi_lt : hi < n
  low : ∀ x, x < n → atMostM hs lo x = true
  high : ∀ x, x < n → atMostM hs x hi = true
  anti : ∀ x y, x < n → y < n → atMostM hs x y = true → atMostM hs y x = true → x = y
theorem atMost_refl (hs : List (List Nat)) (x : Nat) : atMostM hs x x = true := by
  unfold atMostM
  rw [decide_eq_true rfl]
  rfl
def MonoM (n : Nat) (hs : List (List Nat)) (f : List Nat) : Prop := ∀ x y, x < n → y < n → atMostM hs x y = true → atMostM hs (f.getD x 0) (f.getD y 0) = true
theorem mono_map {t : Tn} {hs : List (List Nat)} (h : notKeptM t hs = none) {s : Nat} (h1 : s < t.maps.length) : MonoM t.many hs (t.maps.getD s []) := fun x y hx hy hxy => by
  unfold atMostM at hxy
  rcases Bool.or_eq_true_iff.mp hxy with h2 | h2
  · have := of_decide_eq_true h2
    subst this
    exact atMost_refl _ _
  · exact not_none h h1 hx (of_decide_eq_true h2)
theorem then_getM {n : Nat} {a b : List Nat} (ha : IsMap n a) {x : Nat} (hx : x < n) : (thenM a b).getD x 0 = b.getD (a.getD x 0) 0 := by
  unfold thenM
  have hl : x < a.length := by rw [ha.1]; exact hx
  rw [List.getD_eq_getElem?_getD, List.getElem?_map, List.getElem?_eq_getElem hl]
  show b.getD a[x] 0 = _
  rw [List.getD_eq_getElem?_getD (l := a), List.getElem?_eq_getElem hl]
  rfl
theorem map_lt {n : Nat} {a : List Nat} (ha : IsMap n a) {x : Nat} (hx : x < n) : a.getD x 0 < n := by
  have hl : x < a.length := by rw [ha.1]; exact hx
  rw [List.getD_eq_getElem?_getD, List.getElem?_eq_getElem hl]
  exact ha.2 _ (List.getElem_mem hl)
theorem mono_then {n : Nat} {hs : List (List Nat)} {a b : List Nat} (ha : IsMap n a) (ma : MonoM n hs a) (mb : MonoM n hs b) : MonoM n hs (thenM a b) := fun x y hx hy h => by
  rw [then_getM ha hx, then_getM ha hy]
  exact mb _ _ (map_lt ha hx) (map_lt ha hy) (ma x y hx hy h)
theorem mono_id (n : Nat) (hs : List (List Nat)) : MonoM n hs (idMap n) := fun x y hx hy h => by
  have e : ∀ z, z < n → (idMap n).getD z 0 = z := fun z hz => by
    unfold idMap
    rw [List.getD_eq_getElem?_getD, List.getElem?_range hz]
    rfl
  rw [e x hx, e y hy]
  exact h
/-- the two ends agree: all places have met -/
theorem ends_meet {n lo hi : Nat} {hs : List (List Nat)} {f : List Nat} (o : OrdOk n hs lo hi) (hf : IsMap n f) (mf : MonoM n hs f) (h : f.getD lo 0 = f.getD hi 0) : ∀ x ∈ f, x = f.getD lo 0 := fun x hx => by
  obtain ⟨i, hi'⟩ := List.mem_iff_getElem?.mp hx
  have hin : i < n := by rw [← hf.1]; exact (List.getElem?_eq_some_iff.mp hi').1
  have ex : f.getD i 0 = x := by rw [List.getD_eq_getElem?_getD, hi']; rfl
  have h1 := mf lo i o.lo_lt hin (o.low i hin)
  have h2 := mf i hi hin o.hi_lt (o.high i hin)
  rw [ex] at h1 h2
  rw [← h] at h2
  exact o.anti x _ (hf.2 x hx) (map_lt hf o.lo_lt) h2 h1
theorem meet_iff {n lo hi : Nat} {hs : List (List Nat)} {f : List Nat} (o : OrdOk n hs lo hi) (hf : IsMap n f) (mf : MonoM n hs f) : metB f = true ↔ f.getD lo 0 = f.getD hi 0 := by
  have hl : lo < f.length := by rw [hf.1]; exact o.lo_lt
  have hh : hi < f.length := by rw [hf.1]; exact o.hi_lt
  constructor
  · intro h
    exact metB_eq h (List.mem_of_getElem? (getD_at hl)) (List.mem_of_getElem? (getD_at hh))
  · intro h
    refine metB_iff.mpr ⟨fun z => ?_, _, ends_meet o hf mf h⟩
    subst z
    exact absurd hl (Nat.not_lt_zero _)
theorem fold_met {t : Tn} {f : List Nat} {k : Nat} (h : metB f = true) : ∀ xs : List Nat, xs.foldl (drStep t) (f, k) = (f, k)
  | [] => rfl
  | s :: xs => by
    have e : drStep t (f, k) s = (f, k) := by
      unfold drStep
      rw [if_pos h]
    rw [List.foldl_cons, e]
    exact fold_met h xs
def endD (p : List Nat × Nat) : Option (Nat × Nat) := match plc p.1 with
  | none => none
  | some q => some (q, p.2)
theorem between_drawn {t : Tn} {hs : List (List Nat)} {lo hi : Nat} (o : OrdOk t.many hs lo hi) (hn : notKeptM t hs = none) : ∀ (xs f : List Nat) (k : Nat), (∀ s ∈ xs, s < t.maps.length) → IsMap t.many f → MonoM t.many hs f → loopB t lo hi f k xs = endD (xs.foldl (drStep t) (f, k)) := by
  have hit : ∀ (xs f : List Nat) (k : Nat), IsMap t.many f → MonoM t.many hs f → f.getD lo 0 = f.getD hi 0 → loopB t lo hi f k xs = endD (xs.foldl (drStep t) (f, k)) := fun xs f k hf mf h => by
    have hm := (meet_iff o hf mf).mpr h
    have hl : lo < f.length := by rw [hf.1]; exact o.lo_lt
    rw [loopB_hit h, fold_met hm]
    unfold endD plc
    rw [if_pos hm]
    have : f.headD 0 = f.getD lo 0 := by
      cases f with
      | nil => exact absurd hl (Nat.not_lt_zero _)
      | cons a f => exact metB_eq hm List.mem_cons_self (List.mem_of_getElem? (getD_at hl))
    show some (f.getD lo 0, k) = some (f.headD 0, k)
    rw [this]
  intro xs
  induction xs with
  | nil =>
    intro f k _ hf mf
    by_cases h : f.getD lo 0 = f.getD hi 0
    · exact hit [] f k hf mf h
    · have hm : metB f = false := by
        cases q : metB f with
        | false => rfl
        | true => exact absurd ((meet_iff o hf mf).mp q) h
      unfold loopB
      rw [if_neg h]
      show none = endD (f, k)
      unfold endD plc
      rw [if_neg (by rw [hm]; exact Bool.false_ne_true)]
  | cons s xs ih =>
    intro f k hsg hf mf
    by_cases h : f.getD lo 0 = f.getD hi 0
    · exact hit (s :: xs) f k hf mf h
    · have hm : metB f = false := by
        cases q : metB f with
        | false => rfl
        | true => exact absurd ((meet_iff o hf mf).mp q) h
      have hs1 := hsg s List.mem_cons_self
      have e : drStep t (f, k) s = (thenM (t.maps.getD s []) f, k + 1) := by
        unfold drStep
        rw [if_neg (by rw [hm]; exact Bool.false_ne_true)]
      rw [loopB_go h, List.foldl_cons, e]
      exact ih _ _ (fun s' h' => hsg s' (List.mem_cons_of_mem _ h')) (isMap_then (t.isMap hs1) hf) (mono_then (t.isMap hs1) (mono_map hn hs1) mf)
theorem between_eq {t : Tn} {hs : List (List Nat)} {lo hi : Nat} (o : OrdOk t.many hs lo hi) (hn : notKeptM t hs = none) {xs : List Nat} (hsg : ∀ s ∈ xs, s < t.maps.length) : loopB t lo hi (idMap t.many) 0 xs = drawnM t xs :=
  between_drawn o hn xs (idMap t.many) 0 hsg (isMap_id _) (mono_id _ _)
end El

set_option Elab.async false
set_option linter.all false
set_option maxRecDepth 100000
set_option maxHeartbeats 4000000
namespace El
open PySem PySem.Spec L2
def setM (p s : Nat) (b : Bool) : Nat := p + (if b = true then 2 ^ s else 0) - (if upB p s = true then 2 ^ s else 0)
theorem ends_all : ((List.range 6).all fun n => (List.range (2 ^ n)).all fun x => subB n 0 x && subB n x (2 ^ n - 1)) = true := by decide +kernel
theorem anti_all : ((List.range 6).all fun n => (List.range (2 ^ n)).all fun x => (List.range (2 ^ n)).all fun y => !(subB n x y && subB n y x) || (x == y)) = true := by decide +kernel
def goodB (n : Nat) (hs : List (List Nat)) : Bool := (List.range (2 ^ n)).all fun x => ((hs.getD x []).all fun y => decide (y < 2 ^ n)) && decide ((hs.getD x []).length < 64)
theorem good1 : goodB 1 hs1 = true := by decide +kernel
theorem good2 : goodB 2 hs2 = true := by decide +kernel
theorem good3 : goodB 3 hs3 = true := by decide +kernel
theorem good4 : goodB 4 hs4 = true := by decide +kernel
theorem good5 : goodB 5 hs5 = true := by decide +kernel
theorem good_hs {n : Nat} (h0 : 1 ≤ n) (h1 : n ≤ 5) : goodB n (hsM n) = true := by
  match n, h0, h1 with
  | 1, _, _ => rw [hs1_eq]; exact good1
  | 2, _, _ => rw [hs2_eq]; exact good2
  | 3, _, _ => rw [hs3_eq]; exact good3
  | 4, _, _ => rw [hs4_eq]; exact good4
  | 5, _, _ => rw [hs5_eq]; exact good5
theorem goodK_hs {t : Tn} {n : Nat} (h0 : 1 ≤ n) (h1 : n ≤ 5) (ht : t.many = 2 ^ n) : GoodK t (hsM n) := by
  have h := good_hs h0 h1
  refine ⟨by rw [ht]; exact above_len, fun x hx y hy => ?_, fun x hx => ?_⟩
  · rw [ht] at hx ⊢
    have h2 := List.all_eq_true.mp h x (List.mem_range.mpr hx)
    exact of_decide_eq_true (List.all_eq_true.mp (Bool.and_eq_true_iff.mp h2).1 y hy)
  · rw [ht] at hx
    have h2 := List.all_eq_true.mp h x (List.mem_range.mpr hx)
    exact of_decide_eq_true (Bool.and_eq_true_iff.mp h2).2
theorem ord_hs {n : Nat} (h0 : 1 ≤ n) (h1 : n ≤ 5) : OrdOk (2 ^ n) (hsM n) 0 (2 ^ n - 1) := by
  have hp := Nat.two_pow_pos n
  have he := List.all_eq_true.mp ends_all n (List.mem_range.mpr (by omega))
  have ha := List.all_eq_true.mp anti_all n (List.mem_range.mpr (by omega))
  refine ⟨hp, by omega, fun x hx => ?_, fun x hx => ?_, fun x y hx hy hxy hyx => ?_⟩
  · rw [hs_sub h0 h1 hp hx]
    exact (Bool.and_eq_true_iff.mp (List.all_eq_true.mp he x (List.mem_range.mpr hx))).1
  · rw [hs_sub h0 h1 hx (by omega)]
    exact (Bool.and_eq_true_iff.mp (List.all_eq_true.mp he x (List.mem_range.mpr hx))).2
  · rw [hs_sub h0 h1 hx hy] at hxy
    rw [hs_sub h0 h1 hy hx] at hyx
    have := List.all_eq_true.mp (List.all_eq_true.mp ha x (List.mem_range.mpr hx)) y (List.mem_range.mpr hy)
    rw [hxy, hyx] at this
    exact beq_iff_eq.mp this
theorem set_mono : ((List.range 6).all fun n => (List.range n).all fun s => (List.range (2 ^ n)).all fun x => (List.range (2 ^ n)).all fun y => !subB n x y || (subB n (setM x s false) (setM y s false) && subB n (setM x s false) (setM y s true) && subB n (setM x s true) (setM y s true))) = true := by decide +kernel
theorem filter_mono {α : Type} {p q : α → Bool} : ∀ {l : List α}, (∀ x ∈ l, p x = true → q x = true) → (l.filter p).length ≤ (l.filter q).length
  | [], _ => Nat.le_refl _
  | a :: l, h => by
    have ih := filter_mono (p := p) (q := q) fun x hx => h x (List.mem_cons_of_mem a hx)
    rw [List.filter_cons, List.filter_cons]
    by_cases hp : p a = true
    · rw [if_pos hp, if_pos (h a List.mem_cons_self hp), List.length_cons, List.length_cons]
      omega
    · rw [if_neg hp]
      split
      · rw [List.length_cons]; omega
      · exact ih
theorem sub_up {n x y : Nat} (h : subB n x y = true) {o : Nat} (ho : o < n) (hx : upB x o = true) : upB y o = true := by
  have := List.all_eq_true.mp h o (List.mem_range.mpr ho)
  rw [hx] at this
  simpa using this
theorem stand_mono {W : Wb} (hl : W.levels.Pairwise (· ≤ ·)) {x y s k : Nat} (hs : s < W.spots) (h : subB W.spots x y = true) (hk : standB W x s k = true) : standB W y s k = true := by
  unfold standB at hk ⊢
  have hk := of_decide_eq_true hk
  have hc : countM W.ties x s ≤ countM W.ties y s := filter_mono fun o ho hx => sub_up h (tied_mem ho).1 hx
  have c1 := count_lt (W := W) (p := x) hs
  have c2 := count_lt (W := W) (p := y) hs
  have h6 := W.h6
  have hle : W.levels.getD (countM W.ties x s) 0 ≤ W.levels.getD (countM W.ties y s) 0 := by
    have l1 : countM W.ties x s < W.levels.length := by omega
    have l2 : countM W.ties y s < W.levels.length := by omega
    rw [List.getD_eq_getElem?_getD, List.getD_eq_getElem?_getD, List.getElem?_eq_getElem l1, List.getElem?_eq_getElem l2]
    show W.levels[countM W.ties x s] ≤ W.levels[countM W.ties y s]
    by_cases e : countM W.ties x s = countM W.ties y s
    · have : W.levels[countM W.ties x s] = W.levels[countM W.ties y s] := by congr 1
      omega
    · exact (List.pairwise_iff_getElem.mp hl) _ _ l1 l2 (by omega)
  exact decide_eq_true (by omega)
theorem moved_mono {W : Wb} (hl : W.levels.Pairwise (· ≤ ·)) {x y s k : Nat} (hs : s < W.spots) (hx : x < 2 ^ W.spots) (hy : y < 2 ^ W.spots) (h : subB W.spots x y = true) : subB W.spots (movedM W x s k) (movedM W y s k) = true := by
  have h1 := W.h1
  have a := List.all_eq_true.mp (List.all_eq_true.mp (List.all_eq_true.mp (List.all_eq_true.mp set_mono W.spots (List.mem_range.mpr (by omega))) s (List.mem_range.mpr hs)) x (List.mem_range.mpr hx)) y (List.mem_range.mpr hy)
  rw [h] at a
  have a2 : (subB W.spots (setM x s false) (setM y s false) && subB W.spots (setM x s false) (setM y s true) && subB W.spots (setM x s true) (setM y s true)) = true := by simpa using a
  rw [Bool.and_eq_true, Bool.and_eq_true] at a2
  obtain ⟨⟨b1, b2⟩, b3⟩ := a2
  have sm := stand_mono hl (k := k) hs h
  show subB W.spots (setM x s (standB W x s k)) (setM y s (standB W y s k)) = true
  cases q1 : standB W x s k with
  | true => rw [sm q1]; exact b3
  | false =>
    cases q2 : standB W y s k with
    | true => exact b2
    | false => exact b1
theorem kept_web {W : Wb} (hl : W.levels.Pairwise (· ≤ ·)) : notKeptM (turnsM W) (hsM W.spots) = none := by
  have w0 := W.h0
  have w1 := W.h1
  cases q : notKeptM (turnsM W) (hsM W.spots) with
  | none => rfl
  | some p =>
    obtain ⟨s, x, y⟩ := p
    obtain ⟨h1, h2, h3, h4⟩ := not_some q
    have hx : x < 2 ^ W.spots := h2
    have gk := goodK_hs (t := turnsM W) w0 w1 rfl
    have hy : y < 2 ^ W.spots := gk.2.1 x h2 y h3
    have hsub : subB W.spots x y = true := by
      rw [← hs_sub w0 w1 hx hy]
      unfold atMostM
      rw [decide_eq_true h3, Bool.or_true]
    have hm : (turnsM W).maps.getD s [] ∈ turnsML W := by
      have := getD_at (xs := (turnsM W).maps) (d := []) h1
      exact List.mem_of_getElem? this
    unfold turnsML at hm
    obtain ⟨l, hl1, hm⟩ := List.mem_flatten.mp hm
    obtain ⟨sp, hsp, rfl⟩ := List.mem_map.mp hl1
    obtain ⟨k, hk, e⟩ := List.mem_map.mp hm
    have hsp := List.mem_range.mp hsp
    have eg : ∀ z, z < 2 ^ W.spots → ((turnsM W).maps.getD s []).getD z 0 = movedM W z sp k := fun z hz => by
      rw [← e, List.getD_eq_getElem?_getD, List.getElem?_map, List.getElem?_range hz]
      rfl
    rw [eg x hx, eg y hy, hs_sub w0 w1 (moved_lt hx hsp) (moved_lt hy hsp), moved_mono hl hsp hx hy hsub] at h4
    cases h4
end El

set_option Elab.async false
set_option linter.all false
set_option maxRecDepth 100000
set_option maxHeartbeats 4000000
namespace El
open PySem PySem.Spec L2
section
variable {K : PySem.W.Frag} {σ : St} {F H F' H' : Hp} {ta tb tc td te : TE} {α β γ δ : Type} {R : Rp α} {S : Rp β} {T : Rp γ} {U : Rp δ} {D : Ends} {E : XK}
/-- x, y = e -/
theorem x_pair {i j : Nat} {p : α × β} (e : Ex F H) (h : Ev (rPr R S) te σ F H p)
    (k : ∀ v w F' H', Gr M0 F H F' H' → R F' v p.1 → S F' w p.2 → D.nx ((σ.set i (some v)).set j (some w)) H') : tAsg te (gTup K 2 (gCons (gName i) (gCons (gName j) gNil))) D σ H :=
  h F H (.refl e) _ fun v F' H' g ⟨b, u, w, eb, hb, r1, r2⟩ => by
    subst eb
    exact ⟨b, [u, w], rfl, SqT.of (g.fh _ _ hb), rfl, u, [w], rfl, w, [], rfl, rfl, k u w F' H' g r1 r2⟩
/-- x, y, z = e -/
theorem x_tri {i j l : Nat} {p : α × β × γ} (e : Ex F H) (h : Ev (r3 R S T) te σ F H p)
    (k : ∀ v w u F' H', Gr M0 F H F' H' → R F' v p.1 → S F' w p.2.1 → T F' u p.2.2 → D.nx (((σ.set i (some v)).set j (some w)).set l (some u)) H') : tAsg te (gTup K 3 (gCons (gName i) (gCons (gName j) (gCons (gName l) gNil)))) D σ H :=
  h F H (.refl e) _ fun v F' H' g ⟨b, u, w, z, eb, hb, r1, r2, r3⟩ => by
    subst eb
    exact ⟨b, [u, w, z], rfl, SqT.of (g.fh _ _ hb), rfl, u, [w, z], rfl, w, [z], rfl, z, [], rfl, rfl, k u w z F' H' g r1 r2 r3⟩
theorem x_quad {i j l m : Nat} {p : α × β × γ × δ} (e : Ex F H) (h : Ev (r4 R S T U) te σ F H p)
    (k : ∀ v w u z F' H', Gr M0 F H F' H' → R F' v p.1 → S F' w p.2.1 → T F' u p.2.2.1 → U F' z p.2.2.2 → D.nx ((((σ.set i (some v)).set j (some w)).set l (some u)).set m (some z)) H') : tAsg te (gTup K 4 (gCons (gName i) (gCons (gName j) (gCons (gName l) (gCons (gName m) gNil))))) D σ H :=
  h F H (.refl e) _ fun v F' H' g ⟨b, u, w, z, y, eb, hb, r1, r2, r3, r4⟩ => by
    subst eb
    exact ⟨b, [u, w, z, y], rfl, SqT.of (g.fh _ _ hb), rfl, u, [w, z, y], rfl, w, [z, y], rfl, z, [y], rfl, y, [], rfl, rfl, k u w z y F' H' g r1 r2 r3 r4⟩
theorem ev_told1 {o : Option (Nat × Nat)} (h : Ev (rOpt (rPr rNat rNat)) ta σ F H o) : Ev rTold (tTup (tCons (tC (.str "told")) (tCons ta tNil))) σ F H (.inl o) := fun F1 H1 g1 Q q =>
  h F1 H1 g1 _ fun v F2 H2 g2 r => ⟨by show 2 ≤ sizeLine; decide, fun B hB => by
    have g3 : Gr M0 F2 H2 (upd F2 B (.tup [.str ("told" : Str), v])) (upd H2 B (.tup [.str ("told" : Str), v])) := .new g2.fh hB
    exact q _ _ _ (g2.trans g3) ⟨B, v, rfl, upd_same, Mn.mono g3.ff r⟩⟩
theorem ev_told2 {p : Nat × Nat × Nat} (h : Ev (r3 rNat rNat rNat) ta σ F H p) : Ev rTold (tTup (tCons (tC (.str "not kept")) (tCons ta tNil))) σ F H (.inr p) := fun F1 H1 g1 Q q =>
  h F1 H1 g1 _ fun v F2 H2 g2 r => ⟨by show 2 ≤ sizeLine; decide, fun B hB => by
    have g3 : Gr M0 F2 H2 (upd F2 B (.tup [.str ("not kept" : Str), v])) (upd H2 B (.tup [.str ("not kept" : Str), v])) := .new g2.fh hB
    exact q _ _ _ (g2.trans g3) ⟨B, v, rfl, upd_same, Mn.mono g3.ff r⟩⟩
end
/-- `except C` names errors of C's own class -/
theorem exm_self {K : PySem.W.Frag} {C : Addr} (xec : PySem.W.subIn K (.ref C) (.type "BaseException") = some true) (xic : PySem.W.isClsIn K C = true) (xty : PySem.W.typeIn K (.ref C) = some (.type "type")) (xsc : PySem.W.subIn K (.ref C) (.ref C) = some true) :
    PySem.W.exmOne K (.ref C) (.ref C) = some true := by
  have xic2 : (PySem.W.clsIn K C).isSome = true := xic
  unfold PySem.W.exmOne PySem.W.kitCls
  simp [xec, xic2, xty, xsc]
end El

set_option linter.all false
set_option maxRecDepth 100000
set_option maxHeartbeats 2000000
namespace El
/-! ### sums and determinants of whole numbers -/
def sumN : Nat → (Nat → Int) → Int
  | 0, _ => 0
  | n + 1, f => sumN n f + f n
theorem sumN_congr {f g : Nat → Int} : ∀ {n : Nat}, (∀ i, i < n → f i = g i) → sumN n f = sumN n g
  | 0, _ => rfl
  | n + 1, h => by
    show sumN n f + f n = sumN n g + g n
    rw [sumN_congr fun i hi => h i (by omega), h n (by omega)]
theorem sumN_zero {f : Nat → Int} : ∀ {n : Nat}, (∀ i, i < n → f i = 0) → sumN n f = 0
  | 0, _ => rfl
  | n + 1, h => by
    show sumN n f + f n = 0
    rw [sumN_zero fun i hi => h i (by omega), h n (by omega)]
    rfl
theorem sumN_add (f g : Nat → Int) : ∀ n, sumN n (fun i => f i + g i) = sumN n f + sumN n g
  | 0 => rfl
  | n + 1 => by
    show sumN n _ + (f n + g n) = (sumN n f + f n) + (sumN n g + g n)
    rw [sumN_add f g n]
    omega
theorem sumN_mul (a : Int) (f : Nat → Int) : ∀ n, sumN n (fun i => a * f i) = a * sumN n f
  | 0 => by show (0 : Int) = a * 0; rw [Int.mul_zero]
  | n + 1 => by
    show sumN n _ + _ = a * (sumN n f + f n)
    rw [sumN_mul a f n, Int.mul_add]
theorem sumN_one {f : Nat → Int} {n k : Nat} (hk : k < n) (h : ∀ i, i < n → i ≠ k → f i = 0) : sumN n f = f k := by
  induction n with
  | zero => omega
  | succ n ih =>
    show sumN n f + f n = f k
    by_cases e : k = n
    · rw [e, sumN_zero fun i hi => h i (by omega) (by omega), Int.zero_add]
    · rw [ih (by omega) fun i hi hne => h i (by omega) hne, h n (by omega) (fun z => e z.symm), Int.add_zero]
theorem sumN_two {f : Nat → Int} {n k l : Nat} (hk : k < n) (hl : l < n) (hkl : k ≠ l) (h : ∀ i, i < n → i ≠ k → i ≠ l → f i = 0) : sumN n f = f k + f l := by
  have e : sumN n f = sumN n (fun i => (if i = k then f i else 0) + (if i = k then 0 else f i)) := sumN_congr fun i _ => by split <;> omega
  rw [e, sumN_add, sumN_one hk (fun i _ hne => if_neg hne), sumN_one hl (fun i hi hne => by
    show (if i = k then 0 else f i) = 0
    split
    · rfl
    · rename_i z; exact h i hi z hne), if_pos rfl, if_neg (fun z => hkl z.symm)]
theorem sumN_comm (f : Nat → Nat → Int) : ∀ m n, sumN m (fun i => sumN n (fun j => f i j)) = sumN n (fun j => sumN m (fun i => f i j))
  | 0, n => (sumN_zero fun _ _ => rfl).symm
  | m + 1, n => by
    show sumN m _ + sumN n _ = sumN n (fun j => sumN m (fun i => f i j) + f m j)
    rw [sumN_add, sumN_comm f m n]
/-- antisymmetric double sums -/
theorem sumN_anti {T : Nat → Nat → Int} : ∀ {n : Nat}, (∀ i j, i ≤ j → j < n → T i j + T (j + 1) i = 0) → sumN (n + 1) (fun i => sumN n (fun j => T i j)) = 0
  | 0, _ => rfl
  | n + 1, h => by
    have ih := sumN_anti (n := n) (T := T) fun i j hij hj => h i j hij (by omega)
    show sumN (n + 1) (fun i => sumN n (fun j => T i j) + T i n) + (sumN (n + 1) fun j => T (n + 1) j) = 0
    rw [sumN_add, ih, Int.zero_add, ← sumN_add]
    exact sumN_zero fun i hi => h i n (by omega) (by omega)
def skip (i k : Nat) : Nat := if k < i then k else k + 1
def sgn (i : Nat) : Int := if i % 2 = 0 then 1 else -1
theorem sgn_succ (i : Nat) : sgn (i + 1) = -sgn i := by
  unfold sgn
  by_cases h : i % 2 = 0
  · rw [if_pos h, if_neg (by omega)]
  · rw [if_neg h, if_pos (by omega)]; rfl
theorem skip_lt {n i k : Nat} (h : k < n) : skip i k < n + 1 := by
  unfold skip
  split <;> omega
/-- a matrix by its columns -/
abbrev Mx := Nat → Nat → Int
def cu (m : Mx) (p : Nat) (u : Nat → Int) : Mx := fun j => if j = p then u else m j
theorem cu_same {m : Mx} {p : Nat} {u : Nat → Int} : cu m p u p = u := if_pos rfl
theorem cu_ne {m : Mx} {p j : Nat} {u : Nat → Int} (h : j ≠ p) : cu m p u j = m j := if_neg h
def minor (m : Mx) (i : Nat) : Mx := fun j k => m (j + 1) (skip i k)
def det : Nat → Mx → Int
  | 0, _ => 1
  | n + 1, m => sumN (n + 1) fun i => sgn i * m 0 i * det n (minor m i)
theorem det_congr : ∀ {n : Nat} {m m' : Mx}, (∀ j i, j < n → i < n → m j i = m' j i) → det n m = det n m'
  | 0, _, _, _ => rfl
  | n + 1, m, m', h => sumN_congr fun i hi => by
    rw [h 0 i (by omega) hi, det_congr (m := minor m i) (m' := minor m' i) fun j k hj hk => h (j + 1) (skip i k) (by omega) (skip_lt hk)]
theorem det_lin : ∀ {n : Nat} {m : Mx} {p : Nat} (a b : Int) (u v : Nat → Int), p < n → det n (cu m p fun i => a * u i + b * v i) = a * det n (cu m p u) + b * det n (cu m p v)
  | 0, _, _, _, _, _, _, h => absurd h (Nat.not_lt_zero _)
  | n + 1, m, 0, a, b, u, v, _ => by
    have e : ∀ (w : Nat → Int) (i : Nat), minor (cu m 0 w) i = minor m i := fun w i => by funext j k; rfl
    show sumN (n + 1) _ = a * sumN (n + 1) _ + b * sumN (n + 1) _
    rw [← sumN_mul, ← sumN_mul, ← sumN_add]
    refine sumN_congr fun i _ => ?_
    rw [e, e, e, cu_same, cu_same, cu_same]
    show sgn i * (a * u i + b * v i) * _ = a * (sgn i * u i * _) + b * (sgn i * v i * _)
    grind
  | n + 1, m, p + 1, a, b, u, v, h => by
    have e : ∀ (w : Nat → Int) (i : Nat), minor (cu m (p + 1) w) i = cu (minor m i) p (fun k => w (skip i k)) := fun w i => by
      funext j k
      show (if j + 1 = p + 1 then w else m (j + 1)) (skip i k) = (if j = p then (fun k => w (skip i k)) else minor m i j) k
      by_cases z : j = p
      · rw [if_pos z, if_pos (by omega)]
      · rw [if_neg z, if_neg (by omega)]; rfl
    show sumN (n + 1) _ = a * sumN (n + 1) _ + b * sumN (n + 1) _
    rw [← sumN_mul, ← sumN_mul, ← sumN_add]
    refine sumN_congr fun i _ => ?_
    rw [e, e, e, cu_ne (by omega), cu_ne (by omega), cu_ne (by omega)]
    have := det_lin (n := n) (m := minor m i) (p := p) a b (fun k => u (skip i k)) (fun k => v (skip i k)) (by omega)
    rw [this]
    grind
theorem skip_skip {i j k : Nat} (h : i ≤ j) : skip i (skip j k) = skip (j + 1) (skip i k) := by
  unfold skip
  by_cases h1 : k < i
  · rw [if_pos (show k < j by omega), if_pos h1, if_pos (show k < j + 1 by omega)]
  · by_cases h2 : k < j
    · rw [if_pos h2, if_neg h1, if_pos (show k + 1 < j + 1 by omega)]
    · rw [if_neg h2, if_neg (show ¬ k + 1 < i by omega), if_neg h1, if_neg (show ¬ k + 1 < j + 1 by omega)]
def Alt (n : Nat) : Prop := ∀ (m : Mx) (p q : Nat), p < q → q < n → (∀ i, i < n → m p i = m q i) → det n m = 0
theorem cu_self {m : Mx} {p : Nat} : cu m p (m p) = m := by
  funext j
  by_cases h : j = p
  · rw [h, cu_same]
  · rw [cu_ne h]
theorem cu_cu {m : Mx} {p : Nat} {u v : Nat → Int} : cu (cu m p u) p v = cu m p v := by
  funext j
  by_cases h : j = p
  · rw [h, cu_same, cu_same]
  · rw [cu_ne h, cu_ne h, cu_ne h]
theorem cu_comm {m : Mx} {p q : Nat} {u v : Nat → Int} (h : p ≠ q) : cu (cu m p u) q v = cu (cu m q v) p u := by
  funext j
  by_cases h1 : j = p
  · rw [h1, cu_same, cu_ne h, cu_same]
  · by_cases h2 : j = q
    · rw [h2, cu_same, cu_ne (fun z => h z.symm), cu_same]
    · rw [cu_ne h2, cu_ne h1, cu_ne h1, cu_ne h2]
/-- exchanged columns -/
theorem det_swap {n : Nat} (al : Alt n) {m : Mx} {p q : Nat} (hp : p < n) (hq : q < n) (h : p ≠ q) (u v : Nat → Int) : det n (cu (cu m p u) q v) = -det n (cu (cu m p v) q u) := by
  have al' : ∀ w, det n (cu (cu m p w) q w) = 0 := fun w => by
    rcases Nat.lt_or_gt_of_ne h with z | z
    · exact al _ p q z hq fun i _ => by rw [cu_same, cu_ne h, cu_same]
    · exact al _ q p z hp fun i _ => by rw [cu_same, cu_ne h, cu_same]
  have e1 : ∀ a b w, det n (cu (cu m p fun i => a * u i + b * v i) q w) = a * det n (cu (cu m p u) q w) + b * det n (cu (cu m p v) q w) := fun a b w => by
    rw [cu_comm h, cu_comm h, cu_comm h]
    exact det_lin a b u v hp
  have s := al' fun i => 1 * u i + 1 * v i
  rw [det_lin 1 1 u v hq, e1 1 1 u, e1 1 1 v, al' u, al' v] at s
  omega
theorem alt_all : ∀ n, Alt n
  | 0 => fun _ _ _ _ h => absurd h (Nat.not_lt_zero _)
  | 1 => fun _ _ _ h1 h2 => by omega
  | n + 2 => by
    have ih := alt_all (n + 1)
    -- the first two columns
    have two : ∀ m : Mx, (∀ i, i < n + 2 → m 0 i = m 1 i) → det (n + 2) m = 0 := fun m he => by
      show sumN (n + 2) (fun i => sgn i * m 0 i * sumN (n + 1) (fun j => sgn j * m 1 (skip i j) * det n (minor (minor m i) j))) = 0
      have e : sumN (n + 2) (fun i => sgn i * m 0 i * sumN (n + 1) (fun j => sgn j * m 1 (skip i j) * det n (minor (minor m i) j))) = sumN (n + 2) (fun i => sumN (n + 1) (fun j => sgn i * m 0 i * (sgn j * m 1 (skip i j) * det n (minor (minor m i) j)))) :=
        sumN_congr fun i _ => (sumN_mul _ _ _).symm
      rw [e]
      refine sumN_anti fun i j hij hj => ?_
      have e1 : skip i j = j + 1 := by unfold skip; rw [if_neg (by omega)]
      have e2 : skip (j + 1) i = i := by unfold skip; rw [if_pos (by omega)]
      have e3 : minor (minor m i) j = minor (minor m (j + 1)) i := by
        funext a b
        show m (a + 1 + 1) (skip i (skip j b)) = m (a + 1 + 1) (skip (j + 1) (skip i b))
        rw [skip_skip hij]
      rw [e1, e2, e3, sgn_succ, he i (by omega), he (j + 1) (by omega)]
      grind
    intro m p q hpq hq he
    cases p with
    | succ p =>
      obtain ⟨q, rfl⟩ : ∃ q', q = q' + 1 := ⟨q - 1, by omega⟩
      exact sumN_zero fun i hi => by
        rw [ih (minor m i) p q (by omega) (by omega) fun k hk => he (skip i k) (skip_lt hk), Int.mul_zero]
    | zero =>
      by_cases h1 : q = 1
      · subst h1; exact two m he
      · -- exchange columns 1 and q
        let m' : Mx := cu (cu m 1 (m q)) q (m 1)
        have h0 : det (n + 2) m' = 0 := two m' fun i hi => by
          show cu (cu m 1 (m q)) q (m 1) 0 i = cu (cu m 1 (m q)) q (m 1) 1 i
          rw [cu_ne (by omega), cu_ne (by omega), cu_ne (fun z => h1 z.symm), cu_same]
          exact he i hi
        have hneg : det (n + 2) m' = -det (n + 2) m := by
          show sumN (n + 2) _ = -sumN (n + 2) _
          have : ∀ i, minor m' i = cu (cu (minor m i) 0 (minor m i (q - 1))) (q - 1) (minor m i 0) := fun i => by
            funext j k
            show cu (cu m 1 (m q)) q (m 1) (j + 1) (skip i k) = _
            by_cases z1 : j = q - 1
            · rw [z1, cu_same, show q - 1 + 1 = q by omega, cu_same]; rfl
            · rw [cu_ne (show j + 1 ≠ q by omega), cu_ne z1]
              by_cases z2 : j = 0
              · rw [z2, cu_same]
                show cu m 1 (m q) 1 (skip i k) = m (q - 1 + 1) (skip i k)
                rw [cu_same, show q - 1 + 1 = q by omega]
              · rw [cu_ne z2, cu_ne (show j + 1 ≠ 1 by omega)]; rfl
          rw [← Int.neg_one_mul, ← sumN_mul]
          refine sumN_congr fun i hi => ?_
          rw [this, det_swap ih (by omega) (by omega) (by omega), show m' 0 = m 0 from by
            show cu (cu m 1 (m q)) q (m 1) 0 = _
            rw [cu_ne (by omega), cu_ne (by omega)]]
          rw [show cu (cu (minor m i) 0 (minor m i 0)) (q - 1) (minor m i (q - 1)) = minor m i by rw [cu_self, cu_self]]
          grind
        omega
theorem det_id : ∀ n, det n (fun j i => if i = j then 1 else 0) = 1
  | 0 => rfl
  | n + 1 => by
    show sumN (n + 1) _ = 1
    rw [sumN_one (k := 0) (by omega) fun i _ hi => by
      show sgn i * (if i = 0 then 1 else 0) * _ = 0
      rw [if_neg hi, Int.mul_zero, Int.zero_mul]]
    show sgn 0 * (if 0 = 0 then 1 else 0) * _ = 1
    rw [if_pos rfl]
    have : minor (fun j i => if i = j then (1 : Int) else 0) 0 = fun j i => if i = j then 1 else 0 := by
      funext j k
      show (if skip 0 k = j + 1 then (1 : Int) else 0) = _
      have : skip 0 k = k + 1 := by unfold skip; rw [if_neg (by omega)]
      rw [this]
      by_cases h : k = j
      · rw [if_pos h, if_pos (by omega)]
      · rw [if_neg h, if_neg (by omega)]
    rw [this, det_id n]
    rfl
theorem det_sum {n : Nat} {m : Mx} {p : Nat} (hp : p < n) (r : Nat → Int) (c : Nat → Nat → Int) : ∀ k, det n (cu m p fun i => sumN k fun t => r t * c t i) = sumN k fun t => r t * det n (cu m p (c t))
  | 0 => by
    have : det n (cu m p fun i => 0 * m p i + 0 * m p i) = 0 := by rw [det_lin 0 0 _ _ hp]; omega
    show det n (cu m p fun i => 0) = 0
    rw [← this]
    exact det_congr fun j i _ _ => by
      by_cases h : j = p
      · rw [h, cu_same, cu_same]; omega
      · rw [cu_ne h, cu_ne h]
  | k + 1 => by
    show det n (cu m p fun i => (sumN k fun t => r t * c t i) + r k * c k i) = (sumN k fun t => r t * det n (cu m p (c t))) + r k * det n (cu m p (c k))
    rw [← det_sum hp r c k]
    have := det_lin (m := m) 1 (r k) (fun i => sumN k fun t => r t * c t i) (c k) hp
    rw [Int.one_mul] at this
    rw [← this]
    exact det_congr fun j i _ _ => by
      by_cases h : j = p
      · rw [h, cu_same, cu_same, Int.one_mul]
      · rw [cu_ne h, cu_ne h]
theorem sumN_abs {f : Nat → Int} {B : Nat} : ∀ {n : Nat}, (∀ i, i < n → (f i).natAbs ≤ B) → (sumN n f).natAbs ≤ n * B
  | 0, _ => Nat.zero_le _
  | n + 1, h => by
    have := sumN_abs (n := n) fun i hi => h i (by omega)
    have h2 := h n (by omega)
    show (sumN n f + f n).natAbs ≤ _
    rw [Nat.succ_mul]
    omega
theorem det_abs {M : Nat} : ∀ {n : Nat} {m : Mx}, (∀ j i, j < n → i < n → (m j i).natAbs ≤ M) → (det n m).natAbs ≤ n ^ n * M ^ n
  | 0, _, _ => by show (1 : Int).natAbs ≤ 1; decide
  | n + 1, m, h => by
    have hs : ∀ i, i < n + 1 → (sgn i * m 0 i * det n (minor m i)).natAbs ≤ M * ((n + 1) ^ n * M ^ n) := fun i hi => by
      rw [Int.natAbs_mul, Int.natAbs_mul]
      have h1 : (sgn i).natAbs = 1 := by unfold sgn; split <;> rfl
      have h2 := h 0 i (by omega) hi
      have h3 := det_abs (n := n) (m := minor m i) fun j k hj hk => h (j + 1) (skip i k) (by omega) (skip_lt hk)
      have h4 : n ^ n * M ^ n ≤ (n + 1) ^ n * M ^ n := Nat.mul_le_mul_right _ (Nat.pow_le_pow_left (by omega) n)
      rw [h1, Nat.one_mul]
      exact Nat.mul_le_mul h2 (Nat.le_trans h3 h4)
    have := sumN_abs hs
    show (sumN (n + 1) _).natAbs ≤ _
    refine Nat.le_trans this (Nat.le_of_eq ?_)
    rw [Nat.pow_succ, Nat.pow_succ]
    grind
/-! ### fraction-free elimination -/
def eN (l : Nat) : Nat → Int := fun i => if i = l then 1 else 0
def bB (A : Mx) (k : Nat) : Mx := fun l => if l < k then A l else eN l
def Rk (n : Nat) (A : Mx) (k : Nat) (j l : Nat) : Int := det n (cu (bB A k) l (A j))
def dk (n : Nat) (A : Mx) (k : Nat) : Int := det n (bB A k)
theorem dk_zero {n : Nat} {A : Mx} : dk n A 0 = 1 := by
  rw [← det_id n]
  exact det_congr fun j i _ _ => by
    show (if j < 0 then A j else eN j) i = _
    rw [if_neg (Nat.not_lt_zero j)]
    rfl
theorem e_sum {n l : Nat} (hl : l < n) (u : Nat → Int) : ∀ i, i < n → u i = sumN n fun t => u t * eN t i := fun i hi => by
  rw [sumN_one hi fun t _ ht => by
    show u t * (if i = t then 1 else 0) = 0
    rw [if_neg (fun z => ht z.symm), Int.mul_zero]]
  show u i = u i * (if i = i then 1 else 0)
  rw [if_pos rfl, Int.mul_one]
/-- a unit matrix with one column exchanged -/
theorem det_e {n l : Nat} (hl : l < n) (u : Nat → Int) : det n (cu (fun j => eN j) l u) = u l := by
  have e : det n (cu (fun j => eN j) l u) = det n (cu (fun j => eN j) l fun i => sumN n fun t => u t * eN t i) := det_congr fun j i _ hi => by
    by_cases h : j = l
    · rw [h, cu_same, cu_same]; exact e_sum hl u i hi
    · rw [cu_ne h, cu_ne h]
  rw [e, det_sum hl u (fun t => eN t) n, sumN_one hl fun t ht hne => ?_]
  · rw [show cu (fun j => eN j) l (eN l) = fun j => eN j from cu_self (m := fun j => eN j) (p := l)]
    have := det_id n
    rw [show det n (fun j => eN j) = 1 from this, Int.mul_one]
  · rcases Nat.lt_or_gt_of_ne hne with z | z
    · rw [alt_all n _ t l z hl fun i _ => by rw [cu_same, cu_ne hne], Int.mul_zero]
    · rw [alt_all n _ l t z ht fun i _ => by rw [cu_same, cu_ne hne], Int.mul_zero]
theorem Rk_zero {n : Nat} {A : Mx} {j l : Nat} (hl : l < n) : Rk n A 0 j l = A j l := by
  rw [← det_e hl (A j)]
  exact det_congr fun j' i _ _ => by
    by_cases h : j' = l
    · rw [h, cu_same, cu_same]
    · rw [cu_ne h, cu_ne h]
      show (if j' < 0 then A j' else eN j') i = _
      rw [if_neg (Nat.not_lt_zero j')]
theorem bB_succ {A : Mx} {k : Nat} : bB A (k + 1) = cu (bB A k) k (A k) := by
  funext l
  by_cases h : l = k
  · rw [h, cu_same]
    show (if k < k + 1 then A k else eN k) = A k
    rw [if_pos (by omega)]
  · rw [cu_ne h]
    show (if l < k + 1 then A l else eN l) = (if l < k then A l else eN l)
    by_cases h2 : l < k
    · rw [if_pos h2, if_pos (by omega)]
    · rw [if_neg h2, if_neg (by omega)]
theorem dk_succ {n : Nat} {A : Mx} {k : Nat} : dk n A (k + 1) = Rk n A k k k := by unfold dk Rk; rw [bB_succ]
theorem Rk_same {n : Nat} {A : Mx} {k j : Nat} : Rk n A (k + 1) j k = Rk n A k j k := by unfold Rk; rw [bB_succ, cu_cu]
/-- the columns by the basis -/
def Bas (n : Nat) (A : Mx) (k : Nat) : Prop := ∀ j i, i < n → dk n A k * A j i = sumN n fun l => Rk n A k j l * bB A k l i
theorem bas_zero {n : Nat} {A : Mx} : Bas n A 0 := fun j i hi => by
  rw [dk_zero, Int.one_mul, e_sum hi (A j) i hi]
  exact sumN_congr fun l hl => by
    rw [Rk_zero hl]
    show _ = _ * (if l < 0 then A l else eN l) i
    rw [if_neg (Nat.not_lt_zero l)]
theorem Rk_other {n : Nat} {A : Mx} {k j l : Nat} (hb : Bas n A k) (hk : k < n) (hl : l < n) (hne : l ≠ k) : dk n A k * Rk n A (k + 1) j l = Rk n A k k k * Rk n A k j l - Rk n A k k l * Rk n A k j k := by
  have e1 : dk n A k * Rk n A (k + 1) j l = det n (cu (cu (bB A k) k (A k)) l fun i => dk n A k * A j i) := by
    unfold Rk
    rw [bB_succ]
    have := det_lin (m := cu (bB A k) k (A k)) (p := l) (dk n A k) 0 (A j) (A j) hl
    rw [Int.zero_mul, Int.add_zero] at this
    rw [← this]
    exact det_congr fun j' i _ _ => by
      by_cases h : j' = l
      · rw [h, cu_same, cu_same]; omega
      · rw [cu_ne h, cu_ne h]
  have e2 : det n (cu (cu (bB A k) k (A k)) l fun i => dk n A k * A j i) = det n (cu (cu (bB A k) k (A k)) l fun i => sumN n fun t => Rk n A k j t * bB A k t i) := det_congr fun j' i _ hi => by
    by_cases h : j' = l
    · rw [h, cu_same, cu_same]; exact hb j i hi
    · rw [cu_ne h, cu_ne h]
  rw [e1, e2, det_sum hl (fun t => Rk n A k j t) (fun t => bB A k t) n, sumN_two hl hk hne fun t ht h1 h2 => ?_]
  · have e3 : det n (cu (cu (bB A k) k (A k)) l (bB A k l)) = Rk n A k k k := by
      unfold Rk
      rw [cu_comm (fun z => hne z.symm), cu_self]
    have e4 : det n (cu (cu (bB A k) k (A k)) l (bB A k k)) = -Rk n A k k l := by
      unfold Rk
      rw [det_swap (alt_all n) hk hl (fun z => hne z.symm), cu_self]
    rw [e3, e4]
    grind
  · have hz : det n (cu (cu (bB A k) k (A k)) l (bB A k t)) = 0 := by
      rcases Nat.lt_or_gt_of_ne h1 with z | z
      · exact alt_all n _ t l z hl fun i _ => by rw [cu_same, cu_ne h1, cu_ne h2]
      · exact alt_all n _ l t z ht fun i _ => by rw [cu_same, cu_ne h1, cu_ne h2]
    rw [hz, Int.mul_zero]
theorem bas_succ {n : Nat} {A : Mx} {k : Nat} (hb : Bas n A k) (hk : k < n) (hd : dk n A k ≠ 0) : Bas n A (k + 1) := fun j i hi => by
  have h1 := hb j i hi
  have h2 := hb k i hi
  refine Int.eq_of_mul_eq_mul_left hd ?_
  rw [← sumN_mul]
  -- both sums without their k-th part
  have split : ∀ f : Nat → Int, sumN n f = f k + sumN n fun l => if l = k then 0 else f l := fun f => by
    have e : sumN n f = sumN n (fun l => (if l = k then f l else 0) + (if l = k then 0 else f l)) := sumN_congr fun l _ => by split <;> omega
    rw [e, sumN_add, sumN_one hk fun l _ hne => if_neg hne, if_pos rfl]
  rw [split] at h1 h2
  rw [split (fun l => dk n A k * (Rk n A (k + 1) j l * bB A (k + 1) l i))]
  have e1 : (sumN n fun l => if l = k then 0 else dk n A k * (Rk n A (k + 1) j l * bB A (k + 1) l i)) = Rk n A k k k * (sumN n fun l => if l = k then 0 else Rk n A k j l * bB A k l i) + (-Rk n A k j k) * (sumN n fun l => if l = k then 0 else Rk n A k k l * bB A k l i) := by
    rw [← sumN_mul, ← sumN_mul, ← sumN_add]
    refine sumN_congr fun l hl => ?_
    by_cases h : l = k
    · rw [if_pos h, if_pos h, if_pos h]; omega
    · rw [if_neg h, if_neg h, if_neg h, ← Int.mul_assoc, Rk_other hb hk hl h]
      have : bB A (k + 1) l i = bB A k l i := by rw [bB_succ, cu_ne h]
      rw [this]
      grind
  have e2 : bB A (k + 1) k i = A k i := by rw [bB_succ, cu_same]
  rw [e1, e2, Rk_same, dk_succ]
  grind
theorem bas_all {n : Nat} {A : Mx} : ∀ {k : Nat}, k ≤ n → (∀ m, m < k → dk n A m ≠ 0) → Bas n A k
  | 0, _, _ => bas_zero
  | k + 1, hk, hd => bas_succ (bas_all (k := k) (by omega) fun m hm => hd m (by omega)) (by omega) (hd k (by omega))
/-- the elimination as it is reckoned -/
def el (A : Mx) : Nat → Mx
  | 0 => A
  | k + 1 => fun j i => if i = k then el A k j k else (el A k k k * el A k j i - el A k k i * el A k j k) / (match k with | 0 => 1 | m + 1 => el A m m m)
def piv (A : Mx) : Nat → Int
  | 0 => 1
  | m + 1 => el A m m m
theorem el_succ {A : Mx} {k j i : Nat} : el A (k + 1) j i = if i = k then el A k j k else (el A k k k * el A k j i - el A k k i * el A k j k) / piv A k := by
  cases k <;> rfl
theorem el_Rk {n : Nat} {A : Mx} : ∀ {k : Nat}, k ≤ n → (∀ m, m ≤ k → piv A m ≠ 0) → (∀ j i, i < n → el A k j i = Rk n A k j i) ∧ ∀ m, m ≤ k → piv A m = dk n A m
  | 0, _, _ => ⟨fun j i hi => (Rk_zero hi).symm, fun m hm => by
    have : m = 0 := by omega
    subst this
    exact dk_zero.symm⟩
  | k + 1, hk, hp => by
    obtain ⟨h1, h2⟩ := el_Rk (n := n) (A := A) (k := k) (by omega) fun m hm => hp m (by omega)
    have hb : Bas n A k := bas_all (by omega) fun m hm => by rw [← h2 m (by omega)]; exact hp m (by omega)
    refine ⟨fun j i hi => ?_, fun m hm => ?_⟩
    · rw [el_succ]
      by_cases h : i = k
      · rw [if_pos h, h, Rk_same]; exact h1 j k (by omega)
      · rw [if_neg h, h1 k k (by omega), h1 j i hi, h1 k i hi, h1 j k (by omega), ← Rk_other hb (by omega) hi h, h2 k (Nat.le_refl _)]
        exact Int.mul_ediv_cancel_left _ (by rw [← h2 k (Nat.le_refl _)]; exact hp k (by omega))
    · by_cases h : m = k + 1
      · subst h
        show el A k k k = _
        rw [dk_succ]
        exact h1 k k (by omega)
      · exact h2 m (by omega)
/-- exactly divided -/
theorem el_exact {n : Nat} {A : Mx} {k j i : Nat} (hk : k < n) (hp : ∀ m, m ≤ k → piv A m ≠ 0) (hi : i < n) (hne : i ≠ k) : el A k k k * el A k j i - el A k k i * el A k j k = piv A k * Rk n A (k + 1) j i := by
  obtain ⟨h1, h2⟩ := el_Rk (n := n) (by omega) hp
  have hb : Bas n A k := bas_all (by omega) fun m hm => by rw [← h2 m (by omega)]; exact hp m (by omega)
  rw [h1 k k hk, h1 j i hi, h1 k i hi, h1 j k hk, ← Rk_other hb hk hi hne, h2 k (Nat.le_refl _)]
/-- rows exchanged -/
def exch (p q i : Nat) : Nat := if i = p then q else if i = q then p else i
def rx (A : Mx) (p q : Nat) : Mx := fun j i => A j (exch p q i)
theorem exch_lt {p q i : Nat} (hp : i < p) (hq : i < q) : exch p q i = i := by unfold exch; rw [if_neg (by omega), if_neg (by omega)]
theorem exch_ne {p q i k : Nat} (hp : k < p) (hq : k < q) (h : i ≠ k) : exch p q i ≠ k := by unfold exch; split <;> (try split) <;> omega
theorem el_rx {A : Mx} {p q : Nat} : ∀ {k : Nat}, k ≤ p → k ≤ q → (∀ j i, el (rx A p q) k j i = el A k j (exch p q i)) ∧ ∀ m, m ≤ k → piv (rx A p q) m = piv A m
  | 0, _, _ => ⟨fun _ _ => rfl, fun m hm => by
    have : m = 0 := by omega
    subst this
    rfl⟩
  | k + 1, hp, hq => by
    obtain ⟨h1, h2⟩ := el_rx (A := A) (p := p) (q := q) (k := k) (by omega) (by omega)
    refine ⟨fun j i => ?_, fun m hm => ?_⟩
    · rw [el_succ, el_succ, h1, h1, h1, h1, h2 k (Nat.le_refl _), exch_lt (i := k) (by omega) (by omega)]
      by_cases h : i = k
      · rw [if_pos h, h, exch_lt (i := k) (by omega) (by omega), if_pos rfl]
      · rw [if_neg h, if_neg (exch_ne (by omega) (by omega) h)]
    · by_cases h : m = k + 1
      · subst h
        show el (rx A p q) k k k = el A k k k
        rw [h1, exch_lt (by omega) (by omega)]
      · exact h2 m (by omega)
/-- where the square part has no kernel there is a row with a number other than 0 -/
theorem pivot_there {n : Nat} {A : Mx} {k : Nat} (hk : k < n) (hp : ∀ m, m ≤ k → piv A m ≠ 0) (hker : ∀ x : Nat → Int, (∀ i, i < n → (sumN n fun c => A c i * x c) = 0) → ∀ c, c < n → x c = 0) : ∃ i, k ≤ i ∧ i < n ∧ el A k k i ≠ 0 := by
  obtain ⟨h1, h2⟩ := el_Rk (n := n) (by omega) hp
  have hb : Bas n A k := bas_all (by omega) fun m hm => by rw [← h2 m (by omega)]; exact hp m (by omega)
  refine Classical.byContradiction fun hno => ?_
  have hz : ∀ i, k ≤ i → i < n → Rk n A k k i = 0 := fun i h3 h4 => by
    rw [← h1 k i h4]
    exact Classical.byContradiction fun h5 => hno ⟨i, h3, h4, h5⟩
  have hx := hker (fun c => if c = k then dk n A k else if c < k then -Rk n A k k c else 0) (fun i hi => ?_) k hk
  · rw [if_pos rfl, ← h2 k (Nat.le_refl _)] at hx
    exact hp k (Nat.le_refl _) hx
  · have hbi := hb k i hi
    have e1 : (sumN n fun c => A c i * (if c = k then dk n A k else if c < k then -Rk n A k k c else 0)) = sumN n fun c => (if c = k then dk n A k * A k i else 0) + (-1) * (Rk n A k k c * bB A k c i) := sumN_congr fun c hc => by
      by_cases hck : c = k
      · rw [if_pos hck, if_pos hck, hck, hz k (Nat.le_refl _) hk]; grind
      · rw [if_neg hck, if_neg hck]
        by_cases hlt : c < k
        · rw [if_pos hlt]
          show _ = 0 + -1 * (_ * (if c < k then A c else eN c) i)
          rw [if_pos hlt]
          grind
        · rw [if_neg hlt, hz c (by omega) hc]; omega
    rw [e1, sumN_add, sumN_mul, ← hbi, sumN_one hk fun c _ hne => if_neg hne, if_pos rfl]
    omega
/-- the end: what is solved -/
theorem el_end {n : Nat} {A : Mx} (hp : ∀ m, m ≤ n → piv A m ≠ 0) : (∀ l c, l < n → c < n → el A n c l = if c = l then piv A n else 0) ∧ ∀ j i, i < n → piv A n * A j i = sumN n fun l => el A n j l * A l i := by
  obtain ⟨h1, h2⟩ := el_Rk (n := n) (Nat.le_refl _) hp
  have hb : Bas n A n := bas_all (Nat.le_refl _) fun m hm => by rw [← h2 m (by omega)]; exact hp m (by omega)
  have eB : ∀ l, l < n → bB A n l = A l := fun l hl => by
    show (if l < n then A l else eN l) = A l
    rw [if_pos hl]
  refine ⟨fun l c hl hc => ?_, fun j i hi => ?_⟩
  · rw [h1 c l hl, h2 n (Nat.le_refl _)]
    unfold Rk dk
    by_cases h : c = l
    · rw [if_pos h, h]
      rw [← eB l hl, cu_self]
    · rw [if_neg h]
      rcases Nat.lt_or_gt_of_ne h with z | z
      · exact alt_all n _ c l z hl fun i _ => by rw [cu_same, cu_ne h, eB c hc]
      · exact alt_all n _ l c z hc fun i _ => by rw [cu_same, cu_ne h, eB c hc]
  · rw [h2 n (Nat.le_refl _), hb j i hi]
    exact sumN_congr fun l hl => by rw [h1 j l hl, eB l hl]
theorem el_abs {n M : Nat} {A : Mx} {k j i W : Nat} (hM : 1 ≤ M) (hk : k ≤ n) (hn : n ≤ W) (hj : j < W) (hp : ∀ m, m ≤ k → piv A m ≠ 0) (hi : i < n) (hA : ∀ j i, j < W → i < n → (A j i).natAbs ≤ M) : (el A k j i).natAbs ≤ n ^ n * M ^ n := by
  obtain ⟨h1, _⟩ := el_Rk hk hp
  rw [h1 j i hi]
  refine det_abs fun a b ha hb => ?_
  by_cases h : a = i
  · rw [h, cu_same]; exact hA j b hj hb
  · rw [cu_ne h]
    show ((if a < k then A a else eN a) b).natAbs ≤ M
    split
    · exact hA a b (by omega) hb
    · show (if b = a then (1 : Int) else 0).natAbs ≤ M
      split
      · exact hM
      · exact Nat.zero_le _
end El

set_option linter.all false
set_option maxRecDepth 100000
set_option maxHeartbeats 2000000
namespace El
/-! ### solving, over lists -/
theorem getD_eq {α : Type} {xs : List α} {i : Nat} {x d : α} (h : xs[i]? = some x) : xs.getD i d = x := by rw [List.getD_eq_getElem?_getD, h]; rfl
theorem at_getD {α : Type} {xs : List α} {i : Nat} {d : α} (h : i < xs.length) : xs[i]? = some (xs.getD i d) := by rw [List.getD_eq_getElem?_getD, List.getElem?_eq_getElem h]; rfl
theorem getD_range {α : Type} {n i : Nat} {f : Nat → α} {d : α} (h : i < n) : ((List.range n).map f).getD i d = f i := getD_eq (by rw [List.getElem?_map, List.getElem?_range h]; rfl)
def matL (n W : Nat) (f : Mx) : List (List Int) := (List.range n).map fun i => (List.range W).map fun j => f j i
def mxOf (rows : List (List Int)) : Mx := fun j i => (rows.getD i []).getD j 0
theorem matL_len {n W : Nat} {f : Mx} : (matL n W f).length = n := by unfold matL; rw [List.length_map, List.length_range]
theorem matL_row {n W i : Nat} {f : Mx} (h : i < n) : (matL n W f).getD i [] = (List.range W).map fun j => f j i := getD_range h
theorem matL_get {n W i j : Nat} {f : Mx} (hi : i < n) (hj : j < W) : ((matL n W f).getD i []).getD j 0 = f j i := by rw [matL_row hi, getD_range hj]
theorem ext_getD {α : Type} {xs ys : List α} (d : α) (hl : xs.length = ys.length) (h : ∀ i, i < xs.length → xs.getD i d = ys.getD i d) : xs = ys := by
  refine List.ext_getElem? fun i => ?_
  by_cases hi : i < xs.length
  · rw [at_getD hi (d := d), at_getD (hl ▸ hi) (d := d), h i hi]
  · rw [List.getElem?_eq_none (by omega), List.getElem?_eq_none (by omega)]
theorem matL_of {W : Nat} {rows : List (List Int)} (h : ∀ r ∈ rows, r.length = W) : rows = matL rows.length W (mxOf rows) := by
  refine ext_getD [] matL_len.symm fun i hi => ?_
  rw [matL_row hi]
  have hr : (rows.getD i []).length = W := h _ (List.mem_of_getElem? (at_getD hi))
  refine ext_getD 0 (by rw [List.length_map, List.length_range, hr]) fun j hj => ?_
  rw [getD_range (by omega)]
  rfl
theorem matL_congr {n W : Nat} {f g : Mx} (h : ∀ j i, j < W → i < n → f j i = g j i) : matL n W f = matL n W g := by
  unfold matL
  refine List.map_congr_left fun i hi => List.map_congr_left fun j hj => h j i (List.mem_range.mp hj) (List.mem_range.mp hi)
/-- the rows with a pivot -/
def pivAt (rows : List (List Int)) (k : Nat) (p : Nat) : Bool := !decide ((rows.getD (k + p) []).getD k 0 = 0)
def swapM (rows : List (List Int)) (p q : Nat) : List (List Int) := (rows.set p (rows.getD q [])).set q (rows.getD p [])
def pivM (rows : List (List Int)) (k : Nat) : List (List Int) := match (List.range (rows.length - k)).find? (pivAt rows k) with
  | none => rows
  | some p => swapM rows k (k + p)
theorem swap_len {rows : List (List Int)} {p q : Nat} : (swapM rows p q).length = rows.length := by unfold swapM; rw [List.length_set, List.length_set]
theorem swap_get {rows : List (List Int)} {p q i : Nat} (hp : p < rows.length) (hq : q < rows.length) (hi : i < rows.length) : (swapM rows p q).getD i [] = rows.getD (exch p q i) [] := by
  unfold swapM exch
  by_cases h1 : i = q
  · subst h1
    rw [getD_eq (by rw [List.getElem?_set_self (by rw [List.length_set]; exact hq)])]
    by_cases h2 : i = p
    · rw [if_pos h2, h2]
    · rw [if_neg h2, if_pos rfl]
  · have e : ((rows.set p (rows.getD q [])).set q (rows.getD p [])).getD i [] = (rows.set p (rows.getD q [])).getD i [] := by
      rw [List.getD_eq_getElem?_getD, List.getElem?_set_ne (fun z => h1 z.symm), ← List.getD_eq_getElem?_getD]
    rw [e]
    by_cases h2 : i = p
    · subst h2
      rw [if_pos rfl, getD_eq (by rw [List.getElem?_set_self hp])]
    · rw [if_neg h2, if_neg h1, List.getD_eq_getElem?_getD, List.getElem?_set_ne (fun z => h2 z.symm), ← List.getD_eq_getElem?_getD]
theorem swap_mat {n W p q : Nat} {f : Mx} (hp : p < n) (hq : q < n) : swapM (matL n W f) p q = matL n W (rx f p q) := by
  refine ext_getD [] (by rw [swap_len, matL_len, matL_len]) fun i hi => ?_
  rw [swap_len, matL_len] at hi
  rw [swap_get (by rw [matL_len]; exact hp) (by rw [matL_len]; exact hq) (by rw [matL_len]; exact hi), matL_row hi, matL_row]
  · rfl
  · unfold exch
    split
    · exact hq
    · split
      · exact hp
      · exact hi
/-- the rows cleared -/
def clearM (rows : List (List Int)) (k : Nat) (last : Int) : List (List Int) := (List.range rows.length).map fun i =>
  if i = k then rows.getD i [] else ((rows.getD i []).zip (rows.getD k [])).map fun p => ((rows.getD k []).getD k 0 * p.1 - (rows.getD i []).getD k 0 * p.2).fdiv last
theorem clear_mat {n W k : Nat} {A : Mx} (hk : k < n) (hW : n ≤ W) (hp : ∀ m, m ≤ k → piv A m ≠ 0) : clearM (matL n W (el A k)) k (piv A k) = matL n W (el A (k + 1)) := by
  unfold clearM
  rw [matL_len]
  refine List.map_congr_left fun i hi => ?_
  have hi : i < n := List.mem_range.mp hi
  rw [matL_row hi]
  by_cases h : i = k
  · rw [if_pos h]
    refine List.map_congr_left fun j _ => ?_
    rw [el_succ, if_pos h, h]
  · rw [if_neg h, matL_row hk, getD_range (by omega), getD_range (by omega)]
    refine ext_getD 0 (by rw [List.length_map, List.length_zip, List.length_map, List.length_map, List.length_map, List.length_range, Nat.min_self]) fun j hj => ?_
    rw [List.length_map, List.length_zip, List.length_map, List.length_map, List.length_range, Nat.min_self] at hj
    rw [getD_range hj]
    have hz : (((List.range W).map fun j => el A k j i).zip ((List.range W).map fun j => el A k j k))[j]? = some (el A k j i, el A k j k) := by
      rw [List.getElem?_zip_eq_some, List.getElem?_map, List.getElem?_map, List.getElem?_range hj]
      exact ⟨rfl, rfl⟩
    rw [getD_eq (by rw [List.getElem?_map, hz]; rfl), el_succ, if_neg h]
    refine Int.fdiv_eq_ediv_of_dvd ?_
    exact ⟨_, el_exact hk hp hi h⟩
/-- what is asked of rows that are solved -/
structure Solv (rows : List (List Int)) (W M : Nat) : Prop where
  wide : ∀ r ∈ rows, r.length = W
  le : rows.length ≤ W
  few : rows.length ≤ 1000
  wfew : W ≤ 10000
  one : 1 ≤ M
  small : ∀ j i, j < W → i < rows.length → (mxOf rows j i).natAbs ≤ M
  bits : rows.length ^ rows.length * M ^ rows.length < 2 ^ 4000
  ker : ∀ x : Nat → Int, (∀ i, i < rows.length → (sumN rows.length fun c => mxOf rows c i * x c) = 0) → ∀ c, c < rows.length → x c = 0
/-- sums of shares -/
def sumQ : Nat → (Nat → Rat) → Rat
  | 0, _ => 0
  | n + 1, f => sumQ n f + f n
theorem sumQ_congr {f g : Nat → Rat} : ∀ {n : Nat}, (∀ i, i < n → f i = g i) → sumQ n f = sumQ n g
  | 0, _ => rfl
  | n + 1, h => by
    show sumQ n f + f n = sumQ n g + g n
    rw [sumQ_congr fun i hi => h i (by omega), h n (by omega)]
theorem sumQ_mul (a : Rat) (f : Nat → Rat) : ∀ n, sumQ n (fun i => a * f i) = a * sumQ n f
  | 0 => by show (0 : Rat) = a * 0; grind
  | n + 1 => by
    show sumQ n _ + _ = a * (sumQ n f + f n)
    rw [sumQ_mul a f n]
    grind
theorem sumQ_int (f : Nat → Int) : ∀ n, sumQ n (fun i => ((f i : Int) : Rat)) = ((sumN n f : Int) : Rat)
  | 0 => by show (0 : Rat) = ((0 : Int) : Rat); rfl
  | n + 1 => by
    show sumQ n _ + _ = ((sumN n f + f n : Int) : Rat)
    rw [sumQ_int f n, Rat.intCast_add]
theorem sumQ_add (f g : Nat → Rat) : ∀ n, sumQ n (fun i => f i + g i) = sumQ n f + sumQ n g
  | 0 => by show (0 : Rat) = 0 + 0; grind
  | n + 1 => by
    show sumQ n _ + (f n + g n) = (sumQ n f + f n) + (sumQ n g + g n)
    rw [sumQ_add f g n]
    grind
/-- x solves the rows: column c of x for the c-th right side -/
def IsSol (rows : List (List Int)) (W : Nat) (x : List (List Rat)) : Prop := x.length = rows.length ∧ (∀ r ∈ x, r.length = W - rows.length) ∧
  ∀ i c, i < rows.length → c < W - rows.length → sumQ rows.length (fun l => (mxOf rows l i : Rat) * (x.getD l []).getD c 0) = (mxOf rows (rows.length + c) i : Rat)
/-- all denominators made one: a common multiple -/
theorem clear_den : ∀ (n : Nat) (f : Nat → Rat), ∃ D : Int, D ≠ 0 ∧ ∀ i, i < n → ∃ p : Int, (D : Rat) * f i = (p : Rat)
  | 0, _ => ⟨1, by decide, fun i h => absurd h (Nat.not_lt_zero i)⟩
  | n + 1, f => by
    obtain ⟨D, hD, h⟩ := clear_den n f
    have hd : ((f n).den : Int) ≠ 0 := by have := (f n).den_nz; omega
    refine ⟨D * (f n).den, Int.mul_ne_zero hD hd, fun i hi => ?_⟩
    have hn : (((f n).den : Int) : Rat) * f n = ((f n).num : Rat) := by
      have h2 := Rat.num_divInt_den (f n)
      rw [Rat.divInt_eq_div] at h2
      have h3 : (((f n).den : Int) : Rat) ≠ 0 := fun z => hd (by exact Rat.intCast_inj.mp (by rw [z]; rfl))
      grind
    by_cases e : i = n
    · subst e
      refine ⟨D * (f i).num, ?_⟩
      rw [Rat.intCast_mul, Rat.intCast_mul, ← hn]
      grind
    · obtain ⟨p, hp⟩ := h i (by omega)
      refine ⟨(f n).den * p, ?_⟩
      rw [Rat.intCast_mul, Rat.intCast_mul, ← hp]
      grind
theorem ker_rat {n : Nat} {A : Mx} (ker : ∀ x : Nat → Int, (∀ i, i < n → (sumN n fun c => A c i * x c) = 0) → ∀ c, c < n → x c = 0) {f : Nat → Rat} (h : ∀ i, i < n → sumQ n (fun c => (A c i : Rat) * f c) = 0) : ∀ c, c < n → f c = 0 := fun c hc => by
  obtain ⟨D, hD, hp⟩ := clear_den n f
  have hDq : (D : Rat) ≠ 0 := fun z => hD (Rat.intCast_inj.mp (by rw [z]; rfl))
  have hx : ∀ i, i < n → ((Rat.num ((D : Rat) * f i) : Int) : Rat) = (D : Rat) * f i := fun i hi => by
    obtain ⟨p, hp⟩ := hp i hi
    rw [hp]
    rfl
  have hz := ker (fun i => Rat.num ((D : Rat) * f i)) (fun i hi => ?_) c hc
  · have h1 := hx c hc
    have hz' : Rat.num ((D : Rat) * f c) = 0 := hz
    rw [hz'] at h1
    have h2 : (D : Rat) * f c = 0 := by rw [← h1]; rfl
    rcases Rat.mul_eq_zero.mp h2 with h3 | h3
    · exact absurd h3 hDq
    · exact h3
  · refine Rat.intCast_inj.mp ?_
    rw [← sumQ_int]
    have e : sumQ n (fun c => ((A c i * Rat.num ((D : Rat) * f c) : Int) : Rat)) = sumQ n (fun c => (D : Rat) * ((A c i : Rat) * f c)) := sumQ_congr fun c hc => by
      rw [Rat.intCast_mul, hx c hc]
      grind
    rw [e, sumQ_mul, h i hi]
    show (D : Rat) * 0 = 0
    grind
theorem sol_one {rows : List (List Int)} {W : Nat} (ker : ∀ x : Nat → Int, (∀ i, i < rows.length → (sumN rows.length fun c => mxOf rows c i * x c) = 0) → ∀ c, c < rows.length → x c = 0) {x y : List (List Rat)} (hx : IsSol rows W x) (hy : IsSol rows W y) : x = y := by
  obtain ⟨x1, x2, x3⟩ := hx
  obtain ⟨y1, y2, y3⟩ := hy
  refine ext_getD [] (by rw [x1, y1]) fun l hl => ?_
  have hxl : (x.getD l []).length = W - rows.length := x2 _ (List.mem_of_getElem? (at_getD hl))
  have hyl : (y.getD l []).length = W - rows.length := y2 _ (List.mem_of_getElem? (at_getD (by omega)))
  refine ext_getD 0 (by rw [hxl, hyl]) fun c hc => ?_
  have hc : c < W - rows.length := by omega
  have := ker_rat ker (f := fun l => (x.getD l []).getD c 0 - (y.getD l []).getD c 0) (fun i hi => ?_) l (by omega)
  · have h2 : (x.getD l []).getD c 0 - (y.getD l []).getD c 0 = 0 := this
    grind
  · have e : sumQ rows.length (fun l => (mxOf rows l i : Rat) * ((x.getD l []).getD c 0 - (y.getD l []).getD c 0)) = sumQ rows.length (fun l => (mxOf rows l i : Rat) * (x.getD l []).getD c 0 + (-1) * ((mxOf rows l i : Rat) * (y.getD l []).getD c 0)) := sumQ_congr fun l _ => by grind
    rw [e, sumQ_add, sumQ_mul, x3 i c hi hc, y3 i c hi hc]
    grind
open Classical in
noncomputable def solR (rows : List (List Int)) (W : Nat) : List (List Rat) := if h : ∃ x, IsSol rows W x then h.choose else []
theorem solR_eq {rows : List (List Int)} {W : Nat} (ker : ∀ x : Nat → Int, (∀ i, i < rows.length → (sumN rows.length fun c => mxOf rows c i * x c) = 0) → ∀ c, c < rows.length → x c = 0) {x : List (List Rat)} (hx : IsSol rows W x) : solR rows W = x := by
  have h : ∃ x, IsSol rows W x := ⟨x, hx⟩
  unfold solR
  rw [dif_pos h]
  exact sol_one ker h.choose_spec hx
/-- between two steps -/
structure Mid (rows : List (List Int)) (W M k : Nat) (A : Mx) : Prop where
  piv0 : ∀ m, m ≤ k → piv A m ≠ 0
  sur : ∀ i, i < rows.length → ∃ i', i' < rows.length ∧ ∀ j, mxOf rows j i = A j i'
  small : ∀ j i, j < W → i < rows.length → (A j i).natAbs ≤ M
theorem mid0 {rows : List (List Int)} {W M : Nat} (s : Solv rows W M) : Mid rows W M 0 (mxOf rows) where
  piv0 := fun m hm => by
    have : m = 0 := by omega
    subst this
    exact fun z => nomatch (show (1 : Int) = 0 from z)
  sur := fun i hi => ⟨i, hi, fun _ => rfl⟩
  small := s.small
theorem mid_ker {rows : List (List Int)} {W M k : Nat} {A : Mx} (s : Solv rows W M) (m : Mid rows W M k A) : ∀ x : Nat → Int, (∀ i, i < rows.length → (sumN rows.length fun c => A c i * x c) = 0) → ∀ c, c < rows.length → x c = 0 := fun x hx => s.ker x fun i hi => by
  obtain ⟨i', hi', h⟩ := m.sur i hi
  rw [← hx i' hi']
  exact sumN_congr fun c _ => by rw [h c]
/-- a pivot is found, and the rows are cleared -/
theorem mid_step {rows : List (List Int)} {W M k : Nat} {A : Mx} (s : Solv rows W M) (m : Mid rows W M k A) (hk : k < rows.length) : ∃ B, Mid rows W M (k + 1) B ∧ pivM (matL rows.length W (el A k)) k = matL rows.length W (el B k) ∧ piv B k = piv A k ∧ clearM (matL rows.length W (el B k)) k (piv A k) = matL rows.length W (el B (k + 1)) := by
  obtain ⟨i, h1, h2, h3⟩ := pivot_there hk m.piv0 (mid_ker s m)
  have hle := s.le
  have hent : ∀ p, p < rows.length - k → pivAt (matL rows.length W (el A k)) k p = !decide (el A k k (k + p) = 0) := fun p hp => by
    unfold pivAt
    rw [matL_get (by omega) (by omega)]
  obtain ⟨p, hp⟩ : ∃ p, (List.range (rows.length - k)).find? (pivAt (matL rows.length W (el A k)) k) = some p := by
    cases q : (List.range (rows.length - k)).find? (pivAt (matL rows.length W (el A k)) k) with
    | some p => exact ⟨p, rfl⟩
    | none =>
      have := List.find?_eq_none.mp q (i - k) (List.mem_range.mpr (by omega))
      rw [hent _ (by omega), show k + (i - k) = i by omega, decide_eq_false h3] at this
      simp at this
  have hp1 : p < rows.length - k := List.mem_range.mp (List.mem_of_find?_eq_some hp)
  have hp2 : el A k k (k + p) ≠ 0 := by
    have := List.find?_some hp
    rw [hent p hp1] at this
    intro z
    rw [z] at this
    simp at this
  obtain ⟨r1, r2⟩ := el_rx (A := A) (p := k) (q := k + p) (k := k) (Nat.le_refl _) (by omega)
  have eB : matL rows.length W (el (rx A k (k + p)) k) = matL rows.length W (rx (el A k) k (k + p)) := matL_congr fun j i _ _ => r1 j i
  have exl : ∀ i, i < rows.length → exch k (k + p) i < rows.length := fun i hi => by
    unfold exch
    split
    · omega
    · split <;> omega
  have exx : ∀ i, exch k (k + p) (exch k (k + p) i) = i := fun i => by
    unfold exch
    split <;> (try split) <;> (try split) <;> omega
  have hpv : ∀ m', m' ≤ k + 1 → piv (rx A k (k + p)) m' ≠ 0 := fun m' hm => by
    by_cases e : m' = k + 1
    · subst e
      show el (rx A k (k + p)) k k k ≠ 0
      rw [r1, show exch k (k + p) k = k + p by unfold exch; rw [if_pos rfl]]
      exact hp2
    · rw [r2 m' (by omega)]
      exact m.piv0 m' (by omega)
  refine ⟨rx A k (k + p), ⟨hpv, fun i hi => ?_, fun j i hj hi => m.small j _ hj (exl i hi)⟩, ?_, r2 k (Nat.le_refl _), ?_⟩
  · obtain ⟨i', hi', h⟩ := m.sur i hi
    refine ⟨exch k (k + p) i', exl i' hi', fun j => ?_⟩
    rw [h j]
    show A j i' = A j (exch k (k + p) (exch k (k + p) i'))
    rw [exx]
  · unfold pivM
    rw [matL_len, hp]
    show swapM _ _ _ = _
    rw [swap_mat hk (by omega), eB]
  · rw [← r2 k (Nat.le_refl _)]
    exact clear_mat hk s.le fun m' hm => hpv m' (by omega)
theorem mid_abs {rows : List (List Int)} {W M k : Nat} {A : Mx} (s : Solv rows W M) (m : Mid rows W M k A) (hk : k ≤ rows.length) {j i : Nat} (hj : j < W) (hi : i < rows.length) : (el A k j i).natAbs < 2 ^ 4000 :=
  Nat.lt_of_le_of_lt (el_abs s.one hk s.le hj m.piv0 hi m.small) s.bits
theorem piv_abs {rows : List (List Int)} {W M k : Nat} {A : Mx} (s : Solv rows W M) (m : Mid rows W M k A) (hk : k ≤ rows.length) : (piv A k).natAbs < 2 ^ 4000 := by
  cases k with
  | zero => exact Nat.lt_of_lt_of_le (show (1 : Int).natAbs < 2 ^ 1 by decide) (Nat.pow_le_pow_right (by decide) (by decide))
  | succ k =>
    have hle := s.le
    have := mid_abs s m hk (j := k) (i := k) (by omega) (by omega)
    rw [el_succ, if_pos rfl] at this
    exact this
/-- the end -/
theorem mid_sol {rows : List (List Int)} {W M : Nat} {A : Mx} (s : Solv rows W M) (m : Mid rows W M rows.length A) : IsSol rows W ((List.range rows.length).map fun k => ((List.range (W - rows.length)).map fun c => Rat.divInt (el A rows.length (rows.length + c) k) (piv A rows.length))) := by
  obtain ⟨e1, e2⟩ := el_end (n := rows.length) m.piv0
  have hp := m.piv0 rows.length (Nat.le_refl _)
  have hpq : (piv A rows.length : Rat) ≠ 0 := fun z => hp (Rat.intCast_inj.mp (by rw [z]; rfl))
  refine ⟨by rw [List.length_map, List.length_range], fun r hr => ?_, fun i c hi hc => ?_⟩
  · obtain ⟨k, hk, rfl⟩ := List.mem_map.mp hr
    rw [List.length_map, List.length_range]
  · obtain ⟨i', hi', h⟩ := m.sur i hi
    have h2 := e2 (rows.length + c) i' hi'
    have e : sumQ rows.length (fun l => (mxOf rows l i : Rat) * (((List.range rows.length).map fun k => ((List.range (W - rows.length)).map fun c => Rat.divInt (el A rows.length (rows.length + c) k) (piv A rows.length))).getD l []).getD c 0) = sumQ rows.length (fun l => ((piv A rows.length : Rat))⁻¹ * ((el A rows.length (rows.length + c) l * A l i' : Int) : Rat)) := sumQ_congr fun l hl => by
      rw [getD_range hl, getD_range hc, h l, Rat.divInt_eq_div, Rat.intCast_mul, Rat.div_def]
      grind
    rw [e, sumQ_mul, sumQ_int, ← h2, h (rows.length + c), Rat.intCast_mul]
    grind
theorem mid_end {rows : List (List Int)} {W M : Nat} {A : Mx} (s : Solv rows W M) (m : Mid rows W M rows.length A) :
    (∀ k, k < rows.length → el A rows.length k k = piv A rows.length) ∧ ((List.range rows.length).map fun k => ((List.range (W - rows.length)).map fun c => Rat.divInt (el A rows.length (rows.length + c) k) (piv A rows.length))) = solR rows W := by
  obtain ⟨e1, e2⟩ := el_end (n := rows.length) m.piv0
  exact ⟨fun k hk => by rw [e1 k k hk hk, if_pos rfl], (solR_eq s.ker (mid_sol s m)).symm⟩
theorem mid_all {rows : List (List Int)} {W M : Nat} (s : Solv rows W M) : ∀ k, k ≤ rows.length → ∃ A, Mid rows W M k A
  | 0, _ => ⟨_, mid0 s⟩
  | k + 1, hk => by
    obtain ⟨A, hA⟩ := mid_all s k (by omega)
    obtain ⟨B, hB, _⟩ := mid_step s hA (by omega)
    exact ⟨B, hB⟩
theorem solR_sol {rows : List (List Int)} {W M : Nat} (s : Solv rows W M) : IsSol rows W (solR rows W) := by
  obtain ⟨A, hA⟩ := mid_all s _ (Nat.le_refl _)
  rw [← (mid_end s hA).2]
  exact mid_sol s hA
/-- the denominators all part one number -/
theorem solR_over {rows : List (List Int)} {W M : Nat} (s : Solv rows W M) : ∃ D : Int, D ≠ 0 ∧ D.natAbs < 2 ^ 4000 ∧ ∀ k c, k < rows.length → c < W - rows.length → ∃ p : Int, ((solR rows W).getD k []).getD c 0 = Rat.divInt p D ∧ p.natAbs ≤ rows.length ^ rows.length * M ^ rows.length := by
  obtain ⟨A, hA⟩ := mid_all s _ (Nat.le_refl _)
  refine ⟨piv A rows.length, hA.piv0 _ (Nat.le_refl _), piv_abs s hA (Nat.le_refl _), fun k c hk hc => ?_⟩
  rw [← (mid_end s hA).2, getD_range hk, getD_range hc]
  exact ⟨_, rfl, el_abs s.one (Nat.le_refl _) s.le (by omega) hA.piv0 hk hA.small⟩
end El

set_option linter.all false
set_option maxRecDepth 100000
set_option maxHeartbeats 4000000
namespace El
/-! ### walks: where they come, and how they rest -/
theorem sumQ_zero {f : Nat → Rat} : ∀ {n : Nat}, (∀ i, i < n → f i = 0) → sumQ n f = 0
  | 0, _ => rfl
  | n + 1, h => by
    show sumQ n f + f n = 0
    rw [sumQ_zero fun i hi => h i (by omega), h n (by omega)]
    grind
theorem sumQ_one {f : Nat → Rat} {n k : Nat} (hk : k < n) (h : ∀ i, i < n → i ≠ k → f i = 0) : sumQ n f = f k := by
  induction n with
  | zero => omega
  | succ n ih =>
    show sumQ n f + f n = f k
    by_cases e : k = n
    · rw [e, sumQ_zero fun i hi => h i (by omega) (by omega)]; grind
    · rw [ih (by omega) fun i hi hne => h i (by omega) hne, h n (by omega) (fun z => e z.symm)]; grind
theorem sumQ_comm (f : Nat → Nat → Rat) : ∀ m n, sumQ m (fun i => sumQ n (fun j => f i j)) = sumQ n (fun j => sumQ m (fun i => f i j))
  | 0, n => (sumQ_zero fun _ _ => rfl).symm
  | m + 1, n => by
    show sumQ m _ + sumQ n _ = sumQ n (fun j => sumQ m (fun i => f i j) + f m j)
    rw [sumQ_add, sumQ_comm f m n]
theorem sumQ_le {f g : Nat → Rat} : ∀ {n : Nat}, (∀ i, i < n → f i ≤ g i) → sumQ n f ≤ sumQ n g
  | 0, _ => Rat.le_refl
  | n + 1, h => by
    have h1 := sumQ_le (n := n) fun i hi => h i (by omega)
    have h2 := h n (by omega)
    show sumQ n f + f n ≤ sumQ n g + g n
    grind
theorem sumQ_nonneg {f : Nat → Rat} {n : Nat} (h : ∀ i, i < n → 0 ≤ f i) : 0 ≤ sumQ n f := by
  have := sumQ_le (f := fun _ => 0) h
  rw [sumQ_zero fun _ _ => rfl] at this
  exact this
/-- term by term at most, together alike: alike term by term -/
theorem sumQ_eq {f g : Nat → Rat} : ∀ {n : Nat}, (∀ i, i < n → f i ≤ g i) → sumQ n f = sumQ n g → ∀ i, i < n → f i = g i
  | 0, _, _, i, hi => absurd hi (Nat.not_lt_zero i)
  | n + 1, h, e, i, hi => by
    have h1 := sumQ_le (n := n) fun i hi => h i (by omega)
    have h2 := h n (by omega)
    have e' : sumQ n f + f n = sumQ n g + g n := e
    have e1 : sumQ n f = sumQ n g := by grind
    by_cases z : i = n
    · subst z; grind
    · exact sumQ_eq (n := n) (fun i hi => h i (by omega)) e1 i (by omega)
theorem sumQ_pos {f : Nat → Rat} {n k : Nat} (hk : k < n) (h : ∀ i, i < n → 0 ≤ f i) (hp : 0 < f k) : 0 < sumQ n f := by
  have h0 := sumQ_nonneg h
  have hne : sumQ n f ≠ 0 := fun z => by
    have := sumQ_eq (f := fun _ => 0) (g := f) h (by rw [sumQ_zero fun _ _ => rfl, z]) k hk
    grind
  grind
def absQ (x : Rat) : Rat := if 0 ≤ x then x else -x
theorem absQ_nonneg (x : Rat) : 0 ≤ absQ x := by unfold absQ; grind
theorem absQ_ge (x : Rat) : x ≤ absQ x := by unfold absQ; grind
theorem absQ_ge' (x : Rat) : -x ≤ absQ x := by unfold absQ; grind
theorem absQ_add (x y : Rat) : absQ (x + y) ≤ absQ x + absQ y := by unfold absQ; grind
theorem absQ_mul {x c : Rat} (h : 0 ≤ c) : absQ (x * c) = absQ x * c := by
  unfold absQ
  by_cases hx : 0 ≤ x
  · rw [if_pos hx, if_pos (Rat.mul_nonneg hx h)]
  · by_cases hc : c = 0
    · subst hc; grind
    · have h1 : 0 < c := by grind
      have h2 : 0 < (-x) * c := Rat.mul_pos (by grind) h1
      rw [if_neg hx, if_neg (by grind)]
      grind
theorem absQ_sum (f : Nat → Rat) : ∀ n, absQ (sumQ n f) ≤ sumQ n fun i => absQ (f i)
  | 0 => by show absQ 0 ≤ 0; unfold absQ; grind
  | n + 1 => by
    have h1 := absQ_sum f n
    have h2 := absQ_add (sumQ n f) (f n)
    show absQ (sumQ n f + f n) ≤ (sumQ n fun i => absQ (f i)) + absQ (f n)
    grind
/-- comes from one to another -/
inductive Rch (E : Nat → Nat → Prop) : Nat → Nat → Prop
  | refl (a : Nat) : Rch E a a
  | step {a b c : Nat} : Rch E a b → E b c → Rch E a c
theorem Rch.trans {E : Nat → Nat → Prop} {a b c : Nat} (h : Rch E a b) (g : Rch E b c) : Rch E a c := by
  induction g with
  | refl => exact h
  | step _ e ih => exact ih.step e
structure Chain (n : Nat) (P : Nat → Nat → Nat) (W : Nat) : Prop where
  pos : 1 ≤ W
  row : ∀ a, a < n → (sumQ n fun b => (P a b : Rat)) = (W : Rat)
def stepC (n : Nat) (P : Nat → Nat → Nat) (a b : Nat) : Prop := b < n ∧ 0 < P a b
noncomputable def rchB (n : Nat) (P : Nat → Nat → Nat) (p q : Nat) : Bool := @decide (Rch (stepC n P) p q) (Classical.propDecidable _)
theorem rchB_iff {n : Nat} {P : Nat → Nat → Nat} {p q : Nat} : rchB n P p q = true ↔ Rch (stepC n P) p q := by unfold rchB; exact @decide_eq_true_iff _ (Classical.propDecidable _)
noncomputable def reachC (n : Nat) (P : Nat → Nat → Nat) (p : Nat) : List Nat := (List.range n).filter (rchB n P p)
theorem rch_lt {n : Nat} {P : Nat → Nat → Nat} {a b : Nat} (ha : a < n) (h : Rch (stepC n P) a b) : b < n := by
  cases h with
  | refl => exact ha
  | step _ e => exact e.1
theorem mem_reach {n : Nat} {P : Nat → Nat → Nat} {p q : Nat} (hp : p < n) : q ∈ reachC n P p ↔ Rch (stepC n P) p q := by
  unfold reachC
  rw [List.mem_filter, List.mem_range, rchB_iff]
  exact ⟨fun h => h.2, fun h => ⟨rch_lt hp h, h⟩⟩
theorem reach_eq {n : Nat} {P : Nat → Nat → Nat} {p q : Nat} (h1 : Rch (stepC n P) p q) (h2 : Rch (stepC n P) q p) : reachC n P p = reachC n P q := by
  unfold reachC
  refine List.filter_congr fun r _ => ?_
  have : rchB n P p r = true ↔ rchB n P q r = true := by rw [rchB_iff, rchB_iff]; exact ⟨fun h => h2.trans h, fun h => h1.trans h⟩
  exact Bool.eq_iff_iff.mpr this
theorem reach_sub {n : Nat} {P : Nat → Nat → Nat} {p q : Nat} (hp : p < n) (h1 : Rch (stepC n P) p q) : ∀ r ∈ reachC n P q, r ∈ reachC n P p := fun r hr =>
  (mem_reach hp).mpr (h1.trans ((mem_reach (rch_lt hp h1)).mp hr))
theorem filter_sub_len {p q : Nat → Bool} : ∀ {l : List Nat}, (∀ x ∈ l, p x = true → q x = true) → (l.filter p).length ≤ (l.filter q).length ∧ ((l.filter p).length = (l.filter q).length → l.filter p = l.filter q)
  | [], _ => ⟨Nat.le_refl _, fun _ => rfl⟩
  | a :: l, h => by
    obtain ⟨i1, i2⟩ := filter_sub_len (p := p) (q := q) (l := l) fun x hx => h x (List.mem_cons_of_mem a hx)
    rw [List.filter_cons, List.filter_cons]
    by_cases hp : p a = true
    · rw [if_pos hp, if_pos (h a List.mem_cons_self hp)]
      exact ⟨Nat.succ_le_succ i1, fun e => by rw [i2 (by simpa using e)]⟩
    · rw [if_neg hp]
      by_cases hq : q a = true
      · rw [if_pos hq]
        exact ⟨Nat.le_succ_of_le i1, fun e => by rw [List.length_cons] at e; omega⟩
      · rw [if_neg hq]; exact ⟨i1, i2⟩
theorem exists_closed {n : Nat} {P : Nat → Nat → Nat} : ∀ (k p : Nat), p < n → (reachC n P p).length ≤ k → ∃ q, Rch (stepC n P) p q ∧ ∀ r, Rch (stepC n P) q r → reachC n P r = reachC n P q
  | 0, p, hp, hk => by
    have := (mem_reach (P := P) hp).mpr (Rch.refl p)
    rw [List.length_eq_zero_iff.mp (Nat.le_zero.mp hk)] at this
    cases this
  | k + 1, p, hp, hk => by
    by_cases h : ∀ r, Rch (stepC n P) p r → reachC n P r = reachC n P p
    · exact ⟨p, .refl p, h⟩
    · obtain ⟨r, hr⟩ := Classical.not_forall.mp h
      obtain ⟨h1, h2⟩ := Classical.not_imp.mp hr
      have hrn := rch_lt hp h1
      have sub := filter_sub_len (l := List.range n) (p := rchB n P r) (q := rchB n P p) fun x _ hx => rchB_iff.mpr (h1.trans (rchB_iff.mp hx))
      have hlt : (reachC n P r).length < (reachC n P p).length := Nat.lt_of_le_of_ne sub.1 fun e => h2 (sub.2 e)
      obtain ⟨q, q1, q2⟩ := exists_closed (P := P) k r hrn (by omega)
      exact ⟨q, h1.trans q1, q2⟩
def closB (n : Nat) (R : Nat → List Nat) (p : Nat) : Bool := decide ((R p).headD n = p) && (R p).all fun q => decide (R q = R p)
noncomputable def closedC (n : Nat) (P : Nat → Nat → Nat) : List (List Nat) := ((List.range n).filter (closB n (reachC n P))).map (reachC n P)
theorem head_mem {l : List Nat} {d : Nat} (h : l ≠ []) : l.headD d ∈ l := by
  cases l with
  | nil => exact absurd rfl h
  | cons a l => exact List.mem_cons_self
/-- a closed class, told by its least place -/
theorem closed_mem {n : Nat} {P : Nat → Nat → Nat} {q : Nat} (hq : q < n) (h : ∀ r, Rch (stepC n P) q r → reachC n P r = reachC n P q) : closB n (reachC n P) ((reachC n P q).headD n) = true ∧ (reachC n P q).headD n < n ∧ reachC n P ((reachC n P q).headD n) = reachC n P q := by
  have hne : reachC n P q ≠ [] := List.ne_nil_of_mem ((mem_reach hq).mpr (Rch.refl q))
  have hm := head_mem (d := n) hne
  have hr := (mem_reach hq).mp hm
  have e := h _ hr
  refine ⟨?_, rch_lt hq hr, e⟩
  unfold closB
  rw [e, decide_eq_true rfl, Bool.true_and]
  exact List.all_eq_true.mpr fun r hr => decide_eq_true (h r ((mem_reach hq).mp hr))
theorem closed_of {n : Nat} {P : Nat → Nat → Nat} {p : Nat} (hp : p < n) (h : closB n (reachC n P) p = true) : ∀ r, Rch (stepC n P) p r → reachC n P r = reachC n P p := fun r hr => by
  unfold closB at h
  exact of_decide_eq_true (List.all_eq_true.mp (Bool.and_eq_true_iff.mp h).2 r ((mem_reach hp).mpr hr))
/-- one closed set: it is come to from everywhere -/
theorem one_closed {n : Nat} {P : Nat → Nat → Nat} {C : List Nat} (h : closedC n P = [C]) : ∀ p, p < n → ∀ q ∈ C, Rch (stepC n P) p q := fun p hp q hq => by
  obtain ⟨r, r1, r2⟩ := exists_closed (P := P) _ p hp (Nat.le_refl _)
  have hr := rch_lt hp r1
  obtain ⟨m1, m2, m3⟩ := closed_mem hr r2
  have : reachC n P ((reachC n P r).headD n) ∈ closedC n P := List.mem_map.mpr ⟨_, List.mem_filter.mpr ⟨List.mem_range.mpr m2, m1⟩, rfl⟩
  rw [h, m3] at this
  rw [← List.mem_singleton.mp this] at hq
  exact r1.trans ((mem_reach hr).mp hq)
theorem closed_in {n : Nat} {P : Nat → Nat → Nat} {C : List Nat} (h : C ∈ closedC n P) : ∃ m, m < n ∧ C = reachC n P m ∧ m ∈ C ∧ ∀ r ∈ C, reachC n P r = C := by
  unfold closedC at h
  obtain ⟨m, hm, rfl⟩ := List.mem_map.mp h
  obtain ⟨m1, m2⟩ := List.mem_filter.mp hm
  have hn := List.mem_range.mp m1
  exact ⟨m, hn, rfl, (mem_reach hn).mpr (Rch.refl m), fun r hr => closed_of hn m2 r ((mem_reach hn).mp hr)⟩
/-- where one place is come to from everywhere there is one closed set -/
theorem closed_one {n : Nat} {P : Nat → Nat → Nat} {z : Nat} (hz : z < n) (h : ∀ p, p < n → Rch (stepC n P) p z) : closedC n P = [reachC n P z] := by
  have hcl : ∀ r, Rch (stepC n P) z r → reachC n P r = reachC n P z := fun r hr => (reach_eq hr (h r (rch_lt hz hr))).symm
  obtain ⟨m1, m2, m3⟩ := closed_mem hz hcl
  have huni : ∀ p, p < n → closB n (reachC n P) p = true → p = (reachC n P z).headD n := fun p hp hc => by
    have e := closed_of hp hc z (h p hp)
    rw [e]
    unfold closB at hc
    exact (of_decide_eq_true (Bool.and_eq_true_iff.mp hc).1).symm
  have hf : (List.range n).filter (closB n (reachC n P)) = [(reachC n P z).headD n] := by
    have hnd : ((List.range n).filter (closB n (reachC n P))).Nodup := List.nodup_range.filter _
    have hmem : ∀ x, x ∈ (List.range n).filter (closB n (reachC n P)) ↔ x = (reachC n P z).headD n := fun x => by
      rw [List.mem_filter, List.mem_range]
      exact ⟨fun ⟨h1, h2⟩ => huni x h1 h2, fun e => by rw [e]; exact ⟨m2, m1⟩⟩
    have hp : ((List.range n).filter (closB n (reachC n P))).Perm [(reachC n P z).headD n] := (List.perm_ext_iff_of_nodup hnd (by simp)).mpr fun x => by rw [hmem, List.mem_singleton]
    exact List.perm_singleton.mp hp
  unfold closedC
  rw [hf, List.map_cons, List.map_nil, m3]
/-- resting -/
def Stat (n : Nat) (P : Nat → Nat → Nat) (W : Nat) (x : Nat → Rat) : Prop := ∀ b, b < n → (sumQ n fun a => x a * (P a b : Rat)) = (W : Rat) * x b
theorem cast_nonneg (k : Nat) : (0 : Rat) ≤ (k : Rat) := by
  have : ((0 : Int) : Rat) ≤ ((k : Int) : Rat) := Rat.intCast_le_intCast.mpr (by omega)
  exact this
theorem cast_pos {k : Nat} (h : 0 < k) : (0 : Rat) < (k : Rat) := by
  have : ((0 : Int) : Rat) < ((k : Int) : Rat) := Rat.intCast_lt_intCast.mpr (by omega)
  exact this
theorem stat_sup {n : Nat} {P : Nat → Nat → Nat} {W : Nat} (hW : 1 ≤ W) {x : Nat → Rat} (hs : Stat n P W x) (h0 : ∀ a, a < n → 0 ≤ x a) {a b : Nat} (ha : a < n) (hx : 0 < x a) (h : Rch (stepC n P) a b) : 0 < x b := by
  induction h with
  | refl => exact hx
  | step h e ih =>
    rename_i b c
    have hb := rch_lt ha h
    have := sumQ_pos (n := n) (f := fun a => x a * (P a c : Rat)) hb (fun i hi => Rat.mul_nonneg (h0 i hi) (cast_nonneg _)) (Rat.mul_pos ih (cast_pos e.2))
    rw [hs c e.1] at this
    have hWp := cast_pos (show 0 < W by omega)
    refine Classical.byContradiction fun hn => ?_
    have h1 : x c = 0 := by have := h0 c e.1; grind
    rw [h1] at this
    grind
theorem stat_abs {n : Nat} {P : Nat → Nat → Nat} {W : Nat} (c : Chain n P W) {x : Nat → Rat} (hs : Stat n P W x) : Stat n P W fun a => absQ (x a) := by
  have hle : ∀ b, b < n → (W : Rat) * absQ (x b) ≤ sumQ n fun a => absQ (x a) * (P a b : Rat) := fun b hb => by
    have h1 := absQ_sum (fun a => x a * (P a b : Rat)) n
    rw [hs b hb] at h1
    have h2 : absQ ((W : Rat) * x b) = (W : Rat) * absQ (x b) := by rw [Rat.mul_comm, absQ_mul (cast_nonneg W), Rat.mul_comm]
    rw [h2] at h1
    have e : (sumQ n fun i => absQ (x i * (P i b : Rat))) = sumQ n fun a => absQ (x a) * (P a b : Rat) := sumQ_congr fun a _ => absQ_mul (cast_nonneg _)
    rw [← e]
    exact h1
  have hsum : (sumQ n fun b => (W : Rat) * absQ (x b)) = sumQ n fun b => sumQ n fun a => absQ (x a) * (P a b : Rat) := by
    rw [sumQ_comm (fun b a => absQ (x a) * (P a b : Rat))]
    refine sumQ_congr fun a ha => ?_
    rw [sumQ_mul, c.row a ha, Rat.mul_comm]
  exact fun b hb => (sumQ_eq hle hsum b hb).symm
theorem stat_zero {n : Nat} {P : Nat → Nat → Nat} {W : Nat} {C : List Nat} (c : Chain n P W) (hC : closedC n P = [C]) {x : Nat → Rat} (hs : Stat n P W x) (h0 : sumQ n x = 0) : ∀ a, a < n → x a = 0 := by
  have ha := stat_abs c hs
  have su : Stat n P W fun a => absQ (x a) + (-1) * x a := fun b hb => by
    have e : (sumQ n fun a => (absQ (x a) + (-1) * x a) * (P a b : Rat)) = sumQ n fun a => absQ (x a) * (P a b : Rat) + (-1) * (x a * (P a b : Rat)) := sumQ_congr fun a _ => by grind
    rw [e, sumQ_add, sumQ_mul, ha b hb, hs b hb]
    grind
  have sv : Stat n P W fun a => absQ (x a) + x a := fun b hb => by
    have e : (sumQ n fun a => (absQ (x a) + x a) * (P a b : Rat)) = sumQ n fun a => absQ (x a) * (P a b : Rat) + x a * (P a b : Rat) := sumQ_congr fun a _ => by grind
    rw [e, sumQ_add, ha b hb, hs b hb]
    grind
  have nu : ∀ a, a < n → 0 ≤ absQ (x a) + (-1) * x a := fun a _ => by have := absQ_ge (x a); grind
  have nv : ∀ a, a < n → 0 ≤ absQ (x a) + x a := fun a _ => by have := absQ_ge' (x a); grind
  obtain ⟨m, hm, _, hmC, _⟩ := closed_in (n := n) (P := P) (C := C) (by rw [hC]; exact List.mem_singleton.mpr rfl)
  have hcome := fun a ha => one_closed hC a ha m hmC
  -- not both signs
  by_cases hpos : ∃ a, a < n ∧ 0 < absQ (x a) + x a
  · obtain ⟨a, ha1, ha2⟩ := hpos
    have hxm := stat_sup c.pos sv nv ha1 ha2 (hcome a ha1)
    have hle : ∀ b, b < n → 0 ≤ x b := fun b hb => Classical.byContradiction fun hn => by
      have hb2 : 0 < absQ (x b) + (-1) * x b := by have := absQ_nonneg (x b); grind
      have hxm2 := stat_sup c.pos su nu hb hb2 (hcome b hb)
      unfold absQ at hxm hxm2
      grind
    exact fun b hb => (sumQ_eq (f := fun _ => 0) (g := x) hle (by rw [sumQ_zero fun _ _ => rfl, h0]) b hb).symm
  · have hle : ∀ b, b < n → x b ≤ 0 := fun b hb => Classical.byContradiction fun hn => hpos ⟨b, hb, by have := absQ_nonneg (x b); grind⟩
    exact fun b hb => sumQ_eq (f := x) (g := fun _ => 0) hle (by rw [sumQ_zero fun _ _ => rfl, h0]) b hb
theorem stat_one {n : Nat} {P : Nat → Nat → Nat} {W : Nat} {C : List Nat} (c : Chain n P W) (hC : closedC n P = [C]) {x y : Nat → Rat} (hx : Stat n P W x) (hy : Stat n P W y) (h1 : sumQ n x = 1) (h2 : sumQ n y = 1) : ∀ a, a < n → x a = y a := fun a ha => by
  have := stat_zero c hC (x := fun a => x a + (-1) * y a) (fun b hb => ?_) (by rw [sumQ_add, sumQ_mul, h1, h2]; grind) a ha
  · have h3 : x a + (-1) * y a = 0 := this
    grind
  · have e : (sumQ n fun a => (x a + (-1) * y a) * (P a b : Rat)) = sumQ n fun a => x a * (P a b : Rat) + (-1) * (y a * (P a b : Rat)) := sumQ_congr fun a _ => by grind
    rw [e, sumQ_add, sumQ_mul, hx b hb, hy b hb]
    grind
/-- values at some places, 0 elsewhere -/
def spread (C : List Nat) (v : Nat → Rat) (a : Nat) : Rat := sumQ C.length fun j => if C.getD j 0 = a then v j else 0
theorem spread_sum {C : List Nat} {n : Nat} (hC : ∀ a ∈ C, a < n) (v : Nat → Rat) (g : Nat → Rat) : (sumQ n fun a => spread C v a * g a) = sumQ C.length fun j => v j * g (C.getD j 0) := by
  have e : (sumQ n fun a => spread C v a * g a) = sumQ n fun a => sumQ C.length fun j => if C.getD j 0 = a then v j * g a else 0 := sumQ_congr fun a _ => by
    unfold spread
    rw [Rat.mul_comm, ← sumQ_mul]
    refine sumQ_congr fun j _ => ?_
    split
    · rw [Rat.mul_comm]
    · exact Rat.mul_zero _
  rw [e, sumQ_comm]
  refine sumQ_congr fun j hj => ?_
  have hm : C.getD j 0 < n := hC _ (List.mem_of_getElem? (at_getD hj))
  rw [sumQ_one hm fun a _ hne => if_neg fun z => hne z.symm, if_pos rfl]
theorem spread_at {C : List Nat} (nd : C.Nodup) {j : Nat} (hj : j < C.length) (v : Nat → Rat) : spread C v (C.getD j 0) = v j := by
  unfold spread
  rw [sumQ_one hj fun i hi hne => if_neg fun z => hne ?_, if_pos rfl]
  have h1 := at_getD (d := 0) hi
  have h2 := at_getD (d := 0) hj
  rw [z] at h1
  exact (List.getElem?_inj hi nd).mp (h1.trans h2.symm)
theorem spread_off {C : List Nat} {a : Nat} (h : a ∉ C) (v : Nat → Rat) : spread C v a = 0 := sumQ_zero fun j hj => if_neg fun z => h (by rw [← z]; exact List.mem_of_getElem? (at_getD hj))
/-- stationary on a closed set, but for one place: stationary everywhere -/
theorem stat_spread {n : Nat} {P : Nat → Nat → Nat} {W : Nat} {C : List Nat} (c : Chain n P W) (hC : ∀ a ∈ C, a < n) (nd : C.Nodup) (hcl : ∀ a ∈ C, ∀ b, b < n → 0 < P a b → b ∈ C) {v : Nat → Rat}
    (h : ∀ i, i + 1 < C.length → (sumQ C.length fun j => v j * ((P (C.getD j 0) (C.getD (i + 1) 0) : Rat) - (W : Rat) * (if C.getD j 0 = C.getD (i + 1) 0 then 1 else 0))) = 0) : Stat n P W (spread C v) := by
  have eq1 : ∀ b, (sumQ C.length fun j => v j * ((P (C.getD j 0) b : Rat) - (W : Rat) * (if C.getD j 0 = b then 1 else 0))) = (sumQ n fun a => spread C v a * (P a b : Rat)) + (-(W : Rat)) * spread C v b := fun b => by
    rw [spread_sum hC v (fun a => (P a b : Rat))]
    unfold spread
    rw [← sumQ_mul, ← sumQ_add]
    refine sumQ_congr fun j _ => ?_
    split <;> grind
  have off : ∀ b, b < n → b ∉ C → (sumQ n fun a => spread C v a * (P a b : Rat)) = (W : Rat) * spread C v b := fun b hb hnb => by
    rw [spread_off hnb, spread_sum hC v (fun a => (P a b : Rat))]
    rw [sumQ_zero fun j hj => by
      have hm := List.mem_of_getElem? (at_getD (d := 0) hj)
      have : P (C.getD j 0) b = 0 := Nat.eq_zero_of_not_pos fun hp => hnb (hcl _ hm b hb hp)
      rw [this]
      exact Rat.mul_zero _]
    exact (Rat.mul_zero _).symm
  have later : ∀ i, i + 1 < C.length → (sumQ n fun a => spread C v a * (P a (C.getD (i + 1) 0) : Rat)) = (W : Rat) * spread C v (C.getD (i + 1) 0) := fun i hi => by
    have := h i hi
    rw [eq1] at this
    grind
  intro b hb
  by_cases hbC : b ∈ C
  · obtain ⟨i, hi⟩ := List.mem_iff_getElem?.mp hbC
    have hil := (List.getElem?_eq_some_iff.mp hi).1
    have eb : C.getD i 0 = b := getD_eq hi
    cases i with
    | succ i => rw [← eb]; exact later i hil
    | zero =>
      -- the sum of all
      have hall : (sumQ n fun b => (sumQ n fun a => spread C v a * (P a b : Rat)) + (-(W : Rat)) * spread C v b) = 0 := by
        rw [sumQ_add, sumQ_mul, sumQ_comm (fun b a => spread C v a * (P a b : Rat))]
        have : (sumQ n fun a => sumQ n fun b => spread C v a * (P a b : Rat)) = sumQ n fun a => (W : Rat) * spread C v a := sumQ_congr fun a ha => by
          rw [sumQ_mul, c.row a ha, Rat.mul_comm]
        rw [this, sumQ_mul]
        grind
      rw [sumQ_one hb fun b' hb' hne => ?_] at hall
      · grind
      · by_cases hm : b' ∈ C
        · obtain ⟨i', hi'⟩ := List.mem_iff_getElem?.mp hm
          have hil' := (List.getElem?_eq_some_iff.mp hi').1
          have eb' : C.getD i' 0 = b' := getD_eq hi'
          cases i' with
          | zero => exact absurd (eb'.symm.trans eb) hne
          | succ i' => rw [← eb', later i' hil']; grind
        · rw [off b' hb' hm]; grind
  · exact off b hb hbC
end El

set_option linter.all false
set_option maxRecDepth 100000
set_option maxHeartbeats 4000000
namespace El
/-! ### the resting row -/
theorem sumQ_cons (f : Nat → Rat) : ∀ n, sumQ (n + 1) f = f 0 + sumQ n fun i => f (i + 1)
  | 0 => by show (0 : Rat) + f 0 = f 0 + 0; grind
  | n + 1 => by
    show sumQ (n + 1) f + f (n + 1) = f 0 + ((sumQ n fun i => f (i + 1)) + f (n + 1))
    rw [sumQ_cons f n]
    grind
theorem sumQ_list : ∀ r : List Nat, (sumQ r.length fun b => (r.getD b 0 : Rat)) = (r.sum : Rat)
  | [] => rfl
  | a :: r => by
    show sumQ (r.length + 1) _ = _
    rw [sumQ_cons]
    show (a : Rat) + (sumQ r.length fun i => (r.getD i 0 : Rat)) = _
    rw [sumQ_list r, List.sum_cons]
    have : ((a + r.sum : Nat) : Rat) = (a : Rat) + (r.sum : Rat) := by
      have := Rat.intCast_add (a : Int) (r.sum : Int)
      exact this
    rw [this]
theorem sum_ge : ∀ {r : List Nat} {x : Nat}, x ∈ r → x ≤ r.sum
  | a :: r, x, h => by
    rw [List.sum_cons]
    rcases List.mem_cons.mp h with rfl | h
    · omega
    · have := sum_ge h; omega
def restRows (P : Nat → Nat → Nat) (W : Nat) (C : List Nat) : List (List Int) := (C.tail.map fun to => (C.map fun p => (P p to : Int) - (W : Int) * (if p = to then 1 else 0)) ++ [0]) ++ [(C.map fun _ => (1 : Int)) ++ [1]]
section
variable {P : Nat → Nat → Nat} {W : Nat} {C : List Nat}
theorem rest_len (h : C ≠ []) : (restRows P W C).length = C.length := by
  unfold restRows
  rw [List.length_append, List.length_map, List.length_tail]
  have := List.length_pos_iff.mpr h
  show C.length - 1 + 1 = _
  omega
theorem rest_wide {r : List Int} (h : r ∈ restRows P W C) : r.length = C.length + 1 := by
  unfold restRows at h
  rcases List.mem_append.mp h with h | h
  · obtain ⟨to, _, rfl⟩ := List.mem_map.mp h
    rw [List.length_append, List.length_map]
    rfl
  · rw [List.mem_singleton.mp h, List.length_append, List.length_map]
    rfl
theorem tail_at {i : Nat} (hi : i + 1 < C.length) : C.tail[i]? = some (C.getD (i + 1) 0) := by
  rw [List.getElem?_tail]
  exact at_getD hi
theorem rest_row {i : Nat} (hi : i + 1 < C.length) : (restRows P W C).getD i [] = (C.map fun p => (P p (C.getD (i + 1) 0) : Int) - (W : Int) * (if p = C.getD (i + 1) 0 then 1 else 0)) ++ [0] := by
  refine getD_eq ?_
  unfold restRows
  rw [List.getElem?_append_left (by rw [List.length_map, List.length_tail]; omega), List.getElem?_map, tail_at hi]
  rfl
theorem rest_last (h : C ≠ []) : (restRows P W C).getD (C.length - 1) [] = (C.map fun _ => (1 : Int)) ++ [1] := by
  refine getD_eq ?_
  unfold restRows
  rw [List.getElem?_append_right (by rw [List.length_map, List.length_tail]; exact Nat.le_refl _), List.length_map, List.length_tail, Nat.sub_self]
  rfl
theorem app_at {f : Nat → Int} {z : Int} {j : Nat} (hj : j < C.length) : (C.map f ++ [z]).getD j 0 = f (C.getD j 0) := by
  refine getD_eq ?_
  rw [List.getElem?_append_left (by rw [List.length_map]; exact hj), List.getElem?_map, at_getD hj]
  rfl
theorem app_last {f : Nat → Int} {z : Int} : (C.map f ++ [z]).getD C.length 0 = z := by
  refine getD_eq ?_
  rw [List.getElem?_append_right (by rw [List.length_map]; exact Nat.le_refl _), List.length_map, Nat.sub_self]
  rfl
end
theorem rest_bits {c : Nat} (h : c ≤ 32) : c ^ c * 1000000 ^ c < 2 ^ 4000 := by
  have h1 : c ^ c ≤ 32 ^ 32 := Nat.le_trans (Nat.pow_le_pow_left h c) (Nat.pow_le_pow_right (by omega) h)
  have h2 : 1000000 ^ c ≤ (2 ^ 20) ^ 32 := Nat.le_trans (Nat.pow_le_pow_left (show 1000000 ≤ 2 ^ 20 by decide) c) (Nat.pow_le_pow_right (by decide) h)
  have h3 : 32 ^ 32 * (2 ^ 20) ^ 32 = 2 ^ 800 := by
    rw [show (32 : Nat) = 2 ^ 5 by decide, ← Nat.pow_mul, ← Nat.pow_mul, ← Nat.pow_add]
  have h4 : 2 ^ 800 < 2 ^ 4000 := Nat.pow_lt_pow_right (by decide) (by decide)
  have := Nat.mul_le_mul h1 h2
  omega
theorem castI (k : Nat) : (((k : Nat) : Int) : Rat) = ((k : Nat) : Rat) := rfl
theorem rest_solv {n : Nat} {P : Nat → Nat → Nat} {W : Nat} {C : List Nat} (c : Chain n P W) (hn : n ≤ 32) (hW : W ≤ 1000000) (hP : ∀ a b, a < n → b < n → P a b ≤ W) (hC : closedC n P = [C]) : Solv (restRows P W C) (C.length + 1) 1000000 := by
  obtain ⟨m, hm, hCm, hmC, hall⟩ := closed_in (n := n) (P := P) (C := C) (by rw [hC]; exact List.mem_singleton.mpr rfl)
  have hne : C ≠ [] := List.ne_nil_of_mem hmC
  have hlt : ∀ a ∈ C, a < n := fun a ha => by rw [hCm] at ha; exact rch_lt hm ((mem_reach hm).mp ha)
  have hnd : C.Nodup := by rw [hCm]; exact List.nodup_range.filter _
  have hlen : C.length ≤ n := by
    rw [hCm]
    unfold reachC
    refine Nat.le_trans (List.length_filter_le _ _) (by rw [List.length_range]; exact Nat.le_refl _)
  have hlen2 := rest_len (P := P) (W := W) hne
  have hpos := List.length_pos_iff.mpr hne
  have hcl : ∀ a ∈ C, ∀ b, b < n → 0 < P a b → b ∈ C := fun a ha b hb hp => by
    rw [← hall a ha]
    exact (mem_reach (hlt a ha)).mpr ((Rch.refl a).step ⟨hb, hp⟩)
  refine ⟨fun r hr => rest_wide hr, by omega, by omega, by omega, by decide, fun j i hj hi => ?_, by rw [hlen2]; exact rest_bits (by omega), fun x hx => ?_⟩
  · rw [hlen2] at hi
    unfold mxOf
    by_cases h : i + 1 < C.length
    · rw [rest_row h]
      by_cases h2 : j < C.length
      · rw [app_at h2]
        have := hP _ (C.getD (i + 1) 0) (hlt _ (List.mem_of_getElem? (at_getD (d := 0) h2))) (hlt _ (List.mem_of_getElem? (at_getD (d := 0) h)))
        split <;> omega
      · rw [show j = C.length by omega, app_last]; decide
    · rw [show i = C.length - 1 by omega, rest_last hne]
      by_cases h2 : j < C.length
      · rw [app_at h2]; decide
      · rw [show j = C.length by omega, app_last]; decide
  · rw [hlen2] at hx ⊢
    have hst := stat_spread c hlt hnd hcl (v := fun j => (x j : Rat)) fun i hi => by
      have := hx i (by omega)
      have h2 : ((sumN C.length fun c => mxOf (restRows P W C) c i * x c : Int) : Rat) = ((0 : Int) : Rat) := by rw [this]
      rw [← sumQ_int] at h2
      refine (sumQ_congr fun j hj => ?_).trans (h2.trans rfl)
      have e : mxOf (restRows P W C) j i = (P (C.getD j 0) (C.getD (i + 1) 0) : Int) - (W : Int) * (if C.getD j 0 = C.getD (i + 1) 0 then 1 else 0) := by
        unfold mxOf
        rw [rest_row hi, app_at hj]
      rw [e, Rat.intCast_mul, Rat.intCast_sub, Rat.intCast_mul, castI, castI, Rat.mul_comm]
      congr 2
      split <;> rfl
    have hsum : sumQ n (spread C fun j => (x j : Rat)) = 0 := by
      have h1 := spread_sum hlt (fun j => (x j : Rat)) fun _ => 1
      have e1 : (sumQ n fun a => spread C (fun j => (x j : Rat)) a * 1) = sumQ n (spread C fun j => (x j : Rat)) := sumQ_congr fun a _ => Rat.mul_one _
      rw [e1] at h1
      rw [h1]
      have := hx (C.length - 1) (by omega)
      have h2 : ((sumN C.length fun c => mxOf (restRows P W C) c (C.length - 1) * x c : Int) : Rat) = ((0 : Int) : Rat) := by rw [this]
      rw [← sumQ_int] at h2
      refine (sumQ_congr fun j hj => ?_).trans (h2.trans rfl)
      have e : mxOf (restRows P W C) j (C.length - 1) = 1 := by
        unfold mxOf
        rw [rest_last hne, app_at hj]
      rw [e, Int.one_mul, Rat.mul_one]
    intro j hj
    have := stat_zero c hC hst hsum (C.getD j 0) (hlt _ (List.mem_of_getElem? (at_getD hj)))
    rw [spread_at hnd hj] at this
    exact Rat.intCast_inj.mp (by rw [this]; rfl)
/-- the resting row -/
noncomputable def restW (n : Nat) (P : Nat → Nat → Nat) (W : Nat) (C : List Nat) : List Rat := (List.range n).map (spread C fun j => ((solR (restRows P W C) (C.length + 1)).getD j []).getD 0 0)
theorem rest_facts {n : Nat} {P : Nat → Nat → Nat} {W : Nat} {C : List Nat} (c : Chain n P W) (hn : n ≤ 32) (hW : W ≤ 1000000) (hP : ∀ a b, a < n → b < n → P a b ≤ W) (hC : closedC n P = [C]) :
    Stat n P W (fun a => (restW n P W C).getD a 0) ∧ sumQ n (fun a => (restW n P W C).getD a 0) = 1 := by
  have sv := rest_solv c hn hW hP hC
  obtain ⟨s1, s2, s3⟩ := solR_sol sv
  obtain ⟨m, hm, hCm, hmC, hall⟩ := closed_in (n := n) (P := P) (C := C) (by rw [hC]; exact List.mem_singleton.mpr rfl)
  have hne : C ≠ [] := List.ne_nil_of_mem hmC
  have hlt : ∀ a ∈ C, a < n := fun a ha => by rw [hCm] at ha; exact rch_lt hm ((mem_reach hm).mp ha)
  have hnd : C.Nodup := by rw [hCm]; exact List.nodup_range.filter _
  have hlen2 := rest_len (P := P) (W := W) hne
  have hpos := List.length_pos_iff.mpr hne
  have hcl : ∀ a ∈ C, ∀ b, b < n → 0 < P a b → b ∈ C := fun a ha b hb hp => by
    rw [← hall a ha]
    exact (mem_reach (hlt a ha)).mpr ((Rch.refl a).step ⟨hb, hp⟩)
  rw [hlen2] at s3
  have hst := stat_spread c hlt hnd hcl (v := fun j => ((solR (restRows P W C) (C.length + 1)).getD j []).getD 0 0) fun i hi => by
    have := s3 i 0 (by omega) (by omega)
    have er : mxOf (restRows P W C) (C.length + 0) i = 0 := by
      unfold mxOf
      rw [rest_row hi]; exact app_last
    rw [er] at this
    refine (sumQ_congr fun j hj => ?_).trans (this.trans rfl)
    have e : mxOf (restRows P W C) j i = (P (C.getD j 0) (C.getD (i + 1) 0) : Int) - (W : Int) * (if C.getD j 0 = C.getD (i + 1) 0 then 1 else 0) := by
      unfold mxOf
      rw [rest_row hi, app_at hj]
    rw [e, Rat.intCast_sub, Rat.intCast_mul, castI, castI, Rat.mul_comm]
    congr 3
    split <;> rfl
  have hsum : sumQ n (spread C fun j => ((solR (restRows P W C) (C.length + 1)).getD j []).getD 0 0) = 1 := by
    have h1 := spread_sum hlt (fun j => ((solR (restRows P W C) (C.length + 1)).getD j []).getD 0 0) fun _ => 1
    have e1 : (sumQ n fun a => spread C (fun j => ((solR (restRows P W C) (C.length + 1)).getD j []).getD 0 0) a * 1) = sumQ n (spread C fun j => ((solR (restRows P W C) (C.length + 1)).getD j []).getD 0 0) := sumQ_congr fun a _ => Rat.mul_one _
    rw [e1] at h1
    rw [h1]
    have := s3 (C.length - 1) 0 (by omega) (by omega)
    have er : mxOf (restRows P W C) (C.length + 0) (C.length - 1) = 1 := by
      unfold mxOf
      rw [rest_last hne]; exact app_last
    rw [er] at this
    refine (sumQ_congr fun j hj => ?_).trans (this.trans rfl)
    have e : mxOf (restRows P W C) j (C.length - 1) = 1 := by
      unfold mxOf
      rw [rest_last hne, app_at hj]
    rw [e, Rat.mul_one, show ((1 : Int) : Rat) = 1 from rfl, Rat.one_mul]
  have eg : ∀ a, a < n → (restW n P W C).getD a 0 = spread C (fun j => ((solR (restRows P W C) (C.length + 1)).getD j []).getD 0 0) a := fun a ha => getD_range ha
  refine ⟨fun b hb => ?_, ?_⟩
  · show _ = (W : Rat) * (restW n P W C).getD b 0
    rw [eg b hb, ← hst b hb]
    exact sumQ_congr fun a ha => by show (restW n P W C).getD a 0 * _ = _; rw [eg a ha]
  · rw [← hsum]
    exact sumQ_congr fun a ha => eg a ha
end El

set_option Elab.async false
set_option linter.all false
set_option maxRecDepth 100000
set_option maxHeartbeats 4000000
namespace El
open PySem PySem.Spec L2
/-! ### great numbers, shares -/
def CDivZ (_ j : Int) : Prop := j ≠ 0 ∧ j.natAbs.log2 < 9000
theorem op_fdivZ {X : Cx} : OpR X (binaryOp .FloorDiv) (rI CDivZ fun i j => .int (i.fdiv j)) := opI fun _ _ _ _ _ _ _ hc q => PyProof.Rows.floordiv_int hc.1 q (.inl (PyProof.noPylong_of_log2 hc.2))
theorem divZ {i j : Int} {b : Nat} (h : j ≠ 0) (hb : j.natAbs < 2 ^ b) (h0 : 0 < b) (h9 : b ≤ 9000) : CDivZ i j := ⟨h, Nat.lt_of_lt_of_le (PySem.Flt.log2_lt_of h0 hb) h9⟩
theorem share_num {n d : Int} (hd : d ≠ 0) : n.fdiv (if d < 0 then 0 - (Int.gcd n d : Int) else (Int.gcd n d : Int)) = (Rat.divInt n d).num ∧ d.fdiv (if d < 0 then 0 - (Int.gcd n d : Int) else (Int.gcd n d : Int)) = ((Rat.divInt n d).den : Int) := by
  have hg0 : Int.gcd n d ≠ 0 := fun z => hd (Int.gcd_eq_zero_iff.mp z).2
  have h1 : (Int.gcd n d : Int) ∣ n := Int.gcd_dvd_left ..
  have h2 : (Int.gcd n d : Int) ∣ d := Int.gcd_dvd_right ..
  have e : Int.gcd d n = Int.gcd n d := Int.gcd_comm _ _
  rw [Rat.num_divInt, Rat.den_divInt, e, if_neg hd]
  generalize Int.gcd n d = g at *
  obtain ⟨a, rfl⟩ := h1
  obtain ⟨b, rfl⟩ := h2
  have hg : (0 : Int) < g := by omega
  have hb : b ≠ 0 := fun z => hd (by rw [z, Int.mul_zero])
  by_cases h : b < 0
  · have h0 : (g : Int) * b < 0 := Int.mul_neg_of_pos_of_neg hg h
    rw [if_pos h0]
    have s : ((g : Int) * b).sign = -1 := Int.sign_eq_neg_one_of_neg h0
    rw [s]
    have d1 : (0 - (g : Int)) ∣ g * a := ⟨-a, by grind⟩
    have d2 : (0 - (g : Int)) ∣ g * b := ⟨-b, by grind⟩
    rw [Int.fdiv_eq_ediv_of_dvd d1, Int.fdiv_eq_ediv_of_dvd d2]
    refine ⟨?_, ?_⟩
    · rw [show (0 - (g : Int)) = -g by omega, Int.ediv_neg, Int.mul_ediv_cancel_left _ (by omega), show (-1 : Int) * (g * a) = g * (-a) by grind, Int.mul_ediv_cancel_left _ (by omega)]
    · rw [show (0 - (g : Int)) = -g by omega, Int.ediv_neg, Int.mul_ediv_cancel_left _ (by omega), Int.natAbs_mul, Int.natAbs_natCast, Nat.mul_div_cancel_left _ (by omega)]
      omega
  · have h0 : ¬ (g : Int) * b < 0 := by
      have : 0 ≤ (g : Int) * b := Int.mul_nonneg (by omega) (by omega)
      omega
    rw [if_neg h0]
    have s : ((g : Int) * b).sign = 1 := Int.sign_eq_one_of_pos (Int.mul_pos hg (by omega))
    rw [s, Int.one_mul, Int.fdiv_eq_ediv_of_dvd ⟨a, rfl⟩, Int.fdiv_eq_ediv_of_dvd ⟨b, rfl⟩, Int.mul_ediv_cancel_left _ (by omega), Int.mul_ediv_cancel_left _ (by omega), Int.natAbs_mul, Int.natAbs_natCast, Nat.mul_div_cancel_left _ (by omega)]
    exact ⟨rfl, by omega⟩
theorem gcd_step {a b : Int} : Int.gcd b (a.fmod b) = Int.gcd a b := by
  rw [Int.fmod_def, Int.mul_comm, Int.gcd_sub_mul_right_right, Int.gcd_comm]
theorem fmod_lt {a b : Int} (h : b ≠ 0) : (a.fmod b).natAbs < b.natAbs := by
  by_cases hb : 0 < b
  · have h1 := Int.fmod_lt_of_pos a hb
    have h2 := Int.fmod_nonneg_of_pos a hb
    omega
  · rw [Int.fmod_eq_emod]
    have h1 := Int.emod_lt_of_pos a (show 0 < -b by omega)
    rw [Int.emod_neg] at h1
    have h2 := Int.emod_nonneg a h
    split
    · omega
    · rename_i z
      have : a % b ≠ 0 := fun z2 => z (.inr (Int.dvd_of_emod_eq_zero z2))
      omega
section
variable {K : PySem.W.Frag} {σ : St} {F H F' H' : Hp} {ta tb tc td te tl : TE} {α β γ : Type} {R : Rp α} {S : Rp β} {x : α} {y : β} {xs : List α} {D : Ends} {E : XK} {i j : Int} {C : Addr}
theorem ev_fdivZ (ha : Ev rInt ta σ F H i) (hb : Ev rInt tb σ F H j) (hc : CDivZ i j) : Ev rInt (tOp (rI CDivZ fun i j => .int (i.fdiv j)) ta tb) σ F H (i.fdiv j) := ev_I ha hb hc fun _ => rfl
theorem ev_modN (ha : Ev rInt ta σ F H i) (hb : Ev rInt tb σ F H j) (hc : j ≠ 0) : Ev rInt (tOp (rI (fun _ j => j ≠ 0) fun i j => .int (i.fmod j)) ta tb) σ F H (i.fmod j) := ev_I ha hb hc fun _ => rfl
theorem ev_abs (ha : Ev rInt ta σ F H i) : Ev rInt (tCB (fun xs H Q => ∃ i, xs = [.int i] ∧ Q (.int (if i < 0 then -i else i)) H) (tCons ta tNil)) σ F H (i.natAbs : Int) := fun F1 H1 g1 Q q =>
  ha F1 H1 g1 _ fun v F2 H2 g2 r => ⟨i, by rw [show v = _ from r], q _ F2 H2 g2 (by
    show V.int _ = V.int _
    split
    · rw [show (i.natAbs : Int) = -i by omega]
    · rw [show (i.natAbs : Int) = i by omega])⟩
/-- x, y = e1, e2 -/
theorem x_par {a b : Nat} (e : Ex F H) (ha : Ev R ta σ F H x) (hb : Ev S tb σ F H y) (k : ∀ v w F' H', Gr M0 F H F' H' → R F' v x → S F' w y → D.nx ((σ.set a (some v)).set b (some w)) H') (m : Mn R := by infer_instance) : tPar a b (tCons ta (tCons tb tNil)) D σ H :=
  ha F H (.refl e) _ fun v F1 H1 g1 r1 => hb F1 H1 g1 _ fun w F2 H2 g2 r2 => ⟨v, w, rfl, k v w F2 H2 (g1.trans g2) (m.mono g2.ff r1) r2⟩
/-- xs[p], xs[q] = e1, e2: of a list that may change -/
theorem x_swapI {to1 to2 tp tq : TE} {l : Addr} {vs : List V} {p q : Nat} (e : Ex F H) (ha : Ev R ta σ F H x) (hb : Ev S tb σ F H y) (fl : F l = none) (hl : H l = some (.lst vs)) (hp : p < vs.length) (hq : q < vs.length)
    (ho1 : ∀ H1 Q, (Q (.ref l) H1 → to1 σ H1 Q)) (hi1 : ∀ H1 Q, (Q (.int (p : Int)) H1 → tp σ H1 Q)) (ho2 : ∀ H1 Q, (Q (.ref l) H1 → to2 σ H1 Q)) (hi2 : ∀ H1 Q, (Q (.int (q : Int)) H1 → tq σ H1 Q))
    (k : ∀ v w F' H', Gr M0 F H F' H' → R F' v x → S F' w y → H' l = some (.lst vs) → D.nx σ (upd (upd H' l (.lst (vs.set p v))) l (.lst ((vs.set p v).set q w)))) (m : Mn R := by infer_instance) (n : Mn S := by infer_instance) :
    tAsg (tTup (tCons ta (tCons tb tNil))) (gTup K 2 (gCons (gSub to1 tp rSetL) (gCons (gSub to2 tq rSetL) gNil))) D σ H :=
  ha F H (.refl e) _ fun v F1 H1 g1 r1 => hb F1 H1 g1 _ fun w F2 H2 g2 r2 => ⟨by show 2 ≤ sizeLine; decide, fun B hB => by
    have g3 : Gr M0 F2 H2 (upd F2 B (.tup [v, w])) (upd H2 B (.tup [v, w])) := .new g2.fh hB
    have g := g1.trans (g2.trans g3)
    have h3 := g.hx _ _ hl
    have ix : ∀ {n k : Nat}, k < n → ixN n (k : Int) = some k := fun {n k} h => by
      unfold ixN
      rw [if_pos (by omega), if_pos (by omega)]
      rfl
    refine ⟨B, [v, w], rfl, SqT.of upd_same, rfl, v, [w], rfl, ?_⟩
    refine ho1 _ _ (hi1 _ _ ⟨l, vs, (p : Int), p, rfl, rfl, h3, ix hp, ?_⟩)
    refine ⟨w, [], rfl, ?_⟩
    refine ho2 _ _ (hi2 _ _ ⟨l, _, (q : Int), q, rfl, rfl, upd_same, ix (by rw [List.length_set]; exact hq), ?_⟩)
    exact ⟨rfl, k v w _ _ g (m.mono (g2.ff.trans g3.ff) r1) (n.mono g3.ff r2) h3⟩⟩
/-! shares -/
def rShare (C : Addr) : Rp Rat := fun H v r => ∃ a dx, v = .ref a ∧ H a = some (.ins C dx [("top", .int r.num), ("bottom", .int (r.den : Int))])
instance : Mn (rShare C) := ⟨fun e ⟨a, dx, h1, h2⟩ => ⟨a, dx, h1, e _ _ h2⟩⟩
instance : NotN (rShare C) := ⟨fun ⟨_, _, h, _⟩ e => by rw [h] at e; cases e⟩
theorem fld_top (c : Cls K C) (n : NoAttr K C "top") : IsF (rShare C) K "top" rInt Rat.num := ⟨fun ⟨a, dx, h1, h2⟩ => ⟨a, C, dx, _, _, h1, h2, c, n, rfl, rfl⟩⟩
theorem fld_bottom (c : Cls K C) (n : NoAttr K C "bottom") : IsF (rShare C) K "bottom" rNat Rat.den := ⟨fun ⟨a, dx, h1, h2⟩ => ⟨a, C, dx, _, _, h1, h2, c, n, rfl, rfl⟩⟩
def SpShare (C : Addr) : Sp := fun vs H Q _ => ∃ (F : Hp) (a dx : Addr) (n d : Int), vs = [.ref a, .int n, .int d] ∧ Ex F H ∧ F a = none ∧ H a = some (.ins C dx []) ∧ d ≠ 0 ∧ d.natAbs < 2 ^ 9000 ∧
  ∀ F' H', Gr (M1 a) F H F' H' → rShare C F' (.ref a) (Rat.divInt n d) → Q .non H'
instance : SpLen (SpShare C) 3 := ⟨fun ⟨_, _, _, _, _, h, _⟩ => by rw [h]; rfl⟩
theorem ev_Share {n d : Int} (ha : Ev rInt ta σ F H n) (hb : Ev rInt tb σ F H d) (hd : d ≠ 0) (hz : d.natAbs < 2 ^ 9000) : Ev (rShare C) (tMake C (SpShare C) [] E (tCons ta (tCons tb tNil))) σ F H (Rat.divInt n d) := fun F1 H1 g1 Q q =>
  ha F1 H1 g1 _ fun v F2 H2 g2 r => hb F2 H2 (g1.trans g2) _ fun w F3 H3 g3 r3 => fun x dx nx ndx nex => by
    cases (show v = _ from r)
    cases (show w = _ from r3)
    have e1 : Ex F3 (upd (upd H3 dx (.own x)) x (.ins C dx [])) := (g3.fh.mut (g3.fh.free ndx)).mut (g3.fh.free nx)
    exact ⟨F3, x, dx, n, d, rfl, e1, g3.fh.free nx, upd_same, hd, hz, fun F' H' g k => ⟨rfl, q _ F' H' ((g2.trans g3).trans (.made (M := M0) nx ndx nex.symm g)) k⟩⟩
theorem rat_int (n : Int) : Rat.divInt n 1 = (n : Rat) := by rw [Rat.divInt_eq_div]; grind
theorem ev_Share1 {n : Int} (ha : Ev rInt ta σ F H n) : Ev (rShare C) (tMake C (SpShare C) [.int 1] E (tCons ta tNil)) σ F H (n : Rat) := fun F1 H1 g1 Q q =>
  ha F1 H1 g1 _ fun v F2 H2 g2 r => fun x dx nx ndx nex => by
    cases (show v = _ from r)
    have e1 : Ex F2 (upd (upd H2 dx (.own x)) x (.ins C dx [])) := (g2.fh.mut (g2.fh.free ndx)).mut (g2.fh.free nx)
    exact ⟨F2, x, dx, n, 1, rfl, e1, g2.fh.free nx, upd_same, by decide, Nat.lt_of_le_of_lt (show (1 : Int).natAbs ≤ 2 ^ 0 by decide) (Nat.pow_lt_pow_right (by decide) (by decide)), fun F' H' g k => ⟨rfl, q _ F' H' (g2.trans (.made (M := M0) nx ndx nex.symm g)) (by rw [← rat_int]; exact k)⟩⟩
def RShr (C : Addr) : Addr → Addr → Hp → Prop := fun a b H => ∃ F r, Ex F H ∧ rShare C F (.ref a) r ∧ rShare C F (.ref b) r
theorem ev_neShare {r : Rat} (ha : Ev (rShare C) ta σ F H r) (hb : Ev (rShare C) tb σ F H r) : Ev rBl (tOp (rNeG (DIns C (RShr C))) ta tb) σ F H false := fun F1 H1 g1 Q q =>
  ha F1 H1 g1 _ fun v F2 H2 g2 r1 => hb F2 H2 (g1.trans g2) _ fun w F3 H3 g3 r2 => by
    have r' := Mn.mono g3.ff r1
    have r3 := r'
    have r4 := r2
    obtain ⟨a, dx, rfl, h1⟩ := r3
    obtain ⟨b, dy, rfl, h3⟩ := r4
    exact ⟨⟨a, b, dx, dy, _, _, rfl, rfl, g3.fh _ _ h1, g3.fh _ _ h3, F3, r, g3.fh, r', r2⟩, fun H' x => q _ F3 H' ((g2.trans g3).trans (.ext g3.fh x)) rfl⟩
theorem ev_isShare {r : Rat} (ha : Ev (rShare C) ta σ F H r) : Ev rBl (tCB (rIsC C) (tCons ta (tCons (tC (.ref C)) tNil))) σ F H true := fun F1 H1 g1 Q q =>
  ha F1 H1 g1 _ fun v F2 H2 g2 ⟨a, dx, e, h1⟩ => ⟨a, dx, _, by rw [e], g2.fh _ _ h1, q _ F2 H2 g2 rfl⟩
end
end El
namespace El
open PySem PySem.Spec L2
/-- parameters bound, the left-off ones by their defaults -/
structure Bnd (K : PySem.W.Frag) (fd : FuncData) (ps : List Str) (dvs : List V) where
  ds : List Value
  vs : Vals dvs ds
  ok : Binds K fd ps ds
noncomputable def bnd_mk {K : PySem.W.Frag} {fd : FuncData} {ps : List Str} {dvs : List V} (h : ∃ ds, Vals dvs ds ∧ Binds K fd ps ds) : Bnd K fd ps dvs := ⟨h.choose, h.choose_spec.1, h.choose_spec.2⟩
open PyProof.Rows in
theorem _root_.L2.FunD.ok0 {P : Program} {w : World} {mg : Str → Option Value} {base : Heap} {K : PySem.W.Frag} {x qual : Str} {st : Stmt} {dvs : List V} {f : Addr} {fd : FuncData} {N ps : List Str} {k : Nat} {sp : Sp} (F : FunD K x qual (defArgs st) (defBody st) (defScope st) dvs [] f fd) (S : FnScope N ps (defScope st)) (len : ∀ vs H Q E, sp vs H Q E → vs.length = ps.length)
    (hbody : ∀ (cdv : Value) (A : Around) (outer : List Env) (s : Shared) (H : Hp) (vs : List V) (Q : VK) (E : XK), Room k (A.deeper (envOfC qual (defScope st) s.heap.objs.size f cdv)) → sp vs H Q E →
      ∃ t, PSs (cxOf CX0 P w K mg base N qual (defScope st) f cdv A outer s H E).nox (defBody st) t ∧ t { nx := fun _ H' => Q .non H', rt := Q } (L2.start N vs) H) : FnOk P w K mg base CX0 (k + 1) f fd ps sp :=
  L2.FunD.ok F S len fun cdv A outer s H vs Q E hr hsp => by
    obtain ⟨t, ht, hq⟩ := hbody cdv A outer s H vs Q E hr hsp
    exact ⟨t, ht.nox, hq⟩
end El

set_option Elab.async false
set_option linter.all false
set_option maxRecDepth 100000
set_option maxHeartbeats 4000000
namespace El
open PySem PySem.Spec L2
section
variable {K : PySem.W.Frag} {σ : St} {F H F' H' F0 H0 : Hp} {ta tb tc td te tl : TE} {α β γ : Type} {R : Rp α} {S : Rp β} {T : Rp γ} {x : α} {y : β} {xs : List α} {ys : List β} {D : Ends} {E : XK} {i j : Int} {C : Addr} {l : Addr} {vs : List V}
/-- a list that may change, handed back -/
theorem x_retM {n : Nat} {Q : VK} (g : Gr M0 F0 H0 F H) (hv : σ[n]? = some (some (.ref l))) (hl : H l = some (.lst vs)) (f0 : F0 l = none) (h0 : H0 l = none) (p : Paired (R F) vs xs) (k : ∀ F' , Gr M0 F0 H0 F' H → rLst R F' (.ref l) xs → D.rt (.ref l) H) (m : Mn R := by infer_instance) : tRet (tVar n) D σ H :=
  ⟨.ref l, hv, by
    by_cases fl : F l = none
    · exact k _ (g.frz hl f0 (.inl h0)) ⟨l, vs, rfl, upd_same, Paired.up (Ex.new fl) p⟩
    · cases q : F l with
      | none => exact absurd q fl
      | some o => exact k F g ⟨l, vs, rfl, by rw [q, ← g.fh _ _ q, hl], p⟩⟩
theorem ev_lcZm {a b : Nat} {ws : List Nat} (f : α × β → γ) (ha : Ev (rLst R) ta σ F H xs) (hb : Ev (rLst S) tb σ F H ys) (hz : xs.length ≤ 1000000) (hw : ∀ v w, wipe (((wipe σ ws).set a (some v)).set b (some w)) ws = wipe σ ws)
    (he : ∀ (n : Nat) p v w F1 H1, (xs.zip ys)[n]? = some p → Gr M0 F H F1 H1 → R F1 v p.1 → S F1 w p.2 → Ev T te (((wipe σ ws).set a (some v)).set b (some w)) F1 H1 (f p)) (m : Mn R := by infer_instance) (m2 : Mn S := by infer_instance) (m' : Mn T := by infer_instance) :
    Ev (rLst T) (tLc (iZip K (tCons ta (tCons tb tNil))) (gTup K 2 (gCons (gName a) (gCons (gName b) gNil))) tYes te ws) σ F H ((xs.zip ys).map f) :=
  ev_lcZ ha hb (by rw [List.length_map, List.length_zip]) (by rw [List.length_map, List.length_zip]; omega) hw fun n x y z v w F1 H1 hx hy hz g r1 r2 => by
    have hp : (xs.zip ys)[n]? = some (x, y) := List.getElem?_zip_eq_some.mpr ⟨hx, hy⟩
    rw [List.getElem?_map, hp] at hz
    cases hz
    exact he n (x, y) v w F1 H1 hp g r1 r2
theorem ev_mulZ {a b : Nat} (ha : Ev rInt ta σ F H i) (hb : Ev rInt tb σ F H j) (h1 : i.natAbs < 2 ^ a) (h2 : j.natAbs < 2 ^ b) (ha0 : 0 < a) (hb0 : 0 < b) (hab : a + b ≤ 1000000) : Ev rInt (tOp (rI CMulW fun i j => .int (i * j)) ta tb) σ F H (i * j) := ev_mulW ha hb (wide_mul h1 h2 ha0 hb0 hab)
end
theorem natAbs_mul_lt {i j : Int} {a b : Nat} (h1 : i.natAbs < 2 ^ a) (h2 : j.natAbs < 2 ^ b) : (i * j).natAbs < 2 ^ (a + b) := wide_lt h1 h2
/-! sums of shares -/
def addQ (xs : List Rat) : Rat := xs.foldl (· + ·) 0
theorem rat_add (a b : Rat) : a + b = Rat.divInt (a.num * b.den + b.num * a.den) ((a.den : Int) * b.den) := by
  have h1 := Rat.num_divInt_den a
  have h2 := Rat.num_divInt_den b
  have hd : ((a.den : Int)) ≠ 0 := by have := a.den_nz; omega
  have hd2 : ((b.den : Int)) ≠ 0 := by have := b.den_nz; omega
  rw [← Rat.divInt_add_divInt _ _ hd hd2, h1, h2]
/-- bounded shares -/
def ShB (r : Rat) (B : Nat) : Prop := r.num.natAbs < 2 ^ B ∧ r.den < 2 ^ B
theorem ShB.le {r : Rat} {A B : Nat} (h : ShB r A) (l : A ≤ B) : ShB r B := ⟨Nat.lt_of_lt_of_le h.1 (Nat.pow_le_pow_right (by decide) l), Nat.lt_of_lt_of_le h.2 (Nat.pow_le_pow_right (by decide) l)⟩
theorem shB_div {n d : Int} {B : Nat} (hn : n.natAbs < 2 ^ B) (hd : d.natAbs < 2 ^ B) (h0 : d ≠ 0) : ShB (Rat.divInt n d) B := by
  have hg : Int.gcd d n ≠ 0 := fun z => h0 (Int.gcd_eq_zero_iff.mp z).1
  constructor
  · rw [Rat.num_divInt]
    refine Nat.lt_of_le_of_lt ?_ hn
    have h2 : (Int.gcd d n : Int) ∣ n := Int.gcd_dvd_right ..
    obtain ⟨k, hk⟩ := h2
    have hs : d.sign.natAbs = 1 := Int.natAbs_sign_of_ne_zero h0
    generalize Int.gcd d n = g at *
    subst hk
    rw [show d.sign * ((g : Int) * k) = g * (d.sign * k) by grind, Int.mul_ediv_cancel_left _ (by omega), Int.natAbs_mul, hs, Nat.one_mul, Int.natAbs_mul, Int.natAbs_natCast]
    exact Nat.le_mul_of_pos_left _ (by omega)
  · rw [Rat.den_divInt, if_neg h0]
    exact Nat.lt_of_le_of_lt (Nat.div_le_self _ _) hd
/-- shares over one number -/
def OverD (D : Int) (B : Nat) (xs : List Rat) : Prop := D ≠ 0 ∧ ∀ x ∈ xs, ∃ p : Int, x = Rat.divInt p D ∧ p.natAbs ≤ B
theorem over_sum {D : Int} {B : Nat} : ∀ {xs : List Rat}, OverD D B xs → ∀ {s : Int}, ∃ q : Int, xs.foldl (· + ·) (Rat.divInt s D) = Rat.divInt q D ∧ q.natAbs ≤ s.natAbs + xs.length * B
  | [], _, s => ⟨s, rfl, by omega⟩
  | x :: xs, h, s => by
    obtain ⟨hD, hx⟩ := h
    obtain ⟨p, rfl, hp⟩ := hx x List.mem_cons_self
    have e : Rat.divInt s D + Rat.divInt p D = Rat.divInt (s + p) D := by
      rw [Rat.divInt_eq_div, Rat.divInt_eq_div, Rat.divInt_eq_div, Rat.intCast_add, Rat.div_def, Rat.div_def, Rat.div_def]
      grind
    obtain ⟨q, h1, h2⟩ := over_sum (xs := xs) ⟨hD, fun y hy => hx y (List.mem_cons_of_mem _ hy)⟩ (s := s + p)
    refine ⟨q, by rw [List.foldl_cons, e, h1], ?_⟩
    rw [List.length_cons, Nat.succ_mul]
    omega
theorem zero_div (D : Int) : Rat.divInt 0 D = 0 := by rw [Rat.divInt_eq_div, Rat.div_def]; show ((0 : Int) : Rat) * _ = 0; exact Rat.zero_mul _
theorem over_take {D : Int} {B : Nat} {xs : List Rat} (h : OverD D B xs) (n : Nat) : ∃ q : Int, addQ (xs.take n) = Rat.divInt q D ∧ q.natAbs ≤ xs.length * B := by
  obtain ⟨q, h1, h2⟩ := over_sum (xs := xs.take n) ⟨h.1, fun x hx => h.2 x (List.mem_of_mem_take hx)⟩ (s := 0)
  refine ⟨q, by unfold addQ; rw [← h1, zero_div], ?_⟩
  have : (xs.take n).length * B ≤ xs.length * B := Nat.mul_le_mul_right _ (List.length_take_le' ..)
  have h3 : (0 : Int).natAbs = 0 := rfl
  omega
def SumOk (xs : List Rat) : Prop := ∃ (D : Int) (B : Nat), OverD D B xs ∧ D.natAbs < 2 ^ 4000 ∧ xs.length * B < 2 ^ 4000 ∧ xs.length ≤ 100000
theorem sumOk_take {xs : List Rat} (h : SumOk xs) (n : Nat) : ShB (addQ (xs.take n)) 4000 := by
  obtain ⟨D, B, h1, h2, h3, _⟩ := h
  obtain ⟨q, e, hq⟩ := over_take h1 n
  rw [e]
  exact shB_div (by omega) h2 h1.1
theorem sumOk_at {xs : List Rat} (h : SumOk xs) {x : Rat} (hx : x ∈ xs) : ShB x 4000 := by
  obtain ⟨D, B, h1, h2, h3, _⟩ := h
  obtain ⟨p, rfl, hp⟩ := h1.2 x hx
  have : 1 ≤ xs.length := by cases xs with
    | nil => cases hx
    | cons _ _ => simp
  have hB : B ≤ xs.length * B := Nat.le_mul_of_pos_left _ (by omega)
  exact shB_div (by omega) h2 h1.1
theorem addQ_snoc {xs : List Rat} {n : Nat} {x : Rat} (h : xs[n]? = some x) : addQ (xs.take (n + 1)) = addQ (xs.take n) + x := by
  unfold addQ
  rw [List.take_add_one, h, List.foldl_append]
  rfl
end El
namespace El
open PySem PySem.Spec L2
/-! ### a comprehension within a comprehension -/
theorem relabel_look {sc : Scope} {env : Env} {y : Str} (h : sc.names.lookup y = some .cell ∨ sc.names.lookup y = some .free) : (relabel sc env).names.lookup y = some .cell ∨ (relabel sc env).names.lookup y = some .free := by
  unfold relabel
  show List.lookup y (List.map _ sc.names) = _ ∨ List.lookup y (List.map _ sc.names) = _
  revert h
  generalize sc.names = names
  induction names with
  | nil => intro h; exact h
  | cons p names ih =>
    obtain ⟨n, k⟩ := p
    intro h
    by_cases e : (y == n) = true
    · have hk : k = .cell ∨ k = .free := by
        rw [List.lookup_cons, e] at h
        rcases h with h | h
        · exact .inl (Option.some.inj h)
        · exact .inr (Option.some.inj h)
      rw [List.map_cons]
      rcases hk with rfl | rfl
      · left
        by_cases c : (NameKind.cell == NameKind.free && env.scope.kind == .function && env.kindOf n == some .cell) = true
        · dsimp only
          rw [if_pos c, List.lookup_cons, e]
        · dsimp only
          rw [if_neg c, List.lookup_cons, e]
      · by_cases c : (NameKind.free == NameKind.free && env.scope.kind == .function && env.kindOf n == some .cell) = true
        · left
          dsimp only
          rw [if_pos c, List.lookup_cons, e]
        · right
          dsimp only
          rw [if_neg c, List.lookup_cons, e]
    · have e' : (y == n) = false := by simpa using e
      rw [List.lookup_cons, e'] at h
      have := ih h
      rw [List.map_cons]
      by_cases c : (k == NameKind.free && env.scope.kind == .function && env.kindOf n == some .cell) = true
      · dsimp only
        rw [if_pos c, List.lookup_cons, e']
        exact this
      · dsimp only
        rw [if_neg c, List.lookup_cons, e']
        exact this
theorem blk_in {N : List Str} {sc scope : Scope} {own : List (Str × Nat)} {cl : List (Str × Addr)} {C : Addr} {env : Env} (h : BlkOk N sc scope own) : BlkOk N (compEnvC sc cl C env).scope scope own :=
  ⟨h.kind, h.uniq, h.ix, fun y hy e => relabel_look (h.free y hy e), h.own⟩
end El

set_option Elab.async false
set_option linter.all false
set_option maxRecDepth 100000
set_option maxHeartbeats 4000000
namespace El
open PySem PySem.Spec PyProof.Rows L2 RZ
/-! ### zip of a list and a tuple, either way about (t: a tuple) -/
def ItAt (t : Bool) (h : Heap) (i l : Addr) (n : Nat) : Prop := match t with
  | true => h.IsTupleIter i l n
  | false => h.IsListIter i l n
def SqAt (t : Bool) (h : Heap) (l : Addr) (xs : Array Value) : Prop := match t with
  | true => h.IsTuple l xs
  | false => h.IsList l xs
section
variable {prog : Program} {w : World} {A : Around} {E : Value → Shared → Prop} {s : Shared} {t t1 t2 : Bool} {h h' : Heap} {i l b : Addr} {n : Nat} {xs : Array Value}
theorem ItAt.stay (x : ItAt t h i l n) (k : ∀ o, h.get? i = some o → h'.get? i = some o) : ItAt t h' i l n := by
  cases t <;> exact Exists.elim x fun o ho => ⟨o, k o ho.1, ho.2⟩
theorem SqAt.stay (x : SqAt t h l xs) (k : ∀ o, h.get? l = some o → h'.get? l = some o) : SqAt t h' l xs := by
  cases t <;> exact Exists.elim x fun o ho => ⟨o, k o ho.1, ho.2⟩
theorem ItAt.eb (x : ItAt t h i l n) (e : Heap.ExtBut b h h') (ne : i ≠ b) : ItAt t h' i l n := x.stay fun o ho => e i o ne ho
theorem SqAt.eb (x : SqAt t h l xs) (e : Heap.ExtBut b h h') (ne : l ≠ b) : SqAt t h' l xs := x.stay fun o ho => e l o ne ho
theorem ItAt.lt (x : ItAt t h i l n) : i < h.objs.size := by
  cases t <;> exact Exists.elim x fun o ho => Heap.lt_size ho.1
theorem SqAt.lt (x : SqAt t h l xs) : l < h.objs.size := by
  cases t <;> exact Exists.elim x fun o ho => Heap.lt_size ho.1
theorem next_item {x : Value} {Q : Value → Shared → Prop} (hi : ItAt t s.heap i l n) (hl : SqAt t s.heap l xs) (hx : xs[n]? = some x) (q : ∀ h', ItAt t h' i l (n + 1) → Heap.SameBut i s.heap h' → Q x { s with heap := h' }) :
    wpAny (model prog w) A (Builtin.SmallTypes.nextOf (.ref i)) Q E s := by
  cases t with
  | true => exact nextOf_tuple_item hi hl hx q
  | false => exact wpAny_nextOf_list_item hi hl hx q
theorem next_end {Q : Value → Shared → Prop} (hh : A.handled = none) (hi : ItAt t s.heap i l n) (hl : SqAt t s.heap l xs) (hx : xs[n]? = none)
    (q : ∀ h' e, Heap.ExtBut i s.heap h' → (∃ o, h'.get? e = some o ∧ o.cls = .type "StopIteration") → E (.ref e) { s with heap := h' }) : wpAny (model prog w) A (Builtin.SmallTypes.nextOf (.ref i)) Q E s := by
  cases t with
  | true => exact nextOf_tuple_end hh hi hl hx q
  | false => exact wpAny_nextOf_list_end hh hi hl hx q
theorem zx_item {z TI TO i1 i2 l1 l2 : Addr} {k1 k2 : Nat} {xs ys : Array Value} {x y a b : Value} {Q : Value → Shared → Prop} (D : ZipApart z TI TO i1 i2 l1 l2)
    (hz : IsZip s.heap z TI TO .none) (hTI : IsPair s.heap TI (.ref i1) (.ref i2)) (hTO : IsPair s.heap TO a b) (h1 : ItAt t1 s.heap i1 l1 k1) (h2 : ItAt t2 s.heap i2 l2 k2) (hl1 : SqAt t1 s.heap l1 xs) (hl2 : SqAt t2 s.heap l2 ys) (hx : xs[k1]? = some x) (hy : ys[k2]? = some y)
    (hQ : ∀ h', IsZip h' z TI TO (rawInt s.heap.objs.size) → IsPair h' TO x y → ItAt t1 h' i1 l1 (k1 + 1) → ItAt t2 h' i2 l2 (k2 + 1) → IsPair h' s.heap.objs.size x y → h'.objs.size = s.heap.objs.size + 1 →
      (∀ c o, c ≠ z → c ≠ TO → c ≠ i1 → c ≠ i2 → s.heap.get? c = some o → h'.get? c = some o) → Q (.ref s.heap.objs.size) { s with heap := h' }) :
    wpAny (model prog w) A (Builtin.«zip.__next__» ⟨[.ref z], []⟩) (fun fin s' => ∃ v, fin = .done (.ret v) ∧ Q v s') E s := by
  show wpAny _ _ (field (.ref z) 2 >>= _) _ _ _; refine wpAny_bind (wpAny_field hz rfl (x := .bool false) rfl ?_)
  show wpAny _ _ (field (.ref z) 3 >>= _) _ _ _; refine wpAny_bind (wpAny_field hz rfl (x := .ref TI) rfl ?_); refine wpAny_bind (wpAny_seqItems hTI rfl ?_)
  show wpAny _ _ (Builtin.SmallTypes.ownedTupleIsFree (.ref z) >>= _) _ _ _; unfold Builtin.SmallTypes.ownedTupleIsFree
  refine wpAny_bind (wpAny_bind (wpAny_field hz rfl (x := .none) rfl (wpAny_pure ?_))); simp only [if_true]
  refine wpAny_bind (wpAny_rule (wpAny_bind (wpAny_field hz rfl (x := .ref TO) rfl ?_)))
  refine wpAny_bind (wpAny_setField_rec hz (by simp) fun ha za sa => ?_); have za' : IsZip ha z TI TO .ellipsis := za
  refine wpAny_bind ?_; simp only [List.zipIdx_cons, List.zipIdx_nil, List.forIn_cons, List.forIn_nil]
  have ea := sa.extBut
  refine wpAny_bind (wpAny_bind (wpAny_onRaise (?_ : wpAny _ _ (Builtin.SmallTypes.nextOf (.ref i1) >>= _) _ _ _)))
  refine wpAny_bind (next_item (h1.eb ea D.i1z) (hl1.eb ea D.l1z) hx fun hb ib sb => wpAny_pure ?_); have eb := sb.extBut
  have ob : IsPair hb TO a b := eb TO _ D.TOi1 (ea TO _ D.TOz hTO)
  refine wpAny_bind (wpAny_seqItems ob rfl (wpAny_bind (wpAny_updateSeq_pair ob fun hc oc sc => ?_))); have oc' : IsPair hc TO x b := oc; have ec := sc.extBut
  refine wpAny_bind (wpAny_letGo (wpAny_pure (wpAny_bind (wpAny_bind (wpAny_onRaise (?_ : wpAny _ _ (Builtin.SmallTypes.nextOf (.ref i2) >>= _) _ _ _))))))
  refine wpAny_bind (next_item (((h2.eb ea D.i2z).eb eb D.i12.symm).eb ec D.TOi2.symm) (((hl2.eb ea D.l2z).eb eb D.l2i1).eb ec D.l2TO) hy fun hd id_ sd => wpAny_pure ?_); have ed := sd.extBut
  have od : IsPair hd TO x b := ed TO _ D.TOi2 oc'
  refine wpAny_bind (wpAny_seqItems od rfl (wpAny_bind (wpAny_updateSeq_pair od fun he oe se => ?_))); have oe' : IsPair he TO x y := oe; have ee := se.extBut
  refine wpAny_bind (wpAny_letGo (wpAny_pure (wpAny_pure (wpAny_bind (wpAny_seqItems oe' rfl (wpAny_bind (wpAny_newTuple ?_)))))))
  have size : he.objs.size = s.heap.objs.size := by rw [se.1, sd.1, sc.1, sb.1, sa.1]
  have zee : IsZip he z TI TO .ellipsis := ee z _ D.TOz.symm (ed z _ D.i2z.symm (ec z _ D.TOz.symm (eb z _ D.i1z.symm za')))
  have old : ∀ c o, c ≠ z → c ≠ TO → c ≠ i1 → c ≠ i2 → s.heap.get? c = some o → he.get? c = some o := fun c o c1 c2 c3 c4 q => ee c o c2 (ed c o c4 (ec c o c2 (eb c o c3 (ea c o c1 q))))
  have i1e : ItAt t1 he i1 l1 (k1 + 1) := ((ib.eb ec D.TOi1.symm).eb ed D.i12).eb ee D.TOi1.symm
  have i2e : ItAt t2 he i2 l2 (k2 + 1) := id_.eb ee D.TOi2.symm
  have ltz : z < he.objs.size := Heap.lt_size zee
  show wpAny _ _ (Builtin.SmallTypes.ownedTupleHandOut (.ref z) (.ref he.objs.size) >>= _) _ _ _; unfold Builtin.SmallTypes.ownedTupleHandOut
  have zf : IsZip (he.push { cls := .type "tuple", data := .seq #[x, y] }) z TI TO .ellipsis := Heap.get?_push_of_some _ zee
  refine wpAny_bind (wpAny_bind (wpAny_setField_rec zf (by simp) fun hg zg sg => ?_)); have zg' : IsZip hg z TI TO (rawInt he.objs.size) := zg
  refine wpAny_setField_rec zg' (by simp) fun hk zk sk => ?_; have zk' : IsZip hk z TI TO (rawInt he.objs.size) := zk
  have up : ∀ c o, c ≠ z → he.get? c = some o → hk.get? c = some o := fun c o c1 q => sk.extBut c o c1 (sg.extBut c o c1 (Heap.get?_push_of_some _ q))
  have pk : IsPair hk he.objs.size x y := sk.extBut _ _ (Nat.ne_of_gt ltz) (sg.extBut _ _ (Nat.ne_of_gt ltz) (Heap.get?_push_size _ rfl))
  have sk8 : hk.objs.size = he.objs.size + 1 := by rw [sk.1, sg.1, Heap.size_push]
  rw [size] at zk' pk sk8
  refine wpAny_pure ⟨.ref he.objs.size, rfl, ?_⟩; rw [size]
  exact hQ hk zk' (up TO _ D.TOz oe') (i1e.stay fun o q => up i1 o D.i1z q) (i2e.stay fun o q => up i2 o D.i2z q) pk sk8 fun c o c1 c2 c3 c4 q => up c o c1 (old c o c1 c2 c3 c4 q)
theorem zx_end {z TI TO i1 i2 l1 l2 : Addr} {k1 k2 : Nat} {xs ys : Array Value} {a b : Value} {Q : Fin → Shared → Prop} (hh : A.handled = none) (D : ZipApart z TI TO i1 i2 l1 l2)
    (hz : IsZip s.heap z TI TO .none) (hTI : IsPair s.heap TI (.ref i1) (.ref i2)) (hTO : IsPair s.heap TO a b) (h1 : ItAt t1 s.heap i1 l1 k1) (h2 : ItAt t2 s.heap i2 l2 k2) (hl1 : SqAt t1 s.heap l1 xs) (hl2 : SqAt t2 s.heap l2 ys) (hend : xs[k1]? = none ∨ ys[k2]? = none)
    (hE : ∀ h' e, (∀ c o, c ≠ z → c ≠ TO → c ≠ i1 → c ≠ i2 → s.heap.get? c = some o → h'.get? c = some o) → (∃ o, h'.get? e = some o ∧ o.cls = .type "StopIteration") → E (.ref e) { s with heap := h' }) :
    wpAny (model prog w) A (Builtin.«zip.__next__» ⟨[.ref z], []⟩) Q E s := by
  show wpAny _ _ (field (.ref z) 2 >>= _) _ _ _; refine wpAny_bind (wpAny_field hz rfl (x := .bool false) rfl ?_)
  show wpAny _ _ (field (.ref z) 3 >>= _) _ _ _; refine wpAny_bind (wpAny_field hz rfl (x := .ref TI) rfl ?_); refine wpAny_bind (wpAny_seqItems hTI rfl ?_)
  show wpAny _ _ (Builtin.SmallTypes.ownedTupleIsFree (.ref z) >>= _) _ _ _; unfold Builtin.SmallTypes.ownedTupleIsFree
  refine wpAny_bind (wpAny_bind (wpAny_field hz rfl (x := .none) rfl (wpAny_pure ?_))); simp only [if_true]
  refine wpAny_bind (wpAny_rule (wpAny_bind (wpAny_field hz rfl (x := .ref TO) rfl ?_)))
  refine wpAny_bind (wpAny_setField_rec hz (by simp) fun ha za sa => ?_); have za' : IsZip ha z TI TO .ellipsis := za
  refine wpAny_bind ?_; simp only [List.zipIdx_cons, List.zipIdx_nil, List.forIn_cons, List.forIn_nil]
  have ea := sa.extBut
  refine wpAny_bind (wpAny_bind (wpAny_onRaise (?_ : wpAny _ _ (Builtin.SmallTypes.nextOf (.ref i1) >>= _) _ _ _)))
  have out : ∀ (hq hr : Heap) (e : Addr), (∃ o, hq.get? e = some o ∧ o.cls = .type "StopIteration") → IsZip hq z TI TO .ellipsis → Heap.SameBut z hq hr → ∃ o, hr.get? e = some o ∧ o.cls = .type "StopIteration" := fun hq hr e ⟨o, ho, hc⟩ zq sr =>
    ⟨o, sr.extBut _ _ (fun q => by subst q; rw [zq] at ho; cases ho; simp at hc) ho, hc⟩
  cases hx : xs[k1]? with
  | none =>
    refine wpAny_bind (next_end hh (h1.eb ea D.i1z) (hl1.eb ea D.l1z) hx fun hb e eb st => ?_)
    have zb : IsZip hb z TI TO .ellipsis := eb z _ D.i1z.symm za'
    exact wpAny_setField_rec zb (by simp) fun hc _ sc => hE hc e (fun c o c1 _ c3 _ q => sc.extBut c o c1 (eb c o c3 (ea c o c1 q))) (out hb hc e st zb sc)
  | some x =>
    have hy : ys[k2]? = none := hend.resolve_left fun q => by rw [hx] at q; cases q
    refine wpAny_bind (next_item (h1.eb ea D.i1z) (hl1.eb ea D.l1z) hx fun hb ib sb => wpAny_pure ?_); have eb := sb.extBut
    have ob : IsPair hb TO a b := eb TO _ D.TOi1 (ea TO _ D.TOz hTO)
    refine wpAny_bind (wpAny_seqItems ob rfl (wpAny_bind (wpAny_updateSeq_pair ob fun hc oc sc => ?_))); have ec := sc.extBut
    refine wpAny_bind (wpAny_letGo (wpAny_pure (wpAny_bind (wpAny_bind (wpAny_onRaise (?_ : wpAny _ _ (Builtin.SmallTypes.nextOf (.ref i2) >>= _) _ _ _))))))
    refine wpAny_bind (next_end hh (((h2.eb ea D.i2z).eb eb D.i12.symm).eb ec D.TOi2.symm) (((hl2.eb ea D.l2z).eb eb D.l2i1).eb ec D.l2TO) hy fun hd e ed st => ?_)
    have zd : IsZip hd z TI TO .ellipsis := ed z _ D.i2z.symm (ec z _ D.TOz.symm (eb z _ D.i1z.symm za'))
    exact wpAny_setField_rec zd (by simp) fun he _ se => hE he e (fun c o c1 c2 c3 c4 q => se.extBut c o c1 (ed c o c4 (ec c o c2 (eb c o c3 (ea c o c1 q))))) (out hd he e st zd se)
theorem zx_next {z TI TO i1 i2 l1 l2 : Addr} {k1 k2 : Nat} {xs ys : Array Value} {x y a b : Value} {Q : Option Value → Shared → Prop} (D : ZipApart z TI TO i1 i2 l1 l2)
    (hz : IsZip s.heap z TI TO .none) (hTI : IsPair s.heap TI (.ref i1) (.ref i2)) (hTO : IsPair s.heap TO a b) (h1 : ItAt t1 s.heap i1 l1 k1) (h2 : ItAt t2 s.heap i2 l2 k2) (hl1 : SqAt t1 s.heap l1 xs) (hl2 : SqAt t2 s.heap l2 ys) (hx : xs[k1]? = some x) (hy : ys[k2]? = some y)
    (hQ : ∀ h', IsZip h' z TI TO (rawInt s.heap.objs.size) → IsPair h' TO x y → ItAt t1 h' i1 l1 (k1 + 1) → ItAt t2 h' i2 l2 (k2 + 1) → IsPair h' s.heap.objs.size x y → h'.objs.size = s.heap.objs.size + 1 →
      (∀ c o, c ≠ z → c ≠ TO → c ≠ i1 → c ≠ i2 → s.heap.get? c = some o → h'.get? c = some o) → Q (some (.ref s.heap.objs.size)) { s with heap := h' }) : wpAny (model prog w) A (pyNext (.ref z)) Q E s := by
  have ty : s.TypeIs (.ref z) "zip" := ⟨_, hz, rfl⟩
  unfold pyNext
  refine wpAny_bind (wpAny_attempt (wpAny_callSpecial?_slot (name := Str.ofString "__next__") ty F.slot_zip_next ?_))
  exact wpAny_call_entry F.slot_zip_next ty F.entry_zip_next (zx_item D hz hTI hTO h1 h2 hl1 hl2 hx hy fun h' c1 c2 c3 c4 c5 c6 c7 => wpAny_pure (hQ h' c1 c2 c3 c4 c5 c6 c7)) (F.args_zip_next_1 _)
theorem zx_stop {z TI TO i1 i2 l1 l2 : Addr} {k1 k2 : Nat} {xs ys : Array Value} {a b : Value} {Q : Option Value → Shared → Prop} (hh : A.handled = none) (D : ZipApart z TI TO i1 i2 l1 l2)
    (hz : IsZip s.heap z TI TO .none) (hTI : IsPair s.heap TI (.ref i1) (.ref i2)) (hTO : IsPair s.heap TO a b) (h1 : ItAt t1 s.heap i1 l1 k1) (h2 : ItAt t2 s.heap i2 l2 k2) (hl1 : SqAt t1 s.heap l1 xs) (hl2 : SqAt t2 s.heap l2 ys) (hend : xs[k1]? = none ∨ ys[k2]? = none)
    (hQ : ∀ h', (∀ c o, c ≠ z → c ≠ TO → c ≠ i1 → c ≠ i2 → s.heap.get? c = some o → h'.get? c = some o) → Q none { s with heap := h' }) : wpAny (model prog w) A (pyNext (.ref z)) Q E s := by
  have ty : s.TypeIs (.ref z) "zip" := ⟨_, hz, rfl⟩
  unfold pyNext
  refine wpAny_bind (wpAny_attempt (wpAny_callSpecial?_slot (name := Str.ofString "__next__") ty F.slot_zip_next ?_))
  refine wpAny_call_entry F.slot_zip_next ty F.entry_zip_next (zx_end hh D hz hTI hTO h1 h2 hl1 hl2 hend fun h' e hk st => ?_) (F.args_zip_next_1 _)
  obtain ⟨o, ho, hc⟩ := st
  exact wpAny_bind (wpAny_isInstance (T := "StopIteration") (b := true) ⟨o, ho, hc⟩ isSubtype_stop (wpAny_pure (hQ _ hk)))
def itO (t : Bool) (l : Addr) : Obj := { cls := .type (match t with | true => "tuple_iterator" | false => "list_iterator"), data := .fields #[.ref l, .int 0 0] }
theorem zx_iter {Q : Value → Shared → Prop} {hp : Heap} {g d tk os} (hl : SqAt t hp l xs) (q : Q (.ref hp.objs.size) ⟨hp.push (itO t l), g, d, tk, os⟩) : wpAny (model prog w) A (pyIter (.ref l)) Q E ⟨hp, g, d, tk, os⟩ := by
  cases t with
  | true => exact wpAny_pyIter_tuple (s := ⟨hp, g, d, tk, os⟩) hl q
  | false => exact wpAny_pyIter_list (s := ⟨hp, g, d, tk, os⟩) hl q
abbrev zx1 (t1 : Bool) (h : Heap) (l1 : Addr) : Heap := h.push (itO t1 l1)
abbrev zx2 (t1 t2 : Bool) (h : Heap) (l1 l2 : Addr) : Heap := (zx1 t1 h l1).push (itO t2 l2)
abbrev zx3 (t1 t2 : Bool) (h : Heap) (l1 l2 : Addr) : Heap := (zx2 t1 t2 h l1 l2).push { cls := .type "tuple", data := .seq #[.ref h.objs.size, .ref (zx1 t1 h l1).objs.size] }
abbrev zx4 (t1 t2 : Bool) (h : Heap) (l1 l2 : Addr) : Heap := (zx3 t1 t2 h l1 l2).push { cls := .type "tuple", data := .seq #[.none, .none] }
abbrev zx5 (t1 t2 : Bool) (h : Heap) (l1 l2 : Addr) : Heap := (zx4 t1 t2 h l1 l2).push { cls := .type "zip", data := .fields #[.none, .bool false, .bool false, .ref (zx2 t1 t2 h l1 l2).objs.size, .ref (zx3 t1 t2 h l1 l2).objs.size] }
end
theorem zx_new (t1 t2 : Bool) (l1 l2 : Addr) (xs ys : Array Value) : Meets (Builtin.«zip.__new__» ⟨[.type "zip", .ref l1, .ref l2], []⟩) (fun _ R s => SqAt t1 s.heap l1 xs ∧ SqAt t2 s.heap l2 ys ∧
      R (.ok (.ret (.ref (zx4 t1 t2 s.heap l1 l2).objs.size))) { s with heap := zx5 t1 t2 s.heap l1 l2 }) :=
  .of_wp fun prog w A R s h => by
    obtain ⟨hp, g, d, tk, os⟩ := s
    obtain ⟨ha, hb, h⟩ := h
    have hsub := sub_zip
    have hb2 : SqAt t2 (hp.push (itO t1 l1)) l2 ys := hb.stay fun o q => Heap.get?_push_of_some _ q
    wp_walk using zx_iter ha, zx_iter hb2
    exact ⟨_, rfl, h⟩
section
variable {prog : Program} {w : World} {A : Around} {E : Value → Shared → Prop} {s : Shared} {t1 t2 : Bool}
theorem zx_call {l1 l2 : Addr} {xs ys : Array Value} {Q : Value → Shared → Prop} (ha : SqAt t1 s.heap l1 xs) (hb : SqAt t2 s.heap l2 ys)
    (h : ∀ h', IsZip h' (s.heap.objs.size + 4) (s.heap.objs.size + 2) (s.heap.objs.size + 3) .none → IsPair h' (s.heap.objs.size + 2) (.ref s.heap.objs.size) (.ref (s.heap.objs.size + 1)) → IsPair h' (s.heap.objs.size + 3) .none .none →
      ItAt t1 h' s.heap.objs.size l1 0 → ItAt t2 h' (s.heap.objs.size + 1) l2 0 → (∀ c o, s.heap.get? c = some o → h'.get? c = some o) → Q (.ref (s.heap.objs.size + 4)) { s with heap := h' }) : wpAny (model prog w) A (call (.type "zip") [.ref l1, .ref l2]) Q E s := by
  refine callType_new F.called_zip (by decide) (F.typeCall_zip_2 _ _) (F.newCall_zip_2 _ _) (fun obj => F.args_object_init_3 obj _ _) F.entry_zip_new (zx_new t1 t2 l1 l2 xs ys) ⟨ha, hb, ?_⟩
  generalize hn : s.heap.objs.size = n at h
  have z1 : (zx1 t1 s.heap l1).objs.size = n + 1 := by rw [Heap.size_push, hn]
  have z2 : (zx2 t1 t2 s.heap l1 l2).objs.size = n + 2 := by rw [Heap.size_push, z1]
  have z3 : (zx3 t1 t2 s.heap l1 l2).objs.size = n + 3 := by rw [Heap.size_push, z2]
  have z4 : (zx4 t1 t2 s.heap l1 l2).objs.size = n + 4 := by rw [Heap.size_push, z3]
  have up : ∀ {hh : Heap} (o : Obj) {c : Addr} {u : Obj}, hh.get? c = some u → (hh.push o).get? c = some u := fun o _ _ q => Heap.get?_push_of_some o q
  have g5 : (zx5 t1 t2 s.heap l1 l2).get? (n + 4) = some { cls := .type "zip", data := .fields #[.none, .bool false, .bool false, .ref (n + 2), .ref (n + 3)] } := by
    have := Heap.get?_push_size (zx4 t1 t2 s.heap l1 l2) (o := { cls := .type "zip", data := .fields #[.none, .bool false, .bool false, .ref (zx2 t1 t2 s.heap l1 l2).objs.size, .ref (zx3 t1 t2 s.heap l1 l2).objs.size] }) rfl
    rw [z4, z2, z3] at this
    rw [← this]
    show Heap.get? (Heap.push _ { cls := .type "zip", data := .fields #[.none, .bool false, .bool false, .ref (zx2 t1 t2 s.heap l1 l2).objs.size, .ref (zx3 t1 t2 s.heap l1 l2).objs.size] }) _ = _
    rw [z2, z3]
  have g4 : (zx5 t1 t2 s.heap l1 l2).get? (n + 3) = some { cls := .type "tuple", data := .seq #[.none, .none] } := by
    have := Heap.get?_push_size (zx3 t1 t2 s.heap l1 l2) (o := { cls := .type "tuple", data := .seq #[.none, .none] }) rfl
    rw [z3] at this
    exact up _ this
  have g3 : (zx5 t1 t2 s.heap l1 l2).get? (n + 2) = some { cls := .type "tuple", data := .seq #[.ref n, .ref (n + 1)] } := by
    have := Heap.get?_push_size (zx2 t1 t2 s.heap l1 l2) (o := { cls := .type "tuple", data := .seq #[.ref s.heap.objs.size, .ref (zx1 t1 s.heap l1).objs.size] }) rfl
    rw [z2] at this
    exact (up _ (up _ this)).trans (by rw [hn, z1])
  have g2 : (zx5 t1 t2 s.heap l1 l2).get? (n + 1) = some (itO t2 l2) := by
    have := Heap.get?_push_size (zx1 t1 s.heap l1) (o := itO t2 l2) (by cases t2 <;> rfl)
    rw [z1] at this
    exact up _ (up _ (up _ this))
  have g1 : (zx5 t1 t2 s.heap l1 l2).get? n = some (itO t1 l1) := by
    have := Heap.get?_push_size s.heap (o := itO t1 l1) (by cases t1 <;> rfl)
    rw [hn] at this
    exact up _ (up _ (up _ (up _ this)))
  show _ ∧ _
  rw [z4]
  exact ⟨⟨_, g5, rfl⟩, h _ g5 g3 g4 (by cases t1 <;> exact ⟨_, g1, rfl, rfl⟩) (by cases t2 <;> exact ⟨_, g2, rfl, rfl⟩) fun c o q => up _ (up _ (up _ (up _ (up _ q))))⟩
end
end El

set_option Elab.async false
set_option linter.all false
set_option maxRecDepth 100000
set_option maxHeartbeats 4000000
namespace El
open PySem PySem.Spec PyProof.Rows L2 RZ
/-! ### zip of a list and a tuple: the rule -/
def SqX (t : Bool) (K : PySem.W.Frag) (H : Hp) (a : Addr) (xs : List V) : Prop := match t with
  | true => SqT K H a xs
  | false => SqL K H a xs
def Itx (t1 t2 : Bool) (K : PySem.W.Frag) (a b : Addr) : It :=
  ⟨fun i H => ∃ (xs ys : List V) (x y : V), SqX t1 K H a xs ∧ SqX t2 K H b ys ∧ xs[i]? = some x ∧ ys[i]? = some y,
    fun i H v H' => ∃ T x y, v = .ref T ∧ H T = none ∧ H' = upd H T (.tup [x, y]) ∧ (∀ xs, SqX t1 K H a xs → xs[i]? = some x) ∧ ∀ ys, SqX t2 K H b ys → ys[i]? = some y,
    fun i H => ∃ xs ys : List V, SqX t1 K H a xs ∧ SqX t2 K H b ys ∧ (xs.length ≤ i ∨ ys.length ≤ i)⟩
section
variable {X : Cx} {pins : List (Addr × Obj)} {σ : L2.St} {H : Hp} {s : Shared} {t t1 t2 : Bool} {a : Addr} {xs ys : List V}
theorem sqx_at (I : Inv X pins σ H s) (h : SqX t X.K H a xs) : ∃ its : List Value, Vals xs its ∧ SqAt t s.heap a its.toArray := by
  cases t with
  | true => obtain ⟨its, r, p, _⟩ := I.tuple h; exact ⟨its, r, p⟩
  | false => obtain ⟨its, r, p, _⟩ := I.list h; exact ⟨its, r, p.isList⟩
theorem sqx_inj (I : Inv X pins σ H s) (h : SqX t X.K H a xs) (h' : SqX t X.K H a ys) : xs = ys := by
  cases t with
  | true => exact I.tuple_inj h h'
  | false => exact I.list_inj h h'
theorem five {P : Addr → Prop} {z a b c d x : Addr} (hx : x ∈ [z, a, b, c, d]) (h0 : P z) (h1 : P a) (h2 : P b) (h3 : P c) (h4 : P d) : P x := by
  simp only [List.mem_cons, List.not_mem_nil, or_false] at hx
  rcases hx with rfl | rfl | rfl | rfl | rfl <;> assumption
theorem turn_zx {P : Program} {w : World} {K : PySem.W.Frag} {elts : List Expr} {kk : Nat} {tpos : Pos} {a b z TI TO i1 i2 : Addr} (D : ZipApart z TI TO i1 i2 a b) :
    Turn P w K (.Tuple elts kk tpos) (Itx t1 t2 K a b) [z, TI, TO, i1, i2] z (fun i h => IsZip h z TI TO .none ∧ IsPair h TI (.ref i1) (.ref i2) ∧ (∃ x y, IsPair h TO x y) ∧ ItAt t1 h i1 a i ∧ ItAt t2 h i2 b i) where
  mem := List.mem_cons_self
  obj := fun i h ⟨hz, hTI, ⟨x, y, hTO⟩, j1, j2⟩ c hc => by
    have ite : ∀ {t : Bool} {k l : Addr} {n : Nat}, ItAt t h k l n → ∃ o, h.get? k = some o ∧ ∀ v, o.data ≠ .cell v := fun {t k l n} q => by
      cases t <;> (obtain ⟨o, e, _, d⟩ := q; exact ⟨o, e, fun v z => by rw [d] at z; cases z⟩)
    exact five (P := fun c => ∃ o, h.get? c = some o ∧ ∀ v, o.data ≠ .cell v) hc ⟨_, hz, fun v q => nomatch q⟩ ⟨_, hTI, fun v q => nomatch q⟩ ⟨_, hTO, fun v q => nomatch q⟩ (ite j1) (ite j2)
  keep := fun i h h' ⟨hz, hTI, ⟨x, y, hTO⟩, j1, j2⟩ k => ⟨k z (by simp) _ hz, k TI (by simp) _ hTI, ⟨x, y, k TO (by simp) _ hTO⟩, j1.stay (k i1 (by simp)), j2.stay (k i2 (by simp))⟩
  item := by
    intro X hP hw hK hc i pins s σ H E I hf st hg
    subst hP hw hK
    obtain ⟨hz, hTI, ⟨x0, y0, hTO⟩, j1, j2⟩ := st
    obtain ⟨xs, ys, x, y, qx, qy, hx, hy⟩ := hg
    obtain ⟨us, ru, pu⟩ := sqx_at I qx
    obtain ⟨vs, rv, pv⟩ := sqx_at I qy
    obtain ⟨u, hu, r1⟩ := ru.get hx
    obtain ⟨v, hv, r2⟩ := rv.get hy
    have lz := Heap.lt_size hz
    refine zx_next D hz hTI hTO j1 j2 pu pv (x := u) (y := v) (by simpa using hu) (by simpa using hv) fun h' z' TO' j1' j2' hT hsz hk => ⟨_, rfl, wpAny_letOwnedTupleGo_zip (s := { s with heap := h' }) z' fun h2 z2 sb => ?_⟩
    have pair : h2.get? s.heap.objs.size = some { cls := .type "tuple", data := .seq #[u, v] } := (sb.2 _ (Nat.ne_of_gt lz)).trans hT
    have same : ∀ c o, c ∉ [z, TI, TO, i1, i2] → s.heap.get? c = some o → h2.get? c = some o := fun c o hb q => by
      have ne : ∀ d, d ∈ [z, TI, TO, i1, i2] → c ≠ d := fun d hd e => hb (e ▸ hd)
      exact (sb.2 c (ne z (by simp))).trans (hk c o (ne z (by simp)) (ne TO (by simp)) (ne i1 (by simp)) (ne i2 (by simp)) q)
    have J : Inv X pins σ (upd H s.heap.objs.size (.tup [x, y])) { s with heap := h2 } :=
      I.turnedNew (t' := s.toks) (ch := [z, TI, TO, i1, i2]) same hf (Nat.le_refl _) ⟨by show 2 ≤ sizeLine; decide, [u, v], .cons r1 (.cons r2 .nil), ⟨_, pair, rfl, _, rfl⟩⟩
    refine ⟨.ref s.heap.objs.size, _, J, rfl, ⟨_, x, y, rfl, I.hok.fresh (Nat.le_refl _), rfl, fun l hl => by rw [sqx_inj I hl qx]; exact hx, fun l hl => by rw [sqx_inj I hl qy]; exact hy⟩,
      ⟨z2, (sb.2 _ D.TIz).trans (hk _ _ D.TIz D.TITO D.TIi1 D.TIi2 hTI), ⟨u, v, (sb.2 _ D.TOz).trans TO'⟩, j1'.stay fun o q => (sb.2 _ D.i1z).trans q, j2'.stay fun o q => (sb.2 _ D.i2z).trans q⟩, fun c hc => ?_⟩
    have lt : c < s.heap.objs.size := five (P := fun c => c < s.heap.objs.size) hc lz (Heap.lt_size hTI) (Heap.lt_size hTO) j1.lt j2.lt
    rw [upd_ne (Nat.ne_of_lt lt)]
    exact (hf c hc).1
  done := by
    intro X hP hw hK hc i pins s σ H E I hf st hg
    subst hP hw hK
    obtain ⟨hz, hTI, ⟨x0, y0, hTO⟩, j1, j2⟩ := st
    obtain ⟨xs, ys, qx, qy, hend⟩ := hg
    obtain ⟨us, ru, pu⟩ := sqx_at I qx
    obtain ⟨vs, rv, pv⟩ := sqx_at I qy
    have n1 := ru.length
    have n2 := rv.length
    refine zx_stop (I.ok.hd hc) D hz hTI hTO j1 j2 pu pv (hend.imp (fun q => by simp; omega) (fun q => by simp; omega)) fun h' hk => ⟨rfl, I.turnedL (t' := s.toks) (ch := [z, TI, TO, i1, i2]) (fun c o hb q => ?_) hf⟩
    have ne : ∀ d, d ∈ [z, TI, TO, i1, i2] → c ≠ d := fun d hd e => hb (e ▸ hd)
    exact hk c o (ne z (by simp)) (ne TO (by simp)) (ne i1 (by simp)) (ne i2 (by simp)) q
  self := fun A i s Q E st h => wpAny_pyIter_zip st.1 h
end
def iZipX (t1 t2 : Bool) (K : PySem.W.Frag) (ta : TA) : TI := fun σ H R => ta σ H fun vs H1 => ∃ a b xs ys, vs = [.ref a, .ref b] ∧ SqX t1 K H1 a xs ∧ SqX t2 K H1 b ys ∧ R (Itx t1 t2 K a b) H1
theorem kzipX (t1 t2 : Bool) {X : Cx} (K : PySem.W.Frag) {e e2 : Expr} {ta : TA} {p pos tpos : Pos} {elts : List Expr} {kk : Nat} (hg : Gl X "zip") (hm : X.mg "zip" = none) (ha : PA X [e, e2] ta)
    (hs : starEach [e, e2] X.env = (false, eval e X.env) :: starEach [e2] X.env := by rfl) (hpl : (backTo pos (starEach [e2] X.env)).any (·.1) = false := by rfl) (hK : X.K = K := by rfl) :
    PI X (.Tuple elts kk tpos) (.Call (.Name "zip" p) [e, e2] [] pos) (iZipX t1 t2 K ta) := by
  subst hK
  refine ⟨fun pins s σ H R I h => Call_ (ld_blt I hg hm boot_zip (callWith_type1 (thn (ha.run pos pins s σ H _ I h) fun us s1 ⟨vs, H1, I1, r1, a, b, xs, ys, ex, qx, qy, q⟩ => ?_) hs hpl))⟩
  subst ex
  obtain ⟨us1, ru, pu⟩ := sqx_at I1 qx
  obtain ⟨us2, rv, pv⟩ := sqx_at I1 qy
  cases r1 with
  | cons r rr => cases rr with
    | cons r' rr =>
      cases rr
      cases r
      cases r'
      refine zx_call pu pv fun h' hz hTI hTO j1 j2 hk => wpAny_pyIter_zip hz ?_
      generalize hn : s1.heap.objs.size = n at *
      refine ⟨n + 4, [n + 4, n + 2, n + 3, n, n + 1], _, _, H1, rfl, I1.kept (t' := s1.toks) hk, turn_zx (PySem.W.ktu_apart n a b (by rw [← hn]; exact pu.lt) (by rw [← hn]; exact pv.lt)), ⟨hz, hTI, ⟨_, _, hTO⟩, j1, j2⟩, fun c hc => ?_, q⟩
      have le : s1.heap.objs.size ≤ c := by
        rw [hn]
        exact five (P := fun c => n ≤ c) hc (Nat.le_add_right _ _) (Nat.le_add_right _ _) (Nat.le_add_right _ _) (Nat.le_refl _) (Nat.le_add_right _ _)
      exact I1.fpOk le (I1.hok.fresh le)
theorem walk_zx {t1 t2 : Bool} {K : PySem.W.Frag} {a b : Addr} {xs ys : List V} {n : Nat} (hn : n = min xs.length ys.length) : Walk (Itx t1 t2 K a b) n (fun H => SqX t1 K H a xs ∧ SqX t2 K H b ys) (YPair (fun i => xs[i]?) (fun i => ys[i]?)) := by
  subst hn
  refine ⟨fun i _ hi q => ⟨xs, ys, xs[i]'(by omega), ys[i]'(by omega), q.1, q.2, by simp [show i < xs.length by omega], by simp [show i < ys.length by omega]⟩, fun _ q => ⟨xs, ys, q.1, q.2, by omega⟩, fun i H v H' _ q y => ?_⟩
  obtain ⟨T, x, z, h1, h2, h3, h4, h5⟩ := y
  exact ⟨T, x, z, h1, h2, h3, h4 xs q.1, h5 ys q.2⟩
end El

set_option Elab.async false
set_option linter.all false
set_option maxRecDepth 100000
set_option maxHeartbeats 4000000
namespace El
open PySem PySem.Spec L2
/-! ### xs[i] += e -/
def rGetL : V → V → Hp → VK → Prop := fun x y H Q => ∃ p xs, ∃ n : Nat, ∃ v, x = .ref p ∧ y = .int (n : Int) ∧ H p = some (.lst xs) ∧ xs[n]? = some v ∧ Q v H
theorem get_list {X : Cx} : PGet X rGetL := by
  intro pins s σ H o i ov iv Q I ro ri h
  obtain ⟨p, xs, n, v, rfl, rfl, hp, hv, q⟩ := h
  cases ro
  obtain ⟨t, rfl⟩ := ri
  obtain ⟨its, r, pl, hz⟩ := I.list (SqL.of hp)
  obtain ⟨u, hu, ru⟩ := r.get hv
  have hl := r.length
  have hn : n < xs.length := (List.getElem?_eq_some_iff.mp hv).1
  have h63 := line63
  exact wpAny_getItem_list pl.isList (by omega) (by omega) (x := u) (by simpa using hu) ⟨v, H, I, ru, q⟩
theorem flat_one {α : Type} (v : α) : ∀ n : Nat, (List.replicate n [v]).flatten = List.replicate n v
  | 0 => rfl
  | n + 1 => by rw [List.replicate_succ, List.replicate_succ, List.flatten_cons, flat_one v n]; rfl
section
variable {K : PySem.W.Frag} {σ : St} {F H F' H' F0 H0 : Hp} {ta tb tc td te tl : TE} {tt : TT} {α β γ δ : Type} {R : Rp α} {S : Rp β} {T : Rp γ} {U : Rp δ} {x : α} {y : β} {xs : List α} {ys : List β} {D : Ends} {ts : TS} {E : XK} {i j : Int} {C : Addr} {l : Addr} {vs : List V} {ns : List Nat} {k : Nat}
theorem x_augI {n : Nat} {a b : Int} (e : Ex F H) (ha : Ev rRef ta σ F H l) (hi : Ev rInt tb σ F H (n : Int)) (hl : H l = some (.lst vs)) (hv : vs[n]? = some (.int a)) (h : Ev rInt te σ F H b)
    (k : ∀ F' H', Gr M0 F H F' H' → H' l = some (.lst vs) → D.nx σ (upd H' l (.lst (vs.set n (.int (a + b)))))) : tAugS ta tb te rGetL (ipI fun i j => i + j) rSetL D σ H :=
  ha F H (.refl e) _ fun v F1 H1 g1 r1 => hi F1 H1 g1 _ fun w F2 H2 g2 r2 => ⟨l, vs, n, .int a, r1, r2, g2.hx _ _ (g1.hx _ _ hl), hv, h F2 H2 (g1.trans g2) _ fun u F3 H3 g3 r3 => ⟨a, b, rfl, r3, by
    have hn : n < vs.length := (List.getElem?_eq_some_iff.mp hv).1
    have h3 := g3.hx _ _ (g2.hx _ _ (g1.hx _ _ hl))
    refine ⟨l, vs, (n : Int), n, r1, r2, h3, ?_, k F3 H3 ((g1.trans g2).trans g3) h3⟩
    unfold ixN
    rw [if_pos (by omega), if_pos (by omega)]
    rfl⟩⟩
theorem Ev.ints (h : Ev (rLst rNat) te σ F H ns) : Ev (rLst rInt) te σ F H (ns.map fun n : Nat => (n : Int)) := h.as fun F v ⟨a, vs, e, hl, p⟩ => ⟨a, vs, e, hl, by
  have := nats_paired p
  rw [this]
  exact paired_ints _⟩
/-! in, of numbers -/
theorem inV_nats (k : Nat) : ∀ ns : List Nat, inV (V.int (k : Int)) (ns.map fun n : Nat => V.int (n : Int)) = decide (k ∈ ns)
  | [] => rfl
  | n :: ns => by
    have h1 : eqV (V.int (n : Int)) (V.int (k : Int)) = decide (k = n) := by
      show ((n : Int) == (k : Int)) = _
      by_cases h : k = n
      · rw [decide_eq_true h, h]; exact beq_self_eq_true _
      · rw [decide_eq_false h]; exact beq_eq_false_iff_ne.mpr (by omega)
    show (eqV (V.int (n : Int)) (V.int (k : Int)) || inV (V.int (k : Int)) (ns.map fun n : Nat => V.int (n : Int))) = _
    rw [h1, inV_nats k ns]
    by_cases h : k = n
    · have hm : k ∈ n :: ns := by rw [h]; exact List.mem_cons_self
      rw [decide_eq_true h, decide_eq_true hm]; rfl
    · rw [decide_eq_false h, Bool.false_or]
      exact decide_eq_decide.mpr ⟨fun q => List.mem_cons_of_mem _ q, fun q => (List.mem_cons.mp q).resolve_left h⟩
theorem flat_nats : ∀ ns : List Nat, (ns.map fun n : Nat => V.int (n : Int)).all flatV = true
  | [] => rfl
  | n :: ns => by rw [List.map_cons, List.all_cons, flat_nats ns]; rfl
theorem ev_inM {neg : Bool} (hk : Ev rNat ta σ F H k) (ha : Ev rRef tb σ F H l) (hl : H l = some (.lst (ns.map fun n : Nat => V.int (n : Int)))) : Ev rBl (tOp (rIn K neg) ta tb) σ F H (if neg then !decide (k ∈ ns) else decide (k ∈ ns)) := fun F1 H1 g1 Q q =>
  hk F1 H1 g1 _ fun v F2 H2 g2 r => ha F2 H2 (g1.trans g2) _ fun w F3 H3 g3 e => by
    cases (show v = _ from r)
    refine ⟨l, _, e, .inl (SqL.of (g3.hx _ _ (g2.hx _ _ (g1.hx _ _ hl)))), rfl, flat_nats ns, ?_⟩
    rw [inV_nats]
    exact q _ F3 H3 (g2.trans g3) rfl
theorem ev_inL {neg : Bool} (hk : Ev rNat ta σ F H k) (ha : Ev (rLst rNat) tb σ F H ns) : Ev rBl (tOp (rIn K neg) ta tb) σ F H (if neg then !decide (k ∈ ns) else decide (k ∈ ns)) := fun F1 H1 g1 Q q =>
  hk F1 H1 g1 _ fun v F2 H2 g2 r => ha F2 H2 (g1.trans g2) _ fun w F3 H3 g3 ⟨p, vs, e, hp, pr⟩ => by
    cases (show v = _ from r)
    have ev := nats_eq pr
    subst ev
    refine ⟨p, _, e, .inl (SqL.of (g3.fh _ _ hp)), rfl, flat_nats ns, ?_⟩
    rw [inV_nats]
    exact q _ F3 H3 (g2.trans g3) rfl
theorem ev_inT {neg : Bool} (hk : Ev rNat ta σ F H k) (ha : Ev (rTup rNat) tb σ F H ns) : Ev rBl (tOp (rIn K neg) ta tb) σ F H (if neg then !decide (k ∈ ns) else decide (k ∈ ns)) := fun F1 H1 g1 Q q =>
  hk F1 H1 g1 _ fun v F2 H2 g2 r => ha F2 H2 (g1.trans g2) _ fun w F3 H3 g3 ⟨p, vs, e, hp, pr⟩ => by
    cases (show v = _ from r)
    have ev := nats_eq pr
    subst ev
    refine ⟨p, _, e, .inr (SqT.of (g3.fh _ _ hp)), rfl, flat_nats ns, ?_⟩
    rw [inV_nats]
    exact q _ F3 H3 (g2.trans g3) rfl
theorem ev_sortM (ha : Ev rRef ta σ F H l) (hl : H l = some (.lst (ns.map fun n : Nat => V.int (n : Int)))) (hz : ns.length < 64) : Ev (rLst rNat) (tCB (rSorted K) (tCons ta tNil)) σ F H (sortN ns) := fun F1 H1 g1 Q q =>
  ha F1 H1 g1 _ fun v F2 H2 g2 r => ⟨l, ns.map fun n : Nat => (n : Int), by rw [show v = _ from r], SqL.of (by rw [List.map_map]; exact g2.hx _ _ (g1.hx _ _ hl)), by rw [List.length_map]; exact hz, fun ys p hp hs hn => by
    rw [sorted_ints hp hs, List.map_map]
    exact q _ _ _ (g2.trans (.new g2.fh hn)) ⟨p, _, rfl, upd_same, nats_P _ _⟩⟩
/-- xs[i], of a list of numbers that may change -/
theorem ev_ixN {n : Nat} (ha : Ev rRef ta σ F H l) (hb : Ev rInt tb σ F H (k : Int)) (hl : H l = some (.lst (ns.map fun n : Nat => V.int (n : Int)))) (h : ns[k]? = some n) : Ev rNat (tOp (rIxL K) ta tb) σ F H n :=
  ev_ixM ha hb hl (atI_natL (by rw [List.getElem?_map, h]; rfl)) (show rNat F (V.int (n : Int)) n from rfl)
/-- t[n:], n not 0 -/
theorem ev_slT1 {n : Nat} (h : Ev (rTup R) te σ F H xs) (h0 : 1 ≤ n) (h1 : 1 ≤ xs.length) (m : Mn R := by infer_instance) : Ev (rTup R) (tSl (rSlT K) te (tPart (tC (.int (n : Int)))) tNoPart) σ F H (xs.drop n) := fun F1 H1 g1 Q q =>
  h F1 H1 g1 _ fun v F2 H2 g2 ⟨a, vs, e, hl, p⟩ => ⟨(n : Int), rfl, a, vs, e, SqT.of (g2.fh _ _ hl), fun z => by
    have := p.length
    rw [HT.sIx_nat] at z
    omega, fun B hB => by
    have g5 : Gr M0 F2 H2 (upd F2 B (.tup (cutV vs (some (n : Int)) none))) (upd H2 B (.tup (cutV vs (some (n : Int)) none))) := .new g2.fh hB
    refine q _ _ _ (g2.trans g5) ⟨B, _, rfl, upd_same, ?_⟩
    rw [← cut_from]
    exact Paired.up g5.ff (cut_paired p)⟩
/-- x = [e] * n, a list that may change -/
theorem x_repM {n a : Nat} (e : Ex F H) (h : Ev R te σ F H x) (hb : Ev rInt tb σ F H (n : Int)) (hn : n ≤ 1000000) (k : ∀ v l F' H', Gr M0 F H F' H' → R F' v x → H' l = none → D.nx (σ.set a (some (.ref l))) (upd H' l (.lst (List.replicate n v)))) (m : Mn R := by infer_instance) :
    tAsg (tOp rRep (tLst (tCons te tNil)) tb) (gName a) D σ H :=
  h F H (.refl e) _ fun v F1 H1 g1 r1 => ⟨by show 1 ≤ sizeLine; decide, fun c hc => by
    have g2 : Gr M0 F1 H1 (upd F1 c (.lst [v])) (upd H1 c (.lst [v])) := .new g1.fh hc
    refine hb _ _ (g1.trans g2) _ fun w F3 H3 g3 e2 => ?_
    refine ⟨c, (n : Int), [v], rfl, e2, g3.hx _ _ upd_same, by omega, by omega, by show 1 * ((n : Int)).toNat ≤ sizeLine; rw [sizeLine_eq]; omega, fun l hl => ?_⟩
    have er : (List.replicate ((n : Int)).toNat [v]).flatten = List.replicate n v := by
      rw [Int.toNat_natCast]
      exact flat_one v n
    rw [er]
    exact k v l F3 H3 (g1.trans (g2.trans g3)) (m.mono (g2.ff.trans g3.ff) r1) hl⟩
/-! comprehensions -/
/-- [elt for i, x in enumerate(list) if test] -/
theorem ev_lcEF (p : Nat → Bool) (f : Nat → γ) {a b : Nat} {ws : List Nat} (h : Ev (rLst R) tl σ F H xs) (hz : xs.length ≤ 1000000) (hw : ∀ v w, wipe (((wipe σ ws).set a (some v)).set b (some w)) ws = wipe σ ws)
    (ht : ∀ (i : Nat) x w F1 H1, xs[i]? = some x → Gr M0 F H F1 H1 → R F1 w x → EvT tt (((wipe σ ws).set a (some (.int (i : Int)))).set b (some w)) F1 H1 (p i))
    (he : ∀ (i : Nat) x w F1 H1, xs[i]? = some x → p i = true → Gr M0 F H F1 H1 → R F1 w x → Ev T te (((wipe σ ws).set a (some (.int (i : Int)))).set b (some w)) F1 H1 (f i)) (m : Mn R := by infer_instance) (m' : Mn T := by infer_instance) :
    Ev (rLst T) (tLc (iEnum K (tCons tl tNil)) (gTup K 2 (gCons (gName a) (gCons (gName b) gNil))) tt te ws) σ F H (((List.range xs.length).filter p).map f) := by
  intro F1 H1 g1 Q q
  refine h F1 H1 g1 _ fun v F2 H2 g2 ⟨c, vs, ea, hl, pr⟩ => ⟨c, vs, by rw [ea], SqL.of (g2.fh _ _ hl), fun D hD => ?_⟩
  have hlen := pr.length
  refine lc_it walk_enum (fun i H' => ∃ F' us, Gr M0 F2 H2 F' H' ∧ F' D = none ∧ H' D = some (.lst us) ∧ Paired (T F') us ((((List.range xs.length).take i).filter p).map f)) ⟨F2, [], .loc g2.fh hD, g2.fh.free hD, upd_same, .nil⟩ (fun i H' _ ⟨F', us, g, _⟩ => SqL.of (g.fh _ _ (g.ff _ _ hl))) ?_ ?_
  · rintro i w H' H4 hi ⟨F', us, g, fD, hD', pu⟩ ⟨B, u1, u2, rfl, hT, rfl, h1, h2⟩
    obtain ⟨x, hx, rx⟩ := Paired.getL pr h2
    have hu1 : u1 = V.int (i : Int) := by cases h1; rfl
    subst hu1
    have hr : (List.range xs.length)[i]? = some i := List.getElem?_range (by omega)
    have gB : Gr M0 F' H' F' (upd H' B (.tup [.int (i : Int), u2])) := .loc g.fh hT
    refine ⟨B, [.int (i : Int), u2], rfl, SqT.of upd_same, rfl, _, [u2], rfl, u2, [], rfl, rfl, hw _ _, ?_⟩
    have rx' := m.mono g.ff rx
    refine ht i x u2 F' _ hx (((g1.trans g2).trans g).trans gB) rx' F' _ (.refl gB.fh) _ fun F3 H3 g3 => ?_
    have e3 := take_filter_succ (p := p) (f := f) hr
    have g03 := gB.trans g3
    cases hp : p i with
    | false =>
      rw [hp] at e3
      refine ⟨F3, us, g.trans g03, g03.nn hD' fD, g03.hx _ _ hD', ?_⟩
      rw [e3]
      exact Paired.up g3.ff pu
    | true =>
      rw [hp] at e3
      refine he i x u2 F3 H3 hx hp (((g1.trans g2).trans g).trans g03) (m.mono g3.ff rx') F3 H3 (.refl g3.fh) _ fun u F4 H4 g4 r4 => ?_
      have g34 := g03.trans g4
      refine ⟨us, g34.hx _ _ hD', ?_, F4, us ++ [u], (g.trans g34).set' (g34.nn hD' fD) (.inl hD), g34.nn hD' fD, upd_same, ?_⟩
      · rw [pu.length, List.length_map, sizeLine_eq]
        have := List.length_filter_le p ((List.range xs.length).take i)
        rw [List.length_take, List.length_range] at this
        omega
      · rw [e3]
        exact (Paired.up (g3.ff.trans g4.ff) pu).snoc r4
  · rintro H' ⟨F', us, g, fD, hD', pu⟩
    rw [List.take_of_length_le (by rw [List.length_range, hlen]; exact Nat.le_refl _)] at pu
    exact q _ _ _ (g2.trans (g.frz hD' (g2.fh.free hD) (.inl hD))) ⟨D, us, rfl, upd_same, Paired.up (g.fh.frz hD' fD) pu⟩
/-- a list or a tuple -/
def rSq (t : Bool) (R : Rp α) : Rp (List α) := match t with
  | true => rTup R
  | false => rLst R
instance {t : Bool} [Mn R] : Mn (rSq t R) := by cases t <;> (unfold rSq; infer_instance)
theorem rSq_at {t : Bool} {F H : Hp} {v : V} (h : rSq t R F v xs) (e : Ex F H) : ∃ a vs, v = .ref a ∧ (∀ F' H', Ex F F' → Ex F' H' → SqX t K H' a vs) ∧ Paired (R F) vs xs := by
  cases t with
  | true => obtain ⟨a, vs, h1, h2, h3⟩ := h; exact ⟨a, vs, h1, fun F' H' e1 e2 => SqT.of (e2 _ _ (e1 _ _ h2)), h3⟩
  | false => obtain ⟨a, vs, h1, h2, h3⟩ := h; exact ⟨a, vs, h1, fun F' H' e1 e2 => SqL.of (e2 _ _ (e1 _ _ h2)), h3⟩
/-- [elt for x, y in zip(xs, ys) if test] -/
theorem ev_lcXF (t1 t2 : Bool) (p : α × β → Bool) (f : α × β → γ) {a b : Nat} {ws : List Nat} (ha : Ev (rSq t1 R) ta σ F H xs) (hb : Ev (rSq t2 S) tb σ F H ys) (hz : xs.length ≤ 1000000) (hw : ∀ v w, wipe (((wipe σ ws).set a (some v)).set b (some w)) ws = wipe σ ws)
    (ht : ∀ (n : Nat) q v w F1 H1, (xs.zip ys)[n]? = some q → Gr M0 F H F1 H1 → R F1 v q.1 → S F1 w q.2 → EvT tt (((wipe σ ws).set a (some v)).set b (some w)) F1 H1 (p q))
    (he : ∀ (n : Nat) q v w F1 H1, (xs.zip ys)[n]? = some q → p q = true → Gr M0 F H F1 H1 → R F1 v q.1 → S F1 w q.2 → Ev T te (((wipe σ ws).set a (some v)).set b (some w)) F1 H1 (f q)) (m : Mn R := by infer_instance) (m2 : Mn S := by infer_instance) (m' : Mn T := by infer_instance) :
    Ev (rLst T) (tLc (iZipX t1 t2 K (tCons ta (tCons tb tNil))) (gTup K 2 (gCons (gName a) (gCons (gName b) gNil))) tt te ws) σ F H (((xs.zip ys).filter p).map f) := by
  intro F1 H1 g1 Q q
  refine ha F1 H1 g1 _ fun v F2 H2 g2 rv => hb F2 H2 (g1.trans g2) _ fun v2 F3 H3 g3 rw_ => ?_
  obtain ⟨c, us1, rfl, sq1, pr1⟩ := rSq_at (K := K) (Mn.mono g3.ff rv) g3.fh
  obtain ⟨d, us2, rfl, sq2, pr2⟩ := rSq_at (K := K) rw_ g3.fh
  refine ⟨c, d, us1, us2, rfl, sq1 _ _ (Ex.refl _) g3.fh, sq2 _ _ (Ex.refl _) g3.fh, fun D hD => ?_⟩
  have hlen : (xs.zip ys).length = min us1.length us2.length := by rw [List.length_zip, pr1.length, pr2.length]
  refine lc_it (walk_zx hlen) (fun i H' => ∃ F' us, Gr M0 F3 H3 F' H' ∧ F' D = none ∧ H' D = some (.lst us) ∧ Paired (T F') us ((((xs.zip ys).take i).filter p).map f)) ⟨F3, [], .loc g3.fh hD, g3.fh.free hD, upd_same, .nil⟩ (fun i H' _ ⟨F', us, g, _⟩ => ⟨sq1 _ _ g.ff g.fh, sq2 _ _ g.ff g.fh⟩) ?_ ?_
  · rintro n w H' H4 hi ⟨F', us, g, fD, hD', pu⟩ ⟨B, u1, u2, rfl, hT, rfl, h1, h2⟩
    obtain ⟨x, hx, rx⟩ := Paired.getL pr1 h1
    obtain ⟨y, hy, ry⟩ := Paired.getL pr2 h2
    have hq : (xs.zip ys)[n]? = some (x, y) := List.getElem?_zip_eq_some.mpr ⟨hx, hy⟩
    have gB : Gr M0 F' H' F' (upd H' B (.tup [u1, u2])) := .loc g.fh hT
    refine ⟨B, [u1, u2], rfl, SqT.of upd_same, rfl, u1, [u2], rfl, u2, [], rfl, rfl, hw _ _, ?_⟩
    have rx' := m.mono g.ff rx
    have ry' := m2.mono g.ff ry
    refine ht n (x, y) u1 u2 F' _ hq ((((g1.trans g2).trans g3).trans g).trans gB) rx' ry' F' _ (.refl gB.fh) _ fun F5 H5 g5 => ?_
    have e3 := take_filter_succ (p := p) (f := f) hq
    have g05 := gB.trans g5
    cases hp : p (x, y) with
    | false =>
      rw [hp] at e3
      refine ⟨F5, us, g.trans g05, g05.nn hD' fD, g05.hx _ _ hD', ?_⟩
      rw [e3]
      exact Paired.up g5.ff pu
    | true =>
      rw [hp] at e3
      refine he n (x, y) u1 u2 F5 H5 hq hp ((((g1.trans g2).trans g3).trans g).trans g05) (m.mono g5.ff rx') (m2.mono g5.ff ry') F5 H5 (.refl g5.fh) _ fun u F6 H6 g6 r6 => ?_
      have g56 := g05.trans g6
      refine ⟨us, g56.hx _ _ hD', ?_, F6, us ++ [u], (g.trans g56).set' (g56.nn hD' fD) (.inl hD), g56.nn hD' fD, upd_same, ?_⟩
      · rw [pu.length, List.length_map, sizeLine_eq]
        have := List.length_filter_le p ((xs.zip ys).take n)
        rw [List.length_take, List.length_zip] at this
        omega
      · rw [e3]
        exact (Paired.up (g5.ff.trans g6.ff) pu).snoc r6
  · rintro H' ⟨F', us, g, fD, hD', pu⟩
    rw [List.take_length] at pu
    exact q _ _ _ ((g2.trans g3).trans (g.frz hD' (g3.fh.free hD) (.inl hD))) ⟨D, us, rfl, upd_same, Paired.up (g.fh.frz hD' fD) pu⟩
/-- for x, y in zip(xs, ys) -/
theorem x_forX (t1 t2 : Bool) {a b : Nat} (e : Ex F H) (ha : Ev (rSq t1 R) ta σ F H xs) (hb : Ev (rSq t2 S) tb σ F H ys) (Pv : Nat → St → Hp → Hp → Prop) (h0 : ∀ F1 H1, Gr M0 F H F1 H1 → Pv 0 σ F1 H1)
    (hst : ∀ n σ' F' H' F2 H2, Gr M0 F' H' F2 H2 → Pv n σ' F' H' → Pv n σ' F2 H2)
    (hs : ∀ F1, Ex F F1 → ∀ n q v w σ' F' H', (xs.zip ys)[n]? = some q → Ex F1 F' → Ex F' H' → R F' v q.1 → S F' w q.2 → Pv n σ' F' H' →
      ts { D with nx := fun σ2 H2 => ∃ F2, Ex F1 F2 ∧ Ex F2 H2 ∧ Pv (n + 1) σ2 F2 H2, ct := fun σ2 H2 => ∃ F2, Ex F1 F2 ∧ Ex F2 H2 ∧ Pv (n + 1) σ2 F2 H2, bk := D.nx } ((σ'.set a (some v)).set b (some w)) H')
    (hd : ∀ σ' F' H', Ex F F' → Ex F' H' → Pv (xs.zip ys).length σ' F' H' → D.nx σ' H') (m : Mn R := by infer_instance) (m2 : Mn S := by infer_instance) : tFor (iZipX t1 t2 K (tCons ta (tCons tb tNil))) (gTup K 2 (gCons (gName a) (gCons (gName b) gNil))) ts D σ H := by
  refine ha F H (.refl e) _ fun v F2 H2 g2 rv => hb F2 H2 g2 _ fun v2 F3 H3 g3 rw_ => ?_
  obtain ⟨c, us1, rfl, sq1, pr1⟩ := rSq_at (K := K) (Mn.mono g3.ff rv) g3.fh
  obtain ⟨d, us2, rfl, sq2, pr2⟩ := rSq_at (K := K) rw_ g3.fh
  refine ⟨c, d, us1, us2, rfl, sq1 _ _ (Ex.refl _) g3.fh, sq2 _ _ (Ex.refl _) g3.fh, ?_⟩
  have hlen : (xs.zip ys).length = min us1.length us2.length := by rw [List.length_zip, pr1.length, pr2.length]
  refine for_it (walk_zx hlen) (fun i σ' H' => ∃ F', Ex F3 F' ∧ Ex F' H' ∧ Pv i σ' F' H') ⟨F3, Ex.refl _, g3.fh, h0 F3 H3 (g2.trans g3)⟩ (fun i σ' H' _ ⟨F', e1, e2, _⟩ => ⟨sq1 _ _ e1 e2, sq2 _ _ e1 e2⟩) ?_ ?_
  · rintro n w σ' H' H4 hi ⟨F', e1, e2, pv⟩ ⟨B, u1, u2, rfl, hT, rfl, h1, h2⟩
    obtain ⟨x, hx, rx⟩ := Paired.getL pr1 h1
    obtain ⟨y, hy, ry⟩ := Paired.getL pr2 h2
    have hq : (xs.zip ys)[n]? = some (x, y) := List.getElem?_zip_eq_some.mpr ⟨hx, hy⟩
    have gB : Gr M0 F' H' F' (upd H' B (.tup [u1, u2])) := .loc e2 hT
    exact ⟨B, [u1, u2], rfl, SqT.of upd_same, rfl, u1, [u2], rfl, u2, [], rfl, rfl, hs F3 (g2.ff.trans g3.ff) n (x, y) u1 u2 σ' F' _ hq e1 gB.fh (m.mono e1 rx) (m2.mono e1 ry) (hst _ _ _ _ _ _ gB pv)⟩
  · rintro σ' H' ⟨F', e1, e2, pv⟩
    exact hd σ' F' H' ((g2.ff.trans g3.ff).trans e1) e2 pv
/-- x = [elt for k in range(n)], a list that may change -/
theorem x_lcRM {n j q : Nat} {ws : List Nat} {zs : List γ} (e : Ex F H) (h : Ev rInt ta σ F H (n : Int)) (hlen : zs.length = n) (hz : n ≤ 1000000) (hw : ∀ v, wipe ((wipe σ ws).set j (some v)) ws = wipe σ ws)
    (he : ∀ i y F1 H1, i < n → zs[i]? = some y → Gr M0 F H F1 H1 → Ev T te ((wipe σ ws).set j (some (.int (i : Int)))) F1 H1 y)
    (k : ∀ l us F' H', Gr M0 F H F' H' → H l = none → F' l = none → H' l = some (.lst us) → Paired (T F') us zs → D.nx (σ.set q (some (.ref l))) H') (m' : Mn T := by infer_instance) : tAsg (tLc (iRng1 (tCons ta tNil)) (gName j) tYes te ws) (gName q) D σ H := by
  refine h F H (.refl e) _ fun v F2 H2 g2 ea => ⟨(n : Int), by rw [show v = _ from ea], by omega, by omega, fun B hD => ?_⟩
  rw [Int.toNat_natCast]
  refine lc_range (lo := 0) (n := n) (fun i H' => ∃ F' us, Gr M0 F2 H2 F' H' ∧ F' B = none ∧ H' B = some (.lst us) ∧ Paired (T F') us (zs.take i)) ⟨F2, [], .loc g2.fh hD, g2.fh.free hD, upd_same, .nil⟩ ?_ ?_
  · rintro i H' hi ⟨F', us, g, fD, hD', pu⟩
    have hil : i < zs.length := by rw [hlen]; exact hi
    have hy : zs[i]? = some zs[i] := List.getElem?_eq_getElem hil
    have e0 : (0 : Int) + (i : Int) = (i : Int) := Int.zero_add _
    rw [e0]
    refine ⟨hw _, ?_⟩
    refine he i zs[i] F' H' hi hy (g2.trans g) F' H' (.refl g.fh) _ fun u F3 H3 g3 r3 => ?_
    refine ⟨us, g3.hx _ _ hD', ?_, F3, us ++ [u], (g.trans g3).set' (g3.nn hD' fD) (.inl hD), g3.nn hD' fD, upd_same, ?_⟩
    · rw [pu.length, List.length_take, sizeLine_eq]
      omega
    · rw [List.take_add_one, hy]
      exact (Paired.up g3.ff pu).snoc r3
  · rintro H' ⟨F', us, g, fD, hD', pu⟩
    rw [← hlen, List.take_length] at pu
    exact k B us F' H' (g2.trans g) (Ex.free g2.hx hD) fD hD' pu
end
/-! ### walks -/
structure Wlk where
  whole : Nat
  rows : List (List Nat)
  h0 : 1 ≤ whole
  h1 : whole ≤ 1000000
  h2 : 1 ≤ rows.length
  h3 : rows.length ≤ 32
  h4 : ∀ r ∈ rows, r.length = rows.length ∧ r.sum = whole
def Wlk.P (W : Wlk) (a b : Nat) : Nat := (W.rows.getD a []).getD b 0
theorem Wlk.row (W : Wlk) {a : Nat} (ha : a < W.rows.length) : (W.rows.getD a []).length = W.rows.length ∧ (W.rows.getD a []).sum = W.whole := W.h4 _ (List.mem_of_getElem? (at_getD ha))
theorem Wlk.chain (W : Wlk) : Chain W.rows.length W.P W.whole := ⟨W.h0, fun a ha => by
  obtain ⟨h1, h2⟩ := W.row ha
  rw [← h2, ← sumQ_list, h1]
  rfl⟩
theorem Wlk.le (W : Wlk) {a b : Nat} (ha : a < W.rows.length) (hb : b < W.rows.length) : W.P a b ≤ W.whole := by
  obtain ⟨h1, h2⟩ := W.row ha
  rw [← h2]
  exact sum_ge (List.mem_of_getElem? (at_getD (by rw [h1]; exact hb)))
def rWalk (C : Addr) : Rp Wlk := fun H v W => ∃ a dx l, v = .ref a ∧ H a = some (.ins C dx [("whole", .int (W.whole : Int)), ("rows", l)]) ∧ rLst (rLst rNat) H l W.rows
instance {C : Addr} : Mn (rWalk C) := ⟨fun e ⟨a, dx, l, h1, h2, h3⟩ => ⟨a, dx, l, h1, e _ _ h2, Mn.mono e h3⟩⟩
instance {C : Addr} : NotN (rWalk C) := ⟨fun ⟨_, _, _, h, _⟩ e => by rw [h] at e; cases e⟩
instance {C : Addr} : IsI (rWalk C) C "__len__" := ⟨fun ⟨a, dx, l, h1, h2, h3⟩ => ⟨a, dx, _, h1, h2, rfl⟩⟩
instance {C : Addr} : IsI (rWalk C) C "share" := ⟨fun ⟨a, dx, l, h1, h2, h3⟩ => ⟨a, dx, _, h1, h2, rfl⟩⟩
theorem fld_wwhole {K : PySem.W.Frag} {C : Addr} (c : Cls K C) (n : NoAttr K C "whole") : IsF (rWalk C) K "whole" rNat Wlk.whole := ⟨fun ⟨a, dx, l, h1, h2, h3⟩ => ⟨a, C, dx, _, _, h1, h2, c, n, rfl, rfl⟩⟩
theorem fld_wrows {K : PySem.W.Frag} {C : Addr} (c : Cls K C) (n : NoAttr K C "rows") : IsF (rWalk C) K "rows" (rLst (rLst rNat)) Wlk.rows := ⟨fun ⟨a, dx, l, h1, h2, h3⟩ => ⟨a, C, dx, _, _, h1, h2, c, n, rfl, h3⟩⟩
def SpWalk (C : Addr) : Sp := fun vs H Q _ => ∃ (F : Hp) (a dx : Addr) (l : V) (W : Wlk), vs = [.ref a, .int (W.whole : Int), l] ∧ Ex F H ∧ F a = none ∧ H a = some (.ins C dx []) ∧ rLst (rLst rNat) F l W.rows ∧
  ∀ F' H', Gr (M1 a) F H F' H' → rWalk C F' (.ref a) W → Q .non H'
instance {C : Addr} : SpLen (SpWalk C) 3 := ⟨fun ⟨_, _, _, _, _, h, _⟩ => by rw [h]; rfl⟩
theorem ev_Walk {σ : St} {F H : Hp} {ta tb : TE} {C : Addr} {W : Wlk} {E : XK} (ha : Ev rInt ta σ F H (W.whole : Int)) (hb : Ev (rLst (rLst rNat)) tb σ F H W.rows) : Ev (rWalk C) (tMake C (SpWalk C) [] E (tCons ta (tCons tb tNil))) σ F H W := fun F1 H1 g1 Q q =>
  ha F1 H1 g1 _ fun v F2 H2 g2 r => hb F2 H2 (g1.trans g2) _ fun w F3 H3 g3 r3 => fun x dx nx ndx nex => by
    cases (show v = _ from r)
    have e1 : Ex F3 (upd (upd H3 dx (.own x)) x (.ins C dx [])) := (g3.fh.mut (g3.fh.free ndx)).mut (g3.fh.free nx)
    exact ⟨F3, x, dx, w, W, rfl, e1, g3.fh.free nx, upd_same, r3, fun F' H' g k => ⟨rfl, q _ F' H' ((g2.trans g3).trans (.made (M := M0) nx ndx nex.symm g)) k⟩⟩
/-- the walk as which turns go -/
def cntM (ms : List (List Nat)) (p q : Nat) : Nat := (ms.filter fun m => decide (m.getD p 0 = q)).length
def walkRows (t : Tn) : List (List Nat) := (List.range t.many).map fun p => (List.range t.many).map fun q => cntM t.maps p q
theorem cnt_sum {n p : Nat} : ∀ {ms : List (List Nat)}, (∀ m ∈ ms, m.getD p 0 < n) → ((List.range n).map fun q => cntM ms p q).sum = ms.length
  | [], _ => by
    have : ∀ l : List Nat, (l.map fun q => cntM [] p q).sum = 0 := fun l => by
      induction l with
      | nil => rfl
      | cons a l ih => rw [List.map_cons, List.sum_cons, ih]; rfl
    exact this _
  | m :: ms, h => by
    have ih := cnt_sum (n := n) (p := p) (ms := ms) fun m' hm' => h m' (List.mem_cons_of_mem _ hm')
    have hm := h m List.mem_cons_self
    have e : ∀ q, cntM (m :: ms) p q = (if m.getD p 0 = q then 1 else 0) + cntM ms p q := fun q => by
      unfold cntM
      rw [List.filter_cons]
      by_cases z : m.getD p 0 = q
      · rw [if_pos (decide_eq_true z), if_pos z, List.length_cons]; omega
      · rw [if_neg (by rw [decide_eq_false z]; exact Bool.false_ne_true), if_neg z]; omega
    have s : ∀ (l : List Nat) (f g : Nat → Nat), (l.map fun q => f q + g q).sum = (l.map f).sum + (l.map g).sum := fun l f g => by
      induction l with
      | nil => rfl
      | cons a l ih => rw [List.map_cons, List.map_cons, List.map_cons, List.sum_cons, List.sum_cons, List.sum_cons, ih]; omega
    have one : ∀ (k c : Nat), c < k → ((List.range k).map fun q => if c = q then 1 else 0).sum = 1 := fun k c hc => by
      induction k with
      | zero => omega
      | succ k ih =>
        rw [List.range_succ, List.map_append, List.sum_append, List.map_cons, List.map_nil, List.sum_cons, List.sum_nil]
        by_cases z : c = k
        · have z0 : ∀ j, j ≤ k → ((List.range j).map fun q => if c = q then 1 else 0).sum = 0 := fun j hj => by
            induction j with
            | zero => rfl
            | succ j ih2 =>
              rw [List.range_succ, List.map_append, List.sum_append, ih2 (by omega), List.map_cons, List.map_nil, List.sum_cons, List.sum_nil, if_neg (by omega)]
              rfl
          rw [z0 k (Nat.le_refl _), if_pos z]
          rfl
        · rw [ih (by omega), if_neg z]
          rfl
    rw [List.map_congr_left fun q _ => e q, s, ih, one n _ hm, List.length_cons]
    omega
def walkM (t : Tn) : Wlk where
  whole := t.maps.length
  rows := walkRows t
  h0 := t.h2
  h1 := Nat.le_trans t.h3 (by decide)
  h2 := by unfold walkRows; rw [List.length_map, List.length_range]; exact t.h0
  h3 := by unfold walkRows; rw [List.length_map, List.length_range]; exact t.h1
  h4 := fun r hr => by
    unfold walkRows at hr ⊢
    obtain ⟨p, hp, rfl⟩ := List.mem_map.mp hr
    have hp := List.mem_range.mp hp
    refine ⟨by rw [List.length_map, List.length_range, List.length_map, List.length_range], cnt_sum fun m hm => ?_⟩
    obtain ⟨h1, h2⟩ := t.h4 m hm
    exact h2 _ (List.mem_of_getElem? (at_getD (by rw [h1]; exact hp)))
theorem walk_n (t : Tn) : (walkM t).rows.length = t.many := by show (walkRows t).length = _; unfold walkRows; rw [List.length_map, List.length_range]
theorem walk_P (t : Tn) {p q : Nat} (hp : p < t.many) (hq : q < t.many) : (walkM t).P p q = cntM t.maps p q := by
  show ((walkRows t).getD p []).getD q 0 = _
  unfold walkRows
  rw [getD_range hp, getD_range hq]
/-- what is found by looking on is all that is come to -/
theorem found_reach {n : Nat} {P : Nat → Nat → Nat} {p : Nat} {xs : List Nat} (hp : p < n) (nd : xs.Nodup) (h0 : p ∈ xs) (h1 : ∀ x ∈ xs, Rch (stepC n P) p x) (h2 : ∀ x ∈ xs, ∀ t, t < n → 0 < P x t → t ∈ xs) : sortN xs = reachC n P p := by
  have all : ∀ q, Rch (stepC n P) p q → q ∈ xs := fun q h => by
    induction h with
    | refl => exact h0
    | step _ e ih => exact h2 _ ih _ e.1 e.2
  have hs : (reachC n P p).Pairwise (· ≤ ·) := by
    unfold reachC
    refine List.Pairwise.filter _ ?_
    exact List.pairwise_le_range
  have hnd : (reachC n P p).Nodup := by unfold reachC; exact List.nodup_range.filter _
  refine sorted_eq ((sort_perm xs).trans ((List.perm_ext_iff_of_nodup nd hnd).mpr fun q => ?_)) (sort_sorted xs) hs
  rw [mem_reach hp]
  exact ⟨fun h => h1 q h, fun h => all q h⟩
noncomputable def reachW (W : Wlk) (p : Nat) : List Nat := reachC W.rows.length W.P p
noncomputable def closedW (W : Wlk) : List (List Nat) := closedC W.rows.length W.P
noncomputable def restWk (W : Wlk) : List Rat := restW W.rows.length W.P W.whole ((closedW W).headD [])
/-- the shares laid into the row, one behind another -/
theorem spread_take {C : List Nat} {n k : Nat} (v : Nat → Rat) (nd : C.Nodup) (hk : k < C.length) (hC : ∀ a ∈ C, a < n) :
    ((List.range n).map fun a => sumQ k fun j => if C.getD j 0 = a then v j else 0).set (C.getD k 0) (v k) = (List.range n).map fun a => sumQ (k + 1) fun j => if C.getD j 0 = a then v j else 0 := by
  have hm : C.getD k 0 < n := hC _ (List.mem_of_getElem? (at_getD hk))
  refine ext_getD 0 (by rw [List.length_set, List.length_map, List.length_map]) fun a ha => ?_
  rw [List.length_set, List.length_map, List.length_range] at ha
  rw [getD_range ha]
  show _ = (sumQ k fun j => if C.getD j 0 = a then v j else 0) + (if C.getD k 0 = a then v k else 0)
  by_cases z : C.getD k 0 = a
  · rw [if_pos z, z, getD_eq (by rw [List.getElem?_set_self (by rw [List.length_map, List.length_range]; omega)]), sumQ_zero fun j hj => if_neg fun z2 => ?_]
    · exact (Rat.zero_add _).symm
    · have h1 := at_getD (d := 0) (show j < C.length by omega)
      have h2 := at_getD (d := 0) hk
      rw [z2, ← z] at h1
      have := (List.getElem?_inj (by omega) nd).mp (h1.trans h2.symm)
      omega
  · rw [if_neg z, List.getD_eq_getElem?_getD, List.getElem?_set_ne z, ← List.getD_eq_getElem?_getD, getD_range ha]
    exact (Rat.add_zero _).symm
theorem rest_big {c : Nat} (h : c ≤ 32) : c ^ c * 1000000 ^ c ≤ 2 ^ 800 := by
  have h1 : c ^ c ≤ 32 ^ 32 := Nat.le_trans (Nat.pow_le_pow_left h c) (Nat.pow_le_pow_right (by omega) h)
  have h2 : 1000000 ^ c ≤ (2 ^ 20) ^ 32 := Nat.le_trans (Nat.pow_le_pow_left (show 1000000 ≤ 2 ^ 20 by decide) c) (Nat.pow_le_pow_right (by decide) h)
  have h3 : 32 ^ 32 * (2 ^ 20) ^ 32 = 2 ^ 800 := by
    rw [show (32 : Nat) = 2 ^ 5 by decide, ← Nat.pow_mul, ← Nat.pow_mul, ← Nat.pow_add]
  exact Nat.le_trans (Nat.mul_le_mul h1 h2) (Nat.le_of_eq h3)
/-- shares of the resting row -/
theorem rest_over {W : Wlk} {C : List Nat} (hC : closedW W = [C]) : ∃ D : Int, D ≠ 0 ∧ D.natAbs < 2 ^ 4000 ∧ ∀ x ∈ restWk W, ∃ p : Int, x = Rat.divInt p D ∧ p.natAbs ≤ 2 ^ 800 := by
  have sv := rest_solv W.chain W.h3 W.h1 (fun a b ha hb => W.le ha hb) hC
  obtain ⟨m, hm, hCm, hmC, hall⟩ := closed_in (n := W.rows.length) (P := W.P) (C := C) (by rw [show closedC W.rows.length W.P = [C] from hC]; exact List.mem_singleton.mpr rfl)
  have hne : C ≠ [] := List.ne_nil_of_mem hmC
  have hlen : C.length ≤ W.rows.length := by
    rw [hCm]
    unfold reachC
    exact Nat.le_trans (List.length_filter_le _ _) (by rw [List.length_range]; exact Nat.le_refl _)
  have hlen2 := rest_len (P := W.P) (W := W.whole) hne
  have hnd : C.Nodup := by rw [hCm]; exact List.nodup_range.filter _
  have h3 := W.h3
  obtain ⟨D, hD, hD2, h⟩ := solR_over sv
  refine ⟨D, hD, hD2, fun x hx => ?_⟩
  unfold restWk at hx
  rw [hC] at hx
  unfold restW at hx
  obtain ⟨a, ha, rfl⟩ := List.mem_map.mp hx
  by_cases haC : a ∈ C
  · obtain ⟨j, hj⟩ := List.mem_iff_getElem?.mp haC
    have hjl := (List.getElem?_eq_some_iff.mp hj).1
    have ea : C.getD j 0 = a := getD_eq hj
    obtain ⟨p, h1, h2⟩ := h j 0 (by omega) (by omega)
    refine ⟨p, ?_, ?_⟩
    · show spread C (fun j => ((solR (restRows W.P W.whole C) (C.length + 1)).getD j []).getD 0 0) a = _
      rw [← ea]
      exact (spread_at hnd hjl _).trans h1
    · rw [hlen2] at h2
      exact Nat.le_trans h2 (rest_big (by omega))
  · refine ⟨0, ?_, Nat.zero_le _⟩
    rw [zero_div]
    exact spread_off haC _
theorem rest_sumOk {W : Wlk} {C : List Nat} (hC : closedW W = [C]) {xs : List Rat} (h : ∀ x ∈ xs, x ∈ restWk W) (hl : xs.length ≤ 32) : SumOk xs := by
  obtain ⟨D, h1, h2, h3⟩ := rest_over hC
  refine ⟨D, 2 ^ 800, ⟨h1, fun x hx => h3 x (h x hx)⟩, h2, ?_, by omega⟩
  have : xs.length * 2 ^ 800 ≤ 2 ^ 5 * 2 ^ 800 := Nat.mul_le_mul_right _ (show xs.length ≤ 2 ^ 5 by omega)
  rw [← Nat.pow_add] at this
  exact Nat.lt_of_le_of_lt this (Nat.pow_lt_pow_right (by omega) (by omega))
end El

set_option Elab.async false
set_option linter.all false
set_option maxRecDepth 100000
set_option maxHeartbeats 4000000
namespace El
open PySem PySem.Spec L2
section
variable {K : PySem.W.Frag} {σ : St} {F H F' H' : Hp} {ta tb tc td te tl : TE} {tr : TA} {tt : TT} {α β γ δ : Type} {R : Rp α} {S : Rp β} {T : Rp γ} {x : α} {y : β} {xs : List α} {ys : List β} {D : Ends} {ts : TS} {E : XK} {i j : Int} {a : Addr} {c c1 c2 N : Nat}
/-- lists whose items are drawn -/
def EvLS {α : Type} (a : Addr) (c : Nat) (R : Rp α) (ta : TA) (σ : St) (F H : Hp) (P : List α → Prop) : Prop :=
  ∀ F1 H1 N, Gr (M1 a) F H F1 H1 → F1 a = none → Src H1 a (N + c) → ∀ Q : List V → Hp → Prop, (∀ vs xs F2 H2, Gr (M1 a) F1 H1 F2 H2 → F2 a = none → Src H2 a N → P xs → Paired (R F2) vs xs → Q vs H2) → ta σ H1 Q
theorem els_nil : EvLS a 0 R tNil σ F H (fun l => l = []) := fun F1 H1 N g fa s Q q => q [] [] F1 H1 (.refl g.fh) fa s rfl .nil
theorem els_cons {P1 : α → Prop} {P2 : List α → Prop} (ha : EvS a c1 R ta σ F H P1) (hr : EvLS a c2 R tr σ F H P2) (m : Mn R := by infer_instance) : EvLS a (c1 + c2) R (tCons ta tr) σ F H (fun l => ∃ x xs, l = x :: xs ∧ P1 x ∧ P2 xs) := fun F1 H1 N g fa s Q q =>
  ha F1 H1 (N + c2) g fa (s.le (by omega)) _ fun v x F2 H2 g2 fa2 s2 p1 r1 => hr F2 H2 N (g.trans g2) fa2 s2 _ fun vs xs F3 H3 g3 fa3 s3 p2 r2 => q (v :: vs) (x :: xs) F3 H3 (g2.trans g3) fa3 s3 ⟨x, xs, rfl, p1, p2⟩ (.cons (m.mono g3.ff r1) r2)
theorem es_lst {P : List α → Prop} (h : EvLS a c R tr σ F H P) (hz : ∀ xs, P xs → xs.length ≤ sizeLine) (m : Mn R := by infer_instance) : EvS a c (rLst R) (tLst tr) σ F H P := fun F1 H1 N g fa s Q q =>
  h F1 H1 N g fa s _ fun vs xs F2 H2 g2 fa2 s2 p r => ⟨by rw [r.length]; exact hz xs p, fun B hB => by
    have g3 : Gr M0 F2 H2 (upd F2 B (.lst vs)) (upd H2 B (.lst vs)) := .new g2.fh hB
    obtain ⟨o, ho⟩ := s2.someO
    exact q _ xs _ _ (g2.trans g3.up) (g3.nn ho fa2) (s2.gr g3) p ⟨B, vs, rfl, upd_same, Paired.up g3.ff r⟩⟩
theorem x_forLS {n : Nat} {P : List α → Prop} (h : EvS a c (rLst R) tl σ F H P) (e : Ex F H) (fa : F a = none) (s : Src H a N) (hc : c ≤ N)
    (k : ∀ xs, P xs → ∀ F1 H1, Gr (M1 a) F H F1 H1 → F1 a = none → Src H1 a (N - c) → ∃ Pv : Nat → St → Hp → Hp → Prop, Pv 0 σ F1 H1 ∧
      (∀ i x v σ' F' H', xs[i]? = some x → Ex F1 F' → Ex F' H' → R F' v x → Pv i σ' F' H' →
        ts { D with nx := fun σ2 H2 => ∃ F2, Ex F1 F2 ∧ Ex F2 H2 ∧ Pv (i + 1) σ2 F2 H2, ct := fun σ2 H2 => ∃ F2, Ex F1 F2 ∧ Ex F2 H2 ∧ Pv (i + 1) σ2 F2 H2, bk := D.nx } (σ'.set n (some v)) H') ∧
      ∀ σ' F' H', Ex F1 F' → Ex F' H' → Pv xs.length σ' F' H' → D.nx σ' H') (m : Mn R := by infer_instance) : tFor (iList K tl) (gName n) ts D σ H := by
  refine h F H (N - c) (.refl e) fa (s.le (by omega)) _ fun v xs F1 H1 g1 fa1 s1 p ⟨b, vs, eb, hl, pr⟩ => ⟨b, eb, ⟨vs, SqL.of (g1.fh _ _ hl)⟩, ?_⟩
  obtain ⟨Pv, h0, hs, hd⟩ := k xs p F1 H1 g1 fa1 s1
  refine for_list (xs := vs) (fun i σ' H' => ∃ F', Ex F1 F' ∧ Ex F' H' ∧ Pv i σ' F' H') ⟨F1, Ex.refl _, g1.fh, h0⟩ (fun i σ' H' _ ⟨F', e1, e2, _⟩ => SqL.of (e2 _ _ (e1 _ _ hl))) ?_ ?_
  · rintro i w σ' H' hi ⟨F', e1, e2, pv⟩
    obtain ⟨x, hx, rx⟩ := Paired.getL pr hi
    exact hs i x w σ' F' H' hx e1 e2 (m.mono e1 rx) pv
  · rintro σ' H' ⟨F', e1, e2, pv⟩
    rw [pr.length] at pv
    exact hd σ' F' H' e1 e2 pv
theorem ets_or {t u : TT} {P1 P2 : Bool → Prop} (h1 : EvTS a c1 t σ F H P1) (h2 : EvTS a c2 u σ F H P2) : EvTS a (c1 + c2) (tOr t u) σ F H (fun b => (b = true ∧ P1 true) ∨ (P1 false ∧ P2 b)) := fun F1 H1 N g fa s Q q =>
  h1 F1 H1 (N + c2) g fa (s.le (by omega)) _ fun b F2 H2 g2 fa2 s2 p => by
    cases b with
    | false => exact h2 F2 H2 N (g.trans g2) fa2 s2 _ fun b F3 H3 g3 fa3 s3 p3 => q b F3 H3 (g2.trans g3) fa3 s3 (.inr ⟨p, p3⟩)
    | true => exact q true F2 H2 g2 fa2 (s2.le (by omega)) (.inl ⟨rfl, p⟩)
theorem ets_not {t : TT} {P1 : Bool → Prop} (h1 : EvTS a c1 t σ F H P1) : EvTS a c1 (tNot t) σ F H (fun b => P1 (!b)) := fun F1 H1 N g fa s Q q =>
  h1 F1 H1 N g fa s _ fun b F2 H2 g2 fa2 s2 p => q (!b) F2 H2 g2 fa2 s2 (by show P1 (!!b); rw [Bool.not_not]; exact p)
end
end El

set_option Elab.async false
set_option linter.all false
set_option maxRecDepth 100000
set_option maxHeartbeats 4000000
namespace El
open PySem PySem.Spec L2
/-! ### webs without ties: how they rest (k71) -/
theorem addQ_filter (p : Nat → Bool) (f : Nat → Rat) : ∀ n, addQ (((List.range n).filter p).map f) = sumQ n fun b => if p b = true then f b else 0
  | 0 => rfl
  | n + 1 => by
    show _ = (sumQ n fun b => if p b = true then f b else 0) + (if p n = true then f n else 0)
    rw [← addQ_filter p f n, List.range_succ, List.filter_append, List.map_append]
    unfold addQ
    rw [List.foldl_append, List.filter_cons]
    by_cases h : p n = true
    · rw [if_pos h, if_pos h]; rfl
    · rw [if_neg h, if_neg h]; exact (Rat.add_zero _).symm
theorem natQ_add (a b : Nat) : ((a + b : Nat) : Rat) = (a : Rat) + (b : Rat) := Rat.intCast_add (a : Int) (b : Int)
theorem natQ_mul (a b : Nat) : ((a * b : Nat) : Rat) = (a : Rat) * (b : Rat) := Rat.intCast_mul (a : Int) (b : Int)
theorem cnt_pred {N a : Nat} (g : Nat → Bool) : ∀ {ms : List (List Nat)}, (∀ m ∈ ms, m.getD a 0 < N) → (sumQ N fun b => if g b = true then (cntM ms a b : Rat) else 0) = ((ms.filter fun m => g (m.getD a 0)).length : Rat)
  | [], _ => by
    rw [sumQ_zero fun b _ => by
      show (if g b = true then ((0 : Nat) : Rat) else 0) = 0
      split <;> rfl]
    rfl
  | m :: ms, h => by
    have hm := h m List.mem_cons_self
    have ih := cnt_pred (N := N) (a := a) g (ms := ms) fun m' hm' => h m' (List.mem_cons_of_mem _ hm')
    have e : (sumQ N fun b => if g b = true then (cntM (m :: ms) a b : Rat) else 0) = sumQ N fun b => (if m.getD a 0 = b then (if g (m.getD a 0) = true then 1 else 0) else 0) + (if g b = true then (cntM ms a b : Rat) else 0) := sumQ_congr fun b _ => by
      unfold cntM
      rw [List.filter_cons]
      by_cases z : m.getD a 0 = b
      · rw [if_pos (decide_eq_true z), if_pos z, z, List.length_cons, natQ_add]
        split
        · rw [Rat.add_comm]; rfl
        · exact (Rat.add_zero _).symm
      · rw [if_neg z, Rat.zero_add, if_neg (show ¬ decide (m.getD a 0 = b) = true by rw [decide_eq_false z]; exact Bool.false_ne_true)]
    rw [e, sumQ_add, ih, sumQ_one hm fun b _ hne => if_neg fun z => hne z.symm, if_pos rfl, List.filter_cons]
    split
    · rw [List.length_cons, natQ_add, Rat.add_comm]; rfl
    · exact Rat.zero_add _
/-- a web without ties, all levels alike -/
structure Apart (W : Wb) (L : Nat) : Prop where
  ties : W.ties = []
  lev : W.levels = List.replicate W.spots L
  few : W.spots ≤ 3
theorem apart_le {W : Wb} {L : Nat} (h : Apart W L) : L ≤ W.whole := W.h7 L (by rw [h.lev]; exact List.mem_replicate.mpr ⟨by have := W.h0; omega, rfl⟩)
theorem apart_moved {W : Wb} {L : Nat} (h : Apart W L) (p s k : Nat) : movedM W p s k = setM p s (decide (k < L)) := by
  have e : standB W p s k = decide (k < L) := by
    unfold standB countM tiedM
    rw [h.ties, h.lev]
    have : (List.replicate W.spots L).getD 0 0 = L := getD_eq (by rw [List.getElem?_replicate, if_pos (show 0 < W.spots from W.h0)])
    show decide (k < (List.replicate W.spots L).getD 0 0) = _
    rw [this]
  unfold movedM setM
  rw [e]
theorem set_ups : ((List.range 4).all fun n => (List.range n).all fun s => (List.range n).all fun sp => (List.range (2 ^ n)).all fun a => [true, false].all fun b => upB (setM a sp b) s == (if sp = s then b else upB a s)) = true := by decide +kernel
theorem set_all_to : ((List.range 4).all fun n => (List.range (2 ^ n)).all fun a => [true, false].all fun b => (List.range n).foldl (fun p s => setM p s b) a == (if b = true then 2 ^ n - 1 else 0)) = true := by decide +kernel
theorem set_lts : ((List.range 4).all fun n => (List.range n).all fun s => (List.range (2 ^ n)).all fun a => [true, false].all fun b => decide (setM a s b < 2 ^ n)) = true := by decide +kernel
section
variable {W : Wb} {L : Nat}
theorem apart_step (h : Apart W L) {a s : Nat} {b : Bool} (ha : a < 2 ^ W.spots) (hs : s < W.spots) (hb : ∃ k, k < W.whole ∧ decide (k < L) = b) : stepC (walkM (turnsM W)).rows.length (walkM (turnsM W)).P a (setM a s b) := by
  obtain ⟨k, hk, hkb⟩ := hb
  have hf := h.few
  have hlt : setM a s b < 2 ^ W.spots := by
    have := List.all_eq_true.mp (List.all_eq_true.mp (List.all_eq_true.mp (List.all_eq_true.mp set_lts W.spots (List.mem_range.mpr (by omega))) s (List.mem_range.mpr hs)) a (List.mem_range.mpr ha)) b (by cases b <;> simp)
    exact of_decide_eq_true this
  rw [stepC, walk_n]
  refine ⟨hlt, ?_⟩
  rw [walk_P _ ha hlt]
  unfold cntM
  refine List.length_pos_iff.mpr (List.ne_nil_of_mem (a := (List.range (2 ^ W.spots)).map fun p => movedM W p s k) (List.mem_filter.mpr ⟨?_, ?_⟩))
  · show _ ∈ turnsML W
    unfold turnsML
    exact List.mem_flatten.mpr ⟨_, List.mem_map.mpr ⟨s, List.mem_range.mpr hs, rfl⟩, List.mem_map.mpr ⟨k, List.mem_range.mpr hk, rfl⟩⟩
  · rw [getD_range ha, apart_moved h, hkb]
    exact decide_eq_true rfl
theorem apart_come (h : Apart W L) {b : Bool} (hb : ∃ k, k < W.whole ∧ decide (k < L) = b) : ∀ a, a < 2 ^ W.spots → Rch (stepC (walkM (turnsM W)).rows.length (walkM (turnsM W)).P) a (if b = true then 2 ^ W.spots - 1 else 0) := fun a ha => by
  have hf := h.few
  have e := List.all_eq_true.mp (List.all_eq_true.mp (List.all_eq_true.mp set_all_to W.spots (List.mem_range.mpr (by omega))) a (List.mem_range.mpr ha)) b (by cases b <;> simp)
  rw [← beq_iff_eq.mp e]
  have key : ∀ k, k ≤ W.spots → (List.range k).foldl (fun p s => setM p s b) a < 2 ^ W.spots ∧ Rch (stepC (walkM (turnsM W)).rows.length (walkM (turnsM W)).P) a ((List.range k).foldl (fun p s => setM p s b) a) := fun k => by
    induction k with
    | zero => exact fun _ => ⟨ha, .refl a⟩
    | succ k ih =>
      intro hk
      obtain ⟨i1, i2⟩ := ih (by omega)
      rw [List.range_succ, List.foldl_append]
      have st := apart_step h (s := k) i1 (by omega) hb
      exact ⟨by have := st.1; rw [walk_n] at this; exact this, i2.step st⟩
  exact (key W.spots (Nat.le_refl _)).2
theorem apart_closed (h : Apart W L) : ∃ C, closedW (walkM (turnsM W)) = [C] := by
  have hp := Nat.two_pow_pos W.spots
  have w4 := W.h4
  have hl := apart_le h
  have hn : (walkM (turnsM W)).rows.length = 2 ^ W.spots := walk_n _
  by_cases e : L < W.whole
  · have := apart_come h (b := false) ⟨L, e, decide_eq_false (Nat.lt_irrefl L)⟩
    exact ⟨_, closed_one (z := 0) (by omega) fun p hp2 => this p (by omega)⟩
  · have := apart_come h (b := true) ⟨0, w4, decide_eq_true (by omega)⟩
    exact ⟨_, closed_one (z := 2 ^ W.spots - 1) (by omega) fun p hp2 => this p (by omega)⟩
theorem flat_filter {α : Type} (q : α → Bool) : ∀ ls : List (List α), (ls.flatten.filter q).length = (ls.map fun l => (l.filter q).length).sum
  | [] => rfl
  | l :: ls => by rw [List.flatten_cons, List.filter_append, List.length_append, List.map_cons, List.sum_cons, flat_filter q ls]
theorem lt_count {w L : Nat} (h : L ≤ w) : ((List.range w).filter fun k => decide (k < L)).length = L := by
  induction w generalizing L with
  | zero => have : L = 0 := by omega
            subst this; rfl
  | succ w ih =>
    rw [List.range_succ, List.filter_append, List.length_append]
    by_cases e : L = w + 1
    · subst e
      have e1 : ((List.range w).filter fun k => decide (k < w + 1)) = List.range w := List.filter_eq_self.mpr fun k hk => decide_eq_true (by have := List.mem_range.mp hk; omega)
      rw [e1, List.length_range, List.filter_cons, if_pos (decide_eq_true (by omega))]
      rfl
    · rw [ih (by omega), List.filter_cons, if_neg (by rw [decide_eq_false (by omega)]; exact Bool.false_ne_true)]
      rfl
/-- how many signs lead a place to one where a spot is up -/
theorem apart_ups (h : Apart W L) {a s : Nat} (ha : a < 2 ^ W.spots) (hs : s < W.spots) : ((turnsM W).maps.filter fun m => upB (m.getD a 0) s).length = L + (W.spots - 1) * (if upB a s = true then W.whole else 0) := by
  have hf := h.few
  have hl := apart_le h
  show ((turnsML W).filter _).length = _
  unfold turnsML
  rw [flat_filter, List.map_map]
  have e : ∀ sp, sp < W.spots → ((((List.range W.whole).map fun k => (List.range (2 ^ W.spots)).map fun p => movedM W p sp k).filter fun m => upB (m.getD a 0) s).length) = if sp = s then L else if upB a s = true then W.whole else 0 := fun sp hsp => by
    rw [List.filter_map, List.length_map]
    have e2 : ((fun m => upB (m.getD a 0) s) ∘ fun k => (List.range (2 ^ W.spots)).map fun p => movedM W p sp k) = fun k => if sp = s then decide (k < L) else upB a s := by
      funext k
      show upB (((List.range (2 ^ W.spots)).map fun p => movedM W p sp k).getD a 0) s = _
      rw [getD_range ha, apart_moved h]
      have := List.all_eq_true.mp (List.all_eq_true.mp (List.all_eq_true.mp (List.all_eq_true.mp (List.all_eq_true.mp set_ups W.spots (List.mem_range.mpr (by omega))) s (List.mem_range.mpr hs)) sp (List.mem_range.mpr hsp)) a (List.mem_range.mpr ha)) (decide (k < L)) (by cases decide (k < L) <;> simp)
      exact beq_iff_eq.mp this
    rw [e2]
    by_cases z : sp = s
    · rw [if_pos z, List.filter_congr fun k _ => by rw [if_pos z]]
      exact lt_count hl
    · rw [if_neg z, List.filter_congr fun k _ => by rw [if_neg z]]
      by_cases u : upB a s = true
      · rw [if_pos u, u, List.filter_eq_self.mpr fun _ _ => rfl, List.length_range]
      · have u' : upB a s = false := by simpa using u
        rw [if_neg u, u', List.filter_eq_nil_iff.mpr fun _ _ => Bool.false_ne_true]
        rfl
  have e3 : ((List.range W.spots).map ((fun l => (l.filter fun m => upB (m.getD a 0) s).length) ∘ fun sp => (List.range W.whole).map fun k => (List.range (2 ^ W.spots)).map fun p => movedM W p sp k)).sum = ((List.range W.spots).map fun sp => if sp = s then L else if upB a s = true then W.whole else 0).sum := by
    congr 1
    exact List.map_congr_left fun sp hsp => e sp (List.mem_range.mp hsp)
  rw [e3]
  have key : ∀ (n c : Nat), ((List.range n).map fun sp => if sp = s then L else c).sum = if s < n then L + (n - 1) * c else n * c := fun n c => by
    induction n with
    | zero => rw [if_neg (by omega)]; simp
    | succ n ih =>
      rw [List.range_succ, List.map_append, List.sum_append, ih, List.map_cons, List.map_nil, List.sum_cons, List.sum_nil]
      by_cases z : n = s
      · subst z
        rw [if_pos rfl, if_neg (Nat.lt_irrefl _), if_pos (by omega), Nat.add_sub_cancel]
        omega
      · rw [if_neg z]
        by_cases z2 : s < n
        · rw [if_pos z2, if_pos (by omega), Nat.add_sub_cancel]
          obtain ⟨n', rfl⟩ : ∃ n', n = n' + 1 := ⟨n - 1, by omega⟩
          rw [Nat.add_sub_cancel, Nat.succ_mul]
          omega
        · rw [if_neg z2, if_neg (by omega), Nat.succ_mul]
          omega
  rw [key, if_pos hs]
/-- the share of a spot up -/
theorem apart_share (h : Apart W L) {s : Nat} (hs : s < W.spots) {C : List Nat} (hC : closedW (walkM (turnsM W)) = [C]) :
    addQ (((List.range (2 ^ W.spots)).filter fun b => upB b s).map fun b => (restWk (walkM (turnsM W))).getD b 0) = Rat.divInt (L : Int) (W.whole : Int) := by
  have hn : (walkM (turnsM W)).rows.length = 2 ^ W.spots := walk_n _
  obtain ⟨st, sm⟩ := rest_facts (walkM (turnsM W)).chain (walkM (turnsM W)).h3 (walkM (turnsM W)).h1 (fun a b ha hb => (walkM (turnsM W)).le ha hb) hC
  have er : restW (walkM (turnsM W)).rows.length (walkM (turnsM W)).P (walkM (turnsM W)).whole C = restWk (walkM (turnsM W)) := by
    unfold restWk
    rw [hC]
    rfl
  rw [er, hn] at st sm
  have ew : (walkM (turnsM W)).whole = W.spots * W.whole := turns_len
  rw [addQ_filter]
  generalize hx : (fun a => (restWk (walkM (turnsM W))).getD a 0) = x at st sm
  have hx' : ∀ a, (restWk (walkM (turnsM W))).getD a 0 = x a := fun a => by rw [← hx]
  have eU : (sumQ (2 ^ W.spots) fun b => if upB b s = true then (restWk (walkM (turnsM W))).getD b 0 else 0) = sumQ (2 ^ W.spots) fun b => if upB b s = true then x b else 0 := sumQ_congr fun b _ => by rw [hx']
  rw [eU]
  generalize hU : (sumQ (2 ^ W.spots) fun b => if upB b s = true then x b else 0) = U
  have h1 : (sumQ (2 ^ W.spots) fun b => if upB b s = true then ((walkM (turnsM W)).whole : Rat) * x b else 0) = ((walkM (turnsM W)).whole : Rat) * U := by
    rw [← hU, ← sumQ_mul]
    refine sumQ_congr fun b _ => ?_
    split
    · rfl
    · exact (Rat.mul_zero _).symm
  have h2 : (sumQ (2 ^ W.spots) fun b => if upB b s = true then ((walkM (turnsM W)).whole : Rat) * x b else 0) = sumQ (2 ^ W.spots) fun b => sumQ (2 ^ W.spots) fun a => if upB b s = true then x a * ((walkM (turnsM W)).P a b : Rat) else 0 := sumQ_congr fun b hb => by
    by_cases u : upB b s = true
    · rw [if_pos u, ← st b hb]
      exact sumQ_congr fun a _ => by rw [if_pos u]
    · rw [if_neg u]
      exact (sumQ_zero fun a _ => if_neg u).symm
  have h3 : ∀ a, a < 2 ^ W.spots → (sumQ (2 ^ W.spots) fun b => if upB b s = true then x a * ((walkM (turnsM W)).P a b : Rat) else 0) = x a * ((L : Rat) + ((W.spots - 1 : Nat) : Rat) * (if upB a s = true then (W.whole : Rat) else 0)) := fun a ha => by
    have e1 : (sumQ (2 ^ W.spots) fun b => if upB b s = true then x a * ((walkM (turnsM W)).P a b : Rat) else 0) = sumQ (2 ^ W.spots) fun b => x a * (if upB b s = true then (cntM (turnsM W).maps a b : Rat) else 0) := sumQ_congr fun b hb => by
      rw [walk_P (turnsM W) ha hb]
      split
      · rfl
      · exact (Rat.mul_zero _).symm
    rw [e1, sumQ_mul, cnt_pred (fun b => upB b s) fun m hm => ?_, apart_ups h ha hs, natQ_add, natQ_mul]
    · congr 3
      split <;> rfl
    · obtain ⟨m1, m2⟩ := (turnsM W).h4 m hm
      exact m2 _ (List.mem_of_getElem? (at_getD (by rw [m1]; exact ha)))
  rw [h2, sumQ_comm (fun b a => if upB b s = true then x a * ((walkM (turnsM W)).P a b : Rat) else 0), sumQ_congr h3] at h1
  have h4 : (sumQ (2 ^ W.spots) fun a => x a * ((L : Rat) + ((W.spots - 1 : Nat) : Rat) * (if upB a s = true then (W.whole : Rat) else 0))) = (L : Rat) * 1 + (((W.spots - 1 : Nat) : Rat) * (W.whole : Rat)) * U := by
    rw [← hU, ← sm, ← sumQ_mul, ← sumQ_mul, ← sumQ_add]
    refine sumQ_congr fun a _ => ?_
    split <;> grind
  rw [h4, ew, natQ_mul] at h1
  have w0 := W.h0
  have w4 := W.h4
  have hsp : (W.spots : Rat) = ((W.spots - 1 : Nat) : Rat) + 1 := by
    have := natQ_add (W.spots - 1) 1
    rw [show W.spots - 1 + 1 = W.spots by omega] at this
    exact this
  rw [hsp] at h1
  have hw : (W.whole : Rat) ≠ 0 := by have := cast_pos (show 0 < W.whole by omega); grind
  rw [Rat.divInt_eq_div]
  show U = (L : Rat) / (W.whole : Rat)
  have h5 : (W.whole : Rat) * U = (L : Rat) := by grind
  grind
end
end El

set_option Elab.async false
set_option linter.all false
set_option maxRecDepth 100000
set_option maxHeartbeats 4000000
namespace K71
open PySem PySem.Spec L2 El
def topS (i : Nat) : Stmt := PySem.Challenge.pw_elderdraw_k71_whole_webs_keep_their_orde.main.body.getD i (.Pass ⟨0, 0, 0, 0⟩)
abbrev s_is_whole : Stmt := topS 12
abbrev N_is_whole : List Str := ["thing"]
theorem sc_is_whole : FnScope N_is_whole ["thing"] (defScope s_is_whole) := ⟨rfl, rfl, rfl, by decide +kernel, rfl, by decide +kernel, by decide +kernel⟩
abbrev s_is_between : Stmt := topS 13
abbrev N_is_between : List Str := ["thing", "least", "most"]
theorem sc_is_between : FnScope N_is_between ["thing", "least", "most"] (defScope s_is_between) := ⟨rfl, rfl, rfl, by decide +kernel, rfl, by decide +kernel, by decide +kernel⟩
abbrev s_common : Stmt := topS 27
abbrev N_common : List Str := ["one", "other"]
theorem sc_common : FnScope N_common ["one", "other"] (defScope s_common) := ⟨rfl, rfl, rfl, by decide +kernel, rfl, by decide +kernel, by decide +kernel⟩
abbrev s_Share_init : Stmt := inClass (topS 28) 0
abbrev N_Share_init : List Str := ["self", "top", "bottom", "by"]
theorem sc_Share_init : FnScope N_Share_init ["self", "top", "bottom"] (defScope s_Share_init) := ⟨rfl, rfl, rfl, by decide +kernel, rfl, by decide +kernel, by decide +kernel⟩
abbrev s_Share_eq : Stmt := inClass (topS 28) 1
abbrev N_Share_eq : List Str := ["self", "other"]
theorem sc_Share_eq : FnScope N_Share_eq ["self", "other"] (defScope s_Share_eq) := ⟨rfl, rfl, rfl, by decide +kernel, rfl, by decide +kernel, by decide +kernel⟩
abbrev s_plus : Stmt := topS 29
abbrev N_plus : List Str := ["one", "other"]
theorem sc_plus : FnScope N_plus ["one", "other"] (defScope s_plus) := ⟨rfl, rfl, rfl, by decide +kernel, rfl, by decide +kernel, by decide +kernel⟩
abbrev s_sum_of : Stmt := topS 30
abbrev N_sum_of : List Str := ["shares", "found", "share"]
theorem sc_sum_of : FnScope N_sum_of ["shares"] (defScope s_sum_of) := ⟨rfl, rfl, rfl, by decide +kernel, rfl, by decide +kernel, by decide +kernel⟩
abbrev s_with_pivot : Stmt := topS 32
abbrev N_with_pivot : List Str := ["rows", "at", "found", "k"]
theorem sc_with_pivot : FnScope N_with_pivot ["rows", "at"] (defScope s_with_pivot) := ⟨rfl, rfl, rfl, by decide +kernel, rfl, by decide +kernel, by decide +kernel⟩
abbrev s_cleared : Stmt := topS 33
abbrev N_cleared : List Str := ["rows", "at", "last", "main", "found", "k", "row", "one", "other"]
theorem sc_cleared : FnScope N_cleared ["rows", "at", "last"] (defScope s_cleared) := ⟨rfl, rfl, rfl, by decide +kernel, rfl, by decide +kernel, by decide +kernel⟩
abbrev s_solved : Stmt := topS 34
abbrev N_solved : List Str := ["rows", "many", "last", "at", "right", "k"]
theorem sc_solved : FnScope N_solved ["rows"] (defScope s_solved) := ⟨rfl, rfl, rfl, by decide +kernel, rfl, by decide +kernel, by decide +kernel⟩
abbrev s_is_map : Stmt := topS 46
abbrev N_is_map : List Str := ["thing", "many", "to"]
theorem sc_is_map : FnScope N_is_map ["thing", "many"] (defScope s_is_map) := ⟨rfl, rfl, rfl, by decide +kernel, rfl, by decide +kernel, by decide +kernel⟩
abbrev s_Turns_init : Stmt := inClass (topS 47) 0
abbrev N_Turns_init : List Str := ["self", "many", "maps", "one"]
theorem sc_Turns_init : FnScope N_Turns_init ["self", "many", "maps"] (defScope s_Turns_init) := ⟨rfl, rfl, rfl, by decide +kernel, rfl, by decide +kernel, by decide +kernel⟩
abbrev s_Turns_len : Stmt := inClass (topS 47) 2
abbrev N_Turns_len : List Str := ["self"]
theorem sc_Turns_len : FnScope N_Turns_len ["self"] (defScope s_Turns_len) := ⟨rfl, rfl, rfl, by decide +kernel, rfl, by decide +kernel, by decide +kernel⟩
abbrev s_is_row : Stmt := topS 38
abbrev N_is_row : List Str := ["thing", "many", "whole", "number"]
theorem sc_is_row : FnScope N_is_row ["thing", "many", "whole"] (defScope s_is_row) := ⟨rfl, rfl, rfl, by decide +kernel, rfl, by decide +kernel, by decide +kernel⟩
abbrev s_Walk_init : Stmt := inClass (topS 39) 0
abbrev N_Walk_init : List Str := ["self", "whole", "rows", "row"]
theorem sc_Walk_init : FnScope N_Walk_init ["self", "whole", "rows"] (defScope s_Walk_init) := ⟨rfl, rfl, rfl, by decide +kernel, rfl, by decide +kernel, by decide +kernel⟩
abbrev s_Walk_len : Stmt := inClass (topS 39) 1
abbrev N_Walk_len : List Str := ["self"]
theorem sc_Walk_len : FnScope N_Walk_len ["self"] (defScope s_Walk_len) := ⟨rfl, rfl, rfl, by decide +kernel, rfl, by decide +kernel, by decide +kernel⟩
abbrev s_walk_of : Stmt := topS 48
abbrev N_walk_of : List Str := ["turns", "rows", "place", "row", "one"]
theorem sc_walk_of : FnScope N_walk_of ["turns"] (defScope s_walk_of) := ⟨rfl, rfl, rfl, by decide +kernel, rfl, by decide +kernel, by decide +kernel⟩
abbrev s_reached_from : Stmt := topS 40
abbrev N_reached_from : List Str := ["walk", "place", "found", "at", "to", "number"]
theorem sc_reached_from : FnScope N_reached_from ["walk", "place"] (defScope s_reached_from) := ⟨rfl, rfl, rfl, by decide +kernel, rfl, by decide +kernel, by decide +kernel⟩
abbrev s_closed_sets : Stmt := topS 41
abbrev N_closed_sets : List Str := ["walk", "reached", "place", "found", "places", "one"]
theorem sc_closed_sets : FnScope N_closed_sets ["walk"] (defScope s_closed_sets) := ⟨rfl, rfl, rfl, by decide +kernel, rfl, by decide +kernel, by decide +kernel⟩
abbrev s_resting : Stmt := topS 42
abbrev N_resting : List Str := ["walk", "sets", "places", "rows", "to", "place", "found", "shares"]
theorem sc_resting : FnScope N_resting ["walk"] (defScope s_resting) := ⟨rfl, rfl, rfl, by decide +kernel, rfl, by decide +kernel, by decide +kernel⟩
abbrev s_check_signs : Stmt := topS 15
abbrev N_check_signs : List Str := ["turns", "signs", "sign"]
theorem sc_check_signs : FnScope N_check_signs ["turns", "signs"] (defScope s_check_signs) := ⟨rfl, rfl, rfl, by decide +kernel, rfl, by decide +kernel, by decide +kernel⟩
abbrev s_begin_of : Stmt := topS 16
abbrev N_begin_of : List Str := ["turns"]
theorem sc_begin_of : FnScope N_begin_of ["turns"] (defScope s_begin_of) := ⟨rfl, rfl, rfl, by decide +kernel, rfl, by decide +kernel, by decide +kernel⟩
abbrev s_then : Stmt := topS 17
abbrev N_then : List Str := ["first", "second", "place"]
theorem sc_then : FnScope N_then ["first", "second"] (defScope s_then) := ⟨rfl, rfl, rfl, by decide +kernel, rfl, by decide +kernel, by decide +kernel⟩
abbrev s_has_met : Stmt := topS 18
abbrev N_has_met : List Str := ["one"]
theorem sc_has_met : FnScope N_has_met ["one"] (defScope s_has_met) := ⟨rfl, rfl, rfl, by decide +kernel, rfl, by decide +kernel, by decide +kernel⟩
abbrev s_is_pair : Stmt := topS 21
abbrev N_is_pair : List Str := ["thing", "many", "place"]
theorem sc_is_pair : FnScope N_is_pair ["thing", "many"] (defScope s_is_pair) := ⟨rfl, rfl, rfl, by decide +kernel, rfl, by decide +kernel, by decide +kernel⟩
abbrev s_above : Stmt := topS 22
abbrev N_above : List Str := ["pairs", "many", "onward", "place", "x", "y", "found", "waiting", "reached", "one"]
theorem sc_above : FnScope N_above ["pairs", "many"] (defScope s_above) := ⟨rfl, rfl, rfl, by decide +kernel, rfl, by decide +kernel, by decide +kernel⟩
abbrev s_Order_init : Stmt := inClass (topS 23) 0
abbrev N_Order_init : List Str := ["self", "many", "pairs", "pair", "place"]
theorem sc_Order_init : FnScope N_Order_init ["self", "many", "pairs"] (defScope s_Order_init) := ⟨rfl, rfl, rfl, by decide +kernel, rfl, by decide +kernel, by decide +kernel⟩
abbrev s_Order_len : Stmt := inClass (topS 23) 1
abbrev N_Order_len : List Str := ["self"]
theorem sc_Order_len : FnScope N_Order_len ["self"] (defScope s_Order_len) := ⟨rfl, rfl, rfl, by decide +kernel, rfl, by decide +kernel, by decide +kernel⟩
abbrev s_Order_at_most : Stmt := inClass (topS 23) 2
abbrev N_Order_at_most : List Str := ["self", "x", "y"]
theorem sc_Order_at_most : FnScope N_Order_at_most ["self", "x", "y"] (defScope s_Order_at_most) := ⟨rfl, rfl, rfl, by decide +kernel, rfl, by decide +kernel, by decide +kernel⟩
abbrev s_Order_least : Stmt := inClass (topS 23) 3
abbrev N_Order_least : List Str := ["self", "place", "reached"]
theorem sc_Order_least : FnScope N_Order_least ["self"] (defScope s_Order_least) := ⟨rfl, rfl, rfl, by decide +kernel, rfl, by decide +kernel, by decide +kernel⟩
abbrev s_Order_greatest : Stmt := inClass (topS 23) 4
abbrev N_Order_greatest : List Str := ["self", "place", "one"]
theorem sc_Order_greatest : FnScope N_Order_greatest ["self"] (defScope s_Order_greatest) := ⟨rfl, rfl, rfl, by decide +kernel, rfl, by decide +kernel, by decide +kernel⟩
abbrev s_not_kept : Stmt := topS 24
abbrev N_not_kept : List Str := ["turns", "order", "sign", "leads", "x", "y"]
theorem sc_not_kept : FnScope N_not_kept ["turns", "order"] (defScope s_not_kept) := ⟨rfl, rfl, rfl, by decide +kernel, rfl, by decide +kernel, by decide +kernel⟩
abbrev s_drawn_between : Stmt := topS 25
abbrev N_drawn_between : List Str := ["turns", "order", "signs", "kept", "low", "high", "found", "k", "sign", "to"]
theorem sc_drawn_between : FnScope N_drawn_between ["turns", "order", "signs"] (defScope s_drawn_between) := ⟨rfl, rfl, rfl, by decide +kernel, rfl, by decide +kernel, by decide +kernel⟩
abbrev s_is_tie : Stmt := topS 53
abbrev N_is_tie : List Str := ["thing", "spots"]
theorem sc_is_tie : FnScope N_is_tie ["thing", "spots"] (defScope s_is_tie) := ⟨rfl, rfl, rfl, by decide +kernel, rfl, by decide +kernel, by decide +kernel⟩
abbrev s_are_ties : Stmt := topS 54
abbrev N_are_ties : List Str := ["thing", "spots", "tie"]
theorem sc_are_ties : FnScope N_are_ties ["thing", "spots"] (defScope s_are_ties) := ⟨rfl, rfl, rfl, by decide +kernel, rfl, by decide +kernel, by decide +kernel⟩
abbrev s_are_levels : Stmt := topS 55
abbrev N_are_levels : List Str := ["thing", "spots", "whole", "level"]
theorem sc_are_levels : FnScope N_are_levels ["thing", "spots", "whole"] (defScope s_are_levels) := ⟨rfl, rfl, rfl, by decide +kernel, rfl, by decide +kernel, by decide +kernel⟩
abbrev s_Web_init : Stmt := inClass (topS 56) 0
abbrev N_Web_init : List Str := ["self", "spots", "ties", "whole", "levels"]
theorem sc_Web_init : FnScope N_Web_init ["self", "spots", "ties", "whole", "levels"] (defScope s_Web_init) := ⟨rfl, rfl, rfl, by decide +kernel, rfl, by decide +kernel, by decide +kernel⟩
abbrev s_is_up : Stmt := topS 57
abbrev N_is_up : List Str := ["place", "spot"]
theorem sc_is_up : FnScope N_is_up ["place", "spot"] (defScope s_is_up) := ⟨rfl, rfl, rfl, by decide +kernel, rfl, by decide +kernel, by decide +kernel⟩
abbrev s_tied_to : Stmt := topS 58
abbrev N_tied_to : List Str := ["web", "spot", "one", "other"]
theorem sc_tied_to : FnScope N_tied_to ["web", "spot"] (defScope s_tied_to) := ⟨rfl, rfl, rfl, by decide +kernel, rfl, by decide +kernel, by decide +kernel⟩
abbrev s_moved : Stmt := topS 59
abbrev N_moved : List Str := ["web", "place", "spot", "number", "many", "one", "stand"]
theorem sc_moved : FnScope N_moved ["web", "place", "spot", "number"] (defScope s_moved) := ⟨rfl, rfl, rfl, by decide +kernel, rfl, by decide +kernel, by decide +kernel⟩
abbrev s_turns_of : Stmt := topS 60
abbrev N_turns_of : List Str := ["web", "many", "maps", "spot", "number", "place"]
theorem sc_turns_of : FnScope N_turns_of ["web"] (defScope s_turns_of) := ⟨rfl, rfl, rfl, by decide +kernel, rfl, by decide +kernel, by decide +kernel⟩
abbrev s_order_of : Stmt := topS 61
abbrev N_order_of : List Str := ["web", "many", "pairs", "place", "spot"]
theorem sc_order_of : FnScope N_order_of ["web"] (defScope s_order_of) := ⟨rfl, rfl, rfl, by decide +kernel, rfl, by decide +kernel, by decide +kernel⟩
abbrev s_Draw_init : Stmt := inClass (topS 63) 0
abbrev N_Draw_init : List Str := ["self", "turns"]
theorem sc_Draw_init : FnScope N_Draw_init ["self", "turns"] (defScope s_Draw_init) := ⟨rfl, rfl, rfl, by decide +kernel, rfl, by decide +kernel, by decide +kernel⟩
abbrev s_Draw_place : Stmt := inClass (topS 63) 3
abbrev N_Draw_place : List Str := ["self"]
theorem sc_Draw_place : FnScope N_Draw_place ["self"] (defScope s_Draw_place) := ⟨rfl, rfl, rfl, by decide +kernel, rfl, by decide +kernel, by decide +kernel⟩
abbrev s_Draw_used : Stmt := inClass (topS 63) 4
abbrev N_Draw_used : List Str := ["self"]
theorem sc_Draw_used : FnScope N_Draw_used ["self"] (defScope s_Draw_used) := ⟨rfl, rfl, rfl, by decide +kernel, rfl, by decide +kernel, by decide +kernel⟩
abbrev s_Draw_elder : Stmt := inClass (topS 63) 2
abbrev N_Draw_elder : List Str := ["self", "sign"]
theorem sc_Draw_elder : FnScope N_Draw_elder ["self", "sign"] (defScope s_Draw_elder) := ⟨rfl, rfl, rfl, by decide +kernel, rfl, by decide +kernel, by decide +kernel⟩
abbrev s_drawn : Stmt := topS 64
abbrev N_drawn : List Str := ["turns", "signs", "draw", "sign"]
theorem sc_drawn : FnScope N_drawn ["turns", "signs"] (defScope s_drawn) := ⟨rfl, rfl, rfl, by decide +kernel, rfl, by decide +kernel, by decide +kernel⟩
abbrev s__law_well : Stmt := topS 66
abbrev N__law_well : List Str := ["_law_cell"]
theorem sc__law_well : FnScope N__law_well ["_law_cell"] (defScope s__law_well) := ⟨rfl, rfl, rfl, by decide +kernel, rfl, by decide +kernel, by decide +kernel⟩
abbrev s__law_draw : Stmt := topS 67
abbrev N__law_draw : List Str := ["_law_well_here", "_law_many", "_law_digit", "_law_prime", "_law_number"]
theorem sc__law_draw : FnScope N__law_draw ["_law_well_here", "_law_many"] (defScope s__law_draw) := ⟨rfl, rfl, rfl, by decide +kernel, rfl, by decide +kernel, by decide +kernel⟩
abbrev s__law_mixed : Stmt := topS 69
abbrev N__law_mixed : List Str := ["_law_well_here", "_law_some", "_law_left", "_law_k"]
theorem sc__law_mixed : FnScope N__law_mixed ["_law_well_here", "_law_some"] (defScope s__law_mixed) := ⟨rfl, rfl, rfl, by decide +kernel, rfl, by decide +kernel, by decide +kernel⟩
abbrev s__law_web : Stmt := topS 70
abbrev N__law_web : List Str := ["_law_well_here", "_law_most", "_law_spots", "_law_ties", "_law_one_here", "_law_other", "_law_whole", "_law_k"]
theorem sc__law_web : FnScope N__law_web ["_law_well_here", "_law_most"] (defScope s__law_web) := ⟨rfl, rfl, rfl, by decide +kernel, rfl, by decide +kernel, by decide +kernel⟩
abbrev s__law_keeps : Stmt := topS 71
abbrev N__law_keeps : List Str := ["_law_turns", "_law_order", "_law_row", "_law_x", "_law_y"]
theorem sc__law_keeps : FnScope N__law_keeps ["_law_turns", "_law_order"] (defScope s__law_keeps) := ⟨rfl, rfl, rfl, by decide +kernel, rfl, by decide +kernel, by decide +kernel⟩
abbrev s__law_apart_right : Stmt := topS 72
abbrev N__law_apart_right : List Str := ["_law_well_here", "_law_spots", "_law_whole", "_law_level", "_law_web_here", "_law_walk", "_law_row", "_law_half", "_law_ups", "_law_place", "_law_share"]
theorem sc__law_apart_right : FnScope N__law_apart_right ["_law_well_here", "_law_spots", "_law_whole"] (defScope s__law_apart_right) := ⟨rfl, rfl, rfl, by decide +kernel, rfl, by decide +kernel, by decide +kernel⟩
abbrev s_law : Stmt := topS 73
abbrev N_law : List Str := ["_law_script", "_law_cell", "_law_well_here", "_law_spots", "_law_ties", "_law_whole", "_law_levels", "_law_rising", "_law_turns", "_law_order", "_law_signs", "_law_k", "_law_at", "_law_other"]
theorem sc_law : FnScope N_law ["_law_script"] (defScope s_law) := ⟨rfl, rfl, rfl, by decide +kernel, rfl, by decide +kernel, by decide +kernel⟩
structure Tx (K : PySem.W.Frag) (mg : Str → Option Value) where
  a_is_whole : Addr
  d_is_whole : FuncData
  F_is_whole : Fun K "is_whole" "is_whole" s_is_whole a_is_whole d_is_whole
  b_is_whole : Binds K d_is_whole ["thing"] []
  g_is_whole : mg "is_whole" = some (.ref a_is_whole)
  a_is_between : Addr
  d_is_between : FuncData
  F_is_between : Fun K "is_between" "is_between" s_is_between a_is_between d_is_between
  b_is_between : Binds K d_is_between ["thing", "least", "most"] []
  g_is_between : mg "is_between" = some (.ref a_is_between)
  a_common : Addr
  d_common : FuncData
  F_common : Fun K "common" "common" s_common a_common d_common
  b_common : Binds K d_common ["one", "other"] []
  g_common : mg "common" = some (.ref a_common)
  a_Share_init : Addr
  d_Share_init : FuncData
  F_Share_init : FunD K "__init__" "Share.__init__" (defArgs s_Share_init) (defBody s_Share_init) (defScope s_Share_init) [.int 1] [] a_Share_init d_Share_init
  b_Share_init : Bnd K d_Share_init ["self", "top", "bottom"] []
  bd_Share_init : Bnd K d_Share_init ["self", "top", "bottom"] [.int 1]
  a_Share_eq : Addr
  d_Share_eq : FuncData
  F_Share_eq : Fun K "__eq__" "Share.__eq__" s_Share_eq a_Share_eq d_Share_eq
  b_Share_eq : Binds K d_Share_eq ["self", "other"] []
  a_plus : Addr
  d_plus : FuncData
  F_plus : Fun K "plus" "plus" s_plus a_plus d_plus
  b_plus : Binds K d_plus ["one", "other"] []
  g_plus : mg "plus" = some (.ref a_plus)
  a_sum_of : Addr
  d_sum_of : FuncData
  F_sum_of : Fun K "sum_of" "sum_of" s_sum_of a_sum_of d_sum_of
  b_sum_of : Binds K d_sum_of ["shares"] []
  g_sum_of : mg "sum_of" = some (.ref a_sum_of)
  a_with_pivot : Addr
  d_with_pivot : FuncData
  F_with_pivot : Fun K "with_pivot" "with_pivot" s_with_pivot a_with_pivot d_with_pivot
  b_with_pivot : Binds K d_with_pivot ["rows", "at"] []
  g_with_pivot : mg "with_pivot" = some (.ref a_with_pivot)
  a_cleared : Addr
  d_cleared : FuncData
  F_cleared : Fun K "cleared" "cleared" s_cleared a_cleared d_cleared
  b_cleared : Binds K d_cleared ["rows", "at", "last"] []
  g_cleared : mg "cleared" = some (.ref a_cleared)
  a_solved : Addr
  d_solved : FuncData
  F_solved : Fun K "solved" "solved" s_solved a_solved d_solved
  b_solved : Binds K d_solved ["rows"] []
  g_solved : mg "solved" = some (.ref a_solved)
  a_is_map : Addr
  d_is_map : FuncData
  F_is_map : Fun K "is_map" "is_map" s_is_map a_is_map d_is_map
  b_is_map : Binds K d_is_map ["thing", "many"] []
  g_is_map : mg "is_map" = some (.ref a_is_map)
  a_Turns_init : Addr
  d_Turns_init : FuncData
  F_Turns_init : Fun K "__init__" "Turns.__init__" s_Turns_init a_Turns_init d_Turns_init
  b_Turns_init : Binds K d_Turns_init ["self", "many", "maps"] []
  a_Turns_len : Addr
  d_Turns_len : FuncData
  F_Turns_len : Fun K "__len__" "Turns.__len__" s_Turns_len a_Turns_len d_Turns_len
  b_Turns_len : Binds K d_Turns_len ["self"] []
  a_is_row : Addr
  d_is_row : FuncData
  F_is_row : Fun K "is_row" "is_row" s_is_row a_is_row d_is_row
  b_is_row : Binds K d_is_row ["thing", "many", "whole"] []
  g_is_row : mg "is_row" = some (.ref a_is_row)
  a_Walk_init : Addr
  d_Walk_init : FuncData
  F_Walk_init : Fun K "__init__" "Walk.__init__" s_Walk_init a_Walk_init d_Walk_init
  b_Walk_init : Binds K d_Walk_init ["self", "whole", "rows"] []
  a_Walk_len : Addr
  d_Walk_len : FuncData
  F_Walk_len : Fun K "__len__" "Walk.__len__" s_Walk_len a_Walk_len d_Walk_len
  b_Walk_len : Binds K d_Walk_len ["self"] []
  a_walk_of : Addr
  d_walk_of : FuncData
  F_walk_of : Fun K "walk_of" "walk_of" s_walk_of a_walk_of d_walk_of
  b_walk_of : Binds K d_walk_of ["turns"] []
  g_walk_of : mg "walk_of" = some (.ref a_walk_of)
  a_reached_from : Addr
  d_reached_from : FuncData
  F_reached_from : Fun K "reached_from" "reached_from" s_reached_from a_reached_from d_reached_from
  b_reached_from : Binds K d_reached_from ["walk", "place"] []
  g_reached_from : mg "reached_from" = some (.ref a_reached_from)
  a_closed_sets : Addr
  d_closed_sets : FuncData
  F_closed_sets : Fun K "closed_sets" "closed_sets" s_closed_sets a_closed_sets d_closed_sets
  b_closed_sets : Binds K d_closed_sets ["walk"] []
  g_closed_sets : mg "closed_sets" = some (.ref a_closed_sets)
  a_resting : Addr
  d_resting : FuncData
  F_resting : Fun K "resting" "resting" s_resting a_resting d_resting
  b_resting : Binds K d_resting ["walk"] []
  g_resting : mg "resting" = some (.ref a_resting)
  a_check_signs : Addr
  d_check_signs : FuncData
  F_check_signs : Fun K "check_signs" "check_signs" s_check_signs a_check_signs d_check_signs
  b_check_signs : Binds K d_check_signs ["turns", "signs"] []
  g_check_signs : mg "check_signs" = some (.ref a_check_signs)
  a_begin_of : Addr
  d_begin_of : FuncData
  F_begin_of : Fun K "begin_of" "begin_of" s_begin_of a_begin_of d_begin_of
  b_begin_of : Binds K d_begin_of ["turns"] []
  g_begin_of : mg "begin_of" = some (.ref a_begin_of)
  a_then : Addr
  d_then : FuncData
  F_then : Fun K "then" "then" s_then a_then d_then
  b_then : Binds K d_then ["first", "second"] []
  g_then : mg "then" = some (.ref a_then)
  a_has_met : Addr
  d_has_met : FuncData
  F_has_met : Fun K "has_met" "has_met" s_has_met a_has_met d_has_met
  b_has_met : Binds K d_has_met ["one"] []
  g_has_met : mg "has_met" = some (.ref a_has_met)
  a_is_pair : Addr
  d_is_pair : FuncData
  F_is_pair : Fun K "is_pair" "is_pair" s_is_pair a_is_pair d_is_pair
  b_is_pair : Binds K d_is_pair ["thing", "many"] []
  g_is_pair : mg "is_pair" = some (.ref a_is_pair)
  a_above : Addr
  d_above : FuncData
  F_above : Fun K "above" "above" s_above a_above d_above
  b_above : Binds K d_above ["pairs", "many"] []
  g_above : mg "above" = some (.ref a_above)
  a_Order_init : Addr
  d_Order_init : FuncData
  F_Order_init : Fun K "__init__" "Order.__init__" s_Order_init a_Order_init d_Order_init
  b_Order_init : Binds K d_Order_init ["self", "many", "pairs"] []
  a_Order_len : Addr
  d_Order_len : FuncData
  F_Order_len : Fun K "__len__" "Order.__len__" s_Order_len a_Order_len d_Order_len
  b_Order_len : Binds K d_Order_len ["self"] []
  a_Order_at_most : Addr
  d_Order_at_most : FuncData
  F_Order_at_most : Fun K "at_most" "Order.at_most" s_Order_at_most a_Order_at_most d_Order_at_most
  b_Order_at_most : Binds K d_Order_at_most ["self", "x", "y"] []
  a_Order_least : Addr
  d_Order_least : FuncData
  F_Order_least : Fun K "least" "Order.least" s_Order_least a_Order_least d_Order_least
  b_Order_least : Binds K d_Order_least ["self"] []
  a_Order_greatest : Addr
  d_Order_greatest : FuncData
  F_Order_greatest : Fun K "greatest" "Order.greatest" s_Order_greatest a_Order_greatest d_Order_greatest
  b_Order_greatest : Binds K d_Order_greatest ["self"] []
  a_not_kept : Addr
  d_not_kept : FuncData
  F_not_kept : Fun K "not_kept" "not_kept" s_not_kept a_not_kept d_not_kept
  b_not_kept : Binds K d_not_kept ["turns", "order"] []
  g_not_kept : mg "not_kept" = some (.ref a_not_kept)
  a_drawn_between : Addr
  d_drawn_between : FuncData
  F_drawn_between : Fun K "drawn_between" "drawn_between" s_drawn_between a_drawn_between d_drawn_between
  b_drawn_between : Binds K d_drawn_between ["turns", "order", "signs"] []
  g_drawn_between : mg "drawn_between" = some (.ref a_drawn_between)
  a_is_tie : Addr
  d_is_tie : FuncData
  F_is_tie : Fun K "is_tie" "is_tie" s_is_tie a_is_tie d_is_tie
  b_is_tie : Binds K d_is_tie ["thing", "spots"] []
  g_is_tie : mg "is_tie" = some (.ref a_is_tie)
  a_are_ties : Addr
  d_are_ties : FuncData
  F_are_ties : Fun K "are_ties" "are_ties" s_are_ties a_are_ties d_are_ties
  b_are_ties : Binds K d_are_ties ["thing", "spots"] []
  g_are_ties : mg "are_ties" = some (.ref a_are_ties)
  a_are_levels : Addr
  d_are_levels : FuncData
  F_are_levels : Fun K "are_levels" "are_levels" s_are_levels a_are_levels d_are_levels
  b_are_levels : Binds K d_are_levels ["thing", "spots", "whole"] []
  g_are_levels : mg "are_levels" = some (.ref a_are_levels)
  a_Web_init : Addr
  d_Web_init : FuncData
  F_Web_init : Fun K "__init__" "Web.__init__" s_Web_init a_Web_init d_Web_init
  b_Web_init : Binds K d_Web_init ["self", "spots", "ties", "whole", "levels"] []
  a_is_up : Addr
  d_is_up : FuncData
  F_is_up : Fun K "is_up" "is_up" s_is_up a_is_up d_is_up
  b_is_up : Binds K d_is_up ["place", "spot"] []
  g_is_up : mg "is_up" = some (.ref a_is_up)
  a_tied_to : Addr
  d_tied_to : FuncData
  F_tied_to : Fun K "tied_to" "tied_to" s_tied_to a_tied_to d_tied_to
  b_tied_to : Binds K d_tied_to ["web", "spot"] []
  g_tied_to : mg "tied_to" = some (.ref a_tied_to)
  a_moved : Addr
  d_moved : FuncData
  F_moved : Fun K "moved" "moved" s_moved a_moved d_moved
  b_moved : Binds K d_moved ["web", "place", "spot", "number"] []
  g_moved : mg "moved" = some (.ref a_moved)
  a_turns_of : Addr
  d_turns_of : FuncData
  F_turns_of : Fun K "turns_of" "turns_of" s_turns_of a_turns_of d_turns_of
  b_turns_of : Binds K d_turns_of ["web"] []
  g_turns_of : mg "turns_of" = some (.ref a_turns_of)
  a_order_of : Addr
  d_order_of : FuncData
  F_order_of : Fun K "order_of" "order_of" s_order_of a_order_of d_order_of
  b_order_of : Binds K d_order_of ["web"] []
  g_order_of : mg "order_of" = some (.ref a_order_of)
  a_Draw_init : Addr
  d_Draw_init : FuncData
  F_Draw_init : Fun K "__init__" "Draw.__init__" s_Draw_init a_Draw_init d_Draw_init
  b_Draw_init : Binds K d_Draw_init ["self", "turns"] []
  a_Draw_place : Addr
  d_Draw_place : FuncData
  F_Draw_place : Fun K "place" "Draw.place" s_Draw_place a_Draw_place d_Draw_place
  b_Draw_place : Binds K d_Draw_place ["self"] []
  a_Draw_used : Addr
  d_Draw_used : FuncData
  F_Draw_used : Fun K "used" "Draw.used" s_Draw_used a_Draw_used d_Draw_used
  b_Draw_used : Binds K d_Draw_used ["self"] []
  a_Draw_elder : Addr
  d_Draw_elder : FuncData
  F_Draw_elder : Fun K "elder" "Draw.elder" s_Draw_elder a_Draw_elder d_Draw_elder
  b_Draw_elder : Binds K d_Draw_elder ["self", "sign"] []
  a_drawn : Addr
  d_drawn : FuncData
  F_drawn : Fun K "drawn" "drawn" s_drawn a_drawn d_drawn
  b_drawn : Binds K d_drawn ["turns", "signs"] []
  g_drawn : mg "drawn" = some (.ref a_drawn)
  a__law_well : Addr
  d__law_well : FuncData
  F__law_well : Fun K "_law_well" "_law_well" s__law_well a__law_well d__law_well
  b__law_well : Binds K d__law_well ["_law_cell"] []
  g__law_well : mg "_law_well" = some (.ref a__law_well)
  a__law_draw : Addr
  d__law_draw : FuncData
  F__law_draw : Fun K "_law_draw" "_law_draw" s__law_draw a__law_draw d__law_draw
  b__law_draw : Binds K d__law_draw ["_law_well_here", "_law_many"] []
  g__law_draw : mg "_law_draw" = some (.ref a__law_draw)
  a__law_mixed : Addr
  d__law_mixed : FuncData
  F__law_mixed : Fun K "_law_mixed" "_law_mixed" s__law_mixed a__law_mixed d__law_mixed
  b__law_mixed : Binds K d__law_mixed ["_law_well_here", "_law_some"] []
  g__law_mixed : mg "_law_mixed" = some (.ref a__law_mixed)
  a__law_web : Addr
  d__law_web : FuncData
  F__law_web : Fun K "_law_web" "_law_web" s__law_web a__law_web d__law_web
  b__law_web : Binds K d__law_web ["_law_well_here", "_law_most"] []
  g__law_web : mg "_law_web" = some (.ref a__law_web)
  a__law_keeps : Addr
  d__law_keeps : FuncData
  F__law_keeps : Fun K "_law_keeps" "_law_keeps" s__law_keeps a__law_keeps d__law_keeps
  b__law_keeps : Binds K d__law_keeps ["_law_turns", "_law_order"] []
  g__law_keeps : mg "_law_keeps" = some (.ref a__law_keeps)
  a__law_apart_right : Addr
  d__law_apart_right : FuncData
  F__law_apart_right : Fun K "_law_apart_right" "_law_apart_right" s__law_apart_right a__law_apart_right d__law_apart_right
  b__law_apart_right : Binds K d__law_apart_right ["_law_well_here", "_law_spots", "_law_whole"] []
  g__law_apart_right : mg "_law_apart_right" = some (.ref a__law_apart_right)
  a_law : Addr
  d_law : FuncData
  F_law : Fun K "law" "law" s_law a_law d_law
  b_law : Binds K d_law ["_law_script"] []
  g_law : mg "law" = some (.ref a_law)
  C_Draw : Addr
  cl_Draw : Cls K C_Draw
  g_Draw : mg "Draw" = some (.ref C_Draw)
  mk_Draw : Mk K C_Draw a_Draw_init
  C_Order : Addr
  cl_Order : Cls K C_Order
  g_Order : mg "Order" = some (.ref C_Order)
  mk_Order : Mk K C_Order a_Order_init
  C_Share : Addr
  cl_Share : Cls K C_Share
  g_Share : mg "Share" = some (.ref C_Share)
  mk_Share : Mk K C_Share a_Share_init
  ic_Share : C8.InsC K C_Share
  ne_Share : PySem.W.findIn K (.ref C_Share) "__ne__" = some (some (.builtin "object.__ne__"))
  ob_Share : PySem.W.mroIn K C_Share (.type "object") = some true
  C_Turns : Addr
  cl_Turns : Cls K C_Turns
  g_Turns : mg "Turns" = some (.ref C_Turns)
  mk_Turns : Mk K C_Turns a_Turns_init
  C_Walk : Addr
  cl_Walk : Cls K C_Walk
  g_Walk : mg "Walk" = some (.ref C_Walk)
  mk_Walk : Mk K C_Walk a_Walk_init
  C_Web : Addr
  cl_Web : Cls K C_Web
  g_Web : mg "Web" = some (.ref C_Web)
  mk_Web : Mk K C_Web a_Web_init
  m_Draw_elder : Meth K C_Draw "elder" a_Draw_elder
  m_Draw_place : Meth K C_Draw "place" a_Draw_place
  m_Draw_used : Meth K C_Draw "used" a_Draw_used
  m_Order_len : Meth K C_Order "__len__" a_Order_len
  m_Order_at_most : Meth K C_Order "at_most" a_Order_at_most
  m_Order_greatest : Meth K C_Order "greatest" a_Order_greatest
  m_Order_least : Meth K C_Order "least" a_Order_least
  m_Share_eq : Meth K C_Share "__eq__" a_Share_eq
  m_Turns_len : Meth K C_Turns "__len__" a_Turns_len
  m_Walk_len : Meth K C_Walk "__len__" a_Walk_len
  na_Draw_found : NoAttr K C_Draw "found"
  na_Draw_many : NoAttr K C_Draw "many"
  na_Draw_told : NoAttr K C_Draw "told"
  na_Draw_turns : NoAttr K C_Draw "turns"
  na_Order_higher : NoAttr K C_Order "higher"
  na_Share_bottom : NoAttr K C_Share "bottom"
  na_Share_top : NoAttr K C_Share "top"
  na_Turns_many : NoAttr K C_Turns "many"
  na_Turns_maps : NoAttr K C_Turns "maps"
  na_Walk_rows : NoAttr K C_Walk "rows"
  na_Walk_whole : NoAttr K C_Walk "whole"
  na_Web_levels : NoAttr K C_Web "levels"
  na_Web_spots : NoAttr K C_Web "spots"
  na_Web_ties : NoAttr K C_Web "ties"
  na_Web_whole : NoAttr K C_Web "whole"
  z_abs : mg "abs" = none
  z_all : mg "all" = none
  z_any : mg "any" = none
  z_bool : mg "bool" = none
  z_enumerate : mg "enumerate" = none
  z_int : mg "int" = none
  z_isinstance : mg "isinstance" = none
  z_len : mg "len" = none
  z_list : mg "list" = none
  z_min : mg "min" = none
  z_range : mg "range" = none
  z_set : mg "set" = none
  z_sorted : mg "sorted" = none
  z_sum : mg "sum" = none
  z_tuple : mg "tuple" = none
  z_zip : mg "zip" = none
  t_MOST_PLACES_orders : Tok
  c_MOST_PLACES_orders : mg "MOST_PLACES_orders" = some (.int 32 t_MOST_PLACES_orders)
  t_MOST_PLACES_turns : Tok
  c_MOST_PLACES_turns : mg "MOST_PLACES_turns" = some (.int 32 t_MOST_PLACES_turns)
  t_MOST_PLACES_walks : Tok
  c_MOST_PLACES_walks : mg "MOST_PLACES_walks" = some (.int 32 t_MOST_PLACES_walks)
  t_MOST_SIGNS : Tok
  c_MOST_SIGNS : mg "MOST_SIGNS" = some (.int 200 t_MOST_SIGNS)
  t_MOST_SPOTS : Tok
  c_MOST_SPOTS : mg "MOST_SPOTS" = some (.int 5 t_MOST_SPOTS)
  t_MOST_WHOLE_walks : Tok
  c_MOST_WHOLE_walks : mg "MOST_WHOLE_walks" = some (.int 1000000 t_MOST_WHOLE_walks)
  t_MOST_WHOLE_webs : Tok
  c_MOST_WHOLE_webs : mg "MOST_WHOLE_webs" = some (.int 40 t_MOST_WHOLE_webs)
  q_WORTHS : Addr
  c_WORTHS : mg "WORTHS" = some (.ref q_WORTHS)
  w_WORTHS : KTup K q_WORTHS [1, 2, 4, 8, 16, 32]
section
variable {P : Program} {w : World} {K : PySem.W.Frag} {mg : Str → Option Value} {base : Heap}
local macro_rules | `(tactic| walk_at "rp") => `(tactic| first
  | assumption
  | exact (show _ = _ from rfl)
  | (apply rpm (Gr.ff (by assumption)); (case r => walk_at "rp"); (case m => infer_instance))
  | (apply rpm (by assumption); (case r => walk_at "rp"); (case m => infer_instance)))
local macro_rules | `(tactic| walk_at "ex") => `(tactic| first
  | assumption
  | exact Ex.refl _
  | exact Gr.fh (by assumption)
  | exact Gr.ff (by assumption)
  | (refine' Ex.trans ?_ (Gr.ff (by assumption)); walk_at "ex")
  | (refine' Ex.trans ?_ (by assumption); walk_at "ex"))
local macro_rules | `(tactic| walk_at "sd") => `(tactic| first | trivial | assumption | omega | exact atI_natL (by assumption) | exact ⟨by omega, by omega⟩)
local macro_rules | `(tactic| walk_at "n") => `(tactic| (repeat (first | with_reducible apply sn | with_reducible apply sq | (dsimp only))))
local macro_rules | `(tactic| walk_at "eo") => `(tactic| first
  | with_reducible exact eo_none
  | ((with_reducible apply eo_some); walk_at "ev"))
local macro_rules | `(tactic| walk_at "el") => `(tactic| first
  | with_reducible exact el_nil
  | ((with_reducible apply el_cons); (case h => walk_at "ev"); (case hr => walk_at "el"); (case m => infer_instance)))
local macro_rules | `(tactic| walk_at "et") => `(tactic| first
  | ((with_reducible apply et_test); walk_at "ev")
  | ((with_reducible apply et_B); walk_at "ev")
  | ((with_reducible apply et_not); walk_at "et")
  | ((with_reducible apply et_and); (case h1 => walk_at "et"); (case h2 => intro hh; clear hh; walk_at "et"))
  | ((with_reducible apply et_or); (case h1 => walk_at "et"); (case h2 => intro hh; clear hh; walk_at "et")))
local macro_rules | `(tactic| walk_at "ev") => `(tactic| first
  | with_reducible exact ev_int
  | with_reducible exact ev_bl
  | with_reducible exact ev_str
  | with_reducible exact ev_noneO
  | with_reducible exact ev_non
  | with_reducible exact ev_ty
  | with_reducible exact ev_ref
  | ((with_reducible apply ev_var); (case h => rfl); (case r => walk_at "rp"); (case m => infer_instance))
  | ((with_reducible apply ev_add); (case ha => walk_at "ev"); (case hb => walk_at "ev"))
  | ((with_reducible apply ev_sub); (case ha => walk_at "ev"); (case hb => walk_at "ev"))
  | ((with_reducible apply ev_mul); (case ha => walk_at "ev"); (case hb => walk_at "ev"); (try (case hc => walk_at "sd")))
  | ((with_reducible apply ev_mod); (case ha => walk_at "ev"); (case hb => walk_at "ev"); (try (case hc => walk_at "sd")))
  | ((with_reducible apply ev_fdiv); (case ha => walk_at "ev"); (case hb => walk_at "ev"); (try (case hc => walk_at "sd")))
  | ((with_reducible apply ev_pow); (case ha => walk_at "ev"); (case hb => walk_at "ev"); (try (case hc => walk_at "sd")))
  | ((with_reducible apply ev_lt); (case ha => walk_at "ev"); (case hb => walk_at "ev"))
  | ((with_reducible apply ev_le); (case ha => walk_at "ev"); (case hb => walk_at "ev"))
  | ((with_reducible apply ev_gt); (case ha => walk_at "ev"); (case hb => walk_at "ev"))
  | ((with_reducible apply ev_ge); (case ha => walk_at "ev"); (case hb => walk_at "ev"))
  | ((with_reducible apply ev_chain); (case ha => walk_at "ev"); (case hb => walk_at "ev"); (case hc => walk_at "ev"))
  | ((with_reducible apply ev_eqI); (case ha => walk_at "ev"); (case hb => walk_at "ev"))
  | ((with_reducible apply ev_neI); (case ha => walk_at "ev"); (case hb => walk_at "ev"))
  | ((with_reducible apply ev_eqS); (case ha => walk_at "ev"); (case hb => walk_at "ev"))
  | ((with_reducible apply ev_neS); (case ha => walk_at "ev"); (case hb => walk_at "ev"))
  | ((with_reducible apply ev_isN); (case ha => walk_at "ev"); (case n => infer_instance))
  | ((with_reducible apply ev_notN); (case ha => walk_at "ev"); (case n => infer_instance))
  | ((with_reducible apply ev_neg); walk_at "ev")
  | ((with_reducible apply ev_fld); (case ha => walk_at "ev"); (case c => infer_instance))
  | ((with_reducible apply ev_lenL); walk_at "ev")
  | ((with_reducible apply ev_lenT); walk_at "ev")
  | ((with_reducible apply ev_lenOwn); (case ha => walk_at "ev"); (try (case hz => walk_at "sd")))
  | ((with_reducible apply ev_lenSet); (case ha => walk_at "ev"); (try (case hz => walk_at "sd")))
  | ((with_reducible apply ev_call1); (case ha => walk_at "ev"); (try (case p => walk_at "sd")))
  | ((with_reducible apply ev_call2); (case ha => walk_at "ev"); (case hb => walk_at "ev"); (try (case p => walk_at "sd")); (case m => infer_instance))
  | ((with_reducible apply ev_call3); (case ha => walk_at "ev"); (case hb => walk_at "ev"); (case hc => walk_at "ev"); (try (case p => walk_at "sd")); (case m => infer_instance); (case n => infer_instance))
  | ((with_reducible apply ev_call4); (case ha => walk_at "ev"); (case hb => walk_at "ev"); (case hc => walk_at "ev"); (case hd => walk_at "ev"); (try (case p => walk_at "sd")); (case m => infer_instance); (case n => infer_instance); (case o => infer_instance))
  | ((with_reducible apply ev_meth0); (case ha => walk_at "ev"); (try (case p => walk_at "sd")))
  | ((with_reducible apply ev_meth1); (case ha => walk_at "ev"); (case hb => walk_at "ev"); (try (case p => walk_at "sd")); (case m' => infer_instance))
  | ((with_reducible apply ev_meth2); (case ha => walk_at "ev"); (case hb => walk_at "ev"); (case hc => walk_at "ev"); (try (case p => walk_at "sd")); (case m' => infer_instance); (case n' => infer_instance))
  | ((with_reducible apply ev_fst); (case ha => walk_at "ev"); (case m => infer_instance))
  | ((with_reducible apply ev_snd); (case ha => walk_at "ev"); (case m => infer_instance))
  | ((with_reducible apply ev_ixL); (case ha => walk_at "ev"); (case hb => walk_at "ev"); (try (case h => walk_at "sd")); (case m => infer_instance))
  | ((with_reducible apply ev_ixT); (case ha => walk_at "ev"); (case hb => walk_at "ev"); (try (case h => walk_at "sd")); (case m => infer_instance))
  | ((with_reducible apply ev_isIntInt); walk_at "ev")
  | ((with_reducible apply ev_isIntBool); walk_at "ev")
  | ((with_reducible apply ev_isTup); walk_at "ev")
  | ((with_reducible apply ev_isLst); walk_at "ev")
  | ((with_reducible apply ev_isStr); walk_at "ev")
  | ((with_reducible apply ev_tupL); (case ha => walk_at "ev"); (case m => infer_instance))
  | ((with_reducible apply ev_listL); (case ha => walk_at "ev"); (case m => infer_instance))
  | ((with_reducible apply ev_listT); (case ha => walk_at "ev"); (case m => infer_instance))
  | ((with_reducible apply ev_tupRg); (case ha => walk_at "ev"); (try (case hn => walk_at "sd")))
  | ((with_reducible apply ev_lstRg); (case ha => walk_at "ev"); (try (case hn => walk_at "sd")))
  | ((with_reducible apply ev_all); walk_at "ev")
  | ((with_reducible apply ev_any); walk_at "ev")
  | ((with_reducible apply ev_sum); walk_at "ev")
  | ((with_reducible apply ev_notV); walk_at "ev")
  | ((with_reducible apply ev_andV); (case h1 => walk_at "ev"); (case h2 => intro hh; clear hh; walk_at "ev"))
  | ((with_reducible apply ev_orV); (case h1 => walk_at "ev"); (case h2 => intro hh; clear hh; walk_at "ev"))
  | ((with_reducible apply ev_cat); (case ha => walk_at "ev"); (case hb => walk_at "ev"); (try (case hz => walk_at "sd")); (case m => infer_instance))
  | ((with_reducible apply ev_lst); (case h => walk_at "el"); (try (case hz => simp only [List.length_cons, List.length_nil, sizeLine_eq]; omega)); (case m => infer_instance))
  | ((with_reducible apply ev_tup); (case h => walk_at "el"); (try (case hz => simp only [List.length_cons, List.length_nil, sizeLine_eq]; omega)); (case m => infer_instance))
  | ((with_reducible apply ev_pr); (case ha => walk_at "ev"); (case hb => walk_at "ev"); (case m => infer_instance); (case n => infer_instance))
  | ((with_reducible apply ev_slL); (case h => walk_at "ev"); (case h1 => walk_at "eo"); (case h2 => walk_at "eo"); (case m => infer_instance))
  | ((with_reducible apply ev_rep1); (case ha => walk_at "ev"); (case hb => walk_at "ev"); (try (case hn => walk_at "sd")); (try (case h0 => walk_at "sd")); (case m => infer_instance))
  | ((with_reducible apply Ev.nat); walk_at "ev"))

abbrev sp_is_whole (T : Tx K mg) : Sp := Sp1 rInt (fun _ => True) rBl (fun _ => true)
theorem ok_is_whole (T : Tx K mg) : FnOk P w K mg base CX0 1 T.a_is_whole T.d_is_whole ["thing"] (sp_is_whole T) := by
  refine T.F_is_whole.ok sc_is_whole (fun vs H Q E h => SpLen.len h) (fun cdv A outer s H vs Q E hr h => ?_)
  obtain ⟨F, v, x, rfl, e, r, -, k⟩ := h
  refine ⟨_, (by exact (pss_one (ps_ret (pe_and (pe_callB (r := rIsi K) call_isi (by rfl) T.z_isinstance (by decide +kernel) (pa_cons (pv 0) (pa_cons (pe_bltn (v := .ty "int") (by rfl) T.z_int (by decide +kernel) rfl) pa_nil))) (pe_one (pe_not (pe_callB (r := rIsi K) call_isi (by rfl) T.z_isinstance (by decide +kernel) (pa_cons (pv 0) (pa_cons (pe_bltn (v := .ty "bool") (by rfl) T.z_bool (by decide +kernel) rfl) pa_nil))))))))), ?_⟩
  try dsimp only [cxOf]
  apply x_ret e
  case h => walk_at "ev"
  exact k

abbrev sp_is_between (T : Tx K mg) : Sp := Sp3 rInt rInt rInt (fun _ _ _ => True) rBl (fun x y z => decide (y ≤ x) && decide (x ≤ z))
theorem ok_is_between (T : Tx K mg) : FnOk P w K mg base CX0 2 T.a_is_between T.d_is_between ["thing", "least", "most"] (sp_is_between T) := by
  refine T.F_is_between.ok sc_is_between (fun vs H Q E h => SpLen.len h) (fun cdv A outer s H vs Q E hr h => ?_)
  obtain ⟨F, v, w, u, x, y, z, rfl, e, r1, r2, r3, -, k⟩ := h
  refine ⟨_, (by exact (pss_one (ps_ret (pe_and (pe_call (ok_is_whole T) (hr.mono (by decide)) rfl T.g_is_whole T.F_is_whole.kp T.b_is_whole .nil pass0 (pa_cons (pv 0) pa_nil)) (pe_one (pe_chain op_le op_le (pv 1) (pv 0) (pv 2))))))), ?_⟩
  try dsimp only [cxOf]
  apply x_ret e
  case h => walk_at "ev"
  intro v F' H' g r
  rw [Bool.true_and] at r
  exact k v F' H' g r

instance {T : Tx K mg} : IsF (rShare T.C_Share) K "top" rInt Rat.num := fld_top T.cl_Share T.na_Share_top
instance {T : Tx K mg} : IsF (rShare T.C_Share) K "bottom" rNat Rat.den := fld_bottom T.cl_Share T.na_Share_bottom
abbrev sp_common (T : Tx K mg) : Sp := Sp2 rInt rInt (fun _ _ => True) rInt (fun a b => (Int.gcd a b : Int))
theorem ok_common (T : Tx K mg) : FnOk P w K mg base CX0 1 T.a_common T.d_common ["one", "other"] (sp_common T) := by
  refine T.F_common.ok sc_common (fun vs H Q E h => SpLen.len h) (fun cdv A outer s H vs Q E hr h => ?_)
  obtain ⟨F, v, w, a, b, rfl, e, r1, r2, -, k⟩ := h
  cases (show v = _ from r1)
  cases (show w = _ from r2)
  have ri : ∀ F (i : Int), rInt F (.int i) i := fun F i => rfl
  refine ⟨_, (by exact (pss_cons (ps_while PassesOwn.never (pt_cmpR op_ne (pv 1) pe_int (nomark _)) (pss_one (ps_par (i := 0) (j := 1) (by rfl) sc_common.nd rfl rfl (by decide) rfl rfl (pa_cons (pv 1) (pa_cons (pe_op op_modN (pv 0) (pv 1)) pa_nil)) (by rfl))))
      (pss_one (ps_ret (pe_callB call_abs (by rfl) T.z_abs (by decide +kernel) (pa_cons (pv 0) pa_nil)))))), ?_⟩
  walk_at "n"
  refine x_while e (fun m σ' F' H' => ∃ i j : Int, σ' = [some (.int i), some (.int j)] ∧ m = j.natAbs ∧ Int.gcd i j = Int.gcd a b ∧ Gr M0 F H F' H') b.natAbs ⟨a, b, rfl, rfl, rfl, .refl e⟩ (fun m _ _ _ => !decide (m = 0)) ?_ ?_ ?_ ?_
  · rintro m σ' F' H' e1 e2 ⟨i, j, rfl, rfl, hg, g⟩
    refine EvT.is (et_test (ev_neI (ev_var rfl (ri _ j)) ev_int)) ?_
    rw [show decide (j = 0) = decide (j.natAbs = 0) from decide_eq_decide.mpr (by omega)]
  · rintro m σ' F' H' F2 H2 g2 ⟨i, j, rfl, rfl, hg, g⟩
    exact ⟨i, j, rfl, rfl, hg, g.trans g2⟩
  · rintro m σ' F' H' F2 H2 e1 g2 hb ⟨i, j, rfl, rfl, hg, g⟩ -
    have hj : j ≠ 0 := fun z => by subst z; cases hb
    refine x_par g2.fh (ev_var rfl (ri _ j)) (ev_modN (ev_var rfl (ri _ i)) (ev_var rfl (ri _ j)) hj) fun v w F3 H3 g3 r3 r4 => ?_
    cases (show v = _ from r3)
    cases (show w = _ from r4)
    exact ⟨F3, _, e1.trans (g2.ff.trans g3.ff), g3.fh, fmod_lt hj, j, i.fmod j, rfl, rfl, by rw [gcd_step, hg], g.trans (g2.trans g3)⟩
  · rintro m σ' F' H' F2 H2 e1 g2 hb ⟨i, j, rfl, rfl, hg, g⟩ -
    have hj : j = 0 := by
      have : j.natAbs = 0 := of_decide_eq_true (by simpa using hb)
      omega
    subst hj
    walk_at "n"
    refine x_ret g2.fh (Ev.is (ev_abs (ev_var rfl (ri _ i))) ?_) fun v F3 H3 g3 r3 => k v F3 H3 (g.trans (g2.trans g3)) r3
    show (i.natAbs : Int) = (Int.gcd a b : Int)
    rw [← hg, Int.gcd_zero_right]
abbrev sp_Share_init (T : Tx K mg) : Sp := SpShare T.C_Share
theorem ok_Share_init (T : Tx K mg) : FnOk P w K mg base CX0 2 T.a_Share_init T.d_Share_init ["self", "top", "bottom"] (sp_Share_init T) := by
  refine T.F_Share_init.ok0 sc_Share_init (fun vs H Q E h => SpLen.len h) (fun cdv A outer s H vs Q E hr h => ?_)
  obtain ⟨F, a, dx, n, d, rfl, e, fa, ha, hd, hz, k⟩ := h
  have va : ∀ F, rRef F (.ref a) a := fun F => rfl
  have ri : ∀ F (i : Int), rInt F (.int i) i := fun F i => rfl
  have hg0 : Int.gcd n d ≠ 0 := fun z => hd (Int.gcd_eq_zero_iff.mp z).2
  have hgle : Int.gcd n d ≤ d.natAbs := Nat.le_of_dvd (by omega) (Int.natAbs_dvd_natAbs.mpr (Int.gcd_dvd_right ..))
  obtain ⟨sn1, sn2⟩ := share_num (n := n) hd
  refine ⟨_, (by exact (pss_cons (ps_if (PW.pt (pw_or (pt_not (pt_val (pe_call (ok_is_whole T) (hr.mono (by decide)) rfl T.g_is_whole T.F_is_whole.kp T.b_is_whole .nil pass0 (pa_cons (pv 1) pa_nil)))) (pw_or (pt_not (pt_val (pe_call (ok_is_whole T) (hr.mono (by decide)) rfl T.g_is_whole T.F_is_whole.kp T.b_is_whole .nil pass0 (pa_cons (pv 2) pa_nil)))) (pw_or1 (pt_cmpR op_eq (pv 2) pe_int (nomark _)))))) (pss_one ps_never) pss_nil)
      (pss_cons (ps_set (i := 3) sc_Share_init.nd rfl (Or.inl rfl) (pe_call (ok_common T) (hr.mono (by decide)) rfl T.g_common T.F_common.kp T.b_common .nil pass0 (pa_cons (pv 1) (pa_cons (pv 2) pa_nil))))
      (pss_cons (ps_if (pt_cmpR op_lt (pv 2) pe_int (nomark _)) (pss_one (ps_set (i := 3) sc_Share_init.nd rfl (Or.inl rfl) (pe_op op_sub pe_int (pv 3)))) pss_nil)
      (pss_cons (kset K (pv 0) (pe_op op_fdivZ (pv 1) (pv 3)) rfl)
      (pss_one (kset K (pv 0) (pe_op op_fdivZ (pv 2) (pv 3)) rfl))))))), ?_⟩
  walk_at "n"
  refine x_if (b := false) e (EvT.is (et_or (et_not (et_B (ev_call1 (ev_var rfl (ri _ n)) trivial))) fun _ => et_or (et_not (et_B (ev_call1 (ev_var rfl (ri _ d)) trivial))) fun _ => et_test (ev_eqI (ev_var rfl (ri _ d)) ev_int)) ?_) (fun z => nomatch z) fun _ F1 H1 g1 => ?_
  · rw [decide_eq_false hd]; rfl
  walk_at "n"
  refine x_set (R := rInt) (x := (Int.gcd n d : Int)) g1.fh (ev_call2 (ev_var rfl (ri _ n)) (ev_var rfl (ri _ d)) trivial) fun v2 F2 H2 g2 r2 => ?_
  cases (show v2 = _ from r2)
  have g12 := g1.trans g2
  have fin : ∀ (b : Int) F3 H3, b = (if d < 0 then 0 - (Int.gcd n d : Int) else (Int.gcd n d : Int)) → Gr M0 F H F3 H3 →
      sFld K (tVar 0) (tOp (rI CDivZ fun i j => .int (i.fdiv j)) (tVar 1) (tVar 3)) "top" { nx := sFld K (tVar 0) (tOp (rI CDivZ fun i j => .int (i.fdiv j)) (tVar 2) (tVar 3)) "bottom" { nx := fun _ H' => Q .non H', rt := Q }, rt := Q } [some (.ref a), some (.int n), some (.int d), some (.int b)] H3 := fun b F3 H3 hb g3 => by
    have hbd : CDivZ n b := divZ (b := 9000) (by rw [hb]; split <;> omega) (Nat.lt_of_le_of_lt (by rw [hb]; split <;> omega) hz) (by omega) (by omega)
    have hbd2 : CDivZ d b := hbd
    refine x_fld g3.fh (ev_fdivZ (ev_var rfl (ri _ n)) (ev_var rfl (ri _ b)) hbd) (ev_var rfl (va _)) (g3.hx _ _ ha) T.cl_Share T.na_Share_top (by decide) fun v4 F4 H4 g4 r4 h4 => ?_
    cases (show v4 = _ from r4)
    have G4 := g3.trans g4
    have f4 : F4 a = none := G4.nn ha fa
    have gg : Gr (El.M1 a) F H F4 (upd H4 a (.ins T.C_Share dx (putF "top" (V.int (n.fdiv b)) []))) := G4.up.set' f4 (.inr rfl)
    walk_at "n"
    refine x_fld gg.fh (ev_fdivZ (ev_var rfl (ri _ d)) (ev_var rfl (ri _ b)) hbd2) (ev_var rfl (va _)) upd_same T.cl_Share T.na_Share_bottom (by show 1 < 1000; decide) fun v5 F5 H5 g5 r5 h5 => ?_
    cases (show v5 = _ from r5)
    have g6 := (gg.trans g5.up).set' (o := .ins T.C_Share dx (putF "bottom" (V.int (d.fdiv b)) (putF "top" (V.int (n.fdiv b)) []))) (g5.nn upd_same f4) (.inr rfl)
    refine k _ _ (g6.frz upd_same fa (.inr rfl)) ⟨a, dx, rfl, ?_⟩
    rw [upd_same, hb, sn1, sn2]
    rfl
  walk_at "n"
  refine x_if (b := decide (d < 0)) g2.fh (et_test (ev_lt (ev_var rfl (ri _ d)) ev_int)) (fun hb F3 H3 g3 => ?_) (fun hb F3 H3 g3 => ?_)
  · walk_at "n"
    refine x_set g3.fh (ev_sub ev_int (ev_var rfl (ri _ (Int.gcd n d : Int)))) fun v4 F4 H4 g4 r4 => ?_
    cases (show v4 = _ from r4)
    walk_at "n"
    exact fin _ F4 H4 (by rw [if_pos (of_decide_eq_true hb)]) (g12.trans (g3.trans g4))
  · walk_at "n"
    exact fin _ F3 H3 (by rw [if_neg (of_decide_eq_false hb)]) (g12.trans g3)
abbrev sp_Share_eq (T : Tx K mg) : Sp := spEq (RShr T.C_Share)
theorem ok_Share_eq (T : Tx K mg) : FnOk P w K mg base CX0 1 T.a_Share_eq T.d_Share_eq ["self", "other"] (sp_Share_eq T) := by
  refine T.F_Share_eq.ok sc_Share_eq (fun vs H Q E h => SpLen.len h) (fun cdv A outer s H vs Q E hr h => ?_)
  obtain ⟨a, b, rfl, ⟨F, t, e, r1, r2⟩, k⟩ := h
  refine ⟨_, (by exact (pss_one (ps_ret (pe_and (pe_callB (r := rIsC T.C_Share) (C8.call_isC T.ic_Share) (by rfl) T.z_isinstance (by decide +kernel) (pa_cons (pv 1) (pa_cons (pe_glob (v := .ref T.C_Share) rfl T.g_Share rfl) pa_nil))) (pe_and (pe_cmpR op_eq (kfld K (pv 0) rfl) (kfld K (pv 1) rfl) (nomark _)) (pe_one (pe_cmpR op_eq (kfld K (pv 0) rfl) (kfld K (pv 1) rfl) (nomark _)))))))), ?_⟩
  walk_at "n"
  refine x_ret e (Ev.is (x' := true) (ev_andV (ev_isShare (ev_var rfl r2)) fun _ => ev_andV (ev_eqI (ev_fld (ev_var rfl r1)) (ev_fld (ev_var rfl r2))) fun _ => ev_eqI (ev_fld (ev_var rfl r1)).nat (ev_fld (ev_var rfl r2)).nat) (by simp)) fun v F2 H2 g2 r => ?_
  cases (show v = _ from r)
  exact k _ g2.hx

abbrev sp_plus (T : Tx K mg) : Sp := Sp2 (rShare T.C_Share) (rShare T.C_Share) (fun a b => ShB a 4000 ∧ ShB b 4000) (rShare T.C_Share) (fun a b => a + b)
theorem ok_plus (T : Tx K mg) : FnOk P w K mg base CX0 4 T.a_plus T.d_plus ["one", "other"] (sp_plus T) := by
  refine T.F_plus.ok sc_plus (fun vs H Q E h => SpLen.len h) (fun cdv A outer s H vs Q E hr h => ?_)
  obtain ⟨F, v, w, a, b, rfl, e, r1, r2, ⟨⟨a1, a2⟩, b1, b2⟩, k⟩ := h
  have ad := a.den_nz
  have bd := b.den_nz
  have a2' : ((a.den : Int)).natAbs < 2 ^ 4000 := by rw [Int.natAbs_natCast]; exact a2
  have b2' : ((b.den : Int)).natAbs < 2 ^ 4000 := by rw [Int.natAbs_natCast]; exact b2
  refine ⟨_, (by exact (pss_one (ps_ret (pe_make T.mk_Share (ok_Share_init T) (hr.mono (by decide)) rfl T.g_Share (T.b_Share_init).ok (T.b_Share_init).vs pass0 (pa_cons (pe_op op_add (pe_op op_mulW (kfld K (pv 0) rfl) (kfld K (pv 1) rfl)) (pe_op op_mulW (kfld K (pv 1) rfl) (kfld K (pv 0) rfl))) (pa_cons (pe_op op_mulW (kfld K (pv 0) rfl) (kfld K (pv 1) rfl)) pa_nil)))))), ?_⟩
  walk_at "n"
  refine x_ret e (Ev.is (ev_Share (ev_add (ev_mulZ (ev_fld (ev_var rfl r1)) (ev_fld (ev_var rfl r2)).nat a1 b2' (by omega) (by omega) (by omega)) (ev_mulZ (ev_fld (ev_var rfl r2)) (ev_fld (ev_var rfl r1)).nat b1 a2' (by omega) (by omega) (by omega))) (ev_mulZ (ev_fld (ev_var rfl r1)).nat (ev_fld (ev_var rfl r2)).nat a2' b2' (by omega) (by omega) (by omega)) (Int.mul_ne_zero (by omega) (by omega)) (Nat.lt_of_lt_of_le (natAbs_mul_lt a2' b2') (Nat.pow_le_pow_right (by omega) (by omega)))) ?_) k
  exact (rat_add a b).symm
abbrev sp_sum_of (T : Tx K mg) : Sp := Sp1 (rLst (rShare T.C_Share)) SumOk (rShare T.C_Share) addQ
theorem ok_sum_of (T : Tx K mg) : FnOk P w K mg base CX0 5 T.a_sum_of T.d_sum_of ["shares"] (sp_sum_of T) := by
  refine T.F_sum_of.ok sc_sum_of (fun vs H Q E h => SpLen.len h) (fun cdv A outer s H vs Q E hr h => ?_)
  obtain ⟨F, v, xs, rfl, e, r, hs, k⟩ := h
  refine ⟨_, (by exact (pss_cons (ps_set (i := 1) sc_sum_of.nd rfl (Or.inl rfl) (pe_make T.mk_Share (ok_Share_init T) (hr.mono (by decide)) rfl T.g_Share (T.bd_Share_init).ok (T.bd_Share_init).vs pass0 (pa_cons pe_int pa_nil)))
      (pss_cons (ps_for PassesOwn.never rfl (klist K (pv 0)) (pg_name (i := 2) sc_sum_of.nd rfl (by first | exact Or.inl rfl | exact Or.inr rfl)) (pss_one (ps_set (i := 1) sc_sum_of.nd rfl (Or.inl rfl) (pe_call (ok_plus T) (hr.mono (by decide)) rfl T.g_plus T.F_plus.kp T.b_plus .nil pass0 (pa_cons (pv 1) (pa_cons (pv 2) pa_nil))))))
      (pss_one (ps_ret (pv 1)))))), ?_⟩
  walk_at "n"
  refine x_set (R := rShare T.C_Share) (x := (0 : Rat)) e (Ev.is (ev_Share1 (n := 0) ev_int) rfl) fun v1 F1 H1 g1 r1 => ?_
  walk_at "n"
  refine x_forL g1.fh (ev_var rfl (Mn.mono g1.ff r)) (fun i σ' F' H' => Gr M0 F H F' H' ∧ ∃ u y, σ' = [some v, some u, y] ∧ rShare T.C_Share F' u (addQ (xs.take i))) (fun F2 H2 g2 => ⟨g1.trans g2, v1, _, rfl, Mn.mono g2.ff r1⟩) ?_ ?_
  · rintro F2 e2 i x w σ' F' H' hx e3 e4 rx ⟨g, u, y, rfl, ru⟩
    walk_at "n"
    refine x_set (R := rShare T.C_Share) (x := addQ (xs.take i) + x) e4 (ev_call2 (ev_var rfl ru) (ev_var rfl rx) ⟨sumOk_take hs i, sumOk_at hs (mem_of_at hx)⟩) fun v3 F3 H3 g3 r3 => ?_
    exact ⟨F3, e3.trans g3.ff, g3.fh, g.trans g3, v3, _, rfl, by rw [addQ_snoc hx]; exact r3⟩
  · rintro σ' F' H' e1 e2 ⟨g, u, y, rfl, ru⟩
    rw [List.take_length] at ru
    walk_at "n"
    exact x_ret e2 (ev_var rfl ru) fun v' F3 H3 g3 r3 => k v' F3 H3 (g.trans g3) r3
abbrev rRows : Rp (List (List Int)) := rLst (rLst rInt)
abbrev sp_with_pivot (T : Tx K mg) : Sp := Sp2 rRows rNat (fun rows k => k < rows.length ∧ rows.length ≤ 1000 ∧ ∀ r ∈ rows, k < r.length) rRows pivM
theorem row_at {rows : List (List Int)} {i : Nat} (h : i < rows.length) : rows[i]? = some (rows.getD i []) := at_getD h
theorem row_mem {rows : List (List Int)} {i : Nat} (h : i < rows.length) : rows.getD i [] ∈ rows := List.mem_of_getElem? (at_getD h)
theorem ok_with_pivot (T : Tx K mg) : FnOk P w K mg base CX0 1 T.a_with_pivot T.d_with_pivot ["rows", "at"] (sp_with_pivot T) := by
  refine T.F_with_pivot.ok sc_with_pivot (fun vs H Q E h => SpLen.len h) (fun cdv A outer s H vs Q E hr h => ?_)
  obtain ⟨F, v, w, rows, n, rfl, e, r1, r2, ⟨h1, h2, h3⟩, k⟩ := h
  cases (show w = _ from r2)
  have ri : ∀ F (i : Int), rInt F (.int i) i := fun F i => rfl
  refine ⟨_, (by exact (pss_cons (ps_set (i := 2) sc_with_pivot.nd rfl (Or.inl rfl) (pe_callTy (r := rListS K) call_list_of (by rfl) T.z_list (by decide +kernel) (pa_cons (pv 0) pa_nil)))
      (pss_cons (ps_for PassesOwn.never rfl (pi_range2 rfl T.z_range (pa_cons (pv 1) (pa_cons (pe_callB (r := rLenS K) call_len_seq (by rfl) T.z_len PySem.boot_len (pa_cons (pv 0) pa_nil)) pa_nil))) (pg_name (i := 3) sc_with_pivot.nd rfl (by first | exact Or.inl rfl | exact Or.inr rfl)) (pss_one (ps_if (pt_cmpR op_ne (pe_ix (r := rIxL K) ix_list (pe_ix (r := rIxL K) ix_list (pv 0) (pv 3) (fun _ _ => rfl)) (pv 1) (fun _ _ => rfl)) pe_int (nomark _)) (pss_cons (ps_asg (pe_tup (pa_cons (pe_ix (r := rIxL K) ix_list (pv 0) (pv 3) (fun _ _ => rfl)) (pa_cons (pe_ix (r := rIxL K) ix_list (pv 0) (pv 1) (fun _ _ => rfl)) pa_nil))) (kptup K (n := 2) rfl (pgs_cons (pg_sub (pv 2) (pv 1) set_list) (pgs_cons (pg_sub (pv 2) (pv 3) set_list) pgs_nil))))
      (pss_one (ps_ret (pv 2)))) pss_nil)))
      (pss_one (ps_ret (pv 2)))))), ?_⟩
  walk_at "n"
  refine x_listM e (ev_var rfl r1) fun vs l F1 H1 g1 pv hl => ?_
  have hl0 : H l = none := Ex.free g1.hx hl
  have fl0 : F l = none := e.free hl0
  have fl1 : F1 l = none := g1.fh.free hl
  have G1 : Gr M0 F H F1 (upd H1 l (.lst vs)) := g1.trans (.loc g1.fh hl)
  have hvl := pv.length
  walk_at "n"
  refine x_forR2 (a := n) (b := rows.length) G1.fh (ev_var rfl (ri _ (n : Int))) (ev_lenL (ev_var rfl (Mn.mono g1.ff r1))) (by omega) (by omega)
    (fun i σ' F' H' => Gr M0 F H F' H' ∧ Ex F1 F' ∧ F' l = none ∧ H' l = some (.lst vs) ∧ (∀ p, p < i → pivAt rows n p = false) ∧ ∃ y, σ' = [some v, some (.int (n : Int)), some (.ref l), y])
    (fun F2 H2 g2 => ⟨G1.trans g2, g2.ff, g2.nn upd_same fl1, g2.hx _ _ upd_same, fun p hp => absurd hp (Nat.not_lt_zero p), _, rfl⟩) ?_ ?_
  · rintro F2 e2 i σ' F' H' hi e3 e4 ⟨g, ex1, fl, hL, hb, y, rfl⟩
    have hrow := row_at (rows := rows) hi
    have hlen := h3 _ (row_mem hi)
    have hent : (rows.getD (n + i) [])[n]? = some ((rows.getD (n + i) []).getD n 0) := at_getD hlen
    walk_at "n"
    refine x_if (b := pivAt rows n i) e4 (EvT.is (et_test (ev_neI (ev_ixL (ev_ixL (ev_var rfl (Mn.mono g.ff r1)) (ev_var rfl (ri _ ((n + i : Nat) : Int))) (atI_natL hrow)) (ev_var rfl (ri _ (n : Int))) (atI_natL hent)) ev_int)) rfl) (fun hbb F3 H3 g3 => ?_) (fun hbb F3 H3 g3 => ?_)
    · have G3 := g.trans g3
      have hL3 := g3.hx _ _ hL
      have fl3 := g3.nn hL fl
      walk_at "n"
      refine x_swapI (l := l) (vs := vs) (p := n) (q := n + i) (x := rows.getD (n + i) []) (y := rows.getD n []) (R := rLst rInt) (S := rLst rInt) g3.fh (ev_ixL (ev_var rfl (Mn.mono G3.ff r1)) (ev_var rfl (ri _ ((n + i : Nat) : Int))) (atI_natL hrow)) (ev_ixL (ev_var rfl (Mn.mono G3.ff r1)) (ev_var rfl (ri _ (n : Int))) (atI_natL (row_at h1))) fl3 hL3 (by omega) (by omega)
        (fun _ _ q => ⟨_, rfl, q⟩) (fun _ _ q => ⟨_, rfl, q⟩) (fun _ _ q => ⟨_, rfl, q⟩) (fun _ _ q => ⟨_, rfl, q⟩) fun v4 w4 F4 H4 g4 r4 q4 hL4 => ?_
      have fl4 := g4.nn hL3 fl3
      have G4 := ((G3.trans g4).set' (o := .lst (vs.set n v4)) fl4 (.inl hl0)).set' (o := .lst ((vs.set n v4).set (n + i) w4)) fl4 (.inl hl0)
      have hfind : pivM rows n = swapM rows n (n + i) := by
        unfold pivM
        rw [L2.find_range (pivAt rows n) (show i < rows.length - n by omega) hbb hb]
      walk_at "n"
      refine x_retM (R := rLst rInt) (xs := swapM rows n (n + i)) (Q := Q) G4 rfl upd_same fl0 hl0 ?_ fun F5 g5 r5 => k _ F5 _ g5 (by rw [hfind]; exact r5)
      exact Paired.set q4 _ (Paired.set r4 _ (Paired.up (ex1.trans (g3.ff.trans g4.ff)) pv))
    · walk_at "n"
      refine ⟨F3, e3.trans g3.ff, g3.fh, g.trans g3, ex1.trans g3.ff, g3.nn hL fl, g3.hx _ _ hL, fun p hp => ?_, _, rfl⟩
      by_cases z : p = i
      · rw [z]; exact hbb
      · exact hb p (by omega)
  · rintro σ' F' H' e1 e2 ⟨g, ex1, fl, hL, hb, y, rfl⟩
    have hfind : pivM rows n = rows := by
      unfold pivM
      rw [L2.find_range_none (pivAt rows n) fun j hj => hb j hj]
    walk_at "n"
    exact x_retM (R := rLst rInt) (xs := rows) (Q := Q) g rfl hL fl0 hl0 (Paired.up ex1 pv) fun F5 g5 r5 => k _ F5 _ g5 (by rw [hfind]; exact r5)
abbrev sp_cleared (T : Tx K mg) : Sp := Sp3 rRows rNat rInt (fun rows k last => k < rows.length ∧ rows.length ≤ 1000 ∧ (∀ r ∈ rows, k < r.length ∧ r.length ≤ 10000 ∧ ∀ x ∈ r, x.natAbs < 2 ^ 4000) ∧ last ≠ 0 ∧ last.natAbs < 2 ^ 4000) rRows clearM
theorem ok_cleared (T : Tx K mg) : FnOk P w K mg base CX0 1 T.a_cleared T.d_cleared ["rows", "at", "last"] (sp_cleared T) := by
  refine T.F_cleared.ok sc_cleared (fun vs H Q E h => SpLen.len h) (fun cdv A outer s H vs Q E hr h => ?_)
  obtain ⟨F, v, w, u, rows, n, last, rfl, e, r1, r2, r3, ⟨h1, h2, h3, h4, h5⟩, k⟩ := h
  cases (show w = _ from r2)
  cases (show u = _ from r3)
  have ri : ∀ F (i : Int), rInt F (.int i) i := fun F i => rfl
  refine ⟨_, (by exact (pss_cons (ps_set (i := 3) sc_cleared.nd rfl (Or.inr rfl) (pe_ix (r := rIxL K) ix_list (pv 0) (pv 1) (fun _ _ => rfl)))
      (pss_cons (ps_set (i := 4) sc_cleared.nd rfl (Or.inl rfl) (pe_lst pa_nil))
      (pss_cons (ps_for PassesOwn.never rfl (kenum K rfl T.z_enumerate (pa_cons (pv 0) pa_nil)) (kptup K (n := 2) rfl (pgs_cons (pg_name (i := 5) sc_cleared.nd rfl (by first | exact Or.inl rfl | exact Or.inr rfl)) (pgs_cons (pg_name (i := 6) sc_cleared.nd rfl (by first | exact Or.inl rfl | exact Or.inr rfl)) pgs_nil))) (pss_one (ps_if (pt_cmpR op_eq (pv 5) (pv 1) (nomark _)) (pss_one (ps_expr (kbm K PySem.F.plainAttrs_list PySem.F.slot_list_append PySem.F.type_list_append mt_append (pv 4) (pa_cons (pv 6) pa_nil)))) (pss_one (ps_expr (kbm K PySem.F.plainAttrs_list PySem.F.slot_list_append PySem.F.type_list_append mt_append (pv 4) (pa_cons (pe_lc (own := [("one", 7), ("other", 8)]) (g := gTup K 2 (gCons (gName 7) (gCons (gName 8) gNil))) (tt := tYes) rfl sc_cleared.nd (kzip (K := K) rfl T.z_zip (pa_cons (pv 6) (pa_cons (pv 3) pa_nil))) (blkOk_by (own := [("one", 7), ("other", 8)]) (N := N_cleared) (sc := defScope s_cleared) (by decide +kernel)) (fun _ _ _ _ _ => (kptup K (n := 2) rfl (pgs_cons (pg_name (i := 7) sc_cleared.nd rfl (by first | exact Or.inl rfl | exact Or.inr rfl)) (pgs_cons (pg_name (i := 8) sc_cleared.nd rfl (by first | exact Or.inl rfl | exact Or.inr rfl)) pgs_nil)))) (fun _ _ _ _ _ => pts_nil) (fun _ _ _ _ _ => (pe_op op_fdivZ (pe_op op_sub (pe_op op_mulW (pe_ix (r := rIxL K) ix_list (pv 3) (pv 1) (fun _ _ => rfl)) (pv 7)) (pe_op op_mulW (pe_ix (r := rIxL K) ix_list (pv 6) (pv 1) (fun _ _ => rfl)) (pv 8))) (pv 2)))) pa_nil)))))))
      (pss_one (ps_ret (pv 4))))))), ?_⟩
  walk_at "n"
  refine x_set (R := rLst rInt) (x := rows.getD n []) e (ev_ixL (ev_var rfl r1) (ev_var rfl (ri _ (n : Int))) (atI_natL (row_at h1))) fun v1 F1 H1 g1 q1 => ?_
  walk_at "n"
  refine x_nil g1.fh fun l hl => ?_
  have hl0 : H l = none := Ex.free g1.hx hl
  have fl0 : F l = none := e.free hl0
  have fl1 : F1 l = none := g1.fh.free hl
  have G1 : Gr M0 F H F1 (upd H1 l (.lst [])) := g1.trans (.loc g1.fh hl)
  obtain ⟨m1, m2, m3⟩ := h3 _ (row_mem h1)
  let f : Nat → List Int := fun i => if i = n then rows.getD i [] else ((rows.getD i []).zip (rows.getD n [])).map fun p => ((rows.getD n []).getD n 0 * p.1 - (rows.getD i []).getD n 0 * p.2).fdiv last
  walk_at "n"
  refine x_forE G1.fh (ev_var rfl (Mn.mono g1.ff r1)) (fun i σ' F' H' => Gr M0 F H F' H' ∧ Ex F1 F' ∧ F' l = none ∧ (∃ vs, H' l = some (.lst vs) ∧ Paired (rLst rInt F') vs ((List.range i).map f)) ∧ ∃ y1 y2 y3 y4, σ' = [some v, some (.int (n : Int)), some (.int last), some v1, some (.ref l), y1, y2, y3, y4])
    (fun F2 H2 g2 => ⟨G1.trans g2, g2.ff, g2.nn upd_same fl1, ⟨[], g2.hx _ _ upd_same, .nil⟩, _, _, _, _, rfl⟩) ?_ ?_ ?_
  · rintro i σ' F' H' F2 H2 g2 ⟨g, ex1, fl, ⟨vs, hL, pv⟩, y1, y2, y3, y4, rfl⟩
    exact ⟨g.trans g2, ex1.trans g2.ff, g2.nn hL fl, ⟨vs, g2.hx _ _ hL, Paired.up g2.ff pv⟩, _, _, _, _, rfl⟩
  · rintro F2 e2 i row v5 σ' F' H' hx e3 e4 rx ⟨g, ex1, fl, ⟨vs, hL, pv⟩, y1, y2, y3, y4, rfl⟩
    have hi : i < rows.length := (List.getElem?_eq_some_iff.mp hx).1
    have erow : rows.getD i [] = row := getD_eq hx
    have hvl : vs.length = i := by rw [pv.length, List.length_map, List.length_range]
    have app : ∀ (D : Ends) (te : TE) (F3 H3 : Hp), (∀ σ2 H2, (∃ F2', Ex F2 F2' ∧ Ex F2' H2 ∧ (Gr M0 F H F2' H2 ∧ Ex F1 F2' ∧ F2' l = none ∧ (∃ vs, H2 l = some (.lst vs) ∧ Paired (rLst rInt F2') vs ((List.range (i + 1)).map f)) ∧ ∃ y1 y2 y3 y4, σ2 = [some v, some (.int (n : Int)), some (.int last), some v1, some (.ref l), y1, y2, y3, y4])) → D.nx σ2 H2) → Gr M0 F' H' F3 H3 → Ev (rLst rInt) te [some v, some (.int (n : Int)), some (.int last), some v1, some (.ref l), some (.int (i : Int)), some v5, y3, y4] F3 H3 (f i) →
        tDrop (tBM K "list" rAppend (tVar 4) (tCons te tNil)) D [some v, some (.int (n : Int)), some (.int last), some v1, some (.ref l), some (.int (i : Int)), some v5, y3, y4] H3 := fun D te F3 H3 hD g3 he => by
      have hL3 := g3.hx _ _ hL
      have fl3 := g3.nn hL fl
      refine x_app (R := rLst rInt) (x := f i) g3.fh (ev_var rfl (show rRef _ _ l from rfl)) hL3 he (by rw [hvl, sizeLine_eq]; omega) fun v6 F6 H6 g6 r6 h6 => ?_
      have fl6 := g6.nn hL3 fl3
      have G6 := (g.trans (g3.trans g6)).set' (o := .lst (vs ++ [v6])) fl6 (.inl hl0)
      refine hD _ _ ⟨F6, e3.trans (g3.ff.trans g6.ff), G6.fh, G6, ex1.trans (g3.ff.trans g6.ff), fl6, ⟨_, upd_same, ?_⟩, _, _, _, _, rfl⟩
      rw [List.range_succ, List.map_append]
      exact (Paired.up (g3.ff.trans g6.ff) pv).snoc r6
    walk_at "n"
    refine x_if (b := decide (i = n)) e4 (EvT.is (et_test (ev_eqI (ev_var rfl (ri _ (i : Int))) (ev_var rfl (ri _ (n : Int))))) (decide_eq_decide.mpr (by omega))) (fun hbb F3 H3 g3 => ?_) (fun hbb F3 H3 g3 => ?_)
    · have z : i = n := of_decide_eq_true hbb
      have ef : f i = row := by show (if i = n then rows.getD i [] else _) = _; rw [if_pos z, erow]
      exact app _ _ F3 H3 (fun _ _ h => h) g3 (Ev.is (ev_var rfl (Mn.mono g3.ff rx)) ef.symm)
    · have z : ¬ i = n := of_decide_eq_false hbb
      have ef : f i = (row.zip (rows.getD n [])).map fun p => ((rows.getD n []).getD n 0 * p.1 - row.getD n 0 * p.2).fdiv last := by show (if i = n then rows.getD i [] else _) = _; rw [if_neg z, erow]
      obtain ⟨c1, c2, c3⟩ := h3 row (mem_of_at hx)
      have rx3 := Mn.mono g3.ff rx
      have q13 := Mn.mono (ex1.trans g3.ff) q1
      refine app _ _ F3 H3 (fun _ _ h => h) g3 (Ev.is (ev_lcZm (R := rInt) (S := rInt) (T := rInt) _ (ev_var rfl rx3) (ev_var rfl q13) (by omega) (fun v w => rfl) fun t p v7 w7 F7 H7 hp g7 r7 q7 => ?_) ef.symm)
      cases (show v7 = _ from r7)
      cases (show w7 = _ from q7)
      obtain ⟨hp1, hp2⟩ := List.getElem?_zip_eq_some.mp hp
      have b1 := c3 p.1 (mem_of_at hp1)
      have b2 := m3 p.2 (mem_of_at hp2)
      have b3 := m3 _ (mem_of_at (at_getD (d := 0) m1))
      have b4 := c3 _ (mem_of_at (at_getD (d := 0) c1))
      exact ev_fdivZ (ev_sub (ev_mulZ (ev_ixL (ev_var rfl (Mn.mono g7.ff q13)) (ev_var rfl (ri _ (n : Int))) (atI_natL (at_getD m1))) (ev_var rfl (ri _ p.1)) b3 b1 (by omega) (by omega) (by omega)) (ev_mulZ (ev_ixL (ev_var rfl (Mn.mono g7.ff rx3)) (ev_var rfl (ri _ (n : Int))) (atI_natL (at_getD c1))) (ev_var rfl (ri _ p.2)) b4 b2 (by omega) (by omega) (by omega))) (ev_var rfl (ri _ last)) (divZ h4 h5 (by omega) (by omega))
  · rintro σ' F' H' e1 e2 ⟨g, ex1, fl, ⟨vs, hL, pv⟩, y1, y2, y3, y4, rfl⟩
    walk_at "n"
    exact x_retM (R := rLst rInt) (Q := Q) g rfl hL fl0 hl0 pv fun F5 g5 r5 => k _ F5 _ g5 r5
theorem mat_wide {n W : Nat} {f : Mx} {r : List Int} (h : r ∈ matL n W f) : r.length = W := by
  unfold matL at h
  obtain ⟨i, _, rfl⟩ := List.mem_map.mp h
  rw [List.length_map, List.length_range]
theorem mat_all {n W : Nat} {f : Mx} {P : Int → Prop} (h : ∀ j i, j < W → i < n → P (f j i)) {r : List Int} (hr : r ∈ matL n W f) : ∀ x ∈ r, P x := fun x hx => by
  unfold matL at hr
  obtain ⟨i, hi, rfl⟩ := List.mem_map.mp hr
  obtain ⟨j, hj, rfl⟩ := List.mem_map.mp hx
  exact h j i (List.mem_range.mp hj) (List.mem_range.mp hi)
def SolvOk (rows : List (List Int)) : Prop := ∃ W M, Solv rows W M
open Classical in
noncomputable def solvM (rows : List (List Int)) : List (List Rat) := if h : SolvOk rows then solR rows h.choose else []
abbrev sp_solved (T : Tx K mg) : Sp := fun vs H Q _ => ∃ F v rows W M, vs = [v] ∧ Ex F H ∧ rRows F v rows ∧ Solv rows W M ∧ ∀ r F' H', Gr M0 F H F' H' → rLst (rLst (rShare T.C_Share)) F' r (solR rows W) → Q r H'
instance {T : Tx K mg} : SpLen (sp_solved T) 1 := ⟨fun ⟨_, _, _, _, _, h, _⟩ => by rw [h]; rfl⟩
theorem ok_solved (T : Tx K mg) : FnOk P w K mg base CX0 4 T.a_solved T.d_solved ["rows"] (sp_solved T) := by
  refine T.F_solved.ok sc_solved (fun vs H Q E h => SpLen.len h) (fun cdv A outer s H vs Q E hr h => ?_)
  obtain ⟨F, v, rows, W, M, rfl, e, r1, hs, k⟩ := h
  have ri : ∀ F (i : Int), rInt F (.int i) i := fun F i => rfl
  have hle := hs.le
  have hfew := hs.few
  have hwf := hs.wfew
  refine ⟨_, (by exact (pss_cons (ps_set (i := 1) sc_solved.nd rfl (Or.inr rfl) (pe_callB (r := rLenS K) call_len_seq (by rfl) T.z_len PySem.boot_len (pa_cons (pv 0) pa_nil)))
      (pss_cons (ps_set (i := 2) sc_solved.nd rfl (Or.inl rfl) pe_int)
      (pss_cons (ps_for PassesOwn.never rfl (pi_range1 rfl T.z_range (pa_cons (pv 1) pa_nil)) (pg_name (i := 3) sc_solved.nd rfl (by first | exact Or.inl rfl | exact Or.inr rfl)) (pss_cons (ps_set (i := 0) sc_solved.nd rfl (Or.inr rfl) (pe_call (ok_with_pivot T) (hr.mono (by decide)) rfl T.g_with_pivot T.F_with_pivot.kp T.b_with_pivot .nil pass0 (pa_cons (pv 0) (pa_cons (pv 3) pa_nil))))
      (pss_cons (ps_set (i := 0) sc_solved.nd rfl (Or.inr rfl) (pe_call (ok_cleared T) (hr.mono (by decide)) rfl T.g_cleared T.F_cleared.kp T.b_cleared .nil pass0 (pa_cons (pv 0) (pa_cons (pv 3) (pa_cons (pv 2) pa_nil)))))
      (pss_one (ps_set (i := 2) sc_solved.nd rfl (Or.inl rfl) (pe_ix (r := rIxL K) ix_list (pe_ix (r := rIxL K) ix_list (pv 0) (pv 3) (fun _ _ => rfl)) (pv 3) (fun _ _ => rfl)))))))
      (pss_one (ps_ret (pe_lc (own := [("k", 5)]) (g := gName 5) (tt := tYes) rfl sc_solved.nd (pi_range1 rfl T.z_range (pa_cons (pv 1) pa_nil)) (blkOk_by (own := [("k", 5)]) (N := N_solved) (sc := defScope s_solved) (by decide +kernel)) (fun _ _ _ _ _ => (pg_name (i := 5) sc_solved.nd rfl (by first | exact Or.inl rfl | exact Or.inr rfl))) (fun _ _ _ _ _ => pts_nil) (fun _ _ _ _ _ => (pe_lc (own := [("right", 4)]) (g := gName 4) (tt := tYes) rfl sc_solved.nd (klist K (pe_slice (r := rSlL K) sl_list (pe_ix (r := rIxL K) ix_list (pv 0) (pv 5) (fun _ _ => rfl)) (po_some (pv 1)) po_none)) (blk_in (blkOk_by (own := [("right", 4)]) (N := N_solved) (by decide +kernel))) (fun _ _ _ _ _ => (pg_name (i := 4) sc_solved.nd rfl (by first | exact Or.inl rfl | exact Or.inr rfl))) (fun _ _ _ _ _ => pts_nil) (fun _ _ _ _ _ => (pe_make T.mk_Share (ok_Share_init T) (hr.mono (by decide)) rfl T.g_Share (T.b_Share_init).ok (T.b_Share_init).vs pass0 (pa_cons (pv 4) (pa_cons (pe_ix (r := rIxL K) ix_list (pe_ix (r := rIxL K) ix_list (pv 0) (pv 5) (fun _ _ => rfl)) (pv 5) (fun _ _ => rfl)) pa_nil))))))))))))), ?_⟩
  walk_at "n"
  refine x_set (R := rInt) (x := (rows.length : Int)) e (ev_lenL (ev_var rfl r1)) fun v1 F1 H1 g1 q1 => ?_
  cases (show v1 = _ from q1)
  walk_at "n"
  refine x_set (R := rInt) (x := (1 : Int)) g1.fh ev_int fun v2 F2 H2 g2 q2 => ?_
  cases (show v2 = _ from q2)
  have g12 := g1.trans g2
  walk_at "n"
  refine x_forR (n := rows.length) g2.fh (ev_var rfl (ri _ (rows.length : Int))) (by omega)
    (fun i σ' F' H' => Gr M0 F H F' H' ∧ ∃ u A y1 y2 y3, Mid rows W M i A ∧ rRows F' u (matL rows.length W (el A i)) ∧ σ' = [some u, some (.int (rows.length : Int)), some (.int (piv A i)), y1, y2, y3])
    (fun F3 H3 g3 => ⟨g12.trans g3, v, _, _, _, _, mid0 hs, by
      have := Mn.mono (g12.ff.trans g3.ff) r1
      rw [matL_of hs.wide] at this
      exact this, rfl⟩) ?_ ?_
  · rintro F3 e3 i σ' F' H' hi e4 e5 ⟨g, u, A, y1, y2, y3, hm, ru, rfl⟩
    obtain ⟨B, hB, p1, p2, p3⟩ := mid_step hs hm hi
    have hB0 : Mid rows W M i B := ⟨fun m h => hB.piv0 m (by omega), hB.sur, hB.small⟩
    walk_at "n"
    refine x_set (R := rRows) (x := matL rows.length W (el B i)) e5 (Ev.is (ev_call2 (ev_var rfl ru) (ev_var rfl (show rNat _ _ i from rfl)) ⟨by rw [matL_len]; exact hi, by rw [matL_len]; exact hfew, fun r hr => by rw [mat_wide hr]; omega⟩) p1) fun v6 F6 H6 g6 q6 => ?_
    walk_at "n"
    refine x_set (R := rRows) (x := matL rows.length W (el B (i + 1))) g6.fh (Ev.is (ev_call3 (ev_var rfl q6) (ev_var rfl (show rNat _ _ i from rfl)) (ev_var rfl (ri _ (piv A i))) ⟨by rw [matL_len]; exact hi, by rw [matL_len]; exact hfew, fun r hr => ⟨by rw [mat_wide hr]; omega, by rw [mat_wide hr]; exact hwf, mat_all (fun j i' hj hi' => mid_abs hs hB0 (by omega) hj hi') hr⟩, hm.piv0 i (Nat.le_refl _), piv_abs hs hm (by omega)⟩) p3) fun v7 F7 H7 g7 q7 => ?_
    have hrow : (matL rows.length W (el B (i + 1)))[i]? = some ((matL rows.length W (el B (i + 1))).getD i []) := row_at (by rw [matL_len]; exact hi)
    have hent : ((matL rows.length W (el B (i + 1))).getD i [])[i]? = some (piv B (i + 1)) := by
      rw [at_getD (d := 0) (by rw [mat_wide (row_mem (by rw [matL_len]; exact hi))]; omega), matL_get hi (by omega), el_succ, if_pos rfl]
      rfl
    walk_at "n"
    refine x_set (R := rInt) (x := piv B (i + 1)) g7.fh (ev_ixL (ev_ixL (ev_var rfl q7) (ev_var rfl (ri _ (i : Int))) (atI_natL hrow)) (ev_var rfl (ri _ (i : Int))) (atI_natL hent)) fun v8 F8 H8 g8 q8 => ?_
    cases (show v8 = _ from q8)
    exact ⟨F8, e4.trans (g6.ff.trans (g7.ff.trans g8.ff)), g8.fh, g.trans (g6.trans (g7.trans g8)), v7, B, _, _, _, hB, Mn.mono g8.ff q7, rfl⟩
  · rintro σ' F' H' e1 e2 ⟨g, u, A, y1, y2, y3, hm, ru, rfl⟩
    obtain ⟨d1, d2⟩ := mid_end hs hm
    walk_at "n"
    refine x_ret (R := rLst (rLst (rShare T.C_Share))) e2 (Ev.is (ev_lcRm (S := rLst (rShare T.C_Share)) (fun i => (List.range (W - rows.length)).map fun c => Rat.divInt (el A rows.length (rows.length + c) i) (piv A rows.length)) (ev_var rfl (ri _ (rows.length : Int))) (by omega) (fun v => rfl) fun i F5 H5 hi g5 => ?_) d2) fun v' F6 H6 g6 r6 => k v' F6 H6 (g.trans g6) r6
    have ru5 := Mn.mono g5.ff ru
    have hrow : (matL rows.length W (el A rows.length))[i]? = some ((List.range W).map fun j => el A rows.length j i) := by
      rw [row_at (by rw [matL_len]; exact hi), matL_row hi]
    have hent : ((List.range W).map fun j => el A rows.length j i)[i]? = some (piv A rows.length) := by
      rw [List.getElem?_map, List.getElem?_range (by omega)]
      show some (el A rows.length i i) = _
      rw [d1 i hi]
    have hdrop : ((List.range W).map fun j => el A rows.length j i).drop rows.length = (List.range (W - rows.length)).map fun c => el A rows.length (rows.length + c) i := by
      refine ext_getD 0 (by rw [List.length_drop, List.length_map, List.length_map, List.length_range, List.length_range]) fun c hc => ?_
      rw [List.length_drop, List.length_map, List.length_range] at hc
      rw [getD_range hc, List.getD_eq_getElem?_getD, List.getElem?_drop, List.getElem?_map, List.getElem?_range (by omega)]
      rfl
    refine Ev.is (ev_lcm (R := rInt) (S := rShare T.C_Share) (fun x => Rat.divInt x (piv A rows.length)) (Ev.is (ev_slL (lo := some (rows.length : Int)) (hi := none) (ev_ixL (ev_var rfl ru5) (ev_var rfl (ri _ (i : Int))) (atI_natL hrow)) (eo_some (ev_var rfl (ri _ (rows.length : Int)))) eo_none) (by rw [cut_from, hdrop])) (by rw [List.length_map, List.length_range]; omega) (fun v => rfl) fun c x v7 F7 H7 hx g7 r7 => ?_) (by rw [List.map_map]; rfl)
    cases (show v7 = _ from r7)
    exact ev_Share (ev_var rfl (ri _ x)) (ev_ixL (ev_ixL (ev_var rfl (Mn.mono g7.ff ru5)) (ev_var rfl (ri _ (i : Int))) (atI_natL hrow)) (ev_var rfl (ri _ (i : Int))) (atI_natL hent)) (hm.piv0 _ (Nat.le_refl _)) (Nat.lt_of_lt_of_le (piv_abs hs hm (Nat.le_refl _)) (Nat.pow_le_pow_right (by omega) (by omega)))

instance {T : Tx K mg} : IsF (rTurns T.C_Turns) K "many" rNat Tn.many := fld_many T.cl_Turns T.na_Turns_many
instance {T : Tx K mg} : IsF (rTurns T.C_Turns) K "maps" (rLst (rTup rNat)) Tn.maps := fld_maps T.cl_Turns T.na_Turns_maps
abbrev sp_is_map (T : Tx K mg) : Sp := Sp2 (rTup rNat) rNat (fun m n => IsMap n m ∧ n ≤ 1000) rBl (fun _ _ => true)
theorem ok_is_map (T : Tx K mg) : FnOk P w K mg base CX0 3 T.a_is_map T.d_is_map ["thing", "many"] (sp_is_map T) := by
  refine T.F_is_map.ok sc_is_map (fun vs H Q E h => SpLen.len h) (fun cdv A outer s H vs Q E hr h => ?_)
  obtain ⟨F, v, w, m, n, rfl, e, r1, r2, ⟨p, pn⟩, k⟩ := h
  cases (show w = _ from r2)
  refine ⟨_, (by exact (pss_one (ps_ret (pe_and (pe_callB (r := rIsi K) call_isi (by rfl) T.z_isinstance (by decide +kernel) (pa_cons (pv 0) (pa_cons (pe_bltn (v := .ty "tuple") (by rfl) T.z_tuple (by decide +kernel) rfl) pa_nil))) (pe_and (pe_cmpR op_eq (pe_callB (r := rLenS K) call_len_seq (by rfl) T.z_len PySem.boot_len (pa_cons (pv 0) pa_nil)) (pv 1) (nomark _)) (pe_one (pe_callB (r := rAll K) (cr_all rfl) (by rfl) T.z_all (by decide +kernel) (pa_cons (pe_lc (own := [("to", 2)]) (g := gName 2) (tt := tYes) rfl sc_is_map.nd (ktup K (pv 0)) (blkOk_by (own := [("to", 2)]) (N := N_is_map) (sc := defScope s_is_map) (by decide +kernel)) (fun _ _ _ _ _ => (pg_name (i := 2) sc_is_map.nd rfl (by first | exact Or.inl rfl | exact Or.inr rfl))) (fun _ _ _ _ _ => pts_nil) (fun _ _ _ _ _ => (pe_call (ok_is_between T) (hr.mono (by decide)) rfl T.g_is_between T.F_is_between.kp T.b_is_between .nil pass0 (pa_cons (pv 2) (pa_cons pe_int (pa_cons (pe_op op_sub (pv 1) pe_int) pa_nil)))))) pa_nil)))))))), ?_⟩
  try dsimp only [cxOf]
  apply x_ret e
  case h =>
    refine ev_andV (a := true) (b := true) ?_ fun _ => ev_andV (a := true) (b := true) ?_ fun _ => ?_
    · walk_at "ev"
    · exact (Ev.is (ev_eqI (ev_lenT (ev_var rfl r1)) (ev_var rfl rfl)) (by rw [p.1]; simp))
    · refine (ev_all (ev_lcTm (R := rNat) (fun _ => true) (ev_var rfl r1) (by rw [p.1]; omega) (fun v => rfl) ?_)).is (List.all_eq_true.mpr fun b hb => ?_)
      · intro i x v F1 H1 hx g r
        cases (show v = _ from r)
        have := p.2 x (mem_of_at hx)
        apply Ev.is
        · walk_at "ev"
        · rw [decide_eq_true (by omega), decide_eq_true (by omega)] <;> rfl
      · obtain ⟨x, hx, rfl⟩ := List.mem_map.mp hb
        rfl
  exact k
abbrev sp_Turns_init (T : Tx K mg) : Sp := SpTurns T.C_Turns
theorem ok_Turns_init (T : Tx K mg) : FnOk P w K mg base CX0 4 T.a_Turns_init T.d_Turns_init ["self", "many", "maps"] (sp_Turns_init T) := by
  refine T.F_Turns_init.ok sc_Turns_init (fun vs H Q E h => SpLen.len h) (fun cdv A outer s H vs Q E hr h => ?_)
  obtain ⟨F, a, dx, l, t, rfl, e, fa, ha, rl, k⟩ := h
  have t0 := t.h0
  have t1 := t.h1
  have t2 := t.h2
  have t3 := t.h3
  refine ⟨_, (by exact (pss_cons (ps_if (pt_not (pt_val (pe_call (ok_is_between T) (hr.mono (by decide)) rfl T.g_is_between T.F_is_between.kp T.b_is_between .nil pass0 (pa_cons (pv 1) (pa_cons pe_int (pa_cons (pe_glob (v := .int 32) rfl T.c_MOST_PLACES_turns ⟨_, rfl⟩) pa_nil)))))) (pss_one ps_never) pss_nil)
      (pss_cons (ps_if (PW.pt (pw_or (pt_not (pt_val (pe_callB (r := rIsi K) call_isi (by rfl) T.z_isinstance (by decide +kernel) (pa_cons (pv 2) (pa_cons (pe_bltn (v := .ty "list") (by rfl) T.z_list (by decide +kernel) rfl) pa_nil))))) (pw_or1 (pt_not (pt_chain op_le op_le pe_int (pe_callB (r := rLenS K) call_len_seq (by rfl) T.z_len PySem.boot_len (pa_cons (pv 2) pa_nil)) (pe_glob (v := .int 200) rfl T.c_MOST_SIGNS ⟨_, rfl⟩)))))) (pss_one ps_never) pss_nil)
      (pss_cons (ps_if (pt_not (pt_val (pe_callB (r := rAll K) (cr_all rfl) (by rfl) T.z_all (by decide +kernel) (pa_cons (pe_lc (own := [("one", 3)]) (g := gName 3) (tt := tYes) rfl sc_Turns_init.nd (klist K (pv 2)) (blkOk_by (own := [("one", 3)]) (N := N_Turns_init) (sc := defScope s_Turns_init) (by decide +kernel)) (fun _ _ _ _ _ => (pg_name (i := 3) sc_Turns_init.nd rfl (by first | exact Or.inl rfl | exact Or.inr rfl))) (fun _ _ _ _ _ => pts_nil) (fun _ _ _ _ _ => (pe_call (ok_is_map T) (hr.mono (by decide)) rfl T.g_is_map T.F_is_map.kp T.b_is_map .nil pass0 (pa_cons (pv 3) (pa_cons (pv 1) pa_nil))))) pa_nil)))) (pss_one ps_never) pss_nil)
      (pss_cons (kset K (pv 0) (pv 1) rfl)
      (pss_one (kset K (pv 0) (pe_callTy (r := rListS K) call_list_of (by rfl) T.z_list (by decide +kernel) (pa_cons (pv 2) pa_nil)) rfl))))))), ?_⟩
  try dsimp only [cxOf]
  refine x_if (b := false) e (EvT.is (b := !true) ?_ rfl) (fun z => nomatch z) fun _ F1 H1 g1 => ?_
  · apply et_not
    apply et_B
    apply Ev.is
    · walk_at "ev"
    · rw [decide_eq_true (by omega), decide_eq_true (by omega)] <;> rfl
  walk_at "n"
  refine x_if (b := false) g1.fh (EvT.is (b := false || false) ?_ rfl) (fun z => nomatch z) fun _ F2 H2 g2 => ?_
  · refine et_or (EvT.is (b := !true) (et_not (et_B ?_)) rfl) fun _ => EvT.is (b := !true) (et_not (et_test ?_)) rfl
    · walk_at "ev"
    · apply Ev.is
      · walk_at "ev"
      · rw [decide_eq_true (by omega), decide_eq_true (by omega)] <;> rfl
  walk_at "n"
  refine x_if (b := false) g2.fh (EvT.is (b := !true) (et_not (et_B ?_)) rfl) (fun z => nomatch z) fun _ F3 H3 g3 => ?_
  · refine (ev_all (ev_lcm (R := rTup rNat) (fun _ => true) (ev_var rfl (by walk_at "rp")) (by omega) (fun v => rfl) ?_)).is (List.all_eq_true.mpr fun b hb => ?_)
    · intro i x v F1 H1 hx g r
      have := t.h4 x (mem_of_at hx)
      refine ev_call2 (ev_var rfl r) (ev_var rfl rfl) ⟨this, by omega⟩
    · obtain ⟨x, hx, rfl⟩ := List.mem_map.mp hb
      rfl
  walk_at "n"
  refine x_fld g3.fh (ev_var rfl (show rInt _ _ (t.many : Int) from rfl)) (ev_var rfl (show rRef _ _ a from rfl)) (g3.hx _ _ (g2.hx _ _ (g1.hx _ _ ha))) T.cl_Turns T.na_Turns_many (by decide) fun v F4 H4 g4 r4 h4 => ?_
  cases (show v = _ from r4)
  have g := (g1.trans g2).trans (g3.trans g4)
  have f4 : F4 a = none := g.nn ha fa
  have gg : Gr (El.M1 a) F H F4 (upd H4 a (.ins T.C_Turns dx (putF "many" (V.int t.many) []))) := g.up.set' f4 (.inr rfl)
  walk_at "n"
  refine x_fld gg.fh (ev_listL (ev_var rfl (by walk_at "rp"))) (ev_var rfl (show rRef _ _ a from rfl)) upd_same T.cl_Turns T.na_Turns_maps (by show 1 < 1000; decide) fun v F5 H5 g5 r5 h5 => ?_
  have g6 := (gg.trans g5.up).set' (o := .ins T.C_Turns dx (putF "maps" v (putF "many" (V.int t.many) []))) (g5.nn upd_same f4) (.inr rfl)
  exact k _ _ (g6.frz upd_same fa (.inr rfl)) ⟨a, dx, v, rfl, upd_same, Mn.mono (Ex.frz g6.fh upd_same (g5.nn upd_same f4)) r5⟩

abbrev sp_Turns_len (T : Tx K mg) : Sp := Sp1 (rTurns T.C_Turns) (fun _ => True) rNat (fun t => t.maps.length)
theorem ok_Turns_len (T : Tx K mg) : FnOk P w K mg base CX0 1 T.a_Turns_len T.d_Turns_len ["self"] (sp_Turns_len T) := by
  refine T.F_Turns_len.ok sc_Turns_len (fun vs H Q E h => SpLen.len h) (fun cdv A outer s H vs Q E hr h => ?_)
  obtain ⟨F, v, t, rfl, e, r, -, k⟩ := h
  refine ⟨_, (by exact (pss_one (ps_ret (pe_callB (r := rLenS K) call_len_seq (by rfl) T.z_len PySem.boot_len (pa_cons (kfld K (pv 0) rfl) pa_nil))))), ?_⟩
  try dsimp only [cxOf]
  apply x_ret e
  case h => walk_at "ev"
  exact k

instance {T : Tx K mg} : IsF (rWalk T.C_Walk) K "whole" rNat Wlk.whole := fld_wwhole T.cl_Walk T.na_Walk_whole
instance {T : Tx K mg} : IsF (rWalk T.C_Walk) K "rows" (rLst (rLst rNat)) Wlk.rows := fld_wrows T.cl_Walk T.na_Walk_rows
theorem ev_nsum {σ : St} {F H : Hp} {ta : TE} {ns : List Nat} (h : Ev (rLst rNat) ta σ F H ns) : Ev rInt (tCB (rSum K) (tCons ta tNil)) σ F H (ns.sum : Int) := Ev.is (ev_sum h.ints) (by
  clear h
  induction ns with
  | nil => rfl
  | cons a l ih => rw [List.map_cons, List.sum_cons, List.sum_cons, ih]; omega)
abbrev sp_is_row (T : Tx K mg) : Sp := Sp3 (rLst rNat) rNat rNat (fun r n w => r.length = n ∧ r.sum = w ∧ n ≤ 1000) rBl (fun _ _ _ => true)
theorem ok_is_row (T : Tx K mg) : FnOk P w K mg base CX0 3 T.a_is_row T.d_is_row ["thing", "many", "whole"] (sp_is_row T) := by
  refine T.F_is_row.ok sc_is_row (fun vs H Q E h => SpLen.len h) (fun cdv A outer s H vs Q E hr h => ?_)
  obtain ⟨F, v, w, u, r, n, s, rfl, e, r1, r2, r3, ⟨h1, h2, h3⟩, k⟩ := h
  cases (show w = _ from r2)
  cases (show u = _ from r3)
  have ri : ∀ F (i : Int), rInt F (.int i) i := fun F i => rfl
  refine ⟨_, (by exact (pss_cons (ps_if (PW.pt (pw_or (pt_not (pt_val (pe_callB (r := rIsi K) call_isi (by rfl) T.z_isinstance (by decide +kernel) (pa_cons (pv 0) (pa_cons (pe_bltn (v := .ty "list") (by rfl) T.z_list (by decide +kernel) rfl) pa_nil))))) (pw_or1 (pt_cmpR op_ne (pe_callB (r := rLenS K) call_len_seq (by rfl) T.z_len PySem.boot_len (pa_cons (pv 0) pa_nil)) (pv 1) (nomark _))))) (pss_one (ps_ret pe_bl)) pss_nil)
      (pss_one (ps_ret (pe_and (pe_callB (r := rAll K) (cr_all rfl) (by rfl) T.z_all (by decide +kernel) (pa_cons (pe_lc (own := [("number", 3)]) (g := gName 3) (tt := tYes) rfl sc_is_row.nd (klist K (pv 0)) (blkOk_by (own := [("number", 3)]) (N := N_is_row) (sc := defScope s_is_row) (by decide +kernel)) (fun _ _ _ _ _ => (pg_name (i := 3) sc_is_row.nd rfl (by first | exact Or.inl rfl | exact Or.inr rfl))) (fun _ _ _ _ _ => pts_nil) (fun _ _ _ _ _ => (pe_call (ok_is_between T) (hr.mono (by decide)) rfl T.g_is_between T.F_is_between.kp T.b_is_between .nil pass0 (pa_cons (pv 3) (pa_cons pe_int (pa_cons (pv 2) pa_nil)))))) pa_nil)) (pe_one (pe_cmpR op_eq (pe_callB (r := rSum K) (cr_sum rfl) (by rfl) T.z_sum (by decide +kernel) (pa_cons (pv 0) pa_nil)) (pv 2) (nomark _)))))))), ?_⟩
  walk_at "n"
  refine x_if (b := false) e (EvT.is (et_or (et_not (et_B (ev_isLst (ev_var rfl r1)))) fun _ => et_test (ev_neI (ev_lenL (ev_var rfl r1)) (ev_var rfl (ri _ (n : Int))))) ?_) (fun z => nomatch z) fun _ F1 H1 g1 => ?_
  · rw [h1, decide_eq_true rfl]; rfl
  have r11 := Mn.mono g1.ff r1
  walk_at "n"
  refine x_ret (x := true) g1.fh (Ev.is (ev_andV (ev_all (ev_lcm (R := rNat) (S := rBl) (fun _ => true) (ev_var rfl r11) (by omega) (fun v => rfl) fun i x v F2 H2 hx g r => ?_)) fun _ => ev_eqI (ev_nsum (ev_var rfl r11)) (ev_var rfl (ri _ (s : Int)))) ?_) fun v F2 H2 g2 r => k v F2 H2 (g1.trans g2) r
  · cases (show v = _ from r)
    refine Ev.is (ev_call3 (ev_var rfl (ri _ (x : Int))) ev_int (ev_var rfl (ri _ (s : Int))) trivial) ?_
    have := sum_ge (mem_of_at hx)
    rw [decide_eq_true (by omega), decide_eq_true (by omega)]; rfl
  · have : ((r.map fun _ => true).all id) = true := List.all_eq_true.mpr fun b hb => by obtain ⟨_, _, rfl⟩ := List.mem_map.mp hb; rfl
    rw [this, h2, decide_eq_true rfl]; rfl
abbrev sp_Walk_init (T : Tx K mg) : Sp := SpWalk T.C_Walk
theorem ok_Walk_init (T : Tx K mg) : FnOk P w K mg base CX0 4 T.a_Walk_init T.d_Walk_init ["self", "whole", "rows"] (sp_Walk_init T) := by
  refine T.F_Walk_init.ok sc_Walk_init (fun vs H Q E h => SpLen.len h) (fun cdv A outer s H vs Q E hr h => ?_)
  obtain ⟨F, a, dx, l, W, rfl, e, fa, ha, rl, k⟩ := h
  have w0 := W.h0
  have w1 := W.h1
  have w2 := W.h2
  have w3 := W.h3
  have va : ∀ F, rRef F (.ref a) a := fun F => rfl
  have ri : ∀ F (i : Int), rInt F (.int i) i := fun F i => rfl
  have rn : ∀ F (i : Nat), rNat F (.int (i : Int)) i := fun F i => rfl
  refine ⟨_, (by exact (pss_cons (ps_if (pt_not (pt_val (pe_call (ok_is_between T) (hr.mono (by decide)) rfl T.g_is_between T.F_is_between.kp T.b_is_between .nil pass0 (pa_cons (pv 1) (pa_cons pe_int (pa_cons (pe_glob (v := .int 1000000) rfl T.c_MOST_WHOLE_walks ⟨_, rfl⟩) pa_nil)))))) (pss_one ps_never) pss_nil)
      (pss_cons (ps_if (PW.pt (pw_or (pt_not (pt_val (pe_callB (r := rIsi K) call_isi (by rfl) T.z_isinstance (by decide +kernel) (pa_cons (pv 2) (pa_cons (pe_bltn (v := .ty "list") (by rfl) T.z_list (by decide +kernel) rfl) pa_nil))))) (pw_or1 (pt_not (pt_chain op_le op_le pe_int (pe_callB (r := rLenS K) call_len_seq (by rfl) T.z_len PySem.boot_len (pa_cons (pv 2) pa_nil)) (pe_glob (v := .int 32) rfl T.c_MOST_PLACES_walks ⟨_, rfl⟩)))))) (pss_one ps_never) pss_nil)
      (pss_cons (ps_if (pt_not (pt_val (pe_callB (r := rAll K) (cr_all rfl) (by rfl) T.z_all (by decide +kernel) (pa_cons (pe_lc (own := [("row", 3)]) (g := gName 3) (tt := tYes) rfl sc_Walk_init.nd (klist K (pv 2)) (blkOk_by (own := [("row", 3)]) (N := N_Walk_init) (sc := defScope s_Walk_init) (by decide +kernel)) (fun _ _ _ _ _ => (pg_name (i := 3) sc_Walk_init.nd rfl (by first | exact Or.inl rfl | exact Or.inr rfl))) (fun _ _ _ _ _ => pts_nil) (fun _ _ _ _ _ => (pe_call (ok_is_row T) (hr.mono (by decide)) rfl T.g_is_row T.F_is_row.kp T.b_is_row .nil pass0 (pa_cons (pv 3) (pa_cons (pe_callB (r := rLenS K) call_len_seq (by rfl) T.z_len PySem.boot_len (pa_cons (pv 2) pa_nil)) (pa_cons (pv 1) pa_nil)))))) pa_nil)))) (pss_one ps_never) pss_nil)
      (pss_cons (kset K (pv 0) (pv 1) rfl)
      (pss_one (kset K (pv 0) (pe_lc (own := [("row", 3)]) (g := gName 3) (tt := tYes) rfl sc_Walk_init.nd (klist K (pv 2)) (blkOk_by (own := [("row", 3)]) (N := N_Walk_init) (sc := defScope s_Walk_init) (by decide +kernel)) (fun _ _ _ _ _ => (pg_name (i := 3) sc_Walk_init.nd rfl (by first | exact Or.inl rfl | exact Or.inr rfl))) (fun _ _ _ _ _ => pts_nil) (fun _ _ _ _ _ => (pe_callTy (r := rListS K) call_list_of (by rfl) T.z_list (by decide +kernel) (pa_cons (pv 3) pa_nil)))) rfl))))))), ?_⟩
  walk_at "n"
  refine x_if (b := false) e (EvT.is (b := !true) (et_not (et_B (Ev.is (ev_call3 (ev_var rfl (ri _ (W.whole : Int))) ev_int ev_int trivial) ?_))) rfl) (fun z => nomatch z) fun _ F1 H1 g1 => ?_
  · rw [decide_eq_true (by omega), decide_eq_true (by omega)]; rfl
  walk_at "n"
  refine x_if (b := false) g1.fh (EvT.is (et_or (et_not (et_B (ev_isLst (ev_var rfl (Mn.mono g1.ff rl))))) fun _ => et_not (et_test (ev_chain (p := fun i j => decide (i ≤ j)) (p' := fun i j => decide (i ≤ j)) ev_int (ev_lenL (ev_var rfl (Mn.mono g1.ff rl))) ev_int))) ?_) (fun z => nomatch z) fun _ F2 H2 g2 => ?_
  · rw [decide_eq_true (by omega), decide_eq_true (by omega)]; rfl
  have g12 := g1.trans g2
  walk_at "n"
  refine x_if (b := false) g2.fh (EvT.is (b := !true) (et_not (et_B (Ev.is (ev_all (ev_lcm (R := rLst rNat) (S := rBl) (fun _ => true) (ev_var rfl (Mn.mono g12.ff rl)) (by omega) (fun v => rfl) fun i x v F3 H3 hx g r => ?_)) ?_))) rfl) (fun z => nomatch z) fun _ F3 H3 g3 => ?_
  · obtain ⟨q1, q2⟩ := W.h4 x (mem_of_at hx)
    exact ev_call3 (ev_var rfl r) (Ev.toNat (ev_lenL (ev_var rfl (Mn.mono (g12.ff.trans g.ff) rl)))) (ev_var rfl (rn _ W.whole)) ⟨q1, q2, by omega⟩
  · exact List.all_eq_true.mpr fun b hb => by obtain ⟨_, _, rfl⟩ := List.mem_map.mp hb; rfl
  have g13 := g12.trans g3
  walk_at "n"
  refine x_fld g3.fh (ev_var rfl (ri _ (W.whole : Int))) (ev_var rfl (va _)) (g13.hx _ _ ha) T.cl_Walk T.na_Walk_whole (by decide) fun v F4 H4 g4 r4 h4 => ?_
  cases (show v = _ from r4)
  have g14 := g13.trans g4
  have f4 : F4 a = none := g14.nn ha fa
  have gg : Gr (El.M1 a) F H F4 (upd H4 a (.ins T.C_Walk dx (putF "whole" (V.int W.whole) []))) := g14.up.set' f4 (.inr rfl)
  walk_at "n"
  refine x_fld gg.fh (Ev.is (ev_lcm (R := rLst rNat) (S := rLst rNat) (fun r => r) (ev_var rfl (Mn.mono g14.ff rl)) (by omega) (fun v => rfl) fun i x v F5 H5 hx g r => ev_listL (ev_var rfl r)) (List.map_id' _)) (ev_var rfl (va _)) upd_same T.cl_Walk T.na_Walk_rows (by show 1 < 1000; decide) fun v F5 H5 g5 r5 h5 => ?_
  have g6 := (gg.trans g5.up).set' (o := .ins T.C_Walk dx (putF "rows" v (putF "whole" (V.int W.whole) []))) (g5.nn upd_same f4) (.inr rfl)
  exact k _ _ (g6.frz upd_same fa (.inr rfl)) ⟨a, dx, v, rfl, upd_same, Mn.mono (Ex.frz g6.fh upd_same (g5.nn upd_same f4)) r5⟩
abbrev sp_Walk_len (T : Tx K mg) : Sp := Sp1 (rWalk T.C_Walk) (fun _ => True) rNat (fun W => W.rows.length)
theorem ok_Walk_len (T : Tx K mg) : FnOk P w K mg base CX0 1 T.a_Walk_len T.d_Walk_len ["self"] (sp_Walk_len T) := by
  refine T.F_Walk_len.ok sc_Walk_len (fun vs H Q E h => SpLen.len h) (fun cdv A outer s H vs Q E hr h => ?_)
  obtain ⟨F, v, W, rfl, e, r, -, k⟩ := h
  refine ⟨_, (by exact (pss_one (ps_ret (pe_callB (r := rLenS K) call_len_seq (by rfl) T.z_len PySem.boot_len (pa_cons (kfld K (pv 0) rfl) pa_nil))))), ?_⟩
  walk_at "n"
  exact x_ret e (ev_lenL (ev_fld (ev_var rfl r))).toNat k
abbrev sp_walk_of (T : Tx K mg) : Sp := Sp1 (rTurns T.C_Turns) (fun _ => True) (rWalk T.C_Walk) walkM
theorem ok_walk_of (T : Tx K mg) : FnOk P w K mg base CX0 6 T.a_walk_of T.d_walk_of ["turns"] (sp_walk_of T) := by
  refine T.F_walk_of.ok sc_walk_of (fun vs H Q E h => SpLen.len h) (fun cdv A outer s H vs Q E hr h => ?_)
  obtain ⟨F, v, t, rfl, e, r1, -, k⟩ := h
  have t0 := t.h0
  have t1 := t.h1
  have t3 := t.h3
  have ri : ∀ F (i : Int), rInt F (.int i) i := fun F i => rfl
  refine ⟨_, (by exact (pss_cons (ps_set (i := 1) sc_walk_of.nd rfl (Or.inl rfl) (pe_lst pa_nil))
      (pss_cons (ps_for PassesOwn.never rfl (pi_range1 rfl T.z_range (pa_cons (kfld K (pv 0) rfl) pa_nil)) (pg_name (i := 2) sc_walk_of.nd rfl (by first | exact Or.inl rfl | exact Or.inr rfl)) (pss_cons (ps_set (i := 3) sc_walk_of.nd rfl (Or.inl rfl) (pe_op op_rep (pe_lst (pa_cons pe_int pa_nil)) (kfld K (pv 0) rfl)))
      (pss_cons (ps_for PassesOwn.never rfl (klist K (kfld K (pv 0) rfl)) (pg_name (i := 4) sc_walk_of.nd rfl (by first | exact Or.inl rfl | exact Or.inr rfl)) (pss_one (ps_augS (pv 3) (pe_ix (r := rIxT K) ix_tup (pv 4) (pv 2) (fun _ _ => rfl)) get_list pe_int ip_add set_list)))
      (pss_one (ps_expr (kbm K PySem.F.plainAttrs_list PySem.F.slot_list_append PySem.F.type_list_append mt_append (pv 1) (pa_cons (pv 3) pa_nil)))))))
      (pss_one (ps_ret (pe_make T.mk_Walk (ok_Walk_init T) (hr.mono (by decide)) rfl T.g_Walk T.b_Walk_init .nil pass0 (pa_cons (pe_callB (call_lenOwn (ok_Turns_len T) (hr.mono (by decide)) T.m_Turns_len.at_ T.m_Turns_len.fn T.b_Turns_len pass0) (by rfl) T.z_len PySem.boot_len (pa_cons (pv 0) pa_nil)) (pa_cons (pv 1) pa_nil)))))))), ?_⟩
  walk_at "n"
  refine x_nil e fun l hl => ?_
  have fl0 : F l = none := e.free hl
  have G1 : Gr M0 F H F (upd H l (.lst [])) := .loc e hl
  walk_at "n"
  refine x_forR (n := t.many) G1.fh (ev_fld (ev_var rfl r1)).nat (by omega)
    (fun i σ' F' H' => Gr M0 F H F' H' ∧ F' l = none ∧ (∃ vs, H' l = some (.lst vs) ∧ Paired (rLst rNat F') vs ((List.range i).map fun p => (List.range t.many).map fun q => cntM t.maps p q)) ∧ ∃ y1 y2 y3, σ' = [some v, some (.ref l), y1, y2, y3])
    (fun F2 H2 g2 => ⟨G1.trans g2, g2.nn upd_same fl0, ⟨[], g2.hx _ _ upd_same, .nil⟩, _, _, _, rfl⟩) ?_ ?_
  · rintro F2 e2 p σ' F' H' hp e3 e4 ⟨g, fl, ⟨vs, hL, pv⟩, y1, y2, y3, rfl⟩
    have hvl : vs.length = p := by rw [pv.length, List.length_map, List.length_range]
    walk_at "n"
    refine x_repM (R := rInt) (x := 0) (n := t.many) e4 ev_int (ev_fld (ev_var rfl (Mn.mono g.ff r1))).nat (by omega) fun v3 l3 F3 H3 g3 r3 hl3 => ?_
    cases (show v3 = _ from r3)
    have ne3 : l3 ≠ l := fun z => by subst z; rw [g3.hx _ _ hL] at hl3; cases hl3
    have hl30 : H' l3 = none := Ex.free g3.hx hl3
    have hl300 : H l3 = none := Ex.free g.hx hl30
    have fl3 : F3 l3 = none := g3.fh.free hl3
    have flF : F l3 = none := e.free hl300
    have G3 : Gr M0 F' H' F3 (upd H3 l3 (.lst (List.replicate t.many (V.int 0)))) := g3.trans (.loc g3.fh hl3)
    have rowz : List.replicate t.many (V.int 0) = ((List.range t.many).map fun q => cntM (t.maps.take 0) p q).map fun n : Nat => V.int (n : Int) := by
      rw [List.map_map]
      refine (List.eq_replicate_iff.mpr ⟨by rw [List.length_map, List.length_range], fun b hb => ?_⟩).symm
      obtain ⟨q, _, rfl⟩ := List.mem_map.mp hb
      rfl
    walk_at "n"
    refine x_forL (xs := t.maps) (R := rTup rNat) G3.fh (ev_fld (ev_var rfl (Mn.mono (g.ff.trans G3.ff) r1))) (fun i σ' F6 H6 => Gr M0 F' H' F6 H6 ∧ F6 l3 = none ∧ H6 l3 = some (.lst (((List.range t.many).map fun q => cntM (t.maps.take i) p q).map fun n : Nat => V.int (n : Int))) ∧ ∃ y3, σ' = [some v, some (.ref l), some (.int (p : Int)), some (.ref l3), y3])
      (fun F6 H6 g6 => ⟨G3.trans g6, g6.nn upd_same fl3, by rw [g6.hx _ _ upd_same, rowz], _, rfl⟩) ?_ ?_
    · rintro F5 e5 i m u σ' F6 H6 hm e6 e7 rm ⟨g6, f6, h6, y3, rfl⟩
      obtain ⟨m1, m2⟩ := t.h4 m (mem_of_at hm)
      have hmp : m[p]? = some (m.getD p 0) := at_getD (by rw [m1]; exact hp)
      have hmp2 : m.getD p 0 < t.many := m2 _ (List.mem_of_getElem? hmp)
      walk_at "n"
      refine x_augI (n := m.getD p 0) (a := (cntM (t.maps.take i) p (m.getD p 0) : Int)) (b := 1) e7 (ev_var rfl (show rRef _ _ l3 from rfl)) (ev_ixT (ev_var rfl rm) (ev_var rfl (ri _ (p : Int))) (atI_natL hmp)).nat h6 (by rw [List.getElem?_map, List.getElem?_map, List.getElem?_range hmp2]; rfl) ev_int fun F7 H7 g7 h7 => ?_
      have f7 := g7.nn h6 f6
      refine ⟨F7, e6.trans g7.ff, ((g6.trans g7).set' f7 (.inl hl30)).fh, (g6.trans g7).set' f7 (.inl hl30), f7, ?_, _, rfl⟩
      rw [upd_same]
      congr 2
      refine ext_getD V.non (by rw [List.length_set, List.length_map, List.length_map, List.length_map, List.length_map]) fun q hq => ?_
      rw [List.length_set, List.length_map, List.length_map, List.length_range] at hq
      have right : (((List.range t.many).map fun q => cntM (t.maps.take (i + 1)) p q).map fun n : Nat => V.int (n : Int)).getD q V.non = V.int (cntM (t.maps.take (i + 1)) p q : Int) := getD_eq (by rw [List.getElem?_map, List.getElem?_map, List.getElem?_range hq]; rfl)
      have cnt : cntM (t.maps.take (i + 1)) p q = cntM (t.maps.take i) p q + (if m.getD p 0 = q then 1 else 0) := by
        unfold cntM
        rw [List.take_add_one, hm, List.filter_append, List.length_append]
        show _ + (List.filter _ [m]).length = _
        rw [List.filter_cons]
        by_cases z : m.getD p 0 = q
        · rw [if_pos (decide_eq_true z), if_pos z]; rfl
        · rw [if_neg (by rw [decide_eq_false z]; exact Bool.false_ne_true), if_neg z]; rfl
      rw [right, cnt]
      by_cases z : m.getD p 0 = q
      · rw [z, getD_eq (by rw [List.getElem?_set_self (by rw [List.length_map, List.length_map, List.length_range]; exact hq)]), if_pos rfl]
        rfl
      · rw [List.getD_eq_getElem?_getD, List.getElem?_set_ne z, List.getElem?_map, List.getElem?_map, List.getElem?_range hq, if_neg z]
        rfl
    · rintro σ' F6 H6 e5 e6 ⟨g6, f6, h6, y3, rfl⟩
      rw [List.take_length] at h6
      have hL6 := g6.hx _ _ hL
      have fl6 := g6.nn hL fl
      have gz := g6.frz h6 (Ex.free g6.ff f6) (.inl hl30)
      have hrow : rLst rNat (upd F6 l3 (.lst (((List.range t.many).map fun q => cntM t.maps p q).map fun n : Nat => V.int (n : Int)))) (.ref l3) ((List.range t.many).map fun q => cntM t.maps p q) := ⟨l3, _, rfl, upd_same, nats_P _ _⟩
      walk_at "n"
      refine x_app (R := rLst rNat) (x := (List.range t.many).map fun q => cntM t.maps p q) gz.fh (ev_var rfl (show rRef _ _ l from rfl)) hL6 (ev_var rfl hrow) (by rw [hvl, sizeLine_eq]; omega) fun v7 F7 H7 g7 r7 h7 => ?_
      have fl7 : F7 l = none := g7.nn hL6 (by rw [upd_ne ne3.symm]; exact fl6)
      have G7 := (g.trans (gz.trans g7)).set' (o := .lst (vs ++ [v7])) fl7 (.inl hl)
      refine ⟨F7, e3.trans (gz.ff.trans g7.ff), G7.fh, G7, fl7, ⟨_, upd_same, ?_⟩, _, _, _, rfl⟩
      rw [List.range_succ, List.map_append]
      exact (Paired.up (gz.ff.trans g7.ff) pv).snoc r7
  · rintro σ' F' H' e1 e2 ⟨g, fl, ⟨vs, hL, pv⟩, y1, y2, y3, rfl⟩
    have gz := g.frz hL fl0 (.inl hl)
    have hrows : rLst (rLst rNat) (upd F' l (.lst vs)) (.ref l) (walkM t).rows := ⟨l, _, rfl, upd_same, Paired.up (Ex.new fl) pv⟩
    walk_at "n"
    exact x_ret (R := rWalk T.C_Walk) (x := walkM t) gz.fh (ev_Walk (W := walkM t) (ev_lenOwn (ev_var rfl (Mn.mono gz.ff r1)) (by omega)) (ev_var rfl hrows)) fun v' F5 H5 g5 r5 => k v' F5 H5 (gz.trans g5) r5
abbrev sp_reached_from (T : Tx K mg) : Sp := Sp2 (rWalk T.C_Walk) rNat (fun W p => p < W.rows.length) (rLst rNat) reachW
theorem ok_reached_from (T : Tx K mg) : FnOk P w K mg base CX0 1 T.a_reached_from T.d_reached_from ["walk", "place"] (sp_reached_from T) := by
  refine T.F_reached_from.ok sc_reached_from (fun vs H Q E h => SpLen.len h) (fun cdv A outer s H vs Q E hr h => ?_)
  obtain ⟨F, v, w, W, p, rfl, e, r1, r2, hp, k⟩ := h
  cases (show w = _ from r2)
  have w3 := W.h3
  have ri : ∀ F (i : Int), rInt F (.int i) i := fun F i => rfl
  have rn : ∀ F (i : Nat), rNat F (.int (i : Int)) i := fun F i => rfl
  refine ⟨_, (by exact (pss_cons (ps_set (i := 2) sc_reached_from.nd rfl (Or.inr rfl) (pe_lst (pa_cons (pv 1) pa_nil)))
      (pss_cons (ps_set (i := 3) sc_reached_from.nd rfl (Or.inl rfl) pe_int)
      (pss_cons (ps_while PassesOwn.never (pt_cmpR op_lt (pv 3) (pe_callB (r := rLenS K) call_len_seq (by rfl) T.z_len PySem.boot_len (pa_cons (pv 2) pa_nil)) (nomark _)) (pss_cons (ps_expr (kbm K PySem.F.plainAttrs_list PySem.F.slot_list_extend PySem.F.type_list_extend mt_extend (pv 2) (pa_cons (pe_lc (own := [("to", 4), ("number", 5)]) (g := gTup K 2 (gCons (gName 4) (gCons (gName 5) gNil))) (tt := _) rfl sc_reached_from.nd (kenum K rfl T.z_enumerate (pa_cons (pe_ix (r := rIxL K) ix_list (kfld K (pv 0) rfl) (pe_ix (r := rIxL K) ix_list (pv 2) (pv 3) (fun _ _ => rfl)) (fun _ _ => rfl)) pa_nil)) (blkOk_by (own := [("to", 4), ("number", 5)]) (N := N_reached_from) (sc := defScope s_reached_from) (by decide +kernel)) (fun _ _ _ _ _ => (kptup K (n := 2) rfl (pgs_cons (pg_name (i := 4) sc_reached_from.nd rfl (by first | exact Or.inl rfl | exact Or.inr rfl)) (pgs_cons (pg_name (i := 5) sc_reached_from.nd rfl (by first | exact Or.inl rfl | exact Or.inr rfl)) pgs_nil)))) (fun _ _ _ _ _ => (pts_one (PW.pt (pw_and (pt_cmpR op_gt (pv 5) pe_int (nomark _)) (pw_and1 (pt_cmpR (r := rIn K true) op_notIn_seq (pv 4) (pv 2) (by rfl))))))) (fun _ _ _ _ _ => (pv 4))) pa_nil)))
      (pss_one (ps_aug (i := 3) sc_reached_from.nd rfl (Or.inl rfl) pe_int ip_add))))
      (pss_one (ps_ret (pe_callB (r := rSorted K) cr_sorted (by rfl) T.z_sorted (by decide +kernel) (pa_cons (pv 2) pa_nil)))))))), ?_⟩
  walk_at "n"
  refine x_lst1 (R := rNat) (x := p) e (ev_var rfl (rn _ p)) fun v1 l F1 H1 g1 q1 hl => ?_
  cases (show v1 = _ from q1)
  have hl0 : H l = none := Ex.free g1.hx hl
  have fl1 : F1 l = none := g1.fh.free hl
  have fl0 : F l = none := e.free hl0
  have G1 : Gr M0 F H F1 (upd H1 l (.lst [.int (p : Int)])) := g1.trans (.loc g1.fh hl)
  walk_at "n"
  refine x_set (R := rInt) (x := 0) G1.fh ev_int fun v2 F2 H2 g2 q2 => ?_
  cases (show v2 = _ from q2)
  walk_at "n"
  refine x_while g2.fh (fun m σ' F' H' => Gr M0 F H F' H' ∧ ∃ (c : Nat) (xs : List Nat) (y1 y2 : Option V), m = W.rows.length - c ∧ σ' = [some v, some (.int (p : Int)), some (.ref l), some (.int (c : Int)), y1, y2] ∧ F' l = none ∧ H' l = some (.lst (xs.map fun n : Nat => V.int (n : Int))) ∧ xs.Nodup ∧ (∀ x ∈ xs, x < W.rows.length) ∧ p ∈ xs ∧ (∀ x ∈ xs, Rch (stepC W.rows.length W.P) p x) ∧ c ≤ xs.length ∧ ∀ x ∈ xs.take c, ∀ t, t < W.rows.length → 0 < W.P x t → t ∈ xs)
    W.rows.length ⟨G1.trans g2, 0, [p], _, _, by omega, rfl, g2.nn upd_same fl1, g2.hx _ _ upd_same, by simp, fun x hx => by rw [List.mem_singleton.mp hx]; exact hp, by simp, fun x hx => by rw [List.mem_singleton.mp hx]; exact .refl p, Nat.zero_le _, fun x hx => nomatch hx⟩
    (fun m σ' F' H' => match H' l, σ' with | some (.lst vs), [_, _, _, some (.int c), _, _] => decide (c < (vs.length : Int)) | _, _ => false) ?_ ?_ ?_ ?_
  · rintro m σ' F' H' e1 e2 ⟨g, c, xs, y1, y2, rfl, rfl, fl, hL, nd, hlt, hpx, hr, hc, hcl⟩
    refine EvT.is (et_test (ev_lt (ev_var rfl (ri _ (c : Int))) (ev_lenM (ev_var rfl (show rRef _ _ l from rfl)) hL))) ?_
    rw [hL]
  · rintro m σ' F' H' F2 H2 g2 ⟨g, c, xs, y1, y2, rfl, rfl, fl, hL, nd, hlt, hpx, hr, hc, hcl⟩
    exact ⟨g.trans g2, c, xs, _, _, rfl, rfl, g2.nn hL fl, g2.hx _ _ hL, nd, hlt, hpx, hr, hc, hcl⟩
  · rintro m σ' F' H' F3 H3 e1 g3 hb ⟨g, c, xs, y1, y2, rfl, rfl, fl, hL, nd, hlt, hpx, hr, hc, hcl⟩ -
    rw [hL] at hb
    have hcl' : c < xs.length := by
      have := of_decide_eq_true hb
      rw [List.length_map] at this
      omega
    have hxn := nodup_lt nd hlt
    have hL3 := g3.hx _ _ hL
    have fl3 := g3.nn hL fl
    have hx : xs[c]? = some (xs.getD c 0) := at_getD hcl'
    have hxm := List.mem_of_getElem? hx
    have hxl := hlt _ hxm
    obtain ⟨row1, row2⟩ := W.row hxl
    have hrow : W.rows[xs.getD c 0]? = some (W.rows.getD (xs.getD c 0) []) := at_getD hxl
    walk_at "n"
    refine x_ext (R := rNat) (zs := ((List.range (W.rows.getD (xs.getD c 0) []).length).filter fun t => decide (0 < W.P (xs.getD c 0) t) && !decide (t ∈ xs)).map fun t => t) g3.fh (ev_var rfl (show rRef _ _ l from rfl)) hL3
      (ev_lcEF (R := rNat) (T := rNat) _ _ (ev_ixL (ev_fld (ev_var rfl (Mn.mono (g.ff.trans g3.ff) r1))) (ev_ixN (ev_var rfl (show rRef _ _ l from rfl)) (ev_var rfl (ri _ (c : Int))) hL3 hx).nat (atI_natL hrow)) (by omega) (fun v w => rfl) (fun t x w F4 H4 ht g4 rw_ => ?_) (fun t x w F4 H4 ht hpt g4 rw_ => ev_var rfl (rn _ t))) ?_ fun ws F4 H4 g4 pw h4 => ?_
    · cases (show w = _ from rw_)
      have hx0 : W.P (xs.getD c 0) t = x := getD_eq ht
      refine EvT.is (et_and (et_test (ev_gt (ev_var rfl (ri _ (x : Int))) ev_int)) fun _ => et_test (ev_inM (neg := true) (ev_var rfl (rn _ t)) (ev_var rfl (show rRef _ _ l from rfl)) (g4.hx _ _ hL3))) ?_
      rw [hx0]
      congr 1
      exact decide_eq_decide.mpr (by omega)
    · rw [List.length_map, List.length_map, sizeLine_eq]
      have := List.length_filter_le (fun t => decide (0 < W.P (xs.getD c 0) t) && !decide (t ∈ xs)) (List.range (W.rows.getD (xs.getD c 0) []).length)
      rw [List.length_range] at this
      omega
    have fl4 := g4.nn hL3 fl3
    rw [List.map_id'] at pw
    have ew := nats_eq pw
    have G4 := (g.trans (g3.trans g4)).set' (o := .lst ((xs.map fun n : Nat => V.int (n : Int)) ++ ws)) fl4 (.inl hl0)
    rw [ew, ← List.map_append] at *
    walk_at "n"
    refine x_aug (a := (c : Int)) (b := 1) G4.fh rfl ev_int fun F5 H5 g5 => ?_
    generalize hnew : (List.range (W.rows.getD (xs.getD c 0) []).length).filter (fun t => decide (0 < W.P (xs.getD c 0) t) && !decide (t ∈ xs)) = new at *
    have hnm : ∀ t, t ∈ new ↔ t < W.rows.length ∧ 0 < W.P (xs.getD c 0) t ∧ t ∉ xs := fun t => by
      rw [← hnew, List.mem_filter, List.mem_range, row1, Bool.and_eq_true, decide_eq_true_eq]
      simp
    refine ⟨F5, _, e1.trans (g3.ff.trans (g4.ff.trans g5.ff)), g5.fh, ?_, G4.trans g5, c + 1, xs ++ new, _, _, rfl, rfl, g5.nn upd_same fl4, g5.hx _ _ upd_same, ?_, fun x hx => ?_, List.mem_append_left _ hpx, fun x hx => ?_, by rw [List.length_append]; omega, fun x hxx t ht hpt => ?_⟩
    · show W.rows.length - (c + 1) < W.rows.length - c
      omega
    · refine List.nodup_append.mpr ⟨nd, by rw [← hnew]; exact List.nodup_range.filter _, fun a ha b hb z => ?_⟩
      subst z
      exact ((hnm a).mp hb).2.2 ha
    · rcases List.mem_append.mp hx with h | h
      · exact hlt x h
      · exact ((hnm x).mp h).1
    · rcases List.mem_append.mp hx with h | h
      · exact hr x h
      · exact (hr _ hxm).step ⟨((hnm x).mp h).1, ((hnm x).mp h).2.1⟩
    · rw [List.take_append_of_le_length (by omega), List.take_add_one, hx] at hxx
      rcases List.mem_append.mp hxx with h | h
      · exact List.mem_append_left _ (hcl x h t ht hpt)
      · have : x = xs.getD c 0 := by simpa using h
        subst this
        by_cases hm : t ∈ xs
        · exact List.mem_append_left _ hm
        · exact List.mem_append_right _ ((hnm t).mpr ⟨ht, hpt, hm⟩)
  · rintro m σ' F' H' F3 H3 e1 g3 hb ⟨g, c, xs, y1, y2, rfl, rfl, fl, hL, nd, hlt, hpx, hr, hc, hcl⟩ -
    rw [hL] at hb
    have hce : c = xs.length := by
      have := of_decide_eq_false hb
      rw [List.length_map] at this
      omega
    subst hce
    rw [List.take_length] at hcl
    have hxn := nodup_lt nd hlt
    walk_at "n"
    exact x_ret (R := rLst rNat) g3.fh (Ev.is (ev_sortM (ev_var rfl (show rRef _ _ l from rfl)) (g3.hx _ _ hL) (by omega)) (found_reach hp nd hpx hr hcl)) fun v' F4 H4 g4 r4 => k v' F4 H4 (g.trans (g3.trans g4)) r4
abbrev sp_closed_sets (T : Tx K mg) : Sp := Sp1 (rWalk T.C_Walk) (fun _ => True) (rLst (rTup rNat)) closedW
theorem ok_closed_sets (T : Tx K mg) : FnOk P w K mg base CX0 3 T.a_closed_sets T.d_closed_sets ["walk"] (sp_closed_sets T) := by
  refine T.F_closed_sets.ok sc_closed_sets (fun vs H Q E h => SpLen.len h) (fun cdv A outer s H vs Q E hr h => ?_)
  obtain ⟨F, v, W, rfl, e, r1, -, k⟩ := h
  have w2 := W.h2
  have w3 := W.h3
  have ri : ∀ F (i : Int), rInt F (.int i) i := fun F i => rfl
  have rn : ∀ F (i : Nat), rNat F (.int (i : Int)) i := fun F i => rfl
  refine ⟨_, (by exact (pss_cons (ps_set (i := 1) sc_closed_sets.nd rfl (Or.inr rfl) (pe_lc (own := [("place", 2)]) (g := gName 2) (tt := tYes) rfl sc_closed_sets.nd (pi_range1 rfl T.z_range (pa_cons (pe_callB (call_lenOwn (ok_Walk_len T) (hr.mono (by decide)) T.m_Walk_len.at_ T.m_Walk_len.fn T.b_Walk_len pass0) (by rfl) T.z_len PySem.boot_len (pa_cons (pv 0) pa_nil)) pa_nil)) (blkOk_by (own := [("place", 2)]) (N := N_closed_sets) (sc := defScope s_closed_sets) (by decide +kernel)) (fun _ _ _ _ _ => (pg_name (i := 2) sc_closed_sets.nd rfl (by first | exact Or.inl rfl | exact Or.inr rfl))) (fun _ _ _ _ _ => pts_nil) (fun _ _ _ _ _ => (pe_call (ok_reached_from T) (hr.mono (by decide)) rfl T.g_reached_from T.F_reached_from.kp T.b_reached_from .nil pass0 (pa_cons (pv 0) (pa_cons (pv 2) pa_nil))))))
      (pss_cons (ps_set (i := 3) sc_closed_sets.nd rfl (Or.inl rfl) (pe_lst pa_nil))
      (pss_cons (ps_for PassesOwn.never rfl (kenum K rfl T.z_enumerate (pa_cons (pv 1) pa_nil)) (kptup K (n := 2) rfl (pgs_cons (pg_name (i := 2) sc_closed_sets.nd rfl (by first | exact Or.inl rfl | exact Or.inr rfl)) (pgs_cons (pg_name (i := 4) sc_closed_sets.nd rfl (by first | exact Or.inl rfl | exact Or.inr rfl)) pgs_nil))) (pss_one (ps_if (PW.pt (pw_and (pt_cmpR op_eq (pe_ix (r := rIxL K) ix_list (pv 4) pe_int (fun _ _ => rfl)) (pv 2) (nomark _)) (pw_and1 (pt_val (pe_callB (r := rAll K) (cr_all rfl) (by rfl) T.z_all (by decide +kernel) (pa_cons (pe_lc (own := [("one", 5)]) (g := gName 5) (tt := tYes) rfl sc_closed_sets.nd (klist K (pv 4)) (blkOk_by (own := [("one", 5)]) (N := N_closed_sets) (sc := defScope s_closed_sets) (by decide +kernel)) (fun _ _ _ _ _ => (pg_name (i := 5) sc_closed_sets.nd rfl (by first | exact Or.inl rfl | exact Or.inr rfl))) (fun _ _ _ _ _ => pts_nil) (fun _ _ _ _ _ => (pe_cmpR (r := rEqD K) (op_eqD hr.units) (pe_ix (r := rIxL K) ix_list (pv 1) (pv 5) (fun _ _ => rfl)) (pv 4) (nomark _)))) pa_nil)))))) (pss_one (ps_expr (kbm K PySem.F.plainAttrs_list PySem.F.slot_list_append PySem.F.type_list_append mt_append (pv 3) (pa_cons (pe_callTy (r := rTupS K) call_tuple_of (by rfl) T.z_tuple (by decide +kernel) (pa_cons (pv 4) pa_nil)) pa_nil)))) pss_nil)))
      (pss_one (ps_ret (pv 3))))))), ?_⟩
  walk_at "n"
  refine x_set (R := rLst (rLst rNat)) (x := (List.range W.rows.length).map (reachW W)) e (ev_lcRm (S := rLst rNat) (reachW W) (ev_lenOwn (ev_var rfl r1) (by omega)) (by omega) (fun v => rfl) fun i F1 H1 hi g => ev_call2 (ev_var rfl (Mn.mono g.ff r1)) (ev_var rfl (rn _ i)) hi) fun v1 F1 H1 g1 q1 => ?_
  walk_at "n"
  refine x_nil g1.fh fun l hl => ?_
  have hl0 : H l = none := Ex.free g1.hx hl
  have fl1 : F1 l = none := g1.fh.free hl
  have fl0 : F l = none := e.free hl0
  have G1 : Gr M0 F H F1 (upd H1 l (.lst [])) := g1.trans (.loc g1.fh hl)
  walk_at "n"
  refine x_forE G1.fh (ev_var rfl q1) (fun i σ' F' H' => Gr M0 F H F' H' ∧ Ex F1 F' ∧ F' l = none ∧ (∃ vs, H' l = some (.lst vs) ∧ Paired (rTup rNat F') vs (((List.range i).filter (closB W.rows.length (reachW W))).map (reachW W))) ∧ ∃ y1 y2 y3, σ' = [some v, some v1, y1, some (.ref l), y2, y3])
    (fun F2 H2 g2 => ⟨G1.trans g2, g2.ff, g2.nn upd_same fl1, ⟨[], g2.hx _ _ upd_same, .nil⟩, _, _, _, rfl⟩) ?_ ?_ ?_
  · rintro i σ' F' H' F2 H2 g2 ⟨g, ex1, fl, ⟨vs, hL, pv⟩, y1, y2, y3, rfl⟩
    exact ⟨g.trans g2, ex1.trans g2.ff, g2.nn hL fl, ⟨vs, g2.hx _ _ hL, Paired.up g2.ff pv⟩, _, _, _, rfl⟩
  · rintro F2 e2 i cs u3 σ' F' H' hx e3 e4 rx ⟨g, ex1, fl, ⟨vs, hL, pv⟩, y1, y2, y3, rfl⟩
    have hi : i < W.rows.length := by
      have := (List.getElem?_eq_some_iff.mp hx).1
      rw [List.length_map, List.length_range] at this
      exact this
    have ecs : cs = reachW W i := by
      rw [List.getElem?_map, List.getElem?_range hi] at hx
      exact (Option.some.inj hx).symm
    subst ecs
    have hself : i ∈ reachW W i := (mem_reach hi).mpr (Rch.refl i)
    have hne : reachW W i ≠ [] := List.ne_nil_of_mem hself
    have h0 : atI (reachW W i) 0 = some ((reachW W i).headD W.rows.length) := by
      cases q : reachW W i with
      | nil => exact absurd q hne
      | cons a l => exact atI_natL (n := 0) rfl
    have q1' := Mn.mono ex1 q1
    have hrl : (reachW W i).length ≤ 32 := by
      have := List.length_filter_le (rchB W.rows.length W.P i) (List.range W.rows.length)
      rw [List.length_range] at this
      exact Nat.le_trans this w3
    have hall : ∀ t ∈ reachW W i, t < W.rows.length := fun t ht => rch_lt hi ((mem_reach hi).mp ht)
    walk_at "n"
    refine x_if (b := closB W.rows.length (reachW W) i) e4 (EvT.is (et_and (et_test (ev_eqI (ev_ixL (ev_var rfl rx) ev_int h0).nat (ev_var rfl (ri _ (i : Int))))) fun _ => et_B (ev_all (ev_lcm (R := rNat) (S := rBl) (fun t => decide (reachW W t = reachW W i)) (ev_var rfl rx) (by omega) (fun v => rfl) fun j t v4 F4 H4 ht g4 r4 => ?_))) ?_) (fun hb F4 H4 g4 => ?_) (fun hb F4 H4 g4 => ?_)
    · cases (show v4 = _ from r4)
      have htl := hall t (mem_of_at ht)
      exact ev_eqD (ev_ixL (ev_var rfl (Mn.mono g4.ff q1')) (ev_var rfl (ri _ (t : Int))) (atI_natL (by rw [List.getElem?_map, List.getElem?_range htl]; rfl))) (ev_var rfl (Mn.mono g4.ff rx))
    · unfold closB
      rw [List.all_map]
      congr 1
      exact decide_eq_decide.mpr (by omega)
    · have hL4 := g4.hx _ _ hL
      have fl4 := g4.nn hL fl
      have hvl : vs.length ≤ i := by
        rw [pv.length, List.length_map]
        have := List.length_filter_le (closB W.rows.length (reachW W)) (List.range i)
        rw [List.length_range] at this
        exact this
      walk_at "n"
      refine x_app (R := rTup rNat) (x := reachW W i) g4.fh (ev_var rfl (show rRef _ _ l from rfl)) hL4 (ev_tupL (ev_var rfl (Mn.mono g4.ff rx))) (by rw [sizeLine_eq]; omega) fun v5 F5 H5 g5 r5 h5 => ?_
      have fl5 := g5.nn hL4 fl4
      have G5 := (g.trans (g4.trans g5)).set' (o := .lst (vs ++ [v5])) fl5 (.inl hl0)
      refine ⟨F5, e3.trans (g4.ff.trans g5.ff), G5.fh, G5, ex1.trans (g4.ff.trans g5.ff), fl5, ⟨_, upd_same, ?_⟩, _, _, _, rfl⟩
      rw [List.range_succ, List.filter_append, List.map_append]
      refine Paired.app (Paired.up (g4.ff.trans g5.ff) pv) ?_
      rw [List.filter_cons, if_pos hb]
      exact .cons r5 .nil
    · walk_at "n"
      refine ⟨F4, e3.trans g4.ff, g4.fh, g.trans g4, ex1.trans g4.ff, g4.nn hL fl, ⟨vs, g4.hx _ _ hL, ?_⟩, _, _, _, rfl⟩
      rw [List.range_succ, List.filter_append, List.filter_cons, if_neg (by rw [hb]; exact Bool.false_ne_true), List.filter_nil, List.append_nil]
      exact Paired.up g4.ff pv
  · rintro σ' F' H' e1 e2 ⟨g, ex1, fl, ⟨vs, hL, pv⟩, y1, y2, y3, rfl⟩
    rw [List.length_map, List.length_range] at pv
    walk_at "n"
    exact x_retM (R := rTup rNat) (Q := Q) g rfl hL fl0 hl0 pv fun F5 g5 r5 => k _ F5 _ g5 r5
theorem ev_solved {T : Tx K mg} {σ : St} {F H : Hp} {ta : TE} {E : XK} {rows : List (List Int)} {W M : Nat} (ha : Ev rRows ta σ F H rows) (hs : Solv rows W M) : Ev (rLst (rLst (rShare T.C_Share))) (tCall (sp_solved T) [] E (tCons ta tNil)) σ F H (solR rows W) := fun F1 H1 g1 Q q =>
  ha F1 H1 g1 _ fun v F2 H2 g2 r => ⟨F2, v, rows, W, M, rfl, g2.fh, r, hs, fun w F' H' g k => q w F' H' (g2.trans g) k⟩

abbrev sp_resting (T : Tx K mg) : Sp := Sp1 (rWalk T.C_Walk) (fun W => ∃ C, closedW W = [C]) (rLst (rShare T.C_Share)) restWk
theorem ok_resting (T : Tx K mg) : FnOk P w K mg base CX0 5 T.a_resting T.d_resting ["walk"] (sp_resting T) := by
  refine T.F_resting.ok sc_resting (fun vs H Q E h => SpLen.len h) (fun cdv A outer s H vs Q E hr h => ?_)
  obtain ⟨F, v, W, rfl, e, r1, ⟨C, hC⟩, k⟩ := h
  have w2 := W.h2
  have w3 := W.h3
  have w1 := W.h1
  have ri : ∀ F (i : Int), rInt F (.int i) i := fun F i => rfl
  have rn : ∀ F (i : Nat), rNat F (.int (i : Int)) i := fun F i => rfl
  obtain ⟨m, hm, hCm, hmC, hall⟩ := closed_in (n := W.rows.length) (P := W.P) (C := C) (by rw [show closedC W.rows.length W.P = [C] from hC]; exact List.mem_singleton.mpr rfl)
  have hne : C ≠ [] := List.ne_nil_of_mem hmC
  have hpos := List.length_pos_iff.mpr hne
  have hlt : ∀ a ∈ C, a < W.rows.length := fun a ha => by rw [hCm] at ha; exact rch_lt hm ((mem_reach hm).mp ha)
  have hnd : C.Nodup := by rw [hCm]; exact List.nodup_range.filter _
  have hlen : C.length ≤ W.rows.length := by
    rw [hCm]
    unfold reachC
    exact Nat.le_trans (List.length_filter_le _ _) (by rw [List.length_range]; exact Nat.le_refl _)
  have sv := rest_solv W.chain W.h3 W.h1 (fun a b ha hb => W.le ha hb) hC
  have hsol := (solR_sol sv).1
  rw [rest_len hne] at hsol
  refine ⟨_, (by exact (pss_cons (ps_set (i := 1) sc_resting.nd rfl (Or.inl rfl) (pe_call (ok_closed_sets T) (hr.mono (by decide)) rfl T.g_closed_sets T.F_closed_sets.kp T.b_closed_sets .nil pass0 (pa_cons (pv 0) pa_nil)))
      (pss_cons (ps_if (pt_cmpR op_gt (pe_callB (r := rLenS K) call_len_seq (by rfl) T.z_len PySem.boot_len (pa_cons (pv 1) pa_nil)) pe_int (nomark _)) (pss_one ps_never) pss_nil)
      (pss_cons (ps_set (i := 2) sc_resting.nd rfl (Or.inl rfl) (pe_ix (r := rIxL K) ix_list (pv 1) pe_int (fun _ _ => rfl)))
      (pss_cons (ps_set (i := 3) sc_resting.nd rfl (Or.inl rfl) (pe_lst pa_nil))
      (pss_cons (ps_for PassesOwn.never rfl (ktup K (pe_slice (r := rSlT K) sl_tup (pv 2) (po_some pe_int) po_none)) (pg_name (i := 4) sc_resting.nd rfl (by first | exact Or.inl rfl | exact Or.inr rfl)) (pss_one (ps_expr (kbm K PySem.F.plainAttrs_list PySem.F.slot_list_append PySem.F.type_list_append mt_append (pv 3) (pa_cons (pe_op op_cat (pe_lc (own := [("place", 5)]) (g := gName 5) (tt := tYes) rfl sc_resting.nd (ktup K (pv 2)) (blkOk_by (own := [("place", 5)]) (N := N_resting) (sc := defScope s_resting) (by decide +kernel)) (fun _ _ _ _ _ => (pg_name (i := 5) sc_resting.nd rfl (by first | exact Or.inl rfl | exact Or.inr rfl))) (fun _ _ _ _ _ => pts_nil) (fun _ _ _ _ _ => (pe_op op_sub (pe_ix (r := rIxL K) ix_list (pe_ix (r := rIxL K) ix_list (kfld K (pv 0) rfl) (pv 5) (fun _ _ => rfl)) (pv 4) (fun _ _ => rfl)) (pe_op op_mul (kfld K (pv 0) rfl) (pe_callTy call_int1 (by rfl) T.z_int (by decide +kernel) (pa_cons (pe_cmpR op_eq (pv 5) (pv 4) (nomark _)) pa_nil)))))) (pe_lst (pa_cons pe_int pa_nil))) pa_nil)))))
      (pss_cons (ps_expr (kbm K PySem.F.plainAttrs_list PySem.F.slot_list_append PySem.F.type_list_append mt_append (pv 3) (pa_cons (pe_op op_cat (pe_lc (own := [("place", 5)]) (g := gName 5) (tt := tYes) rfl sc_resting.nd (ktup K (pv 2)) (blkOk_by (own := [("place", 5)]) (N := N_resting) (sc := defScope s_resting) (by decide +kernel)) (fun _ _ _ _ _ => (pg_name (i := 5) sc_resting.nd rfl (by first | exact Or.inl rfl | exact Or.inr rfl))) (fun _ _ _ _ _ => pts_nil) (fun _ _ _ _ _ => pe_int)) (pe_lst (pa_cons pe_int pa_nil))) pa_nil)))
      (pss_cons (ps_setLc (i := 6) (own := [("place", 5)]) (g := gName 5) (tt := tYes) rfl sc_resting.nd rfl rfl (sw_true rfl rfl rfl (by decide +kernel)) (pi_range1 rfl T.z_range (pa_cons (pe_callB (call_lenOwn (ok_Walk_len T) (hr.mono (by decide)) T.m_Walk_len.at_ T.m_Walk_len.fn T.b_Walk_len pass0) (by rfl) T.z_len PySem.boot_len (pa_cons (pv 0) pa_nil)) pa_nil)) (blkOk_by (own := [("place", 5)]) (N := N_resting) (sc := defScope s_resting) (by decide +kernel)) (fun _ _ _ _ _ => (pg_name (i := 5) sc_resting.nd rfl (by first | exact Or.inl rfl | exact Or.inr rfl))) (fun _ _ _ _ _ => pts_nil) (fun _ _ _ _ _ => (pe_make T.mk_Share (ok_Share_init T) (hr.mono (by decide)) rfl T.g_Share (T.bd_Share_init).ok (T.bd_Share_init).vs pass0 (pa_cons pe_int pa_nil))))
      (pss_cons (ps_for PassesOwn.never rfl (kzipX true false K rfl T.z_zip (pa_cons (pv 2) (pa_cons (pe_call (ok_solved T) (hr.mono (by decide)) rfl T.g_solved T.F_solved.kp T.b_solved .nil pass0 (pa_cons (pv 3) pa_nil)) pa_nil))) (kptup K (n := 2) rfl (pgs_cons (pg_name (i := 5) sc_resting.nd rfl (by first | exact Or.inl rfl | exact Or.inr rfl)) (pgs_cons (pg_name (i := 7) sc_resting.nd rfl (by first | exact Or.inl rfl | exact Or.inr rfl)) pgs_nil))) (pss_one (ps_asg (pe_ix (r := rIxL K) ix_list (pv 7) pe_int (fun _ _ => rfl)) (pg_sub (pv 6) (pv 5) set_list))))
      (pss_one (ps_ret (pv 6)))))))))))), ?_⟩
  walk_at "n"
  refine x_set (R := rLst (rTup rNat)) (x := [C]) e (Ev.is (ev_call1 (ev_var rfl r1) trivial) hC) fun v1 F1 H1 g1 q1 => ?_
  walk_at "n"
  refine x_if (b := false) g1.fh (EvT.is (et_test (ev_gt (ev_lenL (ev_var rfl q1)) ev_int)) rfl) (fun z => nomatch z) fun _ F2 H2 g2 => ?_
  walk_at "n"
  refine x_set (R := rTup rNat) (x := C) g2.fh (ev_ixL (ev_var rfl (Mn.mono g2.ff q1)) ev_int (atI_natL (n := 0) rfl)) fun v2 F3 H3 g3 q2 => ?_
  have g13 := g1.trans (g2.trans g3)
  walk_at "n"
  refine x_nil g3.fh fun l hl => ?_
  have hl0 : H l = none := Ex.free g13.hx hl
  have fl3 : F3 l = none := g3.fh.free hl
  have fl0 : F l = none := e.free hl0
  have G1 : Gr M0 F H F3 (upd H3 l (.lst [])) := g13.trans (.loc g3.fh hl)
  let f : Nat → List Int := fun to => (C.map fun p => (W.P p to : Int) - (W.whole : Int) * (if p = to then 1 else 0)) ++ [0]
  have htl : C.tail.length ≤ 32 := by rw [List.length_tail]; omega
  walk_at "n"
  refine x_forT (xs := C.tail) (R := rNat) G1.fh (Ev.is (ev_slT1 (n := 1) (ev_var rfl q2) (by omega) hpos) (List.drop_one)) (fun i σ' F' H' => Gr M0 F H F' H' ∧ Ex F3 F' ∧ F' l = none ∧ (∃ vs, H' l = some (.lst vs) ∧ Paired (rLst rInt F') vs ((C.tail.take i).map f)) ∧ ∃ y1 y2 y3 y4, σ' = [some v, some v1, some v2, some (.ref l), y1, y2, y3, y4])
    (fun F4 H4 g4 => ⟨G1.trans g4, g4.ff, g4.nn upd_same fl3, ⟨[], g4.hx _ _ upd_same, .nil⟩, _, _, _, _, rfl⟩) ?_ ?_
  · rintro F4 e4 i to u4 σ' F' H' hto e5 e6 rto ⟨g, ex3, fl, ⟨vs, hL, pv⟩, y1, y2, y3, y4, rfl⟩
    cases (show u4 = _ from rto)
    have htoC : to ∈ C := List.mem_of_mem_tail (mem_of_at hto)
    have hton := hlt to htoC
    have hi : i < C.tail.length := (List.getElem?_eq_some_iff.mp hto).1
    have hvl : vs.length ≤ 32 := by rw [pv.length, List.length_map, List.length_take]; omega
    walk_at "n"
    refine x_app (R := rLst rInt) (x := f to) e6 (ev_var rfl (show rRef _ _ l from rfl)) hL (ev_cat (ev_lcTm (R := rNat) (S := rInt) _ (ev_var rfl (Mn.mono ex3 q2)) (by omega) (fun v => rfl) fun j p v7 F7 H7 hp g7 r7 => ?_) (ev_lst (el_cons ev_int el_nil) (by show 1 ≤ sizeLine; decide)) ?_) (by rw [sizeLine_eq]; omega) fun v7 F7 H7 g7 r7 h7 => ?_
    · cases (show v7 = _ from r7)
      have hpn := hlt p (mem_of_at hp)
      obtain ⟨row1, row2⟩ := W.row hpn
      refine Ev.is (ev_sub (ev_ixL (ev_ixL (ev_fld (ev_var rfl (Mn.mono (g.ff.trans g7.ff) r1))) (ev_var rfl (ri _ (p : Int))) (atI_natL (at_getD (d := []) hpn))) (ev_var rfl (ri _ (to : Int))) (atI_natL (at_getD (d := 0) (by rw [row1]; exact hton)))).nat (ev_mul (ev_fld (ev_var rfl (Mn.mono (g.ff.trans g7.ff) r1))).nat (ev_intB (ev_eqI (ev_var rfl (ri _ (p : Int))) (ev_var rfl (ri _ (to : Int))))) (.inl ⟨by omega, by omega⟩))) ?_
      show (W.P p to : Int) - _ = _
      congr 2
      by_cases z : p = to
      · rw [if_pos z, if_pos (decide_eq_true (by omega))]
      · rw [if_neg z, if_neg (by rw [decide_eq_false (by omega)]; exact Bool.false_ne_true)]
    · rw [List.length_map, sizeLine_eq]
      show C.length + 1 ≤ _
      omega
    · have fl7 := g7.nn hL fl
      have G7 := (g.trans g7).set' (o := .lst (vs ++ [v7])) fl7 (.inl hl0)
      refine ⟨F7, e5.trans g7.ff, G7.fh, G7, ex3.trans g7.ff, fl7, ⟨_, upd_same, ?_⟩, _, _, _, _, rfl⟩
      rw [List.take_add_one, hto, List.map_append]
      exact (Paired.up g7.ff pv).snoc r7
  · rintro σ' F' H' e1 e2 ⟨g, ex3, fl, ⟨vs, hL, pv⟩, y1, y2, y3, y4, rfl⟩
    rw [List.take_length] at pv
    have hvl : vs.length ≤ 32 := by rw [pv.length, List.length_map]; exact htl
    walk_at "n"
    refine x_app (R := rLst rInt) (x := (C.map fun _ => (1 : Int)) ++ [1]) e2 (ev_var rfl (show rRef _ _ l from rfl)) hL (ev_cat (ev_lcTm (R := rNat) (S := rInt) _ (ev_var rfl (Mn.mono ex3 q2)) (by omega) (fun v => rfl) fun j p v7 F7 H7 hp g7 r7 => ev_int) (ev_lst (el_cons ev_int el_nil) (by show 1 ≤ sizeLine; decide)) ?_) (by rw [sizeLine_eq]; omega) fun v7 F7 H7 g7 r7 h7 => ?_
    · rw [List.length_map, sizeLine_eq]
      show C.length + 1 ≤ _
      omega
    have fl7 := g7.nn hL fl
    have G7 := (g.trans g7).set' (o := .lst (vs ++ [v7])) fl7 (.inl hl0)
    have gz := G7.frz upd_same fl0 (.inl hl0)
    have hrows : rRows (upd F7 l (.lst (vs ++ [v7]))) (.ref l) (restRows W.P W.whole C) := ⟨l, _, rfl, upd_same, Paired.up (Ex.new fl7) ((Paired.up g7.ff pv).snoc r7)⟩
    have ez3 : Ex F3 (upd F7 l (.lst (vs ++ [v7]))) := ex3.trans (g7.ff.trans (Ex.new fl7))
    walk_at "n"
    refine x_lcRM (T := rShare T.C_Share) (zs := (List.range W.rows.length).map fun _ => (0 : Rat)) gz.fh (ev_lenOwn (ev_var rfl (Mn.mono gz.ff r1)) (by omega)) (by rw [List.length_map, List.length_range]) (by omega) (fun v => rfl) (fun i y F8 H8 hi hy g8 => ?_) fun l2 us F8 H8 g8 hl2 fl2 hL2 pu => ?_
    · rw [List.getElem?_map, List.getElem?_range hi] at hy
      cases hy
      exact Ev.is (ev_Share1 (n := 0) ev_int) rfl
    have hl20 : H l2 = none := Ex.free gz.hx hl2
    have fl20 : F l2 = none := e.free hl20
    let sh : Nat → Rat := fun j => ((solR (restRows W.P W.whole C) (C.length + 1)).getD j []).getD 0 0
    walk_at "n"
    refine x_forX true false (xs := C) (ys := solR (restRows W.P W.whole C) (C.length + 1)) (R := rNat) (S := rLst (rShare T.C_Share)) g8.fh (ev_var rfl (Mn.mono (ez3.trans g8.ff) q2)) (ev_solved (ev_var rfl (Mn.mono g8.ff hrows)) sv)
      (fun i σ' F' H' => Gr M0 F H F' H' ∧ Ex F8 F' ∧ F' l2 = none ∧ (∃ us, H' l2 = some (.lst us) ∧ Paired (rShare T.C_Share F') us ((List.range W.rows.length).map fun a => sumQ i fun j => if C.getD j 0 = a then sh j else 0)) ∧ ∃ y1 y2 y3, σ' = [some v, some v1, some v2, some (.ref l), y1, y2, some (.ref l2), y3])
      (fun F9 H9 g9 => ⟨gz.trans (g8.trans g9), g9.ff, g9.nn hL2 fl2, ⟨us, g9.hx _ _ hL2, Paired.up g9.ff pu⟩, _, _, _, rfl⟩) ?_ ?_ ?_
    · rintro i σ' F' H' F9 H9 g9 ⟨g', ex8, f2, ⟨us', h2, p2⟩, z1, z2, z3, rfl⟩
      exact ⟨g'.trans g9, ex8.trans g9.ff, g9.nn h2 f2, ⟨us', g9.hx _ _ h2, Paired.up g9.ff p2⟩, _, _, _, rfl⟩
    · rintro F9 e9 i q u1 u2 σ' F' H' hq e10 e11 rq1 rq2 ⟨g', ex8, f2, ⟨us', h2, p2⟩, z1, z2, z3, rfl⟩
      obtain ⟨hq1, hq2⟩ := List.getElem?_zip_eq_some.mp hq
      have hiC : i < C.length := (List.getElem?_eq_some_iff.mp hq1).1
      have e1 : C.getD i 0 = q.1 := getD_eq hq1
      have hqn := hlt q.1 (mem_of_at hq1)
      cases (show u1 = _ from rq1)
      have hw : q.2.length = 1 := by
        have := (solR_sol sv).2.1 q.2 (mem_of_at hq2)
        rw [rest_len hne] at this
        omega
      have esh : q.2[0]? = some (sh i) := by
        show _ = some (((solR (restRows W.P W.whole C) (C.length + 1)).getD i []).getD 0 0)
        rw [getD_eq hq2]
        exact at_getD (by omega)
      have hul : us'.length = W.rows.length := by rw [p2.length, List.length_map, List.length_range]
      walk_at "n"
      refine x_setI (R := rShare T.C_Share) (x := sh i) (n := q.1) e11 (ev_ixL (ev_var rfl rq2) ev_int (atI_natL (n := 0) esh)) (ev_var rfl (show rRef _ _ l2 from rfl)) (ev_var rfl (ri _ (q.1 : Int))) h2 (by omega) fun v10 F10 H10 g10 r10 h10 => ?_
      have f10 := g10.nn h2 f2
      have G10 := (g'.trans g10).set' (o := .lst (us'.set q.1 v10)) f10 (.inl hl20)
      refine ⟨F10, e10.trans g10.ff, G10.fh, G10, ex8.trans g10.ff, f10, ⟨_, upd_same, ?_⟩, _, _, _, rfl⟩
      have := Paired.set r10 q.1 (Paired.up g10.ff p2)
      rw [← e1, spread_take sh hnd hiC hlt] at this
      rw [← e1]
      exact this
    · rintro σ' F' H' e3 e4 ⟨g', ex8, f2, ⟨us', h2, p2⟩, z1, z2, z3, rfl⟩
      have hzl : (C.zip (solR (restRows W.P W.whole C) (C.length + 1))).length = C.length := by rw [List.length_zip, hsol, Nat.min_self]
      rw [hzl] at p2
      have erest : restWk W = (List.range W.rows.length).map fun a => sumQ C.length fun j => if C.getD j 0 = a then sh j else 0 := by
        unfold restWk
        rw [hC]
        rfl
      rw [← erest] at p2
      walk_at "n"
      exact x_retM (R := rShare T.C_Share) (Q := Q) g' rfl h2 fl20 hl20 p2 fun F5 g5 r5 => k _ F5 _ g5 r5


abbrev sp_check_signs (T : Tx K mg) : Sp := Sp2 (rTurns T.C_Turns) (rLst rNat) (fun t w => ∀ s ∈ w, s < t.maps.length) rNon (fun _ _ => ())
theorem ok_check_signs (T : Tx K mg) : FnOk P w K mg base CX0 3 T.a_check_signs T.d_check_signs ["turns", "signs"] (sp_check_signs T) := by
  refine T.F_check_signs.ok sc_check_signs (fun vs H Q E h => SpLen.len h) (fun cdv A outer s H vs Q E hr h => ?_)
  obtain ⟨F, v, w, t, xs, rfl, e, r1, r2, p, k⟩ := h
  have t3 := t.h3
  refine ⟨_, (by exact (pss_one (ps_for PassesOwn.never rfl (klist K (pv 1)) (pg_name (i := 2) sc_check_signs.nd rfl (by first | exact Or.inl rfl | exact Or.inr rfl)) (pss_one (ps_if (pt_not (pt_val (pe_call (ok_is_between T) (hr.mono (by decide)) rfl T.g_is_between T.F_is_between.kp T.b_is_between .nil pass0 (pa_cons (pv 2) (pa_cons pe_int (pa_cons (pe_op op_sub (pe_callB (call_lenOwn (ok_Turns_len T) (hr.mono (by decide)) T.m_Turns_len.at_ T.m_Turns_len.fn T.b_Turns_len pass0) (by rfl) T.z_len PySem.boot_len (pa_cons (pv 0) pa_nil)) pe_int) pa_nil)))))) (pss_one ps_never) pss_nil))))), ?_⟩
  try dsimp only [cxOf]
  refine x_forL e (ev_var rfl r2) (fun i σ' F' H' => Gr M0 F H F' H' ∧ ∃ y, σ' = [some v, some w, y]) (fun F1 H1 g => ⟨g, none, rfl⟩) ?_ ?_
  · rintro F1 e1 i x u σ' F' H' hx e2 e3 r ⟨g, y, rfl⟩
    cases (show u = _ from r)
    have hs := p x (mem_of_at hx)
    refine x_if (b := false) g.fh (EvT.is (b := !true) (et_not (et_B ?_)) rfl) (fun z => nomatch z) fun _ F3 H3 g3 => ?_
    · apply Ev.is
      · walk_at "ev"
      · rw [decide_eq_true (by omega), decide_eq_true (by omega)] <;> rfl
    walk_at "n"
    exact ⟨F3, e2.trans g3.ff, g3.fh, g.trans g3, _, rfl⟩
  · rintro σ' F' H' e1 e2 ⟨g, y, rfl⟩
    exact k _ F' H' g rfl
abbrev sp_begin_of (T : Tx K mg) : Sp := Sp1 (rTurns T.C_Turns) (fun _ => True) (rTup rNat) (fun t => idMap t.many)
theorem ok_begin_of (T : Tx K mg) : FnOk P w K mg base CX0 1 T.a_begin_of T.d_begin_of ["turns"] (sp_begin_of T) := by
  refine T.F_begin_of.ok sc_begin_of (fun vs H Q E h => SpLen.len h) (fun cdv A outer s H vs Q E hr h => ?_)
  obtain ⟨F, v, t, rfl, e, r, -, k⟩ := h
  have t1 := t.h1
  refine ⟨_, (by exact (pss_one (ps_ret (pe_tupRg rfl (by rfl) T.z_tuple (prg_1 (by rfl) T.z_range (kfld K (pv 0) rfl)))))), ?_⟩
  try dsimp only [cxOf]
  apply x_ret e
  case h => walk_at "ev"
  exact k
abbrev sp_then (T : Tx K mg) : Sp := Sp2 (rTup rNat) (rTup rNat) (fun a b => a.length ≤ 1000 ∧ ∀ x ∈ a, x < b.length) (rTup rNat) thenM
theorem ok_then (T : Tx K mg) : FnOk P w K mg base CX0 1 T.a_then T.d_then ["first", "second"] (sp_then T) := by
  refine T.F_then.ok sc_then (fun vs H Q E h => SpLen.len h) (fun cdv A outer s H vs Q E hr h => ?_)
  obtain ⟨F, v, w, a, b, rfl, e, r1, r2, ⟨p1, p2⟩, k⟩ := h
  refine ⟨_, (by exact (pss_one (ps_ret (pe_callTy (r := rTupS K) call_tuple_of (by rfl) T.z_tuple (by decide +kernel) (pa_cons (pe_lc (own := [("place", 2)]) (g := gName 2) (tt := tYes) rfl sc_then.nd (ktup K (pv 0)) (blkOk_by (own := [("place", 2)]) (N := N_then) (sc := defScope s_then) (by decide +kernel)) (fun _ _ _ _ _ => (pg_name (i := 2) sc_then.nd rfl (by first | exact Or.inl rfl | exact Or.inr rfl))) (fun _ _ _ _ _ => pts_nil) (fun _ _ _ _ _ => (pe_ix (r := rIxT K) ix_tup (pv 1) (pv 2) (fun _ _ => rfl)))) pa_nil))))), ?_⟩
  try dsimp only [cxOf]
  refine x_ret (x := thenM a b) e (ev_tupL (ev_lcTm (R := rNat) (fun x => b.getD x 0) (ev_var rfl r1) (by omega) (fun v => rfl) ?_)) k
  intro i x v F1 H1 hx g r
  cases (show v = _ from r)
  exact ev_ixT (ev_var rfl (Mn.mono g.ff r2)) (ev_var rfl rfl) (atI_natL (getD_at (p2 x (mem_of_at hx))))
abbrev sp_has_met (T : Tx K mg) : Sp := Sp1 (rTup rNat) (fun a => a.length ≤ 1000) rBl metB
theorem decide_nat1 {n : Nat} : decide ((n : Int) = 1) = decide (n = 1) := by
  by_cases h : n = 1
  · rw [decide_eq_true h, decide_eq_true (by omega)]
  · rw [decide_eq_false h, decide_eq_false (by omega)]
theorem ok_has_met (T : Tx K mg) : FnOk P w K mg base CX0 1 T.a_has_met T.d_has_met ["one"] (sp_has_met T) := by
  refine T.F_has_met.ok sc_has_met (fun vs H Q E h => SpLen.len h) (fun cdv A outer s H vs Q E hr h => ?_)
  obtain ⟨F, v, a, rfl, e, r, p, k⟩ := h
  refine ⟨_, (by exact (pss_one (ps_ret (pe_cmpR op_eq (klenset K (by rfl) T.z_len (by rfl) T.z_set (pv 0)) pe_int (nomark _))))), ?_⟩
  try dsimp only [cxOf]
  apply x_ret e
  case h => walk_at "ev"
  intro w F' H' g r
  exact k w F' H' g (by rw [decide_nat1] at r; exact r)

theorem ev_pt {σ : St} {F H : Hp} {te : TE} {α : Type} {R : Rp α} {p : α × α} (h : Ev (rPr R R) te σ F H p) : Ev (rTup R) te σ F H [p.1, p.2] := h.as fun F v ⟨a, x, y, e, h1, r1, r2⟩ => ⟨a, [x, y], e, h1, .cons r1 (.cons r2 .nil)⟩
abbrev sp_is_pair (T : Tx K mg) : Sp := Sp2 (rPr rNat rNat) rNat (fun p n => p.1 < n ∧ p.2 < n ∧ p.1 ≠ p.2 ∧ n ≤ 1000) rBl (fun _ _ => true)
theorem ok_is_pair (T : Tx K mg) : FnOk P w K mg base CX0 3 T.a_is_pair T.d_is_pair ["thing", "many"] (sp_is_pair T) := by
  refine T.F_is_pair.ok sc_is_pair (fun vs H Q E h => SpLen.len h) (fun cdv A outer s H vs Q E hr h => ?_)
  obtain ⟨F, v, w, p, n, rfl, e, r1, r2, ⟨h1, h2, h3, h4⟩, k⟩ := h
  cases (show w = _ from r2)
  have ri : ∀ F (i : Int), rInt F (.int i) i := fun F i => rfl
  have ep := fun F1 H1 (g : Gr M0 F H F1 H1) => ev_pt (σ := [some v, some (.int (n : Int)), none]) (ev_var (F := F1) (H := H1) (i := 0) (v := v) rfl (Mn.mono g.ff r1))
  refine ⟨_, (by exact (pss_cons (ps_if (PW.pt (pw_or (pt_not (pt_val (pe_callB (r := rIsi K) call_isi (by rfl) T.z_isinstance (by decide +kernel) (pa_cons (pv 0) (pa_cons (pe_bltn (v := .ty "tuple") (by rfl) T.z_tuple (by decide +kernel) rfl) pa_nil))))) (pw_or1 (pt_cmpR op_ne (pe_callB (r := rLenS K) call_len_seq (by rfl) T.z_len PySem.boot_len (pa_cons (pv 0) pa_nil)) pe_int (nomark _))))) (pss_one (ps_ret pe_bl)) pss_nil)
      (pss_one (ps_ret (pe_and (pe_callB (r := rAll K) (cr_all rfl) (by rfl) T.z_all (by decide +kernel) (pa_cons (pe_lc (own := [("place", 2)]) (g := gName 2) (tt := tYes) rfl sc_is_pair.nd (ktup K (pv 0)) (blkOk_by (own := [("place", 2)]) (N := N_is_pair) (sc := defScope s_is_pair) (by decide +kernel)) (fun _ _ _ _ _ => (pg_name (i := 2) sc_is_pair.nd rfl (by first | exact Or.inl rfl | exact Or.inr rfl))) (fun _ _ _ _ _ => pts_nil) (fun _ _ _ _ _ => (pe_call (ok_is_between T) (hr.mono (by decide)) rfl T.g_is_between T.F_is_between.kp T.b_is_between .nil pass0 (pa_cons (pv 2) (pa_cons pe_int (pa_cons (pe_op op_sub (pv 1) pe_int) pa_nil)))))) pa_nil)) (pe_one (pe_cmpR op_ne (pe_ix (r := rIxT K) ix_tup (pv 0) pe_int (fun _ _ => rfl)) (pe_ix (r := rIxT K) ix_tup (pv 0) pe_int (fun _ _ => rfl)) (nomark _)))))))), ?_⟩
  walk_at "n"
  refine x_if (b := false) e (EvT.is (et_or (et_not (et_B (ev_isTup (ep F H (.refl e))))) fun _ => et_test (ev_neI (ev_lenT (ep F H (.refl e))) ev_int)) (by simp)) (fun z => nomatch z) fun _ F1 H1 g1 => ?_
  walk_at "n"
  have ep1 := ep F1 H1 g1
  refine x_ret g1.fh (Ev.is (x' := true) (ev_andV (ev_all (ev_lcTm (R := rNat) (S := rBl) (fun _ => true) ep1 (by show 2 ≤ 1000000; omega) (fun v => rfl) fun i x v F2 H2 hx g r => ?_)) fun _ => ev_neI (ev_ixT (x := p.1) ep1 ev_int (atI_natL (n := 0) rfl)).nat (ev_ixT (x := p.2) ep1 ev_int (atI_natL (n := 1) rfl)).nat) ?_) fun v' F2 H2 g2 r => k v' F2 H2 (g1.trans g2) r
  · have hxn : x < n := by
      rcases List.mem_cons.mp (mem_of_at hx) with rfl | h
      · exact h1
      · rw [List.mem_singleton.mp h]; exact h2
    refine Ev.is (ev_call3 (ev_var rfl (show rInt _ _ (x : Int) from r)) ev_int (ev_sub (ev_var rfl (ri _ (n : Int))) ev_int) trivial) ?_
    rw [decide_eq_true (by omega), decide_eq_true (by omega)]; rfl
  · rw [decide_eq_false (by omega)]
    rfl
abbrev sp_above (T : Tx K mg) : Sp := Sp2 (rLst (rPr rNat rNat)) rNat (fun ps n => n ≤ 1000 ∧ ps.length ≤ 100 ∧ ∀ p ∈ ps, p.1 < n ∧ p.2 < n) (rLst rDct) (fun ps n => aboveM n ps)
theorem ok_above (T : Tx K mg) : FnOk P w K mg base CX0 1 T.a_above T.d_above ["pairs", "many"] (sp_above T) := by
  refine T.F_above.ok sc_above (fun vs H Q E h => SpLen.len h) (fun cdv A outer s H vs Q E hr h => ?_)
  obtain ⟨F, v, w, ps, n, rfl, e, r1, r2, ⟨hn, hps, hp⟩, k⟩ := h
  cases (show w = _ from r2)
  have ri : ∀ F (i : Int), rInt F (.int i) i := fun F i => rfl
  have rn : ∀ F (i : Nat), rNat F (.int (i : Int)) i := fun F i => rfl
  have hfu : fuelM n ps ≤ 101100 := by
    unfold fuelM
    have : n * (ps.length + 1) ≤ 1000 * 101 := Nat.mul_le_mul hn (by omega)
    omega
  refine ⟨_, (by exact (pss_cons (ps_setLc (i := 2) (own := [("place", 3)]) (g := gName 3) (tt := tYes) rfl sc_above.nd rfl rfl (sw_true rfl rfl rfl (by decide +kernel)) (pi_range1 rfl T.z_range (pa_cons (pv 1) pa_nil)) (blkOk_by (own := [("place", 3)]) (N := N_above) (sc := defScope s_above) (by decide +kernel)) (fun _ _ _ _ _ => (pg_name (i := 3) sc_above.nd rfl (by first | exact Or.inl rfl | exact Or.inr rfl))) (fun _ _ _ _ _ => pts_nil) (fun _ _ _ _ _ => (pe_lst pa_nil)))
      (pss_cons (ps_for PassesOwn.never rfl (klist K (pv 0)) (kptup K (n := 2) rfl (pgs_cons (pg_name (i := 4) sc_above.nd rfl (by first | exact Or.inl rfl | exact Or.inr rfl)) (pgs_cons (pg_name (i := 5) sc_above.nd rfl (by first | exact Or.inl rfl | exact Or.inr rfl)) pgs_nil))) (pss_one (ps_expr (kbm K PySem.F.plainAttrs_list PySem.F.slot_list_append PySem.F.type_list_append mt_append (pe_ix (r := rIxL K) ix_list (pv 2) (pv 4) (fun _ _ => rfl)) (pa_cons (pv 5) pa_nil)))))
      (pss_cons (ps_set (i := 6) sc_above.nd rfl (Or.inl rfl) (pe_lst pa_nil))
      (pss_cons (ps_for PassesOwn.never rfl (pi_range1 rfl T.z_range (pa_cons (pv 1) pa_nil)) (pg_name (i := 3) sc_above.nd rfl (by first | exact Or.inl rfl | exact Or.inr rfl)) (pss_cons (ps_set (i := 7) sc_above.nd rfl (Or.inl rfl) (pe_callTy (r := rListS K) call_list_of (by rfl) T.z_list (by decide +kernel) (pa_cons (pe_ix (r := rIxL K) ix_list (pv 2) (pv 3) (fun _ _ => rfl)) pa_nil)))
      (pss_cons (ps_set (i := 8) sc_above.nd rfl (Or.inl rfl) pe_dnewK)
      (pss_cons (ps_while PassesOwn.never (pt_cmpR (r := rNeD K) (op_neD hr.units) (pv 7) (pe_lst pa_nil) (nomark _)) (pss_cons (ps_set (i := 9) sc_above.nd rfl (Or.inl rfl) (kbm0 K PySem.F.plainAttrs_list PySem.F.slot_list_pop PySem.F.type_list_pop mt_pop (pv 7)))
      (pss_one (ps_if (pt_cmp (pc_dnotin (hu_of hr) (pv 9) (pv 8))) (pss_cons (ps_dput (hu_of hr) (pv 8) (pv 9) pe_bl rfl)
      (pss_one (ps_expr (kbm K PySem.F.plainAttrs_list PySem.F.slot_list_extend PySem.F.type_list_extend mt_extend (pv 7) (pa_cons (pe_ix (r := rIxL K) ix_list (pv 2) (pv 9) (fun _ _ => rfl)) pa_nil))))) pss_nil))))
      (pss_one (ps_expr (kbm K PySem.F.plainAttrs_list PySem.F.slot_list_append PySem.F.type_list_append mt_append (pv 6) (pa_cons (pv 8) pa_nil))))))))
      (pss_one (ps_ret (pv 6)))))))), ?_⟩
  walk_at "n"
  refine x_lists (n := n) e (ev_var rfl (ri _ (n : Int))) (by omega) (fun v => rfl) fun o as F1 H1 g1 hal ho0 fo1 ho1 nd hb => ?_
  walk_at "n"
  refine x_forLP g1.fh (ev_var rfl (Mn.mono g1.ff r1))
    (fun i σ' F' H' => Gr M0 F H F' H' ∧ F' o = none ∧ (∀ b ∈ as, F' b = none) ∧ H' o = some (.lst (as.map V.ref)) ∧ (∀ (j : Nat) b, as[j]? = some b → H' b = some (.lst (((onM n (ps.take i)).getD j []).map fun x : Nat => V.int (x : Int)))) ∧ ∃ y1 y2 y3 y4 y5 y6 y7, σ' = [some v, some (.int (n : Int)), some (.ref o), y1, y2, y3, y4, y5, y6, y7])
    (fun F2 H2 g2 => ⟨g1.trans g2, g2.nn ho1 fo1, fun b h => g2.nn (hb b h).2.2.1 (hb b h).2.1, g2.hx _ _ ho1, fun j b hj => ?_, _, _, _, _, _, _, _, rfl⟩) ?_ ?_
  · have hj2 : j < n := by rw [← hal]; exact (List.getElem?_eq_some_iff.mp hj).1
    rw [g2.hx _ _ (hb b (mem_of_at hj)).2.2.1, on_get hj2]
    rfl
  · rintro F2 e2 i p u1 u2 σ' F' H' hx e3 e4 rx ry ⟨g, fo, fas, hO, hA, y1, y2, y3, y4, y5, y6, y7, rfl⟩
    cases (show u1 = _ from rx)
    cases (show u2 = _ from ry)
    obtain ⟨p1, p2⟩ := hp p (mem_of_at hx)
    obtain ⟨b, hb1⟩ : ∃ b, as[p.1]? = some b := ⟨_, List.getElem?_eq_getElem (by rw [hal]; exact p1)⟩
    have hbm := mem_of_at hb1
    obtain ⟨hb0, _, _, hbo⟩ := hb b hbm
    have hcur := hA p.1 b hb1
    have hle := on_le (n := n) (ps := ps.take i) (x := p.1)
    have htl : (ps.take i).length ≤ ps.length := by rw [List.length_take]; omega
    walk_at "n"
    refine x_app (R := rNat) (x := p.2) (l := b) e4 (ev_ixM (R := rRef) (x := b) (ev_var rfl (show rRef _ _ o from rfl)) (ev_var rfl (ri _ (p.1 : Int))) hO (atI_natL (n := p.1) (by rw [List.getElem?_map, hb1]; rfl)) rfl) hcur (ev_var rfl (rn _ p.2)) (by rw [List.length_map, sizeLine_eq]; omega) fun v5 F5 H5 g5 r5 h5 => ?_
    cases (show v5 = _ from r5)
    have fb5 := g5.nn hcur (fas b hbm)
    have G5 := (g.trans g5).set' (o := .lst ((((onM n (ps.take i)).getD p.1 []).map fun x : Nat => V.int (x : Int)) ++ [.int (p.2 : Int)])) fb5 (.inl hb0)
    refine ⟨F5, e3.trans g5.ff, G5.fh, G5, g5.nn hO fo, fun b' h' => ?_, by rw [upd_ne hbo.symm]; exact g5.hx _ _ hO, fun j b' hj => ?_, _, _, _, _, _, _, _, rfl⟩
    · obtain ⟨q, hq⟩ := List.mem_iff_getElem?.mp h'
      exact g5.nn (hA q b' hq) (fas b' h')
    · have hj2 : j < n := by rw [← hal]; exact (List.getElem?_eq_some_iff.mp hj).1
      rw [on_step hx hj2]
      by_cases hjp : p.1 = j
      · subst hjp
        rw [hb1] at hj
        cases hj
        rw [if_pos rfl, upd_same, List.map_append]
        rfl
      · have hbb : b' ≠ b := fun z => by
          subst z
          exact hjp ((List.getElem?_inj (List.getElem?_eq_some_iff.mp hb1).1 nd).mp (hb1.trans hj.symm))
        rw [if_neg hjp, upd_ne hbb]
        exact g5.hx _ _ (hA j b' hj)
  · rintro σ' F' H' e1 e2 ⟨g, fo, fas, hO, hA, y1, y2, y3, y4, y5, y6, y7, rfl⟩
    rw [List.take_length] at hA
    obtain ⟨Fz, gz, ez, kz⟩ := Gr.frzs e (as := o :: as) g fun b hb' => by
      rcases List.mem_cons.mp hb' with rfl | hb'
      · exact ⟨by rw [hO]; exact (fun z => nomatch z), ho0⟩
      · obtain ⟨q, hq⟩ := List.mem_iff_getElem?.mp hb'
        exact ⟨by rw [hA q b hq]; exact (fun z => nomatch z), (hb b hb').1⟩
    have ron : rLst (rLst rNat) Fz (.ref o) (onM n ps) := ⟨o, _, rfl, by rw [kz o List.mem_cons_self, hO], paired_of (by rw [List.length_map, hal, on_len]) fun i a b ha hb' => by
      rw [List.getElem?_map] at ha
      cases q : as[i]? with
      | none => rw [q] at ha; cases ha
      | some c =>
        rw [q] at ha
        cases ha
        have hi : i < n := by rw [← hal]; exact (List.getElem?_eq_some_iff.mp q).1
        rw [on_at hi] at hb'
        cases hb'
        exact ⟨c, _, rfl, by rw [kz c (List.mem_cons_of_mem _ (mem_of_at q)), hA i c q], nats_P _ _⟩⟩
    walk_at "n"
    refine x_nil gz.fh fun f hf => ?_
    have ff0 : Fz f = none := gz.fh.free hf
    have hf0 : H f = none := Ex.free gz.hx hf
    have G0 : Gr M0 F H Fz (upd H' f (.lst [])) := gz.trans (.loc gz.fh hf)
    walk_at "n"
    refine x_forR (n := n) G0.fh (ev_var rfl (ri _ (n : Int))) (by omega)
      (fun i σ' F' H' => Gr M0 F H F' H' ∧ F' f = none ∧ (∃ vs, H' f = some (.lst vs) ∧ Paired (rDct F') vs ((aboveM n ps).take i)) ∧ ∃ y1 y2 y3 y4 y5 y6, σ' = [some v, some (.int (n : Int)), some (.ref o), y1, y2, y3, some (.ref f), y4, y5, y6])
      (fun F2 H2 g2 => ⟨G0.trans g2, g2.nn upd_same ff0, ⟨[], g2.hx _ _ upd_same, .nil⟩, _, _, _, _, _, _, rfl⟩) ?_ ?_
    · rintro F2 e2 i σ' F' H' hi e3 e4 ⟨g, ff, ⟨vs, hF, pv⟩, y1, y2, y3, y4, y5, y6, rfl⟩
      have hlv : vs.length = i := by rw [pv.length, List.length_take, above_len]; omega
      walk_at "n"
      refine x_listM (R := rNat) (xs := (onM n ps).getD i []) e4 (ev_ixL (ev_var rfl (Mn.mono (e2.trans e3) ron)) (ev_var rfl (ri _ (i : Int))) (atI_natL (on_at hi))) fun ws l F5 H5 g5 p5 hl5 => ?_
      have ews := nats_eq p5
      subst ews
      have fl5 : F5 l = none := g5.fh.free hl5
      have hl0 : H l = none := Ex.free (g.trans g5).hx hl5
      have hfl : f ≠ l := fun z => by subst z; rw [g5.hx _ _ hF] at hl5; cases hl5
      have G5 : Gr M0 F H F5 (upd H5 l (.lst (((onM n ps).getD i []).map fun x : Nat => V.int (x : Int)))) := (g.trans g5).trans (.loc g5.fh hl5)
      walk_at "n"
      refine x_dict fun d hd => ?_
      have hdl : d ≠ l := fun z => by subst z; rw [upd_same] at hd; cases hd
      have hdf : d ≠ f := fun z => by subst z; rw [upd_ne hfl, g5.hx _ _ hF] at hd; cases hd
      have fd5 : F5 d = none := G5.fh.free hd
      have hd0 : H d = none := Ex.free G5.hx hd
      have G6 := G5.trans (.loc G5.fh hd (o := .dK (kvsOf [])))
      walk_at "n"
      refine x_while G6.fh (fun m σ' F' H' => ∃ ws r, dfs (onM n ps) m ws r = dfs (onM n ps) (fuelM n ps) ((onM n ps).getD i []) [] ∧ (measM n ps.length ws r ≤ m ∧ m ≤ fuelM n ps) ∧ r.Nodup ∧ (∀ y ∈ r, y < n) ∧ (∀ y ∈ ws, y < n) ∧ Gr M0 F H F' H' ∧ F' l = none ∧ H' l = some (.lst (ws.map fun x : Nat => V.int (x : Int))) ∧ F' d = none ∧ H' d = some (.dK (kvsOf r)) ∧
          F' f = none ∧ H' f = some (.lst vs) ∧ Paired (rDct F') vs ((aboveM n ps).take i) ∧ rLst (rLst rNat) F' (.ref o) (onM n ps) ∧ ∃ y1 y2 y3, σ' = [some v, some (.int (n : Int)), some (.ref o), some (.int (i : Int)), y1, y2, some (.ref f), some (.ref l), some (.ref d), y3]) (fuelM n ps) ?_
        (fun m σ' F' H' => match H' l with | some (.lst []) => false | _ => true) ?_ ?_ ?_ ?_
      · refine ⟨(onM n ps).getD i [], [], rfl, ⟨?_, Nat.le_refl _⟩, List.nodup_nil, (fun _ h => nomatch h), fun y hy => on_mem hp hy, G6, fl5, by rw [upd_ne hdl.symm, upd_same], fd5, upd_same, g5.nn hF ff, by rw [upd_ne hdf.symm, upd_ne hfl]; exact g5.hx _ _ hF, Paired.up g5.ff pv, Mn.mono (e2.trans (e3.trans g5.ff)) ron, _, _, _, rfl⟩
        unfold measM fuelM
        have := on_le (n := n) (ps := ps) (x := i)
        show (n - 0) * _ + _ ≤ _
        rw [Nat.sub_zero]
        omega
      · rintro m σ' F' H' e1 e2 ⟨ws, r, h1, h2, h3, h4, h5, g, fl, hL, fd, hD, ff, hF, pv, ro, y1, y2, y3, rfl⟩
        refine EvT.is (et_test (ev_neNilM (ev_var rfl (show rRef _ _ l from rfl)) hL)) ?_
        rw [hL]
        cases ws with
        | nil => rfl
        | cons a ws => rfl
      · rintro m σ' F' H' F2' H2' g2 ⟨ws, r, h1, h2, h3, h4, h5, g, fl, hL, fd, hD, ff, hF, pv, ro, y1, y2, y3, rfl⟩
        exact ⟨ws, r, h1, h2, h3, h4, h5, g.trans g2, g2.nn hL fl, g2.hx _ _ hL, g2.nn hD fd, g2.hx _ _ hD, g2.nn hF ff, g2.hx _ _ hF, Paired.up g2.ff pv, Mn.mono g2.ff ro, _, _, _, rfl⟩
      · rintro m σ' F' H' F8 H8 ef g2 hb ⟨ws, r, h1, ⟨h2, h2'⟩, h3, h4, h5, g, fl, hL, fd, hD, ff, hF, pv, ro, y1, y2, y3, rfl⟩ _
        have hne : ws ≠ [] := fun z => by
          subst z
          rw [hL] at hb
          cases hb
        obtain ⟨w0, one, rfl⟩ : ∃ w0 one, ws = w0 ++ [one] := by
          rcases List.eq_nil_or_concat ws with h | ⟨w0, one, h⟩
          · exact absurd h hne
          · exact ⟨w0, one, by rw [h, List.concat_eq_append]⟩
        obtain ⟨m', rfl⟩ : ∃ m', m = m' + 1 := ⟨m - 1, by
          have : 1 ≤ measM n ps.length (w0 ++ [one]) r := by unfold measM; rw [List.length_append]; show 1 ≤ _ + (_ + 1); omega
          omega⟩
        have hone : one < n := h5 one (List.mem_append_right _ List.mem_cons_self)
        have hw0 : ∀ y ∈ w0, y < n := fun y hy => h5 y (List.mem_append_left _ hy)
        have hL8 := g2.hx _ _ hL
        have hD8 := g2.hx _ _ hD
        have hF8 := g2.hx _ _ hF
        have fl8 := g2.nn hL fl
        have fd8 := g2.nn hD fd
        have ff8 := g2.nn hF ff
        have ro8 := Mn.mono g2.ff ro
        have pv8 := Paired.up g2.ff pv
        have G8 := (g.trans g2).set' (o := .lst (w0.map fun x : Nat => V.int (x : Int))) fl8 (.inl hl0)
        have hrl := nodup_lt h3 h4
        walk_at "n"
        refine x_pop (l := l) (y := .int (one : Int)) rfl hL8 ?_ ?_
        · rw [List.map_append, List.length_append]
          show (_ ++ [V.int (one : Int)])[_ + 1 - 1]? = _
          rw [Nat.add_sub_cancel, List.getElem?_append_right (Nat.le_refl _), Nat.sub_self]
          rfl
        rw [show ((w0 ++ [one]).map fun x : Nat => V.int (x : Int)).dropLast = w0.map fun x : Nat => V.int (x : Int) by rw [List.map_append]; exact List.dropLast_concat]
        have hD8' : upd H8 l (.lst (w0.map fun x : Nat => V.int (x : Int))) d = some (.dK (kvsOf r)) := by rw [upd_ne hdl]; exact hD8
        have hF8' : upd H8 l (.lst (w0.map fun x : Nat => V.int (x : Int))) f = some (.lst vs) := by rw [upd_ne hfl]; exact hF8
        walk_at "n"
        refine x_if G8.fh (et_B (ev_dnotM (k := one) (ev_var rfl (rn _ one)) (ev_var rfl (show rRef _ _ d from rfl)) hD8')) (fun hbb F9 H9 g9 => ?_) (fun hbb F9 H9 g9 => ?_)
        · have hnew : one ∉ r := fun z => by rw [decide_eq_true z] at hbb; cases hbb
          have hnd : (r ++ [one]).Nodup := List.nodup_append.mpr ⟨h3, by simp, fun x hx y hy => by
            rw [List.mem_singleton.mp hy]
            intro z
            rw [z] at hx
            exact hnew hx⟩
          have hall : ∀ y ∈ r ++ [one], y < n := fun y hy => by
            rcases List.mem_append.mp hy with h | h
            · exact h4 y h
            · rw [List.mem_singleton.mp h]; exact hone
          have hr1 := nodup_lt hnd hall
          rw [List.length_append] at hr1
          have hr2 : r.length < n := hr1
          have hL9 := g9.hx _ _ (upd_same (H := H8) (a := l) (o := .lst (w0.map fun x : Nat => V.int (x : Int))))
          have hD9 := g9.hx _ _ hD8'
          have hF9 := g9.hx _ _ hF8'
          have fl9 := g9.nn upd_same fl8
          have fd9 := g9.nn hD8' fd8
          have ff9 := g9.nn hF8' ff8
          walk_at "n"
          refine x_dput (d := d) (ks := r) (k := one) g9.fh ev_bl (ev_var rfl (show rRef _ _ d from rfl)) (ev_var rfl (rn _ one)) hD9 hnew (by rw [sizeLine_eq]; omega) fun F10 H10 g10 h10 => ?_
          have fd10 := g10.nn hD9 fd9
          have fl10 := g10.nn hL9 fl9
          have ff10 := g10.nn hF9 ff9
          have G10 := ((G8.trans g9).trans g10).set' (o := .dK (kvsOf (r ++ [one]))) fd10 (.inl hd0)
          have hL10 : upd H10 d (.dK (kvsOf (r ++ [one]))) l = some (.lst (w0.map fun x : Nat => V.int (x : Int))) := by rw [upd_ne hdl.symm]; exact g10.hx _ _ hL9
          have hF10 : upd H10 d (.dK (kvsOf (r ++ [one]))) f = some (.lst vs) := by rw [upd_ne hdf.symm]; exact g10.hx _ _ hF9
          have g910 := g9.ff.trans g10.ff
          have hmore := on_le (n := n) (ps := ps) (x := one)
          have hmeas := meas_new (n := n) (L := ps.length) (w := w0) (one := one) hmore hr2
          have hwz : w0.length ≤ measM n ps.length (w0 ++ [one]) r := by unfold measM; rw [List.length_append]; show _ ≤ _ + (_ + 1); omega
          walk_at "n"
          refine x_ext (R := rNat) (zs := (onM n ps).getD one []) G10.fh (ev_var rfl (show rRef _ _ l from rfl)) hL10 (ev_ixL (ev_var rfl (Mn.mono g910 ro8)) (ev_var rfl (ri _ (one : Int))) (atI_natL (on_at hone))) ?_ fun zs F11 H11 g11 p11 h11 => ?_
          · rw [List.length_map, sizeLine_eq]; omega
          have ezs := nats_eq p11
          subst ezs
          have fl11 := g11.nn hL10 fl10
          have G11 := (G10.trans g11).set' (o := .lst ((w0.map fun x : Nat => V.int (x : Int)) ++ ((onM n ps).getD one []).map fun x : Nat => V.int (x : Int))) fl11 (.inl hl0)
          refine ⟨F11, m', ef.trans (g2.ff.trans (g910.trans g11.ff)), G11.fh, by omega, w0 ++ (onM n ps).getD one [], r ++ [one], ?_, ⟨by omega, by omega⟩, hnd, hall, fun y hy => ?_, G11, fl11, by rw [upd_same, List.map_append], g11.nn upd_same fd10, by rw [upd_ne hdl]; exact g11.hx _ _ upd_same, g11.nn hF10 ff10, by rw [upd_ne hfl]; exact g11.hx _ _ hF10, Paired.up (g910.trans g11.ff) pv8, Mn.mono (g910.trans g11.ff) ro8, _, _, _, rfl⟩
          · rw [← dfs_new hnew]; exact h1
          · rcases List.mem_append.mp hy with h | h
            · exact hw0 y h
            · exact on_mem hp h
        · have hold : one ∈ r := by
            cases q : decide (one ∈ r) with
            | true => exact of_decide_eq_true q
            | false => rw [q] at hbb; cases hbb
          have hmeas := meas_old (n := n) (L := ps.length) (w := w0) (r := r) (one := one)
          walk_at "n"
          refine ⟨F9, m', ef.trans (g2.ff.trans g9.ff), g9.fh, by omega, w0, r, by rw [← dfs_old hold]; exact h1, ⟨by omega, by omega⟩, h3, h4, hw0, G8.trans g9, g9.nn upd_same fl8, g9.hx _ _ upd_same, g9.nn hD8' fd8, g9.hx _ _ hD8', g9.nn hF8' ff8, g9.hx _ _ hF8', Paired.up g9.ff pv8, Mn.mono g9.ff ro8, _, _, _, rfl⟩
      · rintro m σ' F' H' F8 H8 ef g2 hb ⟨ws, r, h1, ⟨h2, h2'⟩, h3, h4, h5, g, fl, hL, fd, hD, ff, hF, pv, ro, y1, y2, y3, rfl⟩ _
        have hnil : ws = [] := by
          cases ws with
          | nil => rfl
          | cons a ws => rw [hL] at hb; cases hb
        subst hnil
        rw [dfs_nil] at h1
        have hD8 := g2.hx _ _ hD
        have hF8 := g2.hx _ _ hF
        have fd8 := g2.nn hD fd
        have ff8 := g2.nn hF ff
        have gf := (g.trans g2).frz hD8 (e.free hd0) (.inl hd0)
        have ffz : upd F8 d (.dK (kvsOf r)) f = none := by rw [upd_ne hdf.symm]; exact ff8
        have exz : Ex F8 (upd F8 d (.dK (kvsOf r))) := Ex.new fd8
        walk_at "n"
        refine x_app (R := rDct) (x := r) gf.fh (ev_var rfl (show rRef _ _ f from rfl)) hF8 (ev_var rfl (show rDct _ _ r from ⟨d, rfl, upd_same⟩)) (by rw [hlv, sizeLine_eq]; omega) fun v9 F9 H9 g9 r9 h9 => ?_
        have ff9 := g9.nn hF8 ffz
        have G9 := (gf.trans g9).set' (o := .lst (vs ++ [v9])) ff9 (.inl hf0)
        refine ⟨F9, e3.trans (g5.ff.trans (ef.trans (g2.ff.trans (exz.trans g9.ff)))), G9.fh, G9, ff9, ⟨_, upd_same, ?_⟩, _, _, _, _, _, _, rfl⟩
        rw [List.take_add_one, above_get hi, ← h1]
        exact (Paired.up (g2.ff.trans (exz.trans g9.ff)) pv).snoc r9
    · rintro σ' F' H' e1 e2 ⟨g, ff, ⟨vs, hF, pv⟩, y1, y2, y3, y4, y5, y6, rfl⟩
      rw [List.take_of_length_le (by rw [above_len]; exact Nat.le_refl _)] at pv
      have gf := g.frz hF (Ex.free g.ff ff) (.inl hf0)
      walk_at "n"
      exact x_ret gf.fh (ev_var rfl (show rLst rDct _ _ _ from ⟨f, vs, rfl, upd_same, Paired.up (Ex.new ff) pv⟩)) fun v' F2 H2 g2 r2 => k v' F2 H2 (gf.trans g2) r2

instance {T : Tx K mg} : IsF (rOrder T.C_Order) K "higher" (rLst rDct) id := fld_higher T.cl_Order T.na_Order_higher
abbrev sp_Order_init (T : Tx K mg) : Sp := SpOrder T.C_Order
theorem ok_Order_init (T : Tx K mg) : FnOk P w K mg base CX0 4 T.a_Order_init T.d_Order_init ["self", "many", "pairs"] (sp_Order_init T) := by
  refine T.F_Order_init.ok sc_Order_init (fun vs H Q E h => SpLen.len h) (fun cdv A outer s H vs Q E hr h => ?_)
  obtain ⟨F, a, dx, l, n, ps, rfl, e, fa, ha, rl, ⟨h0, h1, h2, h3, h4⟩, k⟩ := h
  have ri : ∀ F (i : Int), rInt F (.int i) i := fun F i => rfl
  have rn : ∀ F (i : Nat), rNat F (.int (i : Int)) i := fun F i => rfl
  have va : ∀ F, rRef F (.ref a) a := fun F => rfl
  refine ⟨_, (by exact (pss_cons (ps_if (pt_not (pt_val (pe_call (ok_is_between T) (hr.mono (by decide)) rfl T.g_is_between T.F_is_between.kp T.b_is_between .nil pass0 (pa_cons (pv 1) (pa_cons pe_int (pa_cons (pe_glob (v := .int 32) rfl T.c_MOST_PLACES_orders ⟨_, rfl⟩) pa_nil)))))) (pss_one ps_never) pss_nil)
      (pss_cons (ps_if (PW.pt (pw_or (pt_not (pt_val (pe_callB (r := rIsi K) call_isi (by rfl) T.z_isinstance (by decide +kernel) (pa_cons (pv 2) (pa_cons (pe_bltn (v := .ty "list") (by rfl) T.z_list (by decide +kernel) rfl) pa_nil))))) (pw_or1 (pt_not (pt_val (pe_callB (r := rAll K) (cr_all rfl) (by rfl) T.z_all (by decide +kernel) (pa_cons (pe_lc (own := [("pair", 3)]) (g := gName 3) (tt := tYes) rfl sc_Order_init.nd (klist K (pv 2)) (blkOk_by (own := [("pair", 3)]) (N := N_Order_init) (sc := defScope s_Order_init) (by decide +kernel)) (fun _ _ _ _ _ => (pg_name (i := 3) sc_Order_init.nd rfl (by first | exact Or.inl rfl | exact Or.inr rfl))) (fun _ _ _ _ _ => pts_nil) (fun _ _ _ _ _ => (pe_call (ok_is_pair T) (hr.mono (by decide)) rfl T.g_is_pair T.F_is_pair.kp T.b_is_pair .nil pass0 (pa_cons (pv 3) (pa_cons (pv 1) pa_nil))))) pa_nil))))))) (pss_one ps_never) pss_nil)
      (pss_cons (kset K (pv 0) (pe_call (ok_above T) (hr.mono (by decide)) rfl T.g_above T.F_above.kp T.b_above .nil pass0 (pa_cons (pv 2) (pa_cons (pv 1) pa_nil))) rfl)
      (pss_one (ps_if (pt_val (pe_callB (r := rAny K) (cr_any rfl) (by rfl) T.z_any (by decide +kernel) (pa_cons (pe_lc (own := [("place", 4)]) (g := gName 4) (tt := tYes) rfl sc_Order_init.nd (pi_range1 rfl T.z_range (pa_cons (pv 1) pa_nil)) (blkOk_by (own := [("place", 4)]) (N := N_Order_init) (sc := defScope s_Order_init) (by decide +kernel)) (fun _ _ _ _ _ => (pg_name (i := 4) sc_Order_init.nd rfl (by first | exact Or.inl rfl | exact Or.inr rfl))) (fun _ _ _ _ _ => pts_nil) (fun _ _ _ _ _ => (pe_cmp (pc_din (hu_of hr) (pv 4) (pe_ix (r := rIxL K) ix_list (kfld K (pv 0) rfl) (pv 4) (fun _ _ => rfl)))))) pa_nil))) (pss_one ps_never) pss_nil)))))), ?_⟩
  walk_at "n"
  refine x_if (b := false) e (EvT.is (b := !true) (et_not (et_B (Ev.is (ev_call3 (ev_var rfl (ri _ (n : Int))) ev_int ev_int trivial) ?_))) rfl) (fun z => nomatch z) fun _ F1 H1 g1 => ?_
  · rw [decide_eq_true (by omega), decide_eq_true (by omega)]; rfl
  walk_at "n"
  refine x_if (b := false) g1.fh (EvT.is (et_or (et_not (et_B (ev_isLst (ev_var rfl (Mn.mono g1.ff rl))))) fun _ => et_not (et_B (ev_all (ev_lcm (R := rPr rNat rNat) (S := rBl) (fun _ => true) (ev_var rfl (Mn.mono g1.ff rl)) (by omega) (fun v => rfl) fun i p v F2 H2 hx g r => ev_call2 (ev_var rfl r) (ev_var rfl (rn _ n)) ?_)))) ?_) (fun z => nomatch z) fun _ F2 H2 g2 => ?_
  · obtain ⟨q1, q2, q3⟩ := h3 p (mem_of_at hx)
    exact ⟨q1, q2, q3, by omega⟩
  · have : ((ps.map fun _ => true).all id) = true := List.all_eq_true.mpr fun b hb => by obtain ⟨_, _, rfl⟩ := List.mem_map.mp hb; rfl
    rw [this]; rfl
  have g12 := g1.trans g2
  walk_at "n"
  refine x_fld g2.fh (ev_call2 (x := ps) (y := n) (ev_var rfl (Mn.mono g12.ff rl)) (ev_var rfl (rn _ n)) ⟨by omega, h2, fun p hp => ⟨(h3 p hp).1, (h3 p hp).2.1⟩⟩) (ev_var rfl (va _)) (g12.hx _ _ ha) T.cl_Order T.na_Order_higher (by decide) fun v F4 H4 g4 r4 h4' => ?_
  have g := g12.trans g4
  have f4 : F4 a = none := g.nn ha fa
  have gg : Gr (El.M1 a) F H F4 (upd H4 a (.ins T.C_Order dx (putF "higher" v []))) := g.up.set' f4 (.inr rfl)
  walk_at "n"
  refine x_if (b := false) gg.fh (EvT.is (et_B (ev_any (ev_lcRm (S := rBl) (fun p => decide (p ∈ (aboveM n ps).getD p [])) (ev_var rfl (ri _ (n : Int))) (by omega) (fun v => rfl) fun i F5 H5 hi g5 => ev_din (ev_var rfl (rn _ i)) (ev_ixL (ev_fldM (S := rLst rDct) (ev_var rfl (va _)) (g5.hx _ _ upd_same) T.cl_Order T.na_Order_higher rfl (Mn.mono g5.ff r4)) (ev_var rfl (ri _ (i : Int))) (atI_natL (getD_at (by rw [above_len]; exact hi))))))) ?_) (fun z => nomatch z) fun _ F6 H6 g6 => ?_
  · refine List.any_eq_false.mpr fun b hb => ?_
    obtain ⟨p, hp, rfl⟩ := List.mem_map.mp hb
    have := h4 p (List.mem_range.mp hp)
    rw [decide_eq_false this]
    exact Bool.false_ne_true
  · have ga := g6.hx _ _ (upd_same (H := H4) (a := a) (o := .ins T.C_Order dx (putF "higher" v [])))
    have f6 := g6.nn upd_same f4
    have gf := (gg.trans g6.up).frz ga fa (.inr rfl)
    walk_at "n"
    exact k _ _ gf ⟨a, dx, v, rfl, upd_same, Mn.mono (g6.ff.trans (Ex.new f6)) r4⟩
abbrev sp_Order_len (T : Tx K mg) : Sp := Sp1 (rOrder T.C_Order) (fun _ => True) rNat (fun hs => hs.length)
theorem ok_Order_len (T : Tx K mg) : FnOk P w K mg base CX0 1 T.a_Order_len T.d_Order_len ["self"] (sp_Order_len T) := by
  refine T.F_Order_len.ok sc_Order_len (fun vs H Q E h => SpLen.len h) (fun cdv A outer s H vs Q E hr h => ?_)
  obtain ⟨F, v, hs, rfl, e, r, -, k⟩ := h
  refine ⟨_, (by exact (pss_one (ps_ret (pe_callB (r := rLenS K) call_len_seq (by rfl) T.z_len PySem.boot_len (pa_cons (kfld K (pv 0) rfl) pa_nil))))), ?_⟩
  walk_at "n"
  exact x_ret e (ev_lenL (ev_fld (ev_var rfl r))).toNat k
abbrev sp_Order_at_most (T : Tx K mg) : Sp := Sp3 (rOrder T.C_Order) rNat rNat (fun hs x _ => x < hs.length) rBl (fun hs x y => atMostM hs x y)
theorem ok_Order_at_most (T : Tx K mg) : FnOk P w K mg base CX0 1 T.a_Order_at_most T.d_Order_at_most ["self", "x", "y"] (sp_Order_at_most T) := by
  refine T.F_Order_at_most.ok sc_Order_at_most (fun vs H Q E h => SpLen.len h) (fun cdv A outer s H vs Q E hr h => ?_)
  obtain ⟨F, v, w, u, hs, x, y, rfl, e, r1, r2, r3, hx, k⟩ := h
  cases (show w = _ from r2)
  cases (show u = _ from r3)
  have ri : ∀ F (i : Int), rInt F (.int i) i := fun F i => rfl
  have rn : ∀ F (i : Nat), rNat F (.int (i : Int)) i := fun F i => rfl
  refine ⟨_, (by exact (pss_one (ps_ret (pe_or (pe_cmpR op_eq (pv 1) (pv 2) (nomark _)) (pe_one (pe_cmp (pc_din (hu_of hr) (pv 2) (pe_ix (r := rIxL K) ix_list (kfld K (pv 0) rfl) (pv 1) (fun _ _ => rfl))))))))), ?_⟩
  walk_at "n"
  refine x_ret e (Ev.is (ev_orV (ev_eqI (ev_var rfl (ri _ (x : Int))) (ev_var rfl (ri _ (y : Int)))) fun _ => ev_din (ev_var rfl (rn _ y)) (ev_ixL (ev_fld (ev_var rfl r1)) (ev_var rfl (ri _ (x : Int))) (atI_natL (getD_at (xs := hs) (d := []) hx)))) ?_) k
  unfold atMostM
  rw [show decide ((x : Int) = (y : Int)) = decide (x = y) from decide_eq_decide.mpr (by omega)]
abbrev sp_Order_least (T : Tx K mg) : Sp := Sp1 (rOrder T.C_Order) (fun hs => hs.length ≤ 1000) (rOpt rNat) leastM
theorem ok_Order_least (T : Tx K mg) : FnOk P w K mg base CX0 3 T.a_Order_least T.d_Order_least ["self"] (sp_Order_least T) := by
  refine T.F_Order_least.ok sc_Order_least (fun vs H Q E h => SpLen.len h) (fun cdv A outer s H vs Q E hr h => ?_)
  obtain ⟨F, v, hs, rfl, e, r, hz, k⟩ := h
  have ri : ∀ F (i : Int), rInt F (.int i) i := fun F i => rfl
  have rn : ∀ F (i : Nat), rNat F (.int (i : Int)) i := fun F i => rfl
  refine ⟨_, (by exact (pss_cons (ps_for PassesOwn.never rfl (kenum K rfl T.z_enumerate (pa_cons (kfld K (pv 0) rfl) pa_nil)) (kptup K (n := 2) rfl (pgs_cons (pg_name (i := 1) sc_Order_least.nd rfl (by first | exact Or.inl rfl | exact Or.inr rfl)) (pgs_cons (pg_name (i := 2) sc_Order_least.nd rfl (by first | exact Or.inl rfl | exact Or.inr rfl)) pgs_nil))) (pss_one (ps_if (pt_cmpR op_eq (pe_callB call_lenD (by rfl) T.z_len PySem.boot_len (pa_cons (pv 2) pa_nil)) (pe_op op_sub (pe_callB (call_lenOwn (ok_Order_len T) (hr.mono (by decide)) T.m_Order_len.at_ T.m_Order_len.fn T.b_Order_len pass0) (by rfl) T.z_len PySem.boot_len (pa_cons (pv 0) pa_nil)) pe_int) (nomark _)) (pss_one (ps_ret (pv 1))) pss_nil)))
      (pss_one (ps_ret pe_non)))), ?_⟩
  walk_at "n"
  refine x_forE e (ev_fld (ev_var rfl r)) (fun i σ' F' H' => Gr M0 F H F' H' ∧ (∀ j, j < i → decide (((hs.getD j []).length : Int) = (hs.length : Int) - 1) = false) ∧ ∃ y1 y2, σ' = [some v, y1, y2]) (fun F1 H1 g => ⟨g, fun j h => absurd h (Nat.not_lt_zero j), _, _, rfl⟩) ?_ ?_ ?_
  · rintro n σ' F' H' F2 H2 g2 ⟨g, hb, y1, y2, rfl⟩
    exact ⟨g.trans g2, hb, _, _, rfl⟩
  · rintro F1 e1 i x u σ' F' H' hx e2 e3 rx ⟨g, hb, y1, y2, rfl⟩
    have hx : hs[i]? = some x := hx
    have hi : i < hs.length := (List.getElem?_eq_some_iff.mp hx).1
    have ex : hs.getD i [] = x := by rw [List.getD_eq_getElem?_getD, hx]; rfl
    walk_at "n"
    refine x_if e3 (et_test (ev_eqI (ev_lenD (ev_var rfl rx)) (ev_sub (ev_lenOwn (ev_var rfl (Mn.mono g.ff r)) (by omega)) ev_int))) (fun hbb F4 H4 g4 => ?_) (fun hbb F4 H4 g4 => ?_)
    · have hfind : leastM hs = some i := L2.find_range _ hi (by rw [ex]; exact hbb) hb
      walk_at "n"
      exact x_ret (R := rOpt rNat) (x := some i) g4.fh (ev_someO (R := rNat) (ev_var rfl (rn F4 i))) fun v' F5 H5 g5 r5 => k v' F5 H5 (g.trans (g4.trans g5)) (by rw [hfind]; exact r5)
    · walk_at "n"
      refine ⟨F4, e2.trans g4.ff, g4.fh, g.trans g4, fun j hj => ?_, _, _, rfl⟩
      by_cases h : j = i
      · rw [h, ex]; exact hbb
      · exact hb j (by omega)
  · rintro σ' F' H' e1 e2 ⟨g, hb, y1, y2, rfl⟩
    have hfind : leastM hs = none := L2.find_range_none _ fun j hj => hb j hj
    walk_at "n"
    exact x_ret (R := rOpt rNat) (x := none) e2 ev_noneO fun v' F5 H5 g5 r5 => k v' F5 H5 (g.trans g5) (by rw [hfind]; exact r5)
abbrev sp_Order_greatest (T : Tx K mg) : Sp := Sp1 (rOrder T.C_Order) (fun hs => hs.length ≤ 1000) (rOpt rNat) greatestM
theorem ok_Order_greatest (T : Tx K mg) : FnOk P w K mg base CX0 3 T.a_Order_greatest T.d_Order_greatest ["self"] (sp_Order_greatest T) := by
  refine T.F_Order_greatest.ok sc_Order_greatest (fun vs H Q E h => SpLen.len h) (fun cdv A outer s H vs Q E hr h => ?_)
  obtain ⟨F, v, hs, rfl, e, r, hz, k⟩ := h
  have ri : ∀ F (i : Int), rInt F (.int i) i := fun F i => rfl
  have rn : ∀ F (i : Nat), rNat F (.int (i : Int)) i := fun F i => rfl
  refine ⟨_, (by exact (pss_cons (ps_for PassesOwn.never rfl (pi_range1 rfl T.z_range (pa_cons (pe_callB (call_lenOwn (ok_Order_len T) (hr.mono (by decide)) T.m_Order_len.at_ T.m_Order_len.fn T.b_Order_len pass0) (by rfl) T.z_len PySem.boot_len (pa_cons (pv 0) pa_nil)) pa_nil)) (pg_name (i := 1) sc_Order_greatest.nd rfl (by first | exact Or.inl rfl | exact Or.inr rfl)) (pss_one (ps_if (pt_val (pe_callB (r := rAll K) (cr_all rfl) (by rfl) T.z_all (by decide +kernel) (pa_cons (pe_lc (own := [("one", 2)]) (g := gName 2) (tt := tYes) rfl sc_Order_greatest.nd (pi_range1 rfl T.z_range (pa_cons (pe_callB (call_lenOwn (ok_Order_len T) (hr.mono (by decide)) T.m_Order_len.at_ T.m_Order_len.fn T.b_Order_len pass0) (by rfl) T.z_len PySem.boot_len (pa_cons (pv 0) pa_nil)) pa_nil)) (blkOk_by (own := [("one", 2)]) (N := N_Order_greatest) (sc := defScope s_Order_greatest) (by decide +kernel)) (fun _ _ _ _ _ => (pg_name (i := 2) sc_Order_greatest.nd rfl (by first | exact Or.inl rfl | exact Or.inr rfl))) (fun _ _ _ _ _ => pts_nil) (fun _ _ _ _ _ => (pe_meth (pv 0) T.cl_Order T.m_Order_at_most (ok_Order_at_most T) (hr.mono (by decide)) T.b_Order_at_most .nil pass0 (pa_cons (pv 2) (pa_cons (pv 1) pa_nil))))) pa_nil))) (pss_one (ps_ret (pv 1))) pss_nil)))
      (pss_one (ps_ret pe_non)))), ?_⟩
  walk_at "n"
  refine x_forR (n := hs.length) e (ev_lenOwn (ev_var rfl r) (by omega)) (by omega) (fun i σ' F' H' => Gr M0 F H F' H' ∧ (∀ j, j < i → ((List.range hs.length).all fun one => atMostM hs one j) = false) ∧ ∃ y1 y2, σ' = [some v, y1, y2]) (fun F1 H1 g => ⟨g, fun j h => absurd h (Nat.not_lt_zero j), _, _, rfl⟩) ?_ ?_
  · rintro F1 e1 i σ' F' H' hi e2 e3 ⟨g, hb, y1, y2, rfl⟩
    walk_at "n"
    refine x_if e3 (et_B (ev_all (ev_lcRm (S := rBl) (n := hs.length) (fun one => atMostM hs one i) (ev_lenOwn (ev_var rfl (Mn.mono g.ff r)) (by omega)) (by omega) (fun v => rfl) fun one F5 H5 ho g5 => ev_meth2 (ev_var rfl (Mn.mono (g.ff.trans g5.ff) r)) (ev_var rfl (rn _ one)) (ev_var rfl (rn _ i)) ho))) (fun hbb F4 H4 g4 => ?_) (fun hbb F4 H4 g4 => ?_)
    · have hfind : greatestM hs = some i := L2.find_range _ hi (by rw [← hbb, List.all_map]; rfl) hb
      walk_at "n"
      exact x_ret (R := rOpt rNat) (x := some i) g4.fh (ev_someO (R := rNat) (ev_var rfl (rn F4 i))) fun v' F5 H5 g5 r5 => k v' F5 H5 (g.trans (g4.trans g5)) (by rw [hfind]; exact r5)
    · walk_at "n"
      refine ⟨F4, e2.trans g4.ff, g4.fh, g.trans g4, fun j hj => ?_, _, _, rfl⟩
      by_cases h : j = i
      · rw [h, ← hbb, List.all_map]; rfl
      · exact hb j (by omega)
  · rintro σ' F' H' e1 e2 ⟨g, hb, y1, y2, rfl⟩
    have hfind : greatestM hs = none := L2.find_range_none _ fun j hj => hb j hj
    walk_at "n"
    exact x_ret (R := rOpt rNat) (x := none) e2 ev_noneO fun v' F5 H5 g5 r5 => k v' F5 H5 (g.trans g5) (by rw [hfind]; exact r5)

abbrev rTri : Rp (Nat × Nat × Nat) := r3 rNat rNat rNat
abbrev sp_not_kept (T : Tx K mg) : Sp := Sp2 (rTurns T.C_Turns) (rOrder T.C_Order) GoodK (rOpt rTri) notKeptM
theorem ok_not_kept (T : Tx K mg) : FnOk P w K mg base CX0 3 T.a_not_kept T.d_not_kept ["turns", "order"] (sp_not_kept T) := by
  refine T.F_not_kept.ok sc_not_kept (fun vs H Q E h => SpLen.len h) (fun cdv A outer s H vs Q E hr h => ?_)
  obtain ⟨F, v, w, t, hs, rfl, e, r1, r2, ⟨h1, h2, h3⟩, k⟩ := h
  have t1 := t.h1
  have t3 := t.h3
  have ri : ∀ F (i : Int), rInt F (.int i) i := fun F i => rfl
  have rn : ∀ F (i : Nat), rNat F (.int (i : Int)) i := fun F i => rfl
  refine ⟨_, (by exact (pss_cons (ps_if (pt_cmpR op_ne (pe_callB (call_lenOwn (ok_Order_len T) (hr.mono (by decide)) T.m_Order_len.at_ T.m_Order_len.fn T.b_Order_len pass0) (by rfl) T.z_len PySem.boot_len (pa_cons (pv 1) pa_nil)) (kfld K (pv 0) rfl) (nomark _)) (pss_one ps_never) pss_nil)
      (pss_cons (ps_for PassesOwn.never rfl (kenum K rfl T.z_enumerate (pa_cons (kfld K (pv 0) rfl) pa_nil)) (kptup K (n := 2) rfl (pgs_cons (pg_name (i := 2) sc_not_kept.nd rfl (by first | exact Or.inl rfl | exact Or.inr rfl)) (pgs_cons (pg_name (i := 3) sc_not_kept.nd rfl (by first | exact Or.inl rfl | exact Or.inr rfl)) pgs_nil))) (pss_one (ps_for PassesOwn.never rfl (pi_range1 rfl T.z_range (pa_cons (kfld K (pv 0) rfl) pa_nil)) (pg_name (i := 4) sc_not_kept.nd rfl (by first | exact Or.inl rfl | exact Or.inr rfl)) (pss_one (ps_for PassesOwn.never rfl (klist K (pe_callB (call_sortedDI rfl) (by rfl) T.z_sorted (by decide +kernel) (pa_cons (pe_ix (r := rIxL K) ix_list (kfld K (pv 1) rfl) (pv 4) (fun _ _ => rfl)) pa_nil))) (pg_name (i := 5) sc_not_kept.nd rfl (by first | exact Or.inl rfl | exact Or.inr rfl)) (pss_one (ps_if (pt_not (pt_val (pe_meth (pv 1) T.cl_Order T.m_Order_at_most (ok_Order_at_most T) (hr.mono (by decide)) T.b_Order_at_most .nil pass0 (pa_cons (pe_ix (r := rIxT K) ix_tup (pv 3) (pv 4) (fun _ _ => rfl)) (pa_cons (pe_ix (r := rIxT K) ix_tup (pv 3) (pv 5) (fun _ _ => rfl)) pa_nil))))) (pss_one (ps_ret (pe_tup (pa_cons (pv 2) (pa_cons (pv 4) (pa_cons (pv 5) pa_nil)))))) pss_nil)))))))
      (pss_one (ps_ret pe_non))))), ?_⟩
  walk_at "n"
  refine x_if (b := false) e (EvT.is (et_test (ev_neI (ev_lenOwn (ev_var rfl r2) (by omega)) (ev_fld (ev_var rfl r1)).nat)) (by rw [h1]; simp)) (fun z => nomatch z) fun _ F1 H1 g1 => ?_
  walk_at "n"
  refine x_forE g1.fh (ev_fld (ev_var rfl (Mn.mono g1.ff r1))) (fun i σ' F' H' => Gr M0 F H F' H' ∧ (((List.range i).map (trisS t.many hs)).flatten).find? (badB t hs) = none ∧ ∃ y1 y2 y3 y4, σ' = [some v, some w, y1, y2, y3, y4]) (fun F2 H2 g2 => ⟨g1.trans g2, rfl, _, _, _, _, rfl⟩) ?_ ?_ ?_
  · rintro n σ' F' H' F2 H2 g2 ⟨g, hb, y1, y2, y3, y4, rfl⟩
    exact ⟨g.trans g2, hb, _, _, _, _, rfl⟩
  · rintro F2 e2 i m u σ' F' H' hx e3 e4 rx ⟨g, hb, y1, y2, y3, y4, rfl⟩
    have hx : t.maps[i]? = some m := hx
    have hi : i < t.maps.length := (List.getElem?_eq_some_iff.mp hx).1
    have em : t.maps.getD i [] = m := by rw [List.getD_eq_getElem?_getD, hx]; rfl
    have hm := t.h4 m (mem_of_at hx)
    walk_at "n"
    refine x_forR (n := t.many) e4 (ev_fld (ev_var rfl (Mn.mono g.ff r1))).nat (by omega) (fun j σ' F6 H6 => Gr M0 F H F6 H6 ∧ (((List.range j).map (trisG hs i)).flatten).find? (badB t hs) = none ∧ ∃ y3 y4, σ' = [some v, some w, some (.int (i : Int)), some u, y3, y4]) (fun F5 H5 g5 => ⟨g.trans g5, rfl, _, _, rfl⟩) ?_ ?_
    · rintro F5 e5 x σ' F6 H6 hx6 e6 e7 ⟨g6, hb6, y3, y4, rfl⟩
      have rx6 := Mn.mono (e5.trans e6) rx
      have hxl : x < hs.length := by omega
      walk_at "n"
      refine x_forL e7 (ev_sortD (ev_ixL (ev_fld (ev_var rfl (Mn.mono g6.ff r2))) (ev_var rfl (ri _ (x : Int))) (atI_natL (getD_at (xs := hs) (d := []) hxl))) (h3 x hx6)) (fun q σ' F8 H8 => Gr M0 F H F8 H8 ∧ ((trisG hs i x).take q).find? (badB t hs) = none ∧ ∃ y4, σ' = [some v, some w, some (.int (i : Int)), some u, some (.int (x : Int)), y4]) (fun F7 H7 g7 => ⟨g6.trans g7, rfl, _, rfl⟩) ?_ ?_
      · rintro F7 e8 q y u2 σ' F8 H8 hy e9 e10 ry ⟨g8, hb8, y4, rfl⟩
        cases (show u2 = _ from ry)
        have hyn : y < t.many := h2 x hx6 y (sort_mem.mp (mem_of_at hy))
        have ru := Mn.mono (e8.trans e9) rx6
        have hax : m[x]? = some (m.getD x 0) := getD_at (by rw [hm.1]; exact hx6)
        have hay : m[y]? = some (m.getD y 0) := getD_at (by rw [hm.1]; exact hyn)
        have hmx : m.getD x 0 < hs.length := by rw [h1]; exact hm.2 _ (List.mem_of_getElem? hax)
        walk_at "n"
        refine x_if (b := badB t hs (i, x, y)) e10 (EvT.is (et_not (et_B (ev_meth2 (x := hs) (y := m.getD x 0) (z := m.getD y 0) (ev_var rfl (Mn.mono g8.ff r2)) (ev_ixT (ev_var rfl ru) (ev_var rfl (ri _ (x : Int))) (atI_natL hax)) (ev_ixT (ev_var rfl ru) (ev_var rfl (ri _ (y : Int))) (atI_natL hay)) hmx))) ?_) (fun hbb F9 H9 g9 => ?_) (fun hbb F9 H9 g9 => ?_)
        · unfold badB
          rw [em]
        · have hit := tri_hit hi hx6 hy hb hb6 hb8 hbb
          walk_at "n"
          exact x_ret (R := rOpt rTri) (x := some (i, x, y)) g9.fh (ev_someO (R := rTri) (ev_r3 (ev_var rfl (rn _ i)) (ev_var rfl (rn _ x)) (ev_var rfl (rn _ y)))) fun v' F10 H10 g10 r10 => k v' F10 H10 (g8.trans (g9.trans g10)) (by rw [hit]; exact r10)
        · walk_at "n"
          refine ⟨F9, e9.trans g9.ff, g9.fh, g8.trans g9, ?_, _, rfl⟩
          have hk : (trisG hs i x)[q]? = some (i, x, y) := by
            unfold trisG
            rw [List.getElem?_map, hy]
            rfl
          rw [List.take_add_one, hk]
          refine find_none_app hb8 ?_
          show List.find? _ [(i, x, y)] = none
          rw [List.find?_cons, hbb]
          rfl
      · rintro σ' F8 H8 e8 e9 ⟨g8, hb8, y4, rfl⟩
        rw [List.take_of_length_le (by unfold trisG; rw [List.length_map]; exact Nat.le_refl _)] at hb8
        walk_at "n"
        refine ⟨F8, e6.trans e8, e9, g8, ?_, _, _, rfl⟩
        rw [flat_succ]
        exact find_none_app hb6 hb8
    · rintro σ' F6 H6 e5 e6 ⟨g6, hb6, y3, y4, rfl⟩
      walk_at "n"
      refine ⟨F6, e3.trans e5, e6, g6, ?_, _, _, _, _, rfl⟩
      rw [flat_succ]
      exact find_none_app hb hb6
  · rintro σ' F' H' e1 e2 ⟨g, hb, y1, y2, y3, y4, rfl⟩
    have hnone : notKeptM t hs = none := hb
    walk_at "n"
    exact x_ret (R := rOpt rTri) (x := none) e2 ev_noneO fun v' F5 H5 g5 r5 => k v' F5 H5 (g.trans g5) (by rw [hnone]; exact r5)

abbrev sp_drawn_between (T : Tx K mg) : Sp := fun vs H Q _ => ∃ (F : Hp) (v w u : V) (t : Tn) (hs : List (List Nat)) (xs : List Nat) (lo hi : Nat), vs = [v, w, u] ∧ Ex F H ∧ rTurns T.C_Turns F v t ∧ rOrder T.C_Order F w hs ∧ rLst rNat F u xs ∧
  GoodK t hs ∧ leastM hs = some lo ∧ greatestM hs = some hi ∧ lo < t.many ∧ hi < t.many ∧ (∀ s ∈ xs, s < t.maps.length) ∧ xs.length ≤ 1000000 ∧ notKeptM t hs = none ∧
  ∀ r F' H', Gr M0 F H F' H' → rOpt (rPr rNat rNat) F' r (loopB t lo hi (idMap t.many) 0 xs) → Q r H'
instance {T : Tx K mg} : SpLen (sp_drawn_between T) 3 := ⟨fun ⟨_, _, _, _, _, _, _, _, _, h, _⟩ => by rw [h]; rfl⟩
theorem ev_between {T : Tx K mg} {σ : St} {F H : Hp} {ta tb tc : TE} {E : XK} {t : Tn} {hs : List (List Nat)} {xs : List Nat} {lo hi : Nat} (ha : Ev (rTurns T.C_Turns) ta σ F H t) (hb : Ev (rOrder T.C_Order) tb σ F H hs) (hc : Ev (rLst rNat) tc σ F H xs)
    (hk : GoodK t hs) (hlo : leastM hs = some lo) (hhi : greatestM hs = some hi) (l1 : lo < t.many) (l2 : hi < t.many) (hsg : ∀ s ∈ xs, s < t.maps.length) (hz : xs.length ≤ 1000000) (hn : notKeptM t hs = none) :
    Ev (rOpt (rPr rNat rNat)) (tCall (sp_drawn_between T) [] E (tCons ta (tCons tb (tCons tc tNil)))) σ F H (loopB t lo hi (idMap t.many) 0 xs) := fun F1 H1 g1 Q q =>
  ha F1 H1 g1 _ fun v F2 H2 g2 r => hb F2 H2 (g1.trans g2) _ fun w F3 H3 g3 r3 => hc F3 H3 ((g1.trans g2).trans g3) _ fun w' F4 H4 g4 r4 =>
    ⟨F4, v, w, w', t, hs, xs, lo, hi, rfl, g4.fh, Mn.mono (g3.ff.trans g4.ff) r, Mn.mono g4.ff r3, r4, hk, hlo, hhi, l1, l2, hsg, hz, hn, fun r F' H' g rr => q r F' H' (g2.trans (g3.trans (g4.trans g))) rr⟩
theorem ok_drawn_between (T : Tx K mg) : FnOk P w K mg base CX0 4 T.a_drawn_between T.d_drawn_between ["turns", "order", "signs"] (sp_drawn_between T) := by
  refine T.F_drawn_between.ok sc_drawn_between (fun vs H Q E h => SpLen.len h) (fun cdv A outer s H vs Q E hr h => ?_)
  obtain ⟨F, v, w, u, t, hs, xs, lo, hi, rfl, e, r1, r2, r3, hk, hlo, hhi, l1, l2, hsg, hz, hnone, kn⟩ := h
  have t1 := t.h1
  have h1 := hk.1
  have ri : ∀ F (i : Int), rInt F (.int i) i := fun F i => rfl
  have rn : ∀ F (i : Nat), rNat F (.int (i : Int)) i := fun F i => rfl
  refine ⟨_, (by exact (pss_cons (ps_set (i := 3) sc_drawn_between.nd rfl (Or.inl rfl) (pe_call (ok_not_kept T) (hr.mono (by decide)) rfl T.g_not_kept T.F_not_kept.kp T.b_not_kept .nil pass0 (pa_cons (pv 0) (pa_cons (pv 1) pa_nil))))
      (pss_cons (ps_if (pt_cmpR op_notN1 (pv 3) pe_non (nomark _)) (pss_one ps_never) pss_nil)
      (pss_cons (ps_set (i := 4) sc_drawn_between.nd rfl (Or.inl rfl) (pe_meth0 (pv 1) T.cl_Order T.m_Order_least (ok_Order_least T) (hr.mono (by decide)) T.b_Order_least .nil pass0))
      (pss_cons (ps_set (i := 5) sc_drawn_between.nd rfl (Or.inl rfl) (pe_meth0 (pv 1) T.cl_Order T.m_Order_greatest (ok_Order_greatest T) (hr.mono (by decide)) T.b_Order_greatest .nil pass0))
      (pss_cons (ps_if (PW.pt (pw_or (pt_cmpR op_isN1 (pv 4) pe_non (nomark _)) (pw_or1 (pt_cmpR op_isN1 (pv 5) pe_non (nomark _))))) (pss_one ps_never) pss_nil)
      (pss_cons (ps_expr (pe_call (ok_check_signs T) (hr.mono (by decide)) rfl T.g_check_signs T.F_check_signs.kp T.b_check_signs .nil pass0 (pa_cons (pv 0) (pa_cons (pv 2) pa_nil))))
      (pss_cons (ps_set (i := 6) sc_drawn_between.nd rfl (Or.inr rfl) (pe_listRg rfl (by rfl) T.z_list (prg_1 (by rfl) T.z_range (kfld K (pv 0) rfl))))
      (pss_cons (ps_for PassesOwn.never rfl (kenum K rfl T.z_enumerate (pa_cons (pv 2) pa_nil)) (kptup K (n := 2) rfl (pgs_cons (pg_name (i := 7) sc_drawn_between.nd rfl (by first | exact Or.inl rfl | exact Or.inr rfl)) (pgs_cons (pg_name (i := 8) sc_drawn_between.nd rfl (by first | exact Or.inl rfl | exact Or.inr rfl)) pgs_nil))) (pss_cons (ps_if (pt_cmpR op_eq (pe_ix (r := rIxL K) ix_list (pv 6) (pv 4) (fun _ _ => rfl)) (pe_ix (r := rIxL K) ix_list (pv 6) (pv 5) (fun _ _ => rfl)) (nomark _)) (pss_one (ps_ret (pe_tup (pa_cons (pe_ix (r := rIxL K) ix_list (pv 6) (pv 4) (fun _ _ => rfl)) (pa_cons (pv 7) pa_nil))))) pss_nil)
      (pss_one (ps_set (i := 6) sc_drawn_between.nd rfl (Or.inr rfl) (pe_lc (own := [("to", 9)]) (g := gName 9) (tt := tYes) rfl sc_drawn_between.nd (ktup K (pe_ix (r := rIxL K) ix_list (kfld K (pv 0) rfl) (pv 8) (fun _ _ => rfl))) (blkOk_by (own := [("to", 9)]) (N := N_drawn_between) (sc := defScope s_drawn_between) (by decide +kernel)) (fun _ _ _ _ _ => (pg_name (i := 9) sc_drawn_between.nd rfl (by first | exact Or.inl rfl | exact Or.inr rfl))) (fun _ _ _ _ _ => pts_nil) (fun _ _ _ _ _ => (pe_ix (r := rIxL K) ix_list (pv 6) (pv 9) (fun _ _ => rfl))))))))
      (pss_one (ps_ret (pe_ifExp (pt_cmpR op_eq (pe_ix (r := rIxL K) ix_list (pv 6) (pv 4) (fun _ _ => rfl)) (pe_ix (r := rIxL K) ix_list (pv 6) (pv 5) (fun _ _ => rfl)) (nomark _)) (pe_tup (pa_cons (pe_ix (r := rIxL K) ix_list (pv 6) (pv 4) (fun _ _ => rfl)) (pa_cons (pe_callB (r := rLenS K) call_len_seq (by rfl) T.z_len PySem.boot_len (pa_cons (pv 2) pa_nil)) pa_nil))) pe_non)))))))))))), ?_⟩
  walk_at "n"
  refine x_set (R := rOpt rTri) (x := notKeptM t hs) e (ev_call2 (ev_var rfl r1) (ev_var rfl r2) hk) fun v3 F1 H1 g1 r4 => ?_
  walk_at "n"
  refine x_if (b := (notKeptM t hs).isSome) g1.fh (et_test (ev_notN (ev_var rfl r4))) (fun hb F2 H2 g2 => by rw [hnone] at hb; cases hb) (fun hb F2 H2 g2 => ?_)
  have g12 := g1.trans g2
  walk_at "n"
  refine x_set (R := rOpt rNat) (x := some lo) g2.fh (Ev.is (ev_meth0 (ev_var rfl (Mn.mono g12.ff r2)) (by omega)) hlo) fun v4 F3 H3 g3 r5 => ?_
  have r5' : rNat F3 v4 lo := r5
  cases (show v4 = _ from r5')
  walk_at "n"
  refine x_set (R := rOpt rNat) (x := some hi) g3.fh (Ev.is (ev_meth0 (ev_var rfl (Mn.mono (g12.ff.trans g3.ff) r2)) (by omega)) hhi) fun v5 F4 H4 g4 r6 => ?_
  have r6' : rNat F4 v5 hi := r6
  cases (show v5 = _ from r6')
  walk_at "n"
  refine x_if (b := false) g4.fh (EvT.is (et_or (et_test (ev_isN (R := rNat) (x := some lo) (ev_var rfl (rn F4 lo)))) fun _ => et_test (ev_isN (R := rNat) (x := some hi) (ev_var rfl (rn F4 hi)))) rfl) (fun z => nomatch z) fun _ F5 H5 g5 => ?_
  have g15 := g12.trans (g3.trans (g4.trans g5))
  walk_at "n"
  refine x_drop g5.fh (ev_call2 (ev_var rfl (Mn.mono g15.ff r1)) (ev_var rfl (Mn.mono g15.ff r3)) hsg) fun F6 H6 g6 => ?_
  have g16 := g15.trans g6
  walk_at "n"
  refine x_set (R := rLst rNat) (x := idMap t.many) g6.fh (ev_lstRg (ev_fld (ev_var rfl (Mn.mono g16.ff r1))).nat (by omega)) fun v7 F7 H7 g7 r7 => ?_
  have g17 := g16.trans g7
  walk_at "n"
  refine x_forE g7.fh (ev_var rfl (Mn.mono g17.ff r3)) (fun i σ' F' H' => Gr M0 F H F' H' ∧ ∃ f fv y1 y2 y3, rLst rNat F' fv f ∧ IsMap t.many f ∧ loopB t lo hi (idMap t.many) 0 xs = loopB t lo hi f i (xs.drop i) ∧ σ' = [some v, some w, some u, some v3, some (.int (lo : Int)), some (.int (hi : Int)), some fv, y1, y2, y3])
    (fun F8 H8 g8 => ⟨g17.trans g8, idMap t.many, v7, _, _, _, Mn.mono g8.ff r7, isMap_id _, rfl, rfl⟩) ?_ ?_ ?_
  · rintro n σ' F' H' F2 H2 g2 ⟨g, f, fv, y1, y2, y3, rf, hf, hl, rfl⟩
    exact ⟨g.trans g2, f, fv, _, _, _, Mn.mono g2.ff rf, hf, hl, rfl⟩
  · rintro F8 e8 i s u2 σ' F' H' hx e3 e4 rx ⟨g, f, fv, y1, y2, y3, rf, hf, hl, rfl⟩
    cases (show u2 = _ from rx)
    have hs1 := hsg s (mem_of_at hx)
    have hfl : f[lo]? = some (f.getD lo 0) := getD_at (by rw [hf.1]; exact l1)
    have hfh : f[hi]? = some (f.getD hi 0) := getD_at (by rw [hf.1]; exact l2)
    have hdrop : xs.drop i = s :: xs.drop (i + 1) := by
      obtain ⟨hl', he'⟩ := List.getElem?_eq_some_iff.mp hx
      rw [List.drop_eq_getElem_cons hl', he']
    walk_at "n"
    refine x_if e4 (et_test (ev_eqI (ev_ixL (ev_var rfl rf) (ev_var rfl (ri _ (lo : Int))) (atI_natL hfl)).nat (ev_ixL (ev_var rfl rf) (ev_var rfl (ri _ (hi : Int))) (atI_natL hfh)).nat)) (fun hbb F9 H9 g9 => ?_) (fun hbb F9 H9 g9 => ?_)
    · have heq : f.getD lo 0 = f.getD hi 0 := by have := of_decide_eq_true hbb; omega
      walk_at "n"
      refine x_ret (R := rOpt (rPr rNat rNat)) (x := some (f.getD lo 0, i)) g9.fh (ev_someO (R := rPr rNat rNat) (ev_pr (R := rNat) (S := rNat) (ev_ixL (ev_var rfl (Mn.mono g9.ff rf)) (ev_var rfl (ri _ (lo : Int))) (atI_natL hfl)) (ev_var rfl (rn _ i)))) fun v' F10 H10 g10 r10 => kn v' F10 H10 (g.trans (g9.trans g10)) ?_
      rw [hl, loopB_hit heq]
      exact r10
    · have hne : ¬ f.getD lo 0 = f.getD hi 0 := by have := of_decide_eq_false hbb; omega
      have hmm := t.isMap hs1
      have rf9 := Mn.mono g9.ff rf
      walk_at "n"
      refine x_set (R := rLst rNat) (x := thenM (t.maps.getD s []) f) g9.fh (ev_lcTm (R := rNat) (S := rNat) (fun to => f.getD to 0) (ev_ixL (x := t.maps.getD s []) (ev_fld (ev_var rfl (Mn.mono (g.ff.trans g9.ff) r1))) (ev_var rfl (ri _ (s : Int))) (atI_natL (getD_at hs1))) (by rw [hmm.1]; omega) (fun v => rfl) fun j to v' F10 H10 hto g10 rto => ?_) fun v10 F10 H10 g10 r10 => ?_
      · cases (show v' = _ from rto)
        exact ev_ixL (ev_var rfl (Mn.mono g10.ff rf9)) (ev_var rfl (ri _ (to : Int))) (atI_natL (getD_at (by rw [hf.1]; exact hmm.2 to (mem_of_at hto))))
      refine ⟨F10, e3.trans (g9.ff.trans g10.ff), g10.fh, g.trans (g9.trans g10), _, v10, _, _, _, r10, isMap_then hmm hf, ?_, rfl⟩
      rw [hl, hdrop, loopB_go hne]
  · rintro σ' F' H' e1 e2 ⟨g, f, fv, y1, y2, y3, rf, hf, hl, rfl⟩
    rw [List.drop_length] at hl
    have hfl : f[lo]? = some (f.getD lo 0) := getD_at (by rw [hf.1]; exact l1)
    have hfh : f[hi]? = some (f.getD hi 0) := getD_at (by rw [hf.1]; exact l2)
    walk_at "n"
    refine x_ret (R := rOpt (rPr rNat rNat)) e2 (ev_if (x1 := some (f.getD lo 0, xs.length)) (x2 := none) (et_test (ev_eqI (ev_ixL (ev_var rfl rf) (ev_var rfl (ri _ (lo : Int))) (atI_natL hfl)).nat (ev_ixL (ev_var rfl rf) (ev_var rfl (ri _ (hi : Int))) (atI_natL hfh)).nat)) (fun _ => ev_someO (R := rPr rNat rNat) (ev_pr (R := rNat) (S := rNat) (ev_ixL (ev_var rfl rf) (ev_var rfl (ri _ (lo : Int))) (atI_natL hfl)) (Ev.toNat (ev_lenL (ev_var rfl (Mn.mono g.ff r3)))))) fun _ => ev_noneO) fun v' F10 H10 g10 r10 => kn v' F10 H10 (g.trans g10) ?_
    rw [hl]
    unfold loopB
    by_cases hq : f.getD lo 0 = f.getD hi 0
    · rw [if_pos hq]
      rw [if_pos (decide_eq_true (by omega))] at r10
      exact r10
    · rw [if_neg hq]
      rw [if_neg (by rw [decide_eq_false (by omega)]; exact Bool.false_ne_true)] at r10
      exact r10

instance {T : Tx K mg} : IsF (rWeb T.C_Web) K "spots" rNat Wb.spots := fld_spots T.cl_Web T.na_Web_spots
instance {T : Tx K mg} : IsF (rWeb T.C_Web) K "ties" (rLst (rPr rNat rNat)) Wb.ties := fld_ties T.cl_Web T.na_Web_ties
instance {T : Tx K mg} : IsF (rWeb T.C_Web) K "whole" rNat Wb.whole := fld_whole T.cl_Web T.na_Web_whole
instance {T : Tx K mg} : IsF (rWeb T.C_Web) K "levels" (rLst rNat) Wb.levels := fld_levels T.cl_Web T.na_Web_levels
abbrev sp_is_tie (T : Tx K mg) : Sp := Sp2 (rPr rNat rNat) rNat (fun p n => p.1 < p.2 ∧ p.2 < n ∧ n ≤ 1000) rBl (fun _ _ => true)
theorem ok_is_tie (T : Tx K mg) : FnOk P w K mg base CX0 3 T.a_is_tie T.d_is_tie ["thing", "spots"] (sp_is_tie T) := by
  refine T.F_is_tie.ok sc_is_tie (fun vs H Q E h => SpLen.len h) (fun cdv A outer s H vs Q E hr h => ?_)
  obtain ⟨F, v, w, p, n, rfl, e, r1, r2, ⟨h1, h2, h4⟩, k⟩ := h
  cases (show w = _ from r2)
  have ri : ∀ F (i : Int), rInt F (.int i) i := fun F i => rfl
  have ep := fun F1 H1 (g : Gr M0 F H F1 H1) => ev_pt (σ := [some v, some (.int (n : Int))]) (ev_var (F := F1) (H := H1) (i := 0) (v := v) rfl (Mn.mono g.ff r1))
  refine ⟨_, (by exact (pss_cons (ps_if (PW.pt (pw_or (pt_not (pt_val (pe_callB (r := rIsi K) call_isi (by rfl) T.z_isinstance (by decide +kernel) (pa_cons (pv 0) (pa_cons (pe_bltn (v := .ty "tuple") (by rfl) T.z_tuple (by decide +kernel) rfl) pa_nil))))) (pw_or1 (pt_cmpR op_ne (pe_callB (r := rLenS K) call_len_seq (by rfl) T.z_len PySem.boot_len (pa_cons (pv 0) pa_nil)) pe_int (nomark _))))) (pss_one (ps_ret pe_bl)) pss_nil)
      (pss_one (ps_ret (pe_and (pe_call (ok_is_between T) (hr.mono (by decide)) rfl T.g_is_between T.F_is_between.kp T.b_is_between .nil pass0 (pa_cons (pe_ix (r := rIxT K) ix_tup (pv 0) pe_int (fun _ _ => rfl)) (pa_cons pe_int (pa_cons (pe_op op_sub (pv 1) pe_int) pa_nil)))) (pe_one (pe_call (ok_is_between T) (hr.mono (by decide)) rfl T.g_is_between T.F_is_between.kp T.b_is_between .nil pass0 (pa_cons (pe_ix (r := rIxT K) ix_tup (pv 0) pe_int (fun _ _ => rfl)) (pa_cons pe_int (pa_cons (pe_op op_sub (pe_ix (r := rIxT K) ix_tup (pv 0) pe_int (fun _ _ => rfl)) pe_int) pa_nil)))))))))), ?_⟩
  walk_at "n"
  refine x_if (b := false) e (EvT.is (et_or (et_not (et_B (ev_isTup (ep F H (.refl e))))) fun _ => et_test (ev_neI (ev_lenT (ep F H (.refl e))) ev_int)) (by simp)) (fun z => nomatch z) fun _ F1 H1 g1 => ?_
  walk_at "n"
  have rp := Mn.mono g1.ff r1
  refine x_ret g1.fh (Ev.is (x' := true) (ev_andV (Ev.is (x' := true) (ev_call3 (ev_snd (ev_var rfl rp)).nat ev_int (ev_sub (ev_var rfl (ri _ (n : Int))) ev_int) trivial) ?_) fun _ => Ev.is (x' := true) (ev_call3 (ev_fst (ev_var rfl rp)).nat ev_int (ev_sub (ev_snd (ev_var rfl rp)).nat ev_int) trivial) ?_) rfl) fun v' F2 H2 g2 r => k v' F2 H2 (g1.trans g2) r
  · rw [decide_eq_true (by omega), decide_eq_true (by omega)]; rfl
  · rw [decide_eq_true (by omega), decide_eq_true (by omega)]; rfl
abbrev sp_are_ties (T : Tx K mg) : Sp := Sp2 (rLst (rPr rNat rNat)) rNat (fun ps n => n ≤ 1000 ∧ ps.length < 64 ∧ ps.Nodup ∧ ∀ p ∈ ps, p.1 < p.2 ∧ p.2 < n) rBl (fun _ _ => true)
theorem ok_are_ties (T : Tx K mg) : FnOk P w K mg base CX0 4 T.a_are_ties T.d_are_ties ["thing", "spots"] (sp_are_ties T) := by
  refine T.F_are_ties.ok sc_are_ties (fun vs H Q E h => SpLen.len h) (fun cdv A outer s H vs Q E hr h => ?_)
  obtain ⟨F, v, w, ps, n, rfl, e, r1, r2, ⟨h1, h2, h3, h4⟩, k⟩ := h
  cases (show w = _ from r2)
  have rn : ∀ F (i : Nat), rNat F (.int (i : Int)) i := fun F i => rfl
  refine ⟨_, (by exact (pss_cons (ps_if (PW.pt (pw_or (pt_not (pt_val (pe_callB (r := rIsi K) call_isi (by rfl) T.z_isinstance (by decide +kernel) (pa_cons (pv 0) (pa_cons (pe_bltn (v := .ty "list") (by rfl) T.z_list (by decide +kernel) rfl) pa_nil))))) (pw_or1 (pt_not (pt_val (pe_callB (r := rAll K) (cr_all rfl) (by rfl) T.z_all (by decide +kernel) (pa_cons (pe_lc (own := [("tie", 2)]) (g := gName 2) (tt := tYes) rfl sc_are_ties.nd (klist K (pv 0)) (blkOk_by (own := [("tie", 2)]) (N := N_are_ties) (sc := defScope s_are_ties) (by decide +kernel)) (fun _ _ _ _ _ => (pg_name (i := 2) sc_are_ties.nd rfl (by first | exact Or.inl rfl | exact Or.inr rfl))) (fun _ _ _ _ _ => pts_nil) (fun _ _ _ _ _ => (pe_call (ok_is_tie T) (hr.mono (by decide)) rfl T.g_is_tie T.F_is_tie.kp T.b_is_tie .nil pass0 (pa_cons (pv 2) (pa_cons (pv 1) pa_nil))))) pa_nil))))))) (pss_one (ps_ret pe_bl)) pss_nil)
      (pss_one (ps_ret (pe_cmpR op_eq (klensetP (K := K) hr.units (by rfl) T.z_len (by rfl) T.z_set (pv 0)) (pe_callB (r := rLenS K) call_len_seq (by rfl) T.z_len PySem.boot_len (pa_cons (pv 0) pa_nil)) (nomark _)))))), ?_⟩
  walk_at "n"
  refine x_if (b := false) e (EvT.is (et_or (et_not (et_B (ev_isLst (ev_var rfl r1)))) fun _ => et_not (et_B (ev_all (ev_lcm (R := rPr rNat rNat) (S := rBl) (fun _ => true) (ev_var rfl r1) (by omega) (fun v => rfl) fun i p v F2 H2 hx g r => ev_call2 (ev_var rfl r) (ev_var rfl (rn _ n)) ?_)))) ?_) (fun z => nomatch z) fun _ F1 H1 g1 => ?_
  · obtain ⟨q1, q2⟩ := h4 p (mem_of_at hx)
    exact ⟨q1, q2, h1⟩
  · have : ((ps.map fun _ => true).all id) = true := List.all_eq_true.mpr fun b hb => by obtain ⟨_, _, rfl⟩ := List.mem_map.mp hb; rfl
    rw [this]; rfl
  walk_at "n"
  exact x_ret g1.fh (Ev.is (x' := true) (ev_eqI (ev_lenSetP (ev_var rfl (Mn.mono g1.ff r1)) h2 h3) (ev_lenL (ev_var rfl (Mn.mono g1.ff r1)))) (decide_eq_true rfl)) fun v' F2 H2 g2 r => k v' F2 H2 (g1.trans g2) r
abbrev sp_are_levels (T : Tx K mg) : Sp := Sp3 (rLst rNat) rNat rNat (fun ls n w => ls.length = n ∧ n ≤ 1000 ∧ ∀ l ∈ ls, l ≤ w) rBl (fun _ _ _ => true)
theorem ok_are_levels (T : Tx K mg) : FnOk P w K mg base CX0 3 T.a_are_levels T.d_are_levels ["thing", "spots", "whole"] (sp_are_levels T) := by
  refine T.F_are_levels.ok sc_are_levels (fun vs H Q E h => SpLen.len h) (fun cdv A outer s H vs Q E hr h => ?_)
  obtain ⟨F, v, w, u, ls, n, wh, rfl, e, r1, r2, r3, ⟨h1, h2, h3⟩, k⟩ := h
  cases (show w = _ from r2)
  cases (show u = _ from r3)
  have ri : ∀ F (i : Int), rInt F (.int i) i := fun F i => rfl
  refine ⟨_, (by exact (pss_one (ps_ret (pe_and (pe_callB (r := rIsi K) call_isi (by rfl) T.z_isinstance (by decide +kernel) (pa_cons (pv 0) (pa_cons (pe_bltn (v := .ty "list") (by rfl) T.z_list (by decide +kernel) rfl) pa_nil))) (pe_and (pe_cmpR op_eq (pe_callB (r := rLenS K) call_len_seq (by rfl) T.z_len PySem.boot_len (pa_cons (pv 0) pa_nil)) (pv 1) (nomark _)) (pe_one (pe_callB (r := rAll K) (cr_all rfl) (by rfl) T.z_all (by decide +kernel) (pa_cons (pe_lc (own := [("level", 3)]) (g := gName 3) (tt := tYes) rfl sc_are_levels.nd (klist K (pv 0)) (blkOk_by (own := [("level", 3)]) (N := N_are_levels) (sc := defScope s_are_levels) (by decide +kernel)) (fun _ _ _ _ _ => (pg_name (i := 3) sc_are_levels.nd rfl (by first | exact Or.inl rfl | exact Or.inr rfl))) (fun _ _ _ _ _ => pts_nil) (fun _ _ _ _ _ => (pe_call (ok_is_between T) (hr.mono (by decide)) rfl T.g_is_between T.F_is_between.kp T.b_is_between .nil pass0 (pa_cons (pv 3) (pa_cons pe_int (pa_cons (pv 2) pa_nil)))))) pa_nil)))))))), ?_⟩
  walk_at "n"
  refine x_ret e (Ev.is (x' := true) (ev_andV (ev_isLst (ev_var rfl r1)) fun _ => ev_andV (ev_eqI (ev_lenL (ev_var rfl r1)) (ev_var rfl (ri _ (n : Int)))) fun _ => ev_all (ev_lcm (R := rNat) (S := rBl) (fun _ => true) (ev_var rfl r1) (by omega) (fun v => rfl) fun i l v F2 H2 hx g r => ?_)) ?_) k
  · have := h3 l (mem_of_at hx)
    refine Ev.is (ev_call3 (ev_var rfl (show rInt _ _ (l : Int) from r)) ev_int (ev_var rfl (ri _ (wh : Int))) trivial) ?_
    rw [decide_eq_true (by omega), decide_eq_true (by omega)]; rfl
  · have : ((ls.map fun _ => true).all id) = true := List.all_eq_true.mpr fun b hb => by obtain ⟨_, _, rfl⟩ := List.mem_map.mp hb; rfl
    rw [this, h1, decide_eq_true rfl]; rfl
abbrev sp_Web_init (T : Tx K mg) : Sp := SpWeb T.C_Web
theorem ok_Web_init (T : Tx K mg) : FnOk P w K mg base CX0 5 T.a_Web_init T.d_Web_init ["self", "spots", "ties", "whole", "levels"] (sp_Web_init T) := by
  refine T.F_Web_init.ok sc_Web_init (fun vs H Q E h => SpLen.len h) (fun cdv A outer s H vs Q E hr h => ?_)
  obtain ⟨F, a, dx, l, m, W, rfl, e, fa, ha, rl, rm, k⟩ := h
  have w0 := W.h0
  have w1 := W.h1
  have w2 := W.h2
  have w4 := W.h4
  have w5 := W.h5
  have w6 := W.h6
  have hlen : W.ties.length < 64 := Nat.lt_of_le_of_lt (ties_len W) (by decide)
  have ri : ∀ F (i : Int), rInt F (.int i) i := fun F i => rfl
  have rn : ∀ F (i : Nat), rNat F (.int (i : Int)) i := fun F i => rfl
  have va : ∀ F, rRef F (.ref a) a := fun F => rfl
  refine ⟨_, (by exact (pss_cons (ps_if (pt_not (pt_val (pe_call (ok_is_between T) (hr.mono (by decide)) rfl T.g_is_between T.F_is_between.kp T.b_is_between .nil pass0 (pa_cons (pv 1) (pa_cons pe_int (pa_cons (pe_glob (v := .int 5) rfl T.c_MOST_SPOTS ⟨_, rfl⟩) pa_nil)))))) (pss_one ps_never) pss_nil)
      (pss_cons (ps_if (pt_not (pt_val (pe_call (ok_are_ties T) (hr.mono (by decide)) rfl T.g_are_ties T.F_are_ties.kp T.b_are_ties .nil pass0 (pa_cons (pv 2) (pa_cons (pv 1) pa_nil))))) (pss_one ps_never) pss_nil)
      (pss_cons (ps_if (pt_not (pt_val (pe_call (ok_is_between T) (hr.mono (by decide)) rfl T.g_is_between T.F_is_between.kp T.b_is_between .nil pass0 (pa_cons (pv 3) (pa_cons pe_int (pa_cons (pe_glob (v := .int 40) rfl T.c_MOST_WHOLE_webs ⟨_, rfl⟩) pa_nil)))))) (pss_one ps_never) pss_nil)
      (pss_cons (ps_if (pt_not (pt_val (pe_call (ok_are_levels T) (hr.mono (by decide)) rfl T.g_are_levels T.F_are_levels.kp T.b_are_levels .nil pass0 (pa_cons (pv 4) (pa_cons (pv 1) (pa_cons (pv 3) pa_nil)))))) (pss_one ps_never) pss_nil)
      (pss_cons (kset K (pv 0) (pv 1) rfl)
      (pss_cons (kset K (pv 0) (pe_callTy (r := rListS K) call_list_of (by rfl) T.z_list (by decide +kernel) (pa_cons (pv 2) pa_nil)) rfl)
      (pss_cons (kset K (pv 0) (pv 3) rfl)
      (pss_one (kset K (pv 0) (pe_callTy (r := rListS K) call_list_of (by rfl) T.z_list (by decide +kernel) (pa_cons (pv 4) pa_nil)) rfl)))))))))), ?_⟩
  walk_at "n"
  refine x_if (b := false) e (EvT.is (b := !true) (et_not (et_B (Ev.is (ev_call3 (ev_var rfl (ri _ (W.spots : Int))) ev_int ev_int trivial) ?_))) rfl) (fun z => nomatch z) fun _ F1 H1 g1 => ?_
  · rw [decide_eq_true (by omega), decide_eq_true (by omega)]; rfl
  walk_at "n"
  refine x_if (b := false) g1.fh (EvT.is (b := !true) (et_not (et_B (ev_call2 (ev_var rfl (Mn.mono g1.ff rl)) (ev_var rfl (rn _ W.spots)) ⟨by omega, hlen, W.h3, w2⟩))) rfl) (fun z => nomatch z) fun _ F2 H2 g2 => ?_
  walk_at "n"
  refine x_if (b := false) g2.fh (EvT.is (b := !true) (et_not (et_B (Ev.is (ev_call3 (ev_var rfl (ri _ (W.whole : Int))) ev_int ev_int trivial) ?_))) rfl) (fun z => nomatch z) fun _ F3 H3 g3 => ?_
  · rw [decide_eq_true (by omega), decide_eq_true (by omega)]; rfl
  have g123 := g1.trans (g2.trans g3)
  walk_at "n"
  refine x_if (b := false) g3.fh (EvT.is (b := !true) (et_not (et_B (ev_call3 (ev_var rfl (Mn.mono g123.ff rm)) (ev_var rfl (rn _ W.spots)) (ev_var rfl (rn _ W.whole)) ⟨w6, by omega, W.h7⟩))) rfl) (fun z => nomatch z) fun _ F4 H4 g4 => ?_
  have g14 := g123.trans g4
  walk_at "n"
  refine x_fld g4.fh (ev_var rfl (ri _ (W.spots : Int))) (ev_var rfl (va _)) (g14.hx _ _ ha) T.cl_Web T.na_Web_spots (by decide) fun v5 F5 H5 g5 r5 h5 => ?_
  cases (show v5 = _ from r5)
  have g15 := g14.trans g5
  have f5 : F5 a = none := g15.nn ha fa
  have gg5 : Gr (El.M1 a) F H F5 (upd H5 a (.ins T.C_Web dx (putF "spots" (V.int W.spots) []))) := g15.up.set' f5 (.inr rfl)
  walk_at "n"
  refine x_fld gg5.fh (ev_listL (ev_var rfl (Mn.mono g15.ff rl))) (ev_var rfl (va _)) upd_same T.cl_Web T.na_Web_ties (by show 1 < 1000; decide) fun v6 F6 H6 g6 r6 h6 => ?_
  have f6 : F6 a = none := g6.nn upd_same f5
  have gg6 := (gg5.trans g6.up).set' (o := .ins T.C_Web dx (putF "ties" v6 (putF "spots" (V.int W.spots) []))) f6 (.inr rfl)
  walk_at "n"
  refine x_fld gg6.fh (ev_var rfl (ri _ (W.whole : Int))) (ev_var rfl (va _)) upd_same T.cl_Web T.na_Web_whole (by show 2 < 1000; decide) fun v7 F7 H7 g7 r7 h7 => ?_
  cases (show v7 = _ from r7)
  have f7 : F7 a = none := g7.nn upd_same f6
  have gg7 := (gg6.trans g7.up).set' (o := .ins T.C_Web dx (putF "whole" (V.int W.whole) (putF "ties" v6 (putF "spots" (V.int W.spots) [])))) f7 (.inr rfl)
  walk_at "n"
  refine x_fld gg7.fh (ev_listL (ev_var rfl (Mn.mono (g15.ff.trans (g6.ff.trans g7.ff)) rm))) (ev_var rfl (va _)) upd_same T.cl_Web T.na_Web_levels (by show 3 < 1000; decide) fun v8 F8 H8 g8 r8 h8 => ?_
  have f8 : F8 a = none := g8.nn upd_same f7
  have gg8 := (gg7.trans g8.up).set' (o := .ins T.C_Web dx (putF "levels" v8 (putF "whole" (V.int W.whole) (putF "ties" v6 (putF "spots" (V.int W.spots) []))))) f8 (.inr rfl)
  have ex8 : Ex F8 (upd F8 a (.ins T.C_Web dx (putF "levels" v8 (putF "whole" (V.int W.whole) (putF "ties" v6 (putF "spots" (V.int W.spots) [])))))) := Ex.new f8
  exact k _ _ (gg8.frz upd_same fa (.inr rfl)) ⟨a, dx, v6, v8, rfl, upd_same, Mn.mono (g7.ff.trans (g8.ff.trans ex8)) r6, Mn.mono ex8 r8⟩
abbrev sp_is_up (T : Tx K mg) : Sp := Sp2 rNat rNat (fun _ s => s < 6) rBl upB
theorem ok_is_up (T : Tx K mg) : FnOk P w K mg base CX0 1 T.a_is_up T.d_is_up ["place", "spot"] (sp_is_up T) := by
  refine T.F_is_up.ok sc_is_up (fun vs H Q E h => SpLen.len h) (fun cdv A outer s H vs Q E hr h => ?_)
  obtain ⟨F, v, w, p, s, rfl, e, r1, r2, hs, k⟩ := h
  cases (show v = _ from r1)
  cases (show w = _ from r2)
  have ri : ∀ F (i : Int), rInt F (.int i) i := fun F i => rfl
  have hpow : 2 ^ s ≤ 32 := pow_le (by omega)
  have hpos := Nat.two_pow_pos s
  refine ⟨_, (by exact (pss_one (ps_ret (pe_cmpR op_eq (pe_op op_mod (pe_op op_fdiv (pv 0) (pe_ix (r := rIxT K) ix_tup (pe_glob (v := .ref T.q_WORTHS) rfl T.c_WORTHS rfl) (pv 1) (fun _ _ => rfl))) pe_int) pe_int (nomark _))))), ?_⟩
  walk_at "n"
  refine x_ret e (Ev.is (ev_eqI (ev_mod (ev_fdiv (ev_var rfl (ri _ (p : Int))) (ev_ixK T.w_WORTHS (ev_var rfl (ri _ (s : Int))) (worth hs)) ⟨by omega, by omega⟩) ev_int (by decide)) ev_int) ?_) k
  unfold upB
  refine decide_eq_decide.mpr ?_
  rw [← Int.natCast_ediv]
  generalize p / 2 ^ s = q
  omega
abbrev sp_tied_to (T : Tx K mg) : Sp := Sp2 (rWeb T.C_Web) rNat (fun _ _ => True) (rLst rNat) (fun W s => tiedM W.ties s)
theorem ok_tied_to (T : Tx K mg) : FnOk P w K mg base CX0 1 T.a_tied_to T.d_tied_to ["web", "spot"] (sp_tied_to T) := by
  refine T.F_tied_to.ok sc_tied_to (fun vs H Q E h => SpLen.len h) (fun cdv A outer s H vs Q E hr h => ?_)
  obtain ⟨F, v, w, W, s, rfl, e, r1, r2, -, k⟩ := h
  cases (show w = _ from r2)
  have ri : ∀ F (i : Int), rInt F (.int i) i := fun F i => rfl
  have rn : ∀ F (i : Nat), rNat F (.int (i : Int)) i := fun F i => rfl
  refine ⟨_, (by exact (pss_one (ps_ret (pe_lc (own := [("one", 2), ("other", 3)]) (g := gTup K 2 (gCons (gName 2) (gCons (gName 3) gNil))) (tt := _) rfl sc_tied_to.nd (klist K (kfld K (pv 0) rfl)) (blkOk_by (own := [("one", 2), ("other", 3)]) (N := N_tied_to) (sc := defScope s_tied_to) (by decide +kernel)) (fun _ _ _ _ _ => (kptup K (n := 2) rfl (pgs_cons (pg_name (i := 2) sc_tied_to.nd rfl (by first | exact Or.inl rfl | exact Or.inr rfl)) (pgs_cons (pg_name (i := 3) sc_tied_to.nd rfl (by first | exact Or.inl rfl | exact Or.inr rfl)) pgs_nil)))) (fun _ _ _ _ _ => (pts_one (pt_cmpR (r := rIn K false) op_in_seq (pv 1) (pe_tup (pa_cons (pv 2) (pa_cons (pv 3) pa_nil))) (by rfl)))) (fun _ _ _ _ _ => (pe_op op_sub (pe_op op_add (pv 2) (pv 3)) (pv 1))))))), ?_⟩
  walk_at "n"
  refine x_ret e (ev_lcPF (R := rNat) (S := rNat) (U := rNat) (fun x => decide (s = x.1) || decide (s = x.2)) (fun x => x.1 + x.2 - s) (ev_fld (ev_var rfl r1)) (Nat.le_trans (ties_len W) (by decide)) (fun v w => rfl) (fun i x v w F1 H1 hx g rx ry => ?_) fun i x v w F1 H1 hx hp g rx ry => ?_) k
  · cases (show v = _ from rx)
    cases (show w = _ from ry)
    exact et_test (ev_inPr (ev_var rfl (rn _ s)) (ev_tup (R := rNat) (el_cons (ev_var rfl (rn _ x.1)) (el_cons (ev_var rfl (rn _ x.2)) el_nil)) (by show 2 ≤ sizeLine; decide)))
  · cases (show v = _ from rx)
    cases (show w = _ from ry)
    rw [Bool.or_eq_true, decide_eq_true_eq, decide_eq_true_eq] at hp
    exact Ev.toNat (Ev.is (ev_sub (ev_add (ev_var rfl (ri _ (x.1 : Int))) (ev_var rfl (ri _ (x.2 : Int)))) (ev_var rfl (ri _ (s : Int)))) (by omega))
abbrev sp_moved (T : Tx K mg) : Sp := Sp4 (rWeb T.C_Web) rNat rNat rNat (fun W p s _ => s < W.spots) rNat movedM
theorem ok_moved (T : Tx K mg) : FnOk P w K mg base CX0 2 T.a_moved T.d_moved ["web", "place", "spot", "number"] (sp_moved T) := by
  refine T.F_moved.ok sc_moved (fun vs H Q E h => SpLen.len h) (fun cdv A outer s H vs Q E hr h => ?_)
  obtain ⟨F, v, w, u, z, W, p, s, j, rfl, e, r1, r2, r3, r4, hs, k⟩ := h
  cases (show w = _ from r2)
  cases (show u = _ from r3)
  cases (show z = _ from r4)
  have w1 := W.h1
  have ri : ∀ F (i : Int), rInt F (.int i) i := fun F i => rfl
  have rn : ∀ F (i : Nat), rNat F (.int (i : Int)) i := fun F i => rfl
  have hpow : 2 ^ s ≤ 32 := pow_le (by omega)
  refine ⟨_, (by exact (pss_cons (ps_set (i := 4) sc_moved.nd rfl (Or.inl rfl) (pe_callB (r := rLenS K) call_len_seq (by rfl) T.z_len PySem.boot_len (pa_cons (pe_lc (own := [("one", 5)]) (g := gName 5) (tt := _) rfl sc_moved.nd (klist K (pe_call (ok_tied_to T) (hr.mono (by decide)) rfl T.g_tied_to T.F_tied_to.kp T.b_tied_to .nil pass0 (pa_cons (pv 0) (pa_cons (pv 2) pa_nil)))) (blkOk_by (own := [("one", 5)]) (N := N_moved) (sc := defScope s_moved) (by decide +kernel)) (fun _ _ _ _ _ => (pg_name (i := 5) sc_moved.nd rfl (by first | exact Or.inl rfl | exact Or.inr rfl))) (fun _ _ _ _ _ => (pts_one (pt_val (pe_call (ok_is_up T) (hr.mono (by decide)) rfl T.g_is_up T.F_is_up.kp T.b_is_up .nil pass0 (pa_cons (pv 1) (pa_cons (pv 5) pa_nil)))))) (fun _ _ _ _ _ => (pv 5))) pa_nil)))
      (pss_cons (ps_set (i := 6) sc_moved.nd rfl (Or.inl rfl) (pe_callTy call_int1 (by rfl) T.z_int (by decide +kernel) (pa_cons (pe_cmpR op_lt (pv 3) (pe_ix (r := rIxL K) ix_list (kfld K (pv 0) rfl) (pv 4) (fun _ _ => rfl)) (nomark _)) pa_nil)))
      (pss_one (ps_ret (pe_op op_add (pv 1) (pe_op op_mul (pe_op op_sub (pv 6) (pe_callTy call_int1 (by rfl) T.z_int (by decide +kernel) (pa_cons (pe_call (ok_is_up T) (hr.mono (by decide)) rfl T.g_is_up T.F_is_up.kp T.b_is_up .nil pass0 (pa_cons (pv 1) (pa_cons (pv 2) pa_nil))) pa_nil))) (pe_ix (r := rIxT K) ix_tup (pe_glob (v := .ref T.q_WORTHS) rfl T.c_WORTHS rfl) (pv 2) (fun _ _ => rfl))))))))), ?_⟩
  walk_at "n"
  refine x_set (R := rNat) (x := countM W.ties p s) e (Ev.toNat (Ev.is (ev_lenL (ev_lcF (R := rNat) (U := rNat) (fun y => upB p y) (fun y => y) (ev_call2 (ev_var rfl r1) (ev_var rfl (rn _ s)) trivial) (Nat.le_trans (Nat.le_of_lt (tied_len hs)) (by omega)) (fun v => rfl) (fun i y v F1 H1 hx g r => ?_) fun i y v F1 H1 hx hp g r => ?_)) ?_)) fun v1 F1 H1 g1 r5 => ?_
  · cases (show v = _ from r)
    have := (tied_mem (mem_of_at hx)).1
    exact et_B (ev_call2 (ev_var rfl (rn _ p)) (ev_var rfl (rn _ y)) (by omega))
  · exact ev_var rfl r
  · rw [List.length_map]; rfl
  cases (show v1 = _ from r5)
  have hc := count_lt (W := W) (p := p) hs
  have hl := W.h6
  have r1' := Mn.mono g1.ff r1
  walk_at "n"
  refine x_set (R := rInt) (x := if standB W p s j then 1 else 0) g1.fh (Ev.is (ev_intB (ev_lt (ev_var rfl (ri _ (j : Int))) (ev_ixL (x := W.levels.getD (countM W.ties p s) 0) (ev_fld (ev_var rfl r1')) (ev_var rfl (ri _ (countM W.ties p s : Int))) (atI_natL (getD_at (by omega)))).nat)) ?_) fun v2 F2 H2 g2 r6 => ?_
  · unfold standB
    rw [show decide ((j : Int) < ((W.levels.getD (countM W.ties p s) 0 : Nat) : Int)) = decide (j < W.levels.getD (countM W.ties p s) 0) from decide_eq_decide.mpr (by omega)]
  cases (show v2 = _ from r6)
  walk_at "n"
  refine x_ret g2.fh (Ev.toNat (Ev.is (ev_add (ev_var rfl (ri _ (p : Int))) (ev_mul (ev_sub (ev_var rfl (ri _ _)) (ev_intB (ev_call2 (ev_var rfl (rn _ p)) (ev_var rfl (rn _ s)) (by omega)))) (ev_ixK T.w_WORTHS (ev_var rfl (ri _ (s : Int))) (worth (by omega))) (.inl ⟨?_, ?_⟩))) moved_int)) fun v3 F3 H3 g3 r7 => k v3 F3 H3 (g1.trans (g2.trans g3)) r7
  · split <;> split <;> decide
  · split <;> split <;> decide
abbrev sp_turns_of (T : Tx K mg) : Sp := Sp1 (rWeb T.C_Web) (fun _ => True) (rTurns T.C_Turns) turnsM
theorem flat_step {W : Wb} {i : Nat} (hi : i < W.spots) : (((List.range W.spots).map fun s => (List.range W.whole).map fun k => (List.range (2 ^ W.spots)).map fun p => movedM W p s k).take (i + 1)).flatten = (((List.range W.spots).map fun s => (List.range W.whole).map fun k => (List.range (2 ^ W.spots)).map fun p => movedM W p s k).take i).flatten ++ (List.range W.whole).map fun k => (List.range (2 ^ W.spots)).map fun p => movedM W p i k := by
  rw [List.take_add_one, List.getElem?_map, List.getElem?_range hi, List.flatten_append]
  show _ ++ List.flatten [_] = _
  rw [List.flatten_cons, List.flatten_nil, List.append_nil]
theorem ok_turns_of (T : Tx K mg) : FnOk P w K mg base CX0 6 T.a_turns_of T.d_turns_of ["web"] (sp_turns_of T) := by
  refine T.F_turns_of.ok sc_turns_of (fun vs H Q E h => SpLen.len h) (fun cdv A outer s H vs Q E hr h => ?_)
  obtain ⟨F, v, W, rfl, e, r, -, k⟩ := h
  have w1 := W.h1
  have w5 := W.h5
  have hpow := pow_le w1
  have ri : ∀ F (i : Int), rInt F (.int i) i := fun F i => rfl
  have rn : ∀ F (i : Nat), rNat F (.int (i : Int)) i := fun F i => rfl
  refine ⟨_, (by exact (pss_cons (ps_set (i := 1) sc_turns_of.nd rfl (Or.inl rfl) (pe_ix (r := rIxT K) ix_tup (pe_glob (v := .ref T.q_WORTHS) rfl T.c_WORTHS rfl) (kfld K (pv 0) rfl) (fun _ _ => rfl)))
      (pss_cons (ps_set (i := 2) sc_turns_of.nd rfl (Or.inl rfl) (pe_lst pa_nil))
      (pss_cons (ps_for PassesOwn.never rfl (pi_range1 rfl T.z_range (pa_cons (kfld K (pv 0) rfl) pa_nil)) (pg_name (i := 3) sc_turns_of.nd rfl (by first | exact Or.inl rfl | exact Or.inr rfl)) (pss_one (ps_for PassesOwn.never rfl (pi_range1 rfl T.z_range (pa_cons (kfld K (pv 0) rfl) pa_nil)) (pg_name (i := 4) sc_turns_of.nd rfl (by first | exact Or.inl rfl | exact Or.inr rfl)) (pss_one (ps_expr (kbm K PySem.F.plainAttrs_list PySem.F.slot_list_append PySem.F.type_list_append mt_append (pv 2) (pa_cons (pe_callTy (r := rTupS K) call_tuple_of (by rfl) T.z_tuple (by decide +kernel) (pa_cons (pe_lc (own := [("place", 5)]) (g := gName 5) (tt := tYes) rfl sc_turns_of.nd (pi_range1 rfl T.z_range (pa_cons (pv 1) pa_nil)) (blkOk_by (own := [("place", 5)]) (N := N_turns_of) (sc := defScope s_turns_of) (by decide +kernel)) (fun _ _ _ _ _ => (pg_name (i := 5) sc_turns_of.nd rfl (by first | exact Or.inl rfl | exact Or.inr rfl))) (fun _ _ _ _ _ => pts_nil) (fun _ _ _ _ _ => (pe_call (ok_moved T) (hr.mono (by decide)) rfl T.g_moved T.F_moved.kp T.b_moved .nil pass0 (pa_cons (pv 0) (pa_cons (pv 5) (pa_cons (pv 3) (pa_cons (pv 4) pa_nil))))))) pa_nil)) pa_nil)))))))
      (pss_one (ps_ret (pe_make T.mk_Turns (ok_Turns_init T) (hr.mono (by decide)) rfl T.g_Turns T.b_Turns_init .nil pass0 (pa_cons (pv 1) (pa_cons (pv 2) pa_nil))))))))), ?_⟩
  walk_at "n"
  refine x_set (R := rInt) (x := ((2 ^ W.spots : Nat) : Int)) e (ev_ixK T.w_WORTHS (ev_fld (ev_var rfl r)).nat (worth (by omega))) fun v1 F1 H1 g1 r1 => ?_
  cases (show v1 = _ from r1)
  walk_at "n"
  refine x_nil g1.fh fun l hl => ?_
  have fl1 : F1 l = none := g1.fh.free hl
  have hl0 : H l = none := Ex.free g1.hx hl
  have G1 : Gr M0 F H F1 (upd H1 l (.lst [])) := g1.trans (.loc g1.fh hl)
  walk_at "n"
  refine x_forR (n := W.spots) G1.fh (ev_fld (ev_var rfl (Mn.mono g1.ff r))).nat (by omega)
    (fun i σ' F' H' => Gr M0 F H F' H' ∧ F' l = none ∧ (∃ vs, H' l = some (.lst vs) ∧ Paired (rTup rNat F') vs (((List.range W.spots).map fun s => (List.range W.whole).map fun k => (List.range (2 ^ W.spots)).map fun p => movedM W p s k).take i).flatten) ∧ ∃ y1 y2 y3, σ' = [some v, some (.int ((2 ^ W.spots : Nat) : Int)), some (.ref l), y1, y2, y3])
    (fun F2 H2 g2 => ⟨G1.trans g2, g2.nn upd_same fl1, ⟨[], g2.hx _ _ upd_same, .nil⟩, _, _, _, rfl⟩) ?_ ?_
  · rintro F2 e2 i σ' F' H' hi e3 e4 ⟨g, fl, ⟨vs, hL, pv⟩, y1, y2, y3, rfl⟩
    have hvl : vs.length ≤ 200 := by
      rw [pv.length, flat_const (c := W.whole) fun m hm => by
        obtain ⟨s, _, rfl⟩ := List.mem_map.mp (List.mem_of_mem_take hm)
        rw [List.length_map, List.length_range], List.length_take, List.length_map, List.length_range]
      exact Nat.mul_le_mul (show min i W.spots ≤ 5 by omega) w5
    walk_at "n"
    refine x_forR (n := W.whole) e4 (ev_fld (ev_var rfl (Mn.mono g.ff r))).nat (by omega)
      (fun j σ' F' H' => Gr M0 F H F' H' ∧ F' l = none ∧ (∃ us, H' l = some (.lst (vs ++ us)) ∧ Paired (rTup rNat F') vs (((List.range W.spots).map fun s => (List.range W.whole).map fun k => (List.range (2 ^ W.spots)).map fun p => movedM W p s k).take i).flatten ∧ Paired (rTup rNat F') us ((List.range j).map fun k => (List.range (2 ^ W.spots)).map fun p => movedM W p i k)) ∧ ∃ y2 y3, σ' = [some v, some (.int ((2 ^ W.spots : Nat) : Int)), some (.ref l), some (.int (i : Int)), y2, y3])
      (fun F5 H5 g5 => ⟨g.trans g5, g5.nn hL fl, ⟨[], by rw [List.append_nil]; exact g5.hx _ _ hL, Paired.up g5.ff pv, .nil⟩, _, _, rfl⟩) ?_ ?_
    · rintro F5 e5 j σ' F6 H6 hj e6 e7 ⟨g6, fl6, ⟨us, hL6, pv6, pu6⟩, y2, y3, rfl⟩
      have hul : us.length ≤ 40 := by rw [pu6.length, List.length_map, List.length_range]; omega
      walk_at "n"
      refine x_app (R := rTup rNat) (x := (List.range (2 ^ W.spots)).map fun p => movedM W p i j) e7 (ev_var rfl (show rRef _ _ l from rfl)) hL6 (ev_tupL (ev_lcRm (n := 2 ^ W.spots) (S := rNat) (fun p => movedM W p i j) (ev_var rfl (ri _ _)) (by omega) (fun v => rfl) fun p F7 H7 hp g7 => ev_call4 (ev_var rfl (Mn.mono (g6.ff.trans g7.ff) r)) (ev_var rfl (rn _ p)) (ev_var rfl (rn _ i)) (ev_var rfl (rn _ j)) hi)) (by rw [List.length_append, sizeLine_eq]; omega) fun v8 F8 H8 g8 r8 h8 => ?_
      have fl8 := g8.nn hL6 fl6
      have G8 := (g6.trans g8).set' (o := .lst (vs ++ us ++ [v8])) fl8 (.inl hl0)
      refine ⟨F8, e6.trans g8.ff, G8.fh, G8, fl8, ⟨us ++ [v8], by rw [upd_same, List.append_assoc], Paired.up g8.ff pv6, ?_⟩, _, _, rfl⟩
      rw [List.range_succ, List.map_append]
      exact (Paired.up g8.ff pu6).snoc r8
    · rintro σ' F6 H6 e5 e6 ⟨g6, fl6, ⟨us, hL6, pv6, pu6⟩, y2, y3, rfl⟩
      walk_at "n"
      refine ⟨F6, e3.trans e5, e6, g6, fl6, ⟨_, hL6, ?_⟩, _, _, _, rfl⟩
      rw [flat_step hi]
      exact Paired.app pv6 pu6
  · rintro σ' F' H' e1 e2 ⟨g, fl, ⟨vs, hL, pv⟩, y1, y2, y3, rfl⟩
    rw [List.take_of_length_le (by rw [List.length_map, List.length_range]; exact Nat.le_refl _)] at pv
    have gf := g.frz hL (Ex.free g.ff fl) (.inl hl0)
    walk_at "n"
    exact x_ret gf.fh (ev_Turns (T := turnsM W) (ev_var rfl (ri _ ((2 ^ W.spots : Nat) : Int))) (ev_var rfl (show rLst (rTup rNat) _ _ (turnsML W) from ⟨l, vs, rfl, upd_same, Paired.up (Ex.new fl) pv⟩))) fun v' F2 H2 g2 r2 => k v' F2 H2 (gf.trans g2) r2
abbrev sp_order_of (T : Tx K mg) : Sp := Sp1 (rWeb T.C_Web) (fun _ => True) (rOrder T.C_Order) (fun W => hsM W.spots)
theorem ok_order_of (T : Tx K mg) : FnOk P w K mg base CX0 6 T.a_order_of T.d_order_of ["web"] (sp_order_of T) := by
  refine T.F_order_of.ok sc_order_of (fun vs H Q E h => SpLen.len h) (fun cdv A outer s H vs Q E hr h => ?_)
  obtain ⟨F, v, W, rfl, e, r, -, k⟩ := h
  have w1 := W.h1
  have hpow := pow_le w1
  have good := good_pairs W.h0 w1
  have ri : ∀ F (i : Int), rInt F (.int i) i := fun F i => rfl
  have rn : ∀ F (i : Nat), rNat F (.int (i : Int)) i := fun F i => rfl
  refine ⟨_, (by exact (pss_cons (ps_set (i := 1) sc_order_of.nd rfl (Or.inl rfl) (pe_ix (r := rIxT K) ix_tup (pe_glob (v := .ref T.q_WORTHS) rfl T.c_WORTHS rfl) (kfld K (pv 0) rfl) (fun _ _ => rfl)))
      (pss_cons (ps_set (i := 2) sc_order_of.nd rfl (Or.inl rfl) (pe_lst pa_nil))
      (pss_cons (ps_for PassesOwn.never rfl (pi_range1 rfl T.z_range (pa_cons (pv 1) pa_nil)) (pg_name (i := 3) sc_order_of.nd rfl (by first | exact Or.inl rfl | exact Or.inr rfl)) (pss_one (ps_expr (kbm K PySem.F.plainAttrs_list PySem.F.slot_list_extend PySem.F.type_list_extend mt_extend (pv 2) (pa_cons (pe_lc (own := [("spot", 4)]) (g := gName 4) (tt := _) rfl sc_order_of.nd (pi_range1 rfl T.z_range (pa_cons (kfld K (pv 0) rfl) pa_nil)) (blkOk_by (own := [("spot", 4)]) (N := N_order_of) (sc := defScope s_order_of) (by decide +kernel)) (fun _ _ _ _ _ => (pg_name (i := 4) sc_order_of.nd rfl (by first | exact Or.inl rfl | exact Or.inr rfl))) (fun _ _ _ _ _ => (pts_one (pt_not (pt_val (pe_call (ok_is_up T) (hr.mono (by decide)) rfl T.g_is_up T.F_is_up.kp T.b_is_up .nil pass0 (pa_cons (pv 3) (pa_cons (pv 4) pa_nil))))))) (fun _ _ _ _ _ => (pe_tup (pa_cons (pv 3) (pa_cons (pe_op op_add (pv 3) (pe_ix (r := rIxT K) ix_tup (pe_glob (v := .ref T.q_WORTHS) rfl T.c_WORTHS rfl) (pv 4) (fun _ _ => rfl))) pa_nil))))) pa_nil)))))
      (pss_one (ps_ret (pe_make T.mk_Order (ok_Order_init T) (hr.mono (by decide)) rfl T.g_Order T.b_Order_init .nil pass0 (pa_cons (pv 1) (pa_cons (pv 2) pa_nil))))))))), ?_⟩
  walk_at "n"
  refine x_set (R := rInt) (x := ((2 ^ W.spots : Nat) : Int)) e (ev_ixK T.w_WORTHS (ev_fld (ev_var rfl r)).nat (worth (by omega))) fun v1 F1 H1 g1 r1 => ?_
  cases (show v1 = _ from r1)
  walk_at "n"
  refine x_nil g1.fh fun l hl => ?_
  have fl1 : F1 l = none := g1.fh.free hl
  have hl0 : H l = none := Ex.free g1.hx hl
  have G1 : Gr M0 F H F1 (upd H1 l (.lst [])) := g1.trans (.loc g1.fh hl)
  walk_at "n"
  refine x_forR (n := 2 ^ W.spots) G1.fh (ev_var rfl (ri _ _)) (by omega)
    (fun i σ' F' H' => Gr M0 F H F' H' ∧ F' l = none ∧ (∃ vs, H' l = some (.lst vs) ∧ Paired (rPr rNat rNat F') vs (((List.range (2 ^ W.spots)).map fun p => ((List.range W.spots).filter fun s => !upB p s).map fun s => (p, p + 2 ^ s)).take i).flatten) ∧ ∃ y1 y2, σ' = [some v, some (.int ((2 ^ W.spots : Nat) : Int)), some (.ref l), y1, y2])
    (fun F2 H2 g2 => ⟨G1.trans g2, g2.nn upd_same fl1, ⟨[], g2.hx _ _ upd_same, .nil⟩, _, _, rfl⟩) ?_ ?_
  · rintro F2 e2 i σ' F' H' hi e3 e4 ⟨g, fl, ⟨vs, hL, pv⟩, y1, y2, rfl⟩
    have hvl : vs.length ≤ 100 := by
      rw [pv.length]
      have h1 : (((List.range (2 ^ W.spots)).map fun p => ((List.range W.spots).filter fun s => !upB p s).map fun s => (p, p + 2 ^ s)).take i).flatten.length ≤ (pairsM W.spots).length := by
        unfold pairsM
        rw [← List.take_append_drop i ((List.range (2 ^ W.spots)).map fun p => ((List.range W.spots).filter fun s => !upB p s).map fun s => (p, p + 2 ^ s)), List.flatten_append, List.length_append, List.take_append_drop]
        exact Nat.le_add_right _ _
      exact Nat.le_trans h1 good.2.2.1
    walk_at "n"
    refine x_ext (R := rPr rNat rNat) (zs := ((List.range W.spots).filter fun s => !upB i s).map fun s => (i, i + 2 ^ s)) e4 (ev_var rfl (show rRef _ _ l from rfl)) hL (ev_lcRF (U := rPr rNat rNat) (fun s => !upB i s) (fun s => (i, i + 2 ^ s)) (ev_fld (ev_var rfl (Mn.mono g.ff r))).nat (by omega) (fun v => rfl) (fun s F5 H5 hs g5 => et_not (et_B (ev_call2 (ev_var rfl (rn _ i)) (ev_var rfl (rn _ s)) (by omega)))) fun s F5 H5 hs hp g5 => ev_pr (R := rNat) (S := rNat) (ev_var rfl (rn _ i)) (Ev.toNat (Ev.is (ev_add (ev_var rfl (ri _ (i : Int))) (ev_ixK T.w_WORTHS (ev_var rfl (ri _ (s : Int))) (worth (by omega)))) (by rw [Int.natCast_add])))) ?_ fun ws F8 H8 g8 p8 h8 => ?_
    · have h1 := List.length_filter_le (fun s => !upB i s) (List.range W.spots)
      rw [List.length_range] at h1
      rw [List.length_map, sizeLine_eq]
      omega
    · have fl8 := g8.nn hL fl
      have G8 := (g.trans g8).set' (o := .lst (vs ++ ws)) fl8 (.inl hl0)
      refine ⟨F8, e3.trans g8.ff, G8.fh, G8, fl8, ⟨_, upd_same, ?_⟩, _, _, rfl⟩
      rw [List.take_add_one, List.getElem?_map, List.getElem?_range hi, List.flatten_append]
      show Paired _ _ (_ ++ List.flatten [_])
      rw [List.flatten_cons, List.flatten_nil, List.append_nil]
      exact Paired.app (Paired.up g8.ff pv) p8
  · rintro σ' F' H' e1 e2 ⟨g, fl, ⟨vs, hL, pv⟩, y1, y2, rfl⟩
    rw [List.take_of_length_le (by rw [List.length_map, List.length_range]; exact Nat.le_refl _)] at pv
    have gf := g.frz hL (Ex.free g.ff fl) (.inl hl0)
    walk_at "n"
    exact x_ret gf.fh (ev_Order (n := 2 ^ W.spots) (ps := pairsM W.spots) (ev_var rfl (ri _ ((2 ^ W.spots : Nat) : Int))) (ev_var rfl ⟨l, vs, rfl, upd_same, Paired.up (Ex.new fl) pv⟩) good) fun v' F2 H2 g2 r2 => k v' F2 H2 (gf.trans g2) r2

abbrev sp_Draw_init (T : Tx K mg) : Sp := SpDraw T.C_Draw T.C_Turns
theorem ok_Draw_init (T : Tx K mg) : FnOk P w K mg base CX0 2 T.a_Draw_init T.d_Draw_init ["self", "turns"] (sp_Draw_init T) := by
  refine T.F_Draw_init.ok sc_Draw_init (fun vs H Q E h => SpLen.len h) (fun cdv A outer s H vs Q E hr h => ?_)
  obtain ⟨F, a, dx, tv, t, rfl, e, fa, ha, rt, k⟩ := h
  refine ⟨_, (by exact (pss_cons (kset K (pv 0) (pv 1) rfl)
      (pss_cons (kset K (pv 0) (pe_call (ok_begin_of T) (hr.mono (by decide)) rfl T.g_begin_of T.F_begin_of.kp T.b_begin_of .nil pass0 (pa_cons (pv 1) pa_nil)) rfl)
      (pss_cons (kset K (pv 0) pe_int rfl)
      (pss_one (kset K (pv 0) (pe_lst pa_nil) rfl)))))), ?_⟩
  walk_at "n"
  have va : ∀ F, rRef F (.ref a) a := fun F => rfl
  refine x_fld e (ev_var rfl rt) (ev_var rfl (va _)) ha T.cl_Draw T.na_Draw_turns (by show 0 < 1000; decide) fun v1 F1 H1 g1 r1 h1 => ?_
  have G1 : Gr (El.M1 a) F H F1 (upd H1 a _) := (g1.up).set' (o := .ins T.C_Draw dx (putF "turns" v1 [])) (g1.nn ha fa) (.inr rfl)
  walk_at "n"
  refine x_fld G1.fh (ev_call1 (ev_var rfl (Mn.mono G1.ff rt)) trivial) (ev_var rfl (va _)) upd_same T.cl_Draw T.na_Draw_found (by show 1 < 1000; decide) fun v2 F2 H2 g2 r2 h2 => ?_
  have f2 : F2 a = none := g2.nn upd_same (g1.nn ha fa)
  have G2 : Gr (El.M1 a) F H F2 (upd H2 a _) := (G1.trans g2.up).set' (o := .ins T.C_Draw dx (putF "found" v2 (putF "turns" v1 []))) f2 (.inr rfl)
  walk_at "n"
  refine x_fld G2.fh ev_int (ev_var rfl (va _)) upd_same T.cl_Draw T.na_Draw_many (by show 2 < 1000; decide) fun v3 F3 H3 g3 r3 h3 => ?_
  have f3 : F3 a = none := g3.nn upd_same f2
  have G3 : Gr (El.M1 a) F H F3 (upd H3 a _) := (G2.trans g3.up).set' (o := .ins T.C_Draw dx (putF "many" v3 (putF "found" v2 (putF "turns" v1 [])))) f3 (.inr rfl)
  cases (show v3 = _ from r3)
  walk_at "n"
  refine ⟨Nat.zero_le _, fun l hl => ⟨.ref a, rfl, a, T.C_Draw, dx, putF "many" (.int 0) (putF "found" v2 (putF "turns" v1 [])), rfl, ?_, T.cl_Draw, T.na_Draw_told, by show 3 < 1000; decide, ?_⟩⟩
  · rw [upd_ne (ne_of_none upd_same hl)]
    exact upd_same
  have hal : a ≠ l := ne_of_none (o := _) upd_same hl
  have hl0 : H l = none := by
    cases q : H l with
    | none => rfl
    | some o => exact absurd hl (G3.dm l (by rw [q]; exact fun z => nomatch z))
  have fl3 : F3 l = none := G3.fh.free hl
  have G4 : Gr (El.M1 a) F H F3 (upd (upd H3 a _) l (.lst [])) := G3.trans (.loc G3.fh hl)
  have G5 := G4.set' (o := .ins T.C_Draw dx (putF "told" (.ref l) (putF "many" (.int 0) (putF "found" v2 (putF "turns" v1 []))))) f3 (.inr rfl)
  refine k l _ _ G5 hl0 ⟨hal, f3, fl3, ⟨dx, v1, v2, upd_same, Mn.mono (g2.ff.trans g3.ff) r1, Mn.mono g3.ff r2⟩, ?_⟩
  rw [upd_ne hal.symm]
  exact upd_same
abbrev sp_Draw_place (T : Tx K mg) : Sp := SpPlace T.C_Draw T.C_Turns
theorem ok_Draw_place (T : Tx K mg) : FnOk P w K mg base CX0 2 T.a_Draw_place T.d_Draw_place ["self"] (sp_Draw_place T) := by
  refine T.F_Draw_place.ok sc_Draw_place (fun vs H Q E h => SpLen.len h) (fun cdv A outer s H vs Q E hr h => ?_)
  obtain ⟨F, a, l, t, m, n, ws, rfl, e, d, hm, k⟩ := h
  have t0 := t.h0
  have t1 := t.h1
  have m1 := hm.1
  refine ⟨_, (by exact (pss_one (ps_ret (pe_ifExp (pt_val (pe_call (ok_has_met T) (hr.mono (by decide)) rfl T.g_has_met T.F_has_met.kp T.b_has_met .nil pass0 (pa_cons (kfld K (pv 0) rfl) pa_nil))) (pe_ix (r := rIxT K) ix_tup (kfld K (pv 0) rfl) pe_int (fun _ _ => rfl)) pe_non)))), ?_⟩
  have va : ∀ F, rRef F (.ref a) a := fun F => rfl
  obtain ⟨dx, tv, fv, h1, h2, h3⟩ := id d.ha
  refine x_ret (R := rOpt rNat) (x := plc m) e ?_ k
  refine ev_if (ev_call1 (ev_fldM (ev_var rfl (va _)) h1 T.cl_Draw T.na_Draw_found rfl h3) (by omega) |> et_B) (fun _ => ?_) (fun _ => ev_noneO)
  exact ev_someO (ev_ixT (ev_fldM (ev_var rfl (va _)) h1 T.cl_Draw T.na_Draw_found rfl h3) ev_int (at0 (by omega)))
abbrev sp_Draw_used (T : Tx K mg) : Sp := SpUsed T.C_Draw T.C_Turns
theorem ok_Draw_used (T : Tx K mg) : FnOk P w K mg base CX0 1 T.a_Draw_used T.d_Draw_used ["self"] (sp_Draw_used T) := by
  refine T.F_Draw_used.ok sc_Draw_used (fun vs H Q E h => SpLen.len h) (fun cdv A outer s H vs Q E hr h => ?_)
  obtain ⟨F, a, l, t, m, n, ws, rfl, e, d, k⟩ := h
  refine ⟨_, (by exact (pss_one (ps_ret (kfld K (pv 0) rfl)))), ?_⟩
  have va : ∀ F, rRef F (.ref a) a := fun F => rfl
  obtain ⟨dx, tv, fv, h1, h2, h3⟩ := id d.ha
  exact x_ret e (ev_fldM (ev_var rfl (va _)) h1 T.cl_Draw T.na_Draw_many rfl (show rNat _ _ n from rfl)) k
abbrev sp_Draw_elder (T : Tx K mg) : Sp := SpElder T.C_Draw T.C_Turns
theorem ok_Draw_elder (T : Tx K mg) : FnOk P w K mg base CX0 4 T.a_Draw_elder T.d_Draw_elder ["self", "sign"] (sp_Draw_elder T) := by
  refine T.F_Draw_elder.ok sc_Draw_elder (fun vs H Q E h => SpLen.len h) (fun cdv A outer s H vs Q E hr h => ?_)
  obtain ⟨F, a, l, t, m, n, ws, s, rfl, e, d, hm, hs, hz, k⟩ := h
  have t0 := t.h0
  have t1 := t.h1
  have m1 := hm.1
  refine ⟨_, (by exact (pss_cons (ps_expr (pe_call (ok_check_signs T) (hr.mono (by decide)) rfl T.g_check_signs T.F_check_signs.kp T.b_check_signs .nil pass0 (pa_cons (kfld K (pv 0) rfl) (pa_cons (pe_lst (pa_cons (pv 1) pa_nil)) pa_nil))))
      (pss_cons (ps_expr (kbm K PySem.F.plainAttrs_list PySem.F.slot_list_append PySem.F.type_list_append mt_append (kfld K (pv 0) rfl) (pa_cons (pv 1) pa_nil)))
      (pss_cons (ps_if (pt_not (pt_val (pe_call (ok_has_met T) (hr.mono (by decide)) rfl T.g_has_met T.F_has_met.kp T.b_has_met .nil pass0 (pa_cons (kfld K (pv 0) rfl) pa_nil)))) (pss_cons (kset K (pv 0) (pe_call (ok_then T) (hr.mono (by decide)) rfl T.g_then T.F_then.kp T.b_then .nil pass0 (pa_cons (pe_ix (r := rIxL K) ix_list (kfld K (kfld K (pv 0) rfl) rfl) (pv 1) (fun _ _ => rfl)) (pa_cons (kfld K (pv 0) rfl) pa_nil))) rfl)
      (pss_one (kaug K (pv 0) pe_int in_add))) pss_nil)
      (pss_one (ps_ret (pe_meth0 (pv 0) T.cl_Draw T.m_Draw_place (ok_Draw_place T) (hr.mono (by decide)) T.b_Draw_place .nil pass0))))))), ?_⟩
  have va : ∀ F, rRef F (.ref a) a := fun F => rfl
  obtain ⟨dx, tv, fv, h1, h2, h3⟩ := id d.ha
  walk_at "n"
  refine x_drop e (ev_call2 (x := t) (y := [s]) (ev_fldM (ev_var rfl (va _)) h1 T.cl_Draw T.na_Draw_turns rfl h2) (ev_lst (R := rNat) (el_cons (ev_var rfl rfl) el_nil) (by show 1 ≤ sizeLine; decide)) ?_) fun F1 H1 g1 => ?_
  · intro x hx
    rw [List.mem_singleton.mp hx]
    exact hs
  have d1 := d.gr g1
  obtain ⟨dx1, tv1, fv1, h11, h12, h13⟩ := id d1.ha
  walk_at "n"
  refine x_app (R := rNat) (x := s) g1.fh (ev_fldM (ev_var rfl (va _)) h11 T.cl_Draw T.na_Draw_told rfl (show rRef _ _ l from rfl)) d1.hl (ev_var rfl rfl) (by rw [sizeLine_eq]; omega) fun v F2 H2 g2 r2 hl2 => ?_
  cases (show v = _ from r2)
  have d2 := d1.gr g2
  have G2 : Gr (fun b => b = a ∨ b = l) F H F2 (upd H2 l (.lst (ws ++ [.int (s : Int)]))) := ((g1.trans g2).up).set' d2.fl (.inr (.inr rfl))
  have D2 : DrAt T.C_Draw T.C_Turns F2 (upd H2 l (.lst (ws ++ [.int (s : Int)]))) a l t m n (ws ++ [.int (s : Int)]) := by
    obtain ⟨dx2, tv2, fv2, h21, h22, h23⟩ := id d2.ha
    exact ⟨d2.ne, d2.fa, d2.fl, ⟨dx2, tv2, fv2, by rw [upd_ne d2.ne]; exact h21, h22, h23⟩, upd_same⟩
  obtain ⟨dx2, tv2, fv2, h21, h22, h23⟩ := id D2.ha
  have fin : ∀ (p : List Nat × Nat) F3 H3 σ, σ = [some (V.ref a), some (V.int (s : Int))] → Gr (fun b => b = a ∨ b = l) F H F3 H3 → DrAt T.C_Draw T.C_Turns F3 H3 a l t p.1 p.2 (ws ++ [.int (s : Int)]) → IsMap t.many p.1 → p = drStep t (m, n) s →
      tRet (tMeth T.C_Draw "place" (sp_Draw_place T) [] E0 (tVar 0) tNil) { nx := fun x H' => Q V.non H', rt := Q } σ H3 := by
    intro p F3 H3 σ hσ g3 d3 hm3 hp
    subst hσ
    subst hp
    exact x_ret g3.fh (ev_place (ev_var rfl (va _)) d3 hm3) fun v F4 H4 g4 r4 => k v F4 H4 (g3.trans g4.up) (d3.gr g4) r4
  walk_at "n"
  refine x_if (b := !metB m) G2.fh (et_not (et_B (ev_call1 (ev_fldM (ev_var rfl (va _)) h21 T.cl_Draw T.na_Draw_found rfl h23) (by omega)))) (fun hb F3 H3 g3 => ?_) (fun hb F3 H3 g3 => ?_)
  · have hb' : metB m = false := by simpa using hb
    have d3 := D2.gr g3
    obtain ⟨dx3, tv3, fv3, h31, h32, h33⟩ := id d3.ha
    have hmap := t.isMap hs
    walk_at "n"
    refine x_fld (R := rTup rNat) (x := thenM (t.maps.getD s []) m) g3.fh (ev_call2 (ev_ixL (ev_fld (ev_fldM (ev_var rfl (va _)) h31 T.cl_Draw T.na_Draw_turns rfl h32)) (ev_var rfl rfl) (atI_natL (getD_at hs))) (ev_fldM (ev_var rfl (va _)) h31 T.cl_Draw T.na_Draw_found rfl h33) ⟨by rw [hmap.1]; omega, fun x hx => by rw [m1]; exact hmap.2 x hx⟩)
      (ev_var rfl (va _)) h31 T.cl_Draw T.na_Draw_found (by show 4 < 1000; decide) fun v F4 H4 g4 r4 h4 => ?_
    have d4 := d3.gr g4
    have G4 := (G2.trans (g3.trans g4).up).set' (o := .ins T.C_Draw dx3 (putF "found" v [("turns", tv3), ("found", fv3), ("many", .int (n : Int)), ("told", .ref l)])) d4.fa (.inr (.inl rfl))
    walk_at "n"
    refine ⟨.ref a, rfl, a, T.C_Draw, dx3, _, .int (n : Int), rfl, upd_same, T.cl_Draw, T.na_Draw_many, rfl, ?_⟩
    refine ⟨n, 1, rfl, rfl, dx3, _, upd_same, by show 4 < 1000; decide, ?_⟩
    have G5 := G4.set' (o := .ins T.C_Draw dx3 (putF "many" (.int ((n : Int) + 1)) (putF "found" v [("turns", tv3), ("found", fv3), ("many", .int (n : Int)), ("told", .ref l)]))) d4.fa (.inr (.inl rfl))
    refine fin (thenM (t.maps.getD s []) m, n + 1) F4 _ _ rfl G5 ⟨d4.ne, d4.fa, d4.fl, ⟨dx3, tv3, v, ?_, Mn.mono g4.ff h32, r4⟩, ?_⟩ (isMap_then hmap hm) ?_
    · rw [upd_same]
      rfl
    · rw [upd_ne d4.ne.symm, upd_ne d4.ne.symm]
      exact d4.hl
    · unfold drStep
      rw [hb']
      rfl
  · have hb' : metB m = true := by simpa using hb
    walk_at "n"
    refine fin (m, n) F3 _ _ rfl (G2.trans g3.up) (D2.gr g3) hm ?_
    unfold drStep
    rw [hb']
    rfl

abbrev sp_drawn (T : Tx K mg) : Sp := Sp2 (rTurns T.C_Turns) (rLst rNat) (fun t w => (∀ s ∈ w, s < t.maps.length) ∧ w.length ≤ 1000000) (rOpt (rPr rNat rNat)) drawnM
theorem ok_drawn (T : Tx K mg) : FnOk P w K mg base CX0 5 T.a_drawn T.d_drawn ["turns", "signs"] (sp_drawn T) := by
  refine T.F_drawn.ok sc_drawn (fun vs H Q E h => SpLen.len h) (fun cdv A outer s H vs Q E hr h => ?_)
  obtain ⟨F, v, w, t, xs, rfl, e, r1, r2, ⟨p, hz⟩, k⟩ := h
  have t0 := t.h0
  refine ⟨_, (by exact (pss_cons (ps_expr (pe_call (ok_check_signs T) (hr.mono (by decide)) rfl T.g_check_signs T.F_check_signs.kp T.b_check_signs .nil pass0 (pa_cons (pv 0) (pa_cons (pv 1) pa_nil))))
      (pss_cons (ps_set (i := 2) sc_drawn.nd rfl (Or.inl rfl) (pe_make T.mk_Draw (ok_Draw_init T) (hr.mono (by decide)) rfl T.g_Draw T.b_Draw_init .nil pass0 (pa_cons (pv 0) pa_nil)))
      (pss_cons (ps_for PassesOwn.never rfl (klist K (pv 1)) (pg_name (i := 3) sc_drawn.nd rfl (by first | exact Or.inl rfl | exact Or.inr rfl)) (pss_one (ps_expr (pe_meth (pv 2) T.cl_Draw T.m_Draw_elder (ok_Draw_elder T) (hr.mono (by decide)) T.b_Draw_elder .nil pass0 (pa_cons (pv 3) pa_nil)))))
      (pss_one (ps_ret (pe_ifExp (pt_cmpR op_isN1 (pe_meth0 (pv 2) T.cl_Draw T.m_Draw_place (ok_Draw_place T) (hr.mono (by decide)) T.b_Draw_place .nil pass0) pe_non (nomark _)) pe_non (pe_tup (pa_cons (pe_meth0 (pv 2) T.cl_Draw T.m_Draw_place (ok_Draw_place T) (hr.mono (by decide)) T.b_Draw_place .nil pass0) (pa_cons (pe_meth0 (pv 2) T.cl_Draw T.m_Draw_used (ok_Draw_used T) (hr.mono (by decide)) T.b_Draw_used .nil pass0) pa_nil)))))))))), ?_⟩
  walk_at "n"
  refine x_drop e (ev_call2 (ev_var rfl r1) (ev_var rfl r2) p) fun F1 H1 g1 => ?_
  walk_at "n"
  refine ⟨v, rfl, fun a dx nx ndx nex => ⟨F1, a, dx, v, t, rfl, Ex.make g1.fh nx ndx, g1.fh.free nx, upd_same, Mn.mono g1.ff r1, fun l F2 H2 g2 hl d2 => ⟨rfl, ?_⟩⟩⟩
  have G2 : Gr M0 F H F2 H2 := g1.trans (.make g1.fh nx ndx nex g2)
  have na : H a = none := Ex.free g1.hx nx
  have nl : H l = none := by
    refine Ex.free g1.hx ?_
    by_cases z1 : l = a
    · rw [z1]; exact nx
    · by_cases z2 : l = dx
      · rw [z2]; exact ndx
      · rw [upd_ne z1, upd_ne z2] at hl; exact hl
  walk_at "n"
  refine x_forL g2.fh (ev_var rfl (Mn.mono G2.ff r2)) (fun i σ' F' H' => Gr M0 F H F' H' ∧ (∃ y, σ' = [some v, some w, some (.ref a), y]) ∧ DrAt T.C_Draw T.C_Turns F' H' a l t (drRun t (xs.take i)).1 (drRun t (xs.take i)).2 ((xs.take i).map fun s : Nat => V.int (s : Int))) (fun F3 H3 g => ⟨G2.trans g, ⟨none, rfl⟩, d2.gr g⟩) ?_ ?_
  · rintro F3 e3 i x u σ' F' H' hx e4 e5 r ⟨g, ⟨y, rfl⟩, d⟩
    cases (show u = _ from r)
    have hs := p x (mem_of_at hx)
    have hm : IsMap t.many (drRun t (xs.take i)).1 := isMap_run fun s h => p s (List.mem_of_mem_take h)
    obtain ⟨dx1, tv, fv, h1, h2, h3⟩ := id d.ha
    refine ⟨.ref a, rfl, a, dx1, _, rfl, h1, rfl, .int (x : Int), rfl, F', a, l, t, _, _, _, x, rfl, e5, d, hm, hs, ?_, fun z F4 H4 g4 d4 r4 => ?_⟩
    · rw [List.length_map, List.length_take]
      omega
    have e6 : xs.take (i + 1) = xs.take i ++ [x] := by rw [List.take_add_one, hx]; rfl
    have e7 : drRun t (xs.take (i + 1)) = drStep t (drRun t (xs.take i)) x := by
      rw [e6]
      unfold drRun
      rw [List.foldl_append]
      rfl
    refine ⟨F4, e4.trans g4.ff, g4.fh, g.seq0 g4 ?_, ⟨_, rfl⟩, ?_⟩
    · rintro b (rfl | rfl)
      · exact na
      · exact nl
    · rw [e7, e6, List.map_append]
      exact d4
  · rintro σ' F' H' e1 e2 ⟨g, ⟨y, rfl⟩, d⟩
    rw [List.take_length] at d
    have hm : IsMap t.many (drRun t xs).1 := isMap_run p
    have va : ∀ F, rRef F (.ref a) a := fun F => rfl
    have ep := fun F3 H3 (g3 : Gr M0 F' H' F3 H3) => ev_place (E := E0) (σ := [some v, some w, some (.ref a), y]) (ta := tVar 2) (ev_var rfl (va F3)) (d.gr g3) hm
    have ep0 := ep F' H' (.refl e2)
    walk_at "n"
    refine x_ret (x := drawnM t xs) e2 ?_ fun v' F6 H6 g6 r6 => k v' F6 H6 (g.trans g6) r6
    refine Ev.is (ev_if (x1 := none) (x2 := drawnM t xs) (et_test (ev_isN ep0)) (fun _ => ev_noneO) (fun hb => ?_)) ?_
    · unfold drawnM
      cases q : plc (drRun t xs).1 with
      | none => rw [q] at hb; cases hb
      | some z =>
        rw [q] at ep0
        exact ev_someO (R := rPr rNat rNat) (ev_pr (R := rNat) (S := rNat) (x := z) (y := (drRun t xs).2) ep0 (ev_used (ev_var rfl (va _)) d))
    · unfold drawnM
      cases q : plc (drRun t xs).1 with
      | none => rfl
      | some z => rfl

abbrev sp__law_well (T : Tx K mg) : Sp := fun vs H Q _ => ∃ F i, vs = [.int i] ∧ Ex F H ∧ ∀ a H', Gr M0 F H F H' → H a = none → F a = none → Src H' a 1099511627776 → Q (.ref a) H'
instance {T : Tx K mg} : SpLen (sp__law_well T) 1 := ⟨fun ⟨_, _, h, _⟩ => by rw [h]; rfl⟩
theorem ok__law_well (T : Tx K mg) : FnOk P w K mg base CX0 1 T.a__law_well T.d__law_well ["_law_cell"] (sp__law_well T) := by
  refine T.F__law_well.ok sc__law_well (fun vs H Q E h => SpLen.len h) (fun cdv A outer s H vs Q E hr h => ?_)
  obtain ⟨F, i, rfl, e, k⟩ := h
  refine ⟨_, (by exact (pss_one (ps_ret (pe_lst (pa_cons (pe_op op_mul (pv 0) (pe_callTy call_int1 (by rfl) T.z_int (by decide +kernel) (pa_cons (pe_cmpR op_ge (pv 0) (pe_op op_pow pe_int pe_int) (nomark _)) pa_nil))) (pa_cons (pe_op op_mod (pv 0) pe_int) (pa_cons pe_int pa_nil))))))), ?_⟩
  have mk : ∀ j : Int, 0 ≤ j → tRet (fun _ H' Q' => (3 : Nat) ≤ sizeLine ∧ ∀ p, H' p = none → Q' (.ref p) (upd H' p (.lst [.int j, .int (i % 2147483647), .int 0]))) { nx := fun x H' => Q V.non H', rt := Q } (L2.start N__law_well [.int i]) H := fun j hj => by
    refine ⟨by decide, fun p hp => k p _ (.loc e hp) hp (e.free hp) ⟨j, i % 2147483647, 0, upd_same, hj, by omega, by omega, by omega, by omega⟩⟩
  by_cases h : (10 : Int) ^ (18 : Int).toNat ≤ i
  · have h0 : (0 : Int) ≤ i * 1 := by
      have : (0 : Int) ≤ (10 : Int) ^ (18 : Int).toNat := by decide
      omega
    have := mk (i * 1) h0
    refine ⟨.int i, rfl, .int i, rfl, 10, 18, rfl, rfl, ⟨by decide, by decide, by decide⟩, i, _, rfl, rfl, .inr ⟨true, by show [V.bl (decide ((10 : Int) ^ (18 : Int).toNat ≤ i))] = _; rw [decide_eq_true h], ?_⟩⟩
    refine ⟨i, 1, rfl, rfl, .inr ⟨by omega, by omega⟩, ?_⟩
    exact ⟨.int i, rfl, i, 2147483647, rfl, rfl, (by show (0 : Int) < 2147483647; decide), this⟩
  · have := mk (i * 0) (by omega)
    refine ⟨.int i, rfl, .int i, rfl, 10, 18, rfl, rfl, ⟨by decide, by decide, by decide⟩, i, _, rfl, rfl, .inr ⟨false, by show [V.bl (decide ((10 : Int) ^ (18 : Int).toNat ≤ i))] = _; rw [decide_eq_false h], ?_⟩⟩
    refine ⟨i, 0, rfl, rfl, .inr ⟨by omega, by omega⟩, ?_⟩
    exact ⟨.int i, rfl, i, 2147483647, rfl, rfl, (by show (0 : Int) < 2147483647; decide), this⟩
abbrev sp__law_draw (T : Tx K mg) : Sp := SpS1 1 rNat (fun m => 0 < m ∧ m ≤ 1000000000) rNat (fun m d => d < m)
theorem nat_of_mod {i : Int} {m : Nat} (h : 0 < m) : ∃ d : Nat, i % (m : Int) = (d : Int) ∧ d < m := ⟨(i % (m : Int)).toNat, by have := Int.emod_nonneg i (show (m : Int) ≠ 0 by omega); omega, by have := Int.emod_lt_of_pos i (show (0 : Int) < m by omega); have := Int.emod_nonneg i (show (m : Int) ≠ 0 by omega); omega⟩
theorem prime_at (k : Int) : ∃ p : Int, atI [2147483647, 2147483629, 2147483587, 2147483579, 2147483563, 2147483549, (2147483543 : Int)] (k % 7) = some p ∧ 0 < p ∧ p < 2147483648 := by
  have h0 := Int.emod_nonneg k (show (7 : Int) ≠ 0 by decide)
  have h1 := Int.emod_lt_of_pos k (show (0 : Int) < 7 by decide)
  obtain ⟨j, hj⟩ : ∃ j : Nat, k % 7 = (j : Int) := ⟨(k % 7).toNat, by omega⟩
  rw [hj]
  have : j < 7 := by omega
  match j, this with
  | 0, _ => exact ⟨_, rfl, by decide, by decide⟩
  | 1, _ => exact ⟨_, rfl, by decide, by decide⟩
  | 2, _ => exact ⟨_, rfl, by decide, by decide⟩
  | 3, _ => exact ⟨_, rfl, by decide, by decide⟩
  | 4, _ => exact ⟨_, rfl, by decide, by decide⟩
  | 5, _ => exact ⟨_, rfl, by decide, by decide⟩
  | 6, _ => exact ⟨_, rfl, by decide, by decide⟩
theorem ok__law_draw (T : Tx K mg) : FnOk P w K mg base CX0 1 T.a__law_draw T.d__law_draw ["_law_well_here", "_law_many"] (sp__law_draw T) := by
  refine T.F__law_draw.ok sc__law_draw (fun vs H Q E h => SpLen.len h) (fun cdv A outer s H vs Q E hr h => ?_)
  obtain ⟨F, a, N, v, m, rfl, e, fa, ⟨n, c, kk, hs, n0, c0, c1, k0, kb⟩, r, ⟨m0, m1⟩, k⟩ := h
  cases (show v = _ from r)
  refine ⟨_, (by exact (pss_cons (ps_if (pt_cmpR op_gt (pe_ix (r := rIxL K) ix_list (pv 0) pe_int (fun _ _ => rfl)) pe_int (nomark _)) (pss_cons (ps_set (i := 2) sc__law_draw.nd rfl (Or.inl rfl) (pe_op op_mod (pe_ix (r := rIxL K) ix_list (pv 0) pe_int (fun _ _ => rfl)) (pv 1)))
      (pss_cons (ps_asg (pe_op op_fdiv (pe_ix (r := rIxL K) ix_list (pv 0) pe_int (fun _ _ => rfl)) (pv 1)) (pg_sub (pv 0) pe_int set_list))
      (pss_one (ps_ret (pv 2))))) pss_nil)
      (pss_cons (ps_asg (pe_op op_add (pe_ix (r := rIxL K) ix_list (pv 0) pe_int (fun _ _ => rfl)) pe_int) (pg_sub (pv 0) pe_int set_list))
      (pss_cons (ps_set (i := 3) sc__law_draw.nd rfl (Or.inl rfl) (pe_ix (r := rIxL K) ix_list (pe_lst (pa_cons pe_int (pa_cons pe_int (pa_cons pe_int (pa_cons pe_int (pa_cons pe_int (pa_cons pe_int (pa_cons pe_int pa_nil)))))))) (pe_op op_mod (pe_ix (r := rIxL K) ix_list (pv 0) pe_int (fun _ _ => rfl)) pe_int) (fun _ _ => rfl)))
      (pss_cons (ps_set (i := 4) sc__law_draw.nd rfl (Or.inl rfl) (pe_op op_mod (pe_op op_pow (pe_op op_add (pe_op op_add (pe_ix (r := rIxL K) ix_list (pv 0) pe_int (fun _ _ => rfl)) (pe_op op_mul pe_int (pe_ix (r := rIxL K) ix_list (pv 0) pe_int (fun _ _ => rfl)))) pe_int) pe_int) (pv 3)))
      (pss_cons (ps_set (i := 4) sc__law_draw.nd rfl (Or.inl rfl) (pe_op op_mod (pe_op op_mul (pe_op op_add (pv 4) (pe_ix (r := rIxL K) ix_list (pv 0) pe_int (fun _ _ => rfl))) (pe_op op_add (pe_op op_fdiv (pv 4) pe_int) pe_int)) (pv 3)))
      (pss_one (ps_ret (pe_op op_mod (pe_op op_fdiv (pv 4) pe_int) (pv 1)))))))))), ?_⟩
  have va : ∀ F, rRef F (.ref a) a := fun F => rfl
  have ri : ∀ F (i : Int), rInt F (.int i) i := fun F i => rfl
  walk_at "n"
  refine x_if e (et_test (ev_gt (ev_ixM (ev_var rfl (va _)) ev_int hs rfl (ri _ n)) ev_int)) (fun hb F1 H1 g1 => ?_) (fun hb F1 H1 g1 => ?_)
  · have hs1 := g1.hx _ _ hs
    have fa1 := g1.nn hs fa
    obtain ⟨d, hd, hdm⟩ := nat_of_mod (i := n) m0
    walk_at "n"
    refine x_set g1.fh (ev_mod (ev_ixM (ev_var rfl (va _)) ev_int hs1 rfl (ri _ n)) (ev_var rfl (ri _ m)) (by omega)) fun v2 F2 H2 g2 r2 => ?_
    cases (show v2 = _ from r2)
    walk_at "n"
    refine x_setI (n := 0) g2.fh (ev_fdiv (ev_ixM (ev_var rfl (va _)) ev_int (g2.hx _ _ hs1) rfl (ri _ n)) (ev_var rfl (ri _ m)) ⟨by omega, by omega⟩) (ev_var rfl (va _)) ev_int (g2.hx _ _ hs1) (by show 0 < 3; decide) fun v3 F3 H3 g3 r3 hl3 => ?_
    cases (show v3 = _ from r3)
    have fa3 := g3.nn (g2.hx _ _ hs1) (g2.nn hs1 fa1)
    have g4 : Gr (El.M1 a) F H F3 _ := ((g1.trans (g2.trans g3)).up).set' (o := .lst [.int (n / (m : Int)), .int c, .int kk]) fa3 (.inr rfl)
    refine x_ret g4.fh (ev_var rfl (ri _ (n % (m : Int)))) fun v5 F5 H5 g5 r5 => ?_
    refine k v5 d F5 H5 (g4.trans g5.up) (g5.nn upd_same fa3) ?_ hdm (by rw [hd] at r5; exact r5)
    exact ⟨n / m, c, kk, g5.hx _ _ upd_same, Int.ediv_nonneg n0 (by omega), c0, c1, k0, by omega⟩
  · have hs1 := g1.hx _ _ hs
    have fa1 := g1.nn hs fa
    walk_at "n"
    refine x_setI (n := 2) g1.fh (ev_add (ev_ixM (ev_var rfl (va _)) ev_int hs1 rfl (ri _ kk)) ev_int) (ev_var rfl (va _)) ev_int hs1 (by show 2 < 3; decide) fun v3 F3 H3 g3 r3 hl3 => ?_
    cases (show v3 = _ from r3)
    have fa3 := g3.nn hs1 fa1
    have g4 : Gr (El.M1 a) F H F3 _ := ((g1.trans g3).up).set' (o := .lst [.int n, .int c, .int (kk + 1)]) fa3 (.inr rfl)
    obtain ⟨p, hp, p0, p1⟩ := prime_at (kk + 1)
    walk_at "n"
    refine x_set (R := rInt) (x := p) g4.fh (ev_ixL (ev_lst (R := rInt) (el_cons ev_int (el_cons ev_int (el_cons ev_int (el_cons ev_int (el_cons ev_int (el_cons ev_int (el_cons ev_int el_nil))))))) (by show 7 ≤ sizeLine; decide)) (ev_mod (ev_ixM (ev_var rfl (va _)) ev_int upd_same rfl (ri _ (kk + 1))) ev_int (by decide)) hp) fun v5 F5 H5 g5 r5 => ?_
    cases (show v5 = _ from r5)
    have hs5 := g5.hx _ _ (upd_same (H := H3) (a := a) (o := .lst [.int n, .int c, .int (kk + 1)]))
    walk_at "n"
    refine x_set g5.fh (ev_mod (ev_pow (ev_add (ev_add (ev_ixM (ev_var rfl (va _)) ev_int hs5 rfl (ri _ c)) (ev_mul ev_int (ev_ixM (ev_var rfl (va _)) ev_int hs5 rfl (ri _ (kk + 1))) (.inl ⟨by decide, by decide⟩))) ev_int) ev_int ⟨by decide, by decide, by omega⟩) (ev_var rfl (ri _ p)) p0) fun v6 F6 H6 g6 r6 => ?_
    generalize hx : (c + 7919 * (kk + 1) + 1) ^ (5 : Int).toNat % p = x at r6
    have x0 : 0 ≤ x := by rw [← hx]; exact Int.emod_nonneg _ (by omega)
    have x1 : x < p := by rw [← hx]; exact Int.emod_lt_of_pos _ p0
    cases (show v6 = _ from r6)
    have hs6 := g6.hx _ _ hs5
    walk_at "n"
    refine x_set g6.fh (ev_mod (ev_mul (ev_add (ev_var rfl (ri _ x)) (ev_ixM (ev_var rfl (va _)) ev_int hs6 rfl (ri _ (kk + 1)))) (ev_add (ev_fdiv (ev_var rfl (ri _ x)) ev_int ⟨by decide, by decide⟩) ev_int) (.inr ⟨by omega, by omega⟩)) (ev_var rfl (ri _ p)) p0) fun v7 F7 H7 g7 r7 => ?_
    generalize hy : (x + (kk + 1)) * (x / 1009 + 69621) % p = y at r7
    cases (show v7 = _ from r7)
    obtain ⟨d, hd, hdm⟩ := nat_of_mod (i := y / 7) m0
    walk_at "n"
    refine x_ret g7.fh (ev_mod (ev_fdiv (ev_var rfl (ri _ y)) ev_int ⟨by decide, by decide⟩) (ev_var rfl (ri _ m)) (by omega)) fun v8 F8 H8 g8 r8 => ?_
    have G := g5.trans (g6.trans (g7.trans g8))
    refine k v8 d F8 H8 (g4.trans G.up) (G.nn upd_same fa3) ?_ hdm (by rw [hd] at r8; exact r8)
    exact ⟨n, c, kk + 1, G.hx _ _ upd_same, n0, c0, c1, by omega, by omega⟩

abbrev sp__law_mixed (T : Tx K mg) : Sp := SpS1 50 (rLst (rPr rNat rNat)) (fun ps => ps.length ≤ 50) (rLst (rPr rNat rNat)) (fun ps qs => qs.Perm ps)
theorem ok__law_mixed (T : Tx K mg) : FnOk P w K mg base CX0 2 T.a__law_mixed T.d__law_mixed ["_law_well_here", "_law_some"] (sp__law_mixed T) := by
  refine T.F__law_mixed.ok sc__law_mixed (fun vs H Q E h => SpLen.len h) (fun cdv A outer s H vs Q E hr h => ?_)
  obtain ⟨F, a, N, v, ps, rfl, e, fa, s, r, hn, k⟩ := h
  have ri : ∀ F (i : Int), rInt F (.int i) i := fun F i => rfl
  refine ⟨_, (by exact (pss_cons (ps_set (i := 2) sc__law_mixed.nd rfl (Or.inr rfl) (pe_callTy (r := rListS K) call_list_of (by rfl) T.z_list (by decide +kernel) (pa_cons (pv 1) pa_nil)))
      (pss_one (ps_ret (pe_lc (own := [("_law_k", 3)]) (g := gName 3) (tt := tYes) rfl sc__law_mixed.nd (pi_range1 rfl T.z_range (pa_cons (pe_callB (r := rLenS K) call_len_seq (by rfl) T.z_len PySem.boot_len (pa_cons (pv 1) pa_nil)) pa_nil)) (blkOk_by (own := [("_law_k", 3)]) (N := N__law_mixed) (sc := defScope s__law_mixed) (by decide +kernel)) (fun _ _ _ _ _ => (pg_name (i := 3) sc__law_mixed.nd rfl (by first | exact Or.inl rfl | exact Or.inr rfl))) (fun _ _ _ _ _ => pts_nil) (fun _ _ _ _ _ => (kbm K PySem.F.plainAttrs_list PySem.F.slot_list_pop PySem.F.type_list_pop mt_popAt (pv 2) (pa_cons (pe_call (ok__law_draw T) (hr.mono (by decide)) rfl T.g__law_draw T.F__law_draw.kp T.b__law_draw .nil pass0 (pa_cons (pv 0) (pa_cons (pe_callB (r := rLenS K) call_len_seq (by rfl) T.z_len PySem.boot_len (pa_cons (pv 2) pa_nil)) pa_nil))) pa_nil)))))))), ?_⟩
  walk_at "n"
  refine x_listM (R := rPr rNat rNat) e (ev_var rfl r) fun vs l F1 H1 g1 p1 hl => ?_
  obtain ⟨o0, ho0⟩ := s.someO
  have s1 := s.gr g1
  have fa1 := g1.nn ho0 fa
  have hne : l ≠ a := fun z => by subst z; exact s1.hn hl
  have hl0 : H l = none := Ex.free g1.hx hl
  have fl1 : F1 l = none := g1.fh.free hl
  have G1 : Gr (El.M1 a) F H F1 (upd H1 l (.lst vs)) := g1.up.trans (.loc g1.fh hl)
  have s1' := s1.ex (H' := upd H1 l (.lst vs)) (upd_ne hne.symm)
  walk_at "n"
  refine ev_lenL (ev_var rfl (Mn.mono g1.ff r)) F1 _ (.refl G1.fh) _ fun v2 F2 H2 g2 ea => ⟨(ps.length : Int), by rw [show v2 = _ from ea], by omega, by omega, fun B hB => ?_⟩
  rw [Int.toNat_natCast]
  have G2 := G1.trans g2.up
  obtain ⟨o1, ho1⟩ := s1'.someO
  have s2 := s1'.gr g2
  have fa2 := g2.nn ho1 fa1
  have hBa : B ≠ a := fun z => by subst z; exact s2.hn hB
  have hL2 := g2.hx _ _ (upd_same (H := H1) (a := l) (o := .lst vs))
  have fl2 := g2.nn upd_same fl1
  have hBl : B ≠ l := fun z => by subst z; rw [hL2] at hB; cases hB
  have hB0 : H B = none := by
    cases q : H B with
    | none => rfl
    | some o => exact absurd hB (G2.dm B (by rw [q]; exact fun z => nomatch z))
  refine lc_range (lo := 0) (n := ps.length) (fun i H' => ∃ F' us qs ws rest, Gr (El.M1 a) F H F' H' ∧ F' a = none ∧ Src H' a (N + (50 - i)) ∧ (F' l = none ∧ H' l = some (.lst ws) ∧ Paired (rPr rNat rNat F') ws rest) ∧ (F' B = none ∧ H' B = some (.lst us) ∧ Paired (rPr rNat rNat F') us qs) ∧ qs.length = i ∧ rest.length = ps.length - i ∧ (qs ++ rest).Perm ps)
    ⟨F2, [], [], vs, ps, G2.trans (.loc g2.fh hB), fa2, s2.ex (upd_ne hBa.symm), ⟨fl2, by rw [upd_ne hBl.symm]; exact hL2, Paired.up g2.ff p1⟩, ⟨g2.fh.free hB, upd_same, .nil⟩, rfl, rfl, .refl _⟩ ?_ ?_
  · rintro i H' hi ⟨F', us, qs, ws, rest, g, fa', s', ⟨fl, hL, pl⟩, ⟨fB, hB', pB⟩, hq, hr2, hp⟩
    have e0 : (0 : Int) + (i : Int) = (i : Int) := Int.zero_add _
    rw [e0]
    refine ⟨rfl, ?_⟩
    have hwl : ws.length = rest.length := pl.length
    refine ⟨.ref l, rfl, .inl ⟨rfl, ws, SqL.of hL⟩, ?_⟩
    refine (es_callP (x := rest.length) rfl (fun F5 H5 g5 _ => Ev.toNat (Ev.is (ev_lenM (ev_var rfl (show rRef _ _ l from rfl)) (g5.hh _ _ hne hL)) (by rw [hwl]))) ⟨by omega, by omega⟩) F' H' (N + (50 - (i + 1))) (.refl g.fh) fa' (s'.le (by omega)) _ fun v3 d F3 H3 g3 fa3 s3 hd r3 => ?_
    cases (show v3 = _ from r3)
    have hd : d < rest.length := hd
    have hL3 := g3.hh _ _ hne hL
    have fl3 := g3.nw l hne (by rw [hL]; exact fun z => nomatch z) fl
    have hB3 := g3.hh _ _ hBa hB'
    have fB3 := g3.nw B hBa (by rw [hB']; exact fun z => nomatch z) fB
    obtain ⟨x, hx⟩ : ∃ x, rest[d]? = some x := ⟨_, List.getElem?_eq_getElem hd⟩
    obtain ⟨y, hy, ry⟩ := Paired.get pl hx
    refine ⟨l, ws, (d : Int), d, y, rfl, rfl, hL3, by omega, by omega, seqIx (by omega), hy, us, by rw [upd_ne hBl]; exact hB3, by rw [pB.length, hq, sizeLine_eq]; omega, ?_⟩
    have Ga := (g.trans g3).set' (o := .lst (ws.eraseIdx d)) fl3 (.inl hl0)
    have Gb := Ga.set' (o := .lst (us ++ [y])) fB3 (.inl hB0)
    refine ⟨F3, us ++ [y], qs ++ [x], ws.eraseIdx d, rest.eraseIdx d, Gb, fa3, (s3.ex (upd_ne hne.symm)).ex (upd_ne hBa.symm), ⟨fl3, by rw [upd_ne hBl.symm, upd_same], Paired.erase d (Paired.up g3.ff pl)⟩, ⟨fB3, upd_same, (Paired.up g3.ff pB).snoc (Mn.mono g3.ff ry)⟩, by rw [List.length_append, hq]; rfl, by rw [List.length_eraseIdx, if_pos hd]; omega, ?_⟩
    rw [List.append_assoc]
    exact (List.Perm.append_left qs (erase_perm hx)).trans hp
  · rintro H' ⟨F', us, qs, ws, rest, g, fa', s', ⟨fl, hL, pl⟩, ⟨fB, hB', pB⟩, hq, hr2, hp⟩
    have hrest : rest = [] := List.eq_nil_of_length_eq_zero (by omega)
    rw [hrest, List.append_nil] at hp
    have gf := g.frz hB' (Ex.free g.ff fB) (.inl hB0)
    exact k _ qs _ _ gf (by rw [upd_ne hBa.symm]; exact fa') (s'.le (by omega)) hp ⟨B, us, rfl, upd_same, Paired.up (Ex.new fB) pB⟩
abbrev rWq : Rp (Nat × List (Nat × Nat) × Nat × List Nat) := r4 rNat (rLst (rPr rNat rNat)) rNat (rLst rNat)
abbrev sp__law_web (T : Tx K mg) : Sp := SpS1 200 rNat (fun m => 1 ≤ m ∧ m ≤ 40) rWq (fun _ p => ∃ W : Wb, p = (W.spots, W.ties, W.whole, W.levels))
theorem ok__law_web (T : Tx K mg) : FnOk P w K mg base CX0 3 T.a__law_web T.d__law_web ["_law_well_here", "_law_most"] (sp__law_web T) := by
  refine T.F__law_web.ok sc__law_web (fun vs H Q E h => SpLen.len h) (fun cdv A outer s H vs Q E hr h => ?_)
  obtain ⟨F, a, N, v, m, rfl, e, fa, s, r, ⟨m0, m1⟩, k⟩ := h
  cases (show v = _ from r)
  refine ⟨_, (by exact (pss_cons (ps_set (i := 2) sc__law_web.nd rfl (Or.inl rfl) (pe_op op_add pe_int (pe_call (ok__law_draw T) (hr.mono (by decide)) rfl T.g__law_draw T.F__law_draw.kp T.b__law_draw .nil pass0 (pa_cons (pv 0) (pa_cons pe_int pa_nil)))))
      (pss_cons (ps_set (i := 3) sc__law_web.nd rfl (Or.inl rfl) (pe_lst pa_nil))
      (pss_cons (ps_for PassesOwn.never rfl (pi_range1 rfl T.z_range (pa_cons (pv 2) pa_nil)) (pg_name (i := 4) sc__law_web.nd rfl (by first | exact Or.inl rfl | exact Or.inr rfl)) (pss_one (ps_expr (kbm K PySem.F.plainAttrs_list PySem.F.slot_list_extend PySem.F.type_list_extend mt_extend (pv 3) (pa_cons (pe_lc (own := [("_law_other", 5)]) (g := gName 5) (tt := _) rfl sc__law_web.nd (pi_range2 rfl T.z_range (pa_cons (pe_op op_add (pv 4) pe_int) (pa_cons (pv 2) pa_nil))) (blkOk_by (own := [("_law_other", 5)]) (N := N__law_web) (sc := defScope s__law_web) (by decide +kernel)) (fun _ _ _ _ _ => (pg_name (i := 5) sc__law_web.nd rfl (by first | exact Or.inl rfl | exact Or.inr rfl))) (fun _ _ _ _ _ => (pts_one (pt_cmpR op_gt (pe_call (ok__law_draw T) (hr.mono (by decide)) rfl T.g__law_draw T.F__law_draw.kp T.b__law_draw .nil pass0 (pa_cons (pv 0) (pa_cons pe_int pa_nil))) pe_int (nomark _)))) (fun _ _ _ _ _ => (pe_tup (pa_cons (pv 4) (pa_cons (pv 5) pa_nil))))) pa_nil)))))
      (pss_cons (ps_set (i := 6) sc__law_web.nd rfl (Or.inr rfl) (pe_op op_add pe_int (pe_call (ok__law_draw T) (hr.mono (by decide)) rfl T.g__law_draw T.F__law_draw.kp T.b__law_draw .nil pass0 (pa_cons (pv 0) (pa_cons (pv 1) pa_nil)))))
      (pss_one (ps_ret (pe_tup (pa_cons (pv 2) (pa_cons (pe_call (ok__law_mixed T) (hr.mono (by decide)) rfl T.g__law_mixed T.F__law_mixed.kp T.b__law_mixed .nil pass0 (pa_cons (pv 0) (pa_cons (pv 3) pa_nil))) (pa_cons (pv 6) (pa_cons (pe_lc (own := [("_law_k", 7)]) (g := gName 7) (tt := tYes) rfl sc__law_web.nd (pi_range1 rfl T.z_range (pa_cons (pv 2) pa_nil)) (blkOk_by (own := [("_law_k", 7)]) (N := N__law_web) (sc := defScope s__law_web) (by decide +kernel)) (fun _ _ _ _ _ => (pg_name (i := 7) sc__law_web.nd rfl (by first | exact Or.inl rfl | exact Or.inr rfl))) (fun _ _ _ _ _ => pts_nil) (fun _ _ _ _ _ => (pe_call (ok__law_draw T) (hr.mono (by decide)) rfl T.g__law_draw T.F__law_draw.kp T.b__law_draw .nil pass0 (pa_cons (pv 0) (pa_cons (pe_op op_add (pv 6) pe_int) pa_nil))))) pa_nil)))))))))))), ?_⟩
  have ri : ∀ F (i : Int), rInt F (.int i) i := fun F i => rfl
  have rn : ∀ F (i : Nat), rNat F (.int (i : Int)) i := fun F i => rfl
  walk_at "n"
  refine x_setS (es_add es_int (EvS.nat (es_callP rfl (fun _ _ _ _ => ev_lit (n := 5)) ⟨by omega, by omega⟩))) e fa s (by omega) fun v1 w1 F1 H1 g1 fa1 s1 p1 r1 => ?_
  obtain ⟨_, _, rfl, ⟨d, rfl, hd⟩, rfl⟩ := p1
  obtain ⟨n, hn⟩ : ∃ n : Nat, (1 + (d : Int)) = (n : Int) := ⟨1 + d, by omega⟩
  rw [hn] at r1
  cases (show v1 = _ from r1)
  have n0 : 1 ≤ n := by omega
  have n1 : n ≤ 5 := by omega
  walk_at "n"
  refine x_nil g1.fh fun l hl => ?_
  have hne : l ≠ a := fun z => by subst z; exact s1.hn hl
  have hl0 : H l = none := by
    cases q : H l with
    | none => rfl
    | some o => exact absurd hl (g1.dm l (by rw [q]; exact fun z => nomatch z))
  have fl1 : F1 l = none := g1.fh.free hl
  have G1 : Gr (El.M1 a) F H F1 (upd H1 l (.lst [])) := g1.trans (.loc g1.fh hl)
  have s1' := s1.ex (H' := upd H1 l (.lst [])) (upd_ne hne.symm)
  obtain ⟨o1, ho1⟩ := s1'.someO
  walk_at "n"
  refine x_forR (n := n) G1.fh (ev_var rfl (ri _ (n : Int))) (by omega)
    (fun i σ' F' H' => Gr (El.M1 a) F H F' H' ∧ F' a = none ∧ Src H' a (N + 199 - i * 5) ∧ (F' l = none ∧ ∃ vs ps, H' l = some (.lst vs) ∧ Paired (rPr rNat rNat F') vs ps ∧ ps.length ≤ i * 5 ∧ ps.Nodup ∧ ∀ p ∈ ps, p.1 < i ∧ p.1 < p.2 ∧ p.2 < n) ∧ ∃ y1 y2 y3 y4, σ' = [some (.ref a), some (.int (m : Int)), some (.int (n : Int)), some (.ref l), y1, y2, y3, y4])
    (fun F2 H2 g2 => ⟨G1.trans g2.up, g2.nn ho1 fa1, (s1'.gr g2).le (by omega), ⟨g2.nn upd_same fl1, [], [], g2.hx _ _ upd_same, .nil, Nat.le_refl _, List.nodup_nil, fun _ h => nomatch h⟩, _, _, _, _, rfl⟩) ?_ ?_
  · rintro F2 e2 i σ' F' H' hi e3 e4 ⟨g, fa', s', ⟨fl, vs, ps, hL, pv, hlen, nd, hps⟩, y1, y2, y3, y4, rfl⟩
    walk_at "n"
    refine x_extS (R := rPr rNat rNat) (c := 5) hne (es_lcR2F (B := 5) (c2 := 1) (m := i + 1) (n := n) (S := rPr rNat rNat) (fun j => (i, j)) (fun F5 H5 g5 _ => Ev.is (ev_add (ev_var rfl (ri _ (i : Int))) ev_int) (by omega)) (fun F5 H5 g5 _ => ev_var rfl (ri _ (n : Int))) (by omega) (by omega) (by omega) (by omega) (fun v => rfl) (fun j hj F5 H5 g5 f5 => ?_) fun j hj F5 H5 g5 f5 => ev_pr (R := rNat) (S := rNat) (ev_var rfl (rn _ i)) (ev_var rfl (rn _ (i + 1 + j)))) e4 fa' s' (by omega) rfl hL (fun zs hz => ?_) fun ws zs F6 H6 g6 fa6 s6 pz p6 h6 => ?_
    · exact fun F6 H6 N6 g6 fa6 s6 Q6 q6 => (ets_test (es_gtI (EvS.nat (es_callP rfl (fun _ _ _ _ => ev_lit (n := 3)) ⟨by omega, by omega⟩)) es_int)) F6 H6 N6 g6 fa6 (s6.le (by omega)) Q6 fun b F7 H7 g7 fa7 s7 _ => q6 b F7 H7 g7 fa7 s7 trivial
    · obtain ⟨is, rfl, _, hl2, _⟩ := hz
      rw [pv.length, List.length_map, sizeLine_eq]
      have : i * 5 ≤ 5 * 5 := Nat.mul_le_mul_right _ (by omega)
      omega
    · obtain ⟨is, rfl, ndi, hl2, hmem⟩ := pz
      have fl6 := g6.nw l hne (by rw [hL]; exact fun z => nomatch z) fl
      have G6 := (g.trans g6).set' (o := .lst (vs ++ ws)) fl6 (.inl hl0)
      refine ⟨F6, e3.trans g6.ff, G6.fh, G6, fa6, (s6.le (by omega)).ex (upd_ne hne.symm), ⟨fl6, _, ps ++ is.map (fun j => (i, j)), upd_same, Paired.app (Paired.up g6.ff pv) p6, ?_, ?_, fun p hp => ?_⟩, _, _, _, _, rfl⟩
      · rw [List.length_append, List.length_map, Nat.succ_mul]; omega
      · refine List.nodup_append.mpr ⟨nd, ?_, fun x hx y hy => ?_⟩
        · rw [List.Nodup, List.pairwise_map]
          exact List.Pairwise.imp (fun hxy z => hxy (Prod.mk.inj z).2) ndi
        · obtain ⟨j, hj, rfl⟩ := List.mem_map.mp hy
          have := (hps x hx).1
          intro z
          rw [z] at this
          exact absurd this (Nat.lt_irrefl _)
      · rcases List.mem_append.mp hp with h | h
        · have := hps p h; omega
        · obtain ⟨j, hj, rfl⟩ := List.mem_map.mp h
          have := hmem j hj
          exact ⟨Nat.lt_succ_self i, by show i < j; omega, this.2⟩
  · rintro σ' F' H' e1 e2 ⟨g, fa', s', ⟨fl, vs, ps, hL, pv, hlen, nd, hps⟩, y1, y2, y3, y4, rfl⟩
    have gf := g.frz hL (Ex.free g.ff fl) (.inl hl0)
    have faz : upd F' l (.lst vs) a = none := by rw [upd_ne hne.symm]; exact fa'
    have rps : rLst (rPr rNat rNat) (upd F' l (.lst vs)) (.ref l) ps := ⟨l, vs, rfl, upd_same, Paired.up (Ex.new fl) pv⟩
    walk_at "n"
    refine x_setS (es_add es_int (EvS.nat (es_callP rfl (fun F _ _ _ => ev_var rfl (rn F m)) ⟨by omega, by omega⟩))) gf.fh faz s' (by omega) fun v5 w5 F5 H5 g5 fa5 s5 p5 r5 => ?_
    obtain ⟨_, _, rfl, ⟨d5, rfl, hd5⟩, rfl⟩ := p5
    obtain ⟨w, hw⟩ : ∃ w : Nat, (1 + (d5 : Int)) = (w : Int) := ⟨1 + d5, by omega⟩
    rw [hw] at r5
    cases (show v5 = _ from r5)
    have rps5 := Mn.mono g5.ff rps
    walk_at "n"
    refine x_retS (R := rWq) (c := 55) ((es_r4 (P1 := fun x => x = n) (P2 := fun q => q.Perm ps) (P3 := fun x => x = w) (P4 := fun ls => ls.length = n ∧ ∀ (i : Nat) x, ls[i]? = some x → x < w + 1) (c1 := 0) (c2 := 50) (c3 := 0) (c4 := 5) (es_var rfl (rn _ n)) (es_callP (x := ps) rfl (fun F6 H6 g6 _ => ev_var rfl (Mn.mono g6.ff rps5)) (by omega)) (es_var rfl (rn _ w)) ((es_lcRP (n := n) (B := 5) (c2 := 1) (P2 := fun _ x => x < w + 1) (fun F6 H6 _ _ => ev_var rfl (ri _ (n : Int))) n1 (by omega) (fun v => rfl) fun i hi F6 H6 g6 _ => es_callP (x := w + 1) rfl (fun F7 H7 _ _ => Ev.toNat (Ev.is (ev_add (ev_var rfl (ri _ (w : Int))) ev_int) (by omega))) ⟨by omega, by omega⟩).mono (fun _ h => h) (by omega))).mono (fun _ h => h) (by omega)) g5.fh fa5 s5 (by omega) fun v6 w6 F6 H6 g6 fa6 s6 p6 r6 => ?_
    obtain ⟨x1, x2, x3, x4⟩ := w6
    obtain ⟨h1, h2, h3, h4, h5⟩ := p6
    have h1 : x1 = n := h1
    have h3 : x3 = w := h3
    subst h1; subst h3
    refine k v6 _ F6 H6 (gf.trans (g5.trans g6)) fa6 (s6.le (by omega)) ⟨⟨x1, x2, x3, x4, n0, n1, fun p hp => ?_, h2.nodup_iff.mpr nd, by omega, by omega, h4, fun l hl' => ?_⟩, rfl⟩ r6
    · exact ⟨(hps p (h2.mem_iff.mp hp)).2.1, (hps p (h2.mem_iff.mp hp)).2.2⟩
    · obtain ⟨i, hi⟩ := List.mem_iff_getElem?.mp hl'
      have := h5 i l hi
      omega

abbrev sp__law_keeps (T : Tx K mg) : Sp := Sp2 (rTurns T.C_Turns) (rOrder T.C_Order) GoodK rBl (fun t hs => (notKeptM t hs).isNone)
theorem ok__law_keeps (T : Tx K mg) : FnOk P w K mg base CX0 2 T.a__law_keeps T.d__law_keeps ["_law_turns", "_law_order"] (sp__law_keeps T) := by
  refine T.F__law_keeps.ok sc__law_keeps (fun vs H Q E h => SpLen.len h) (fun cdv A outer s H vs Q E hr h => ?_)
  obtain ⟨F, v, w, t, hs, rfl, e, r1, r2, ⟨h1, h2, h3⟩, k⟩ := h
  have t1 := t.h1
  have ri : ∀ F (i : Int), rInt F (.int i) i := fun F i => rfl
  have rn : ∀ F (i : Nat), rNat F (.int (i : Int)) i := fun F i => rfl
  refine ⟨_, (by exact (pss_cons (ps_for PassesOwn.never rfl (klist K (kfld K (pv 0) rfl)) (pg_name (i := 2) sc__law_keeps.nd rfl (by first | exact Or.inl rfl | exact Or.inr rfl)) (pss_one (ps_for PassesOwn.never rfl (pi_range1 rfl T.z_range (pa_cons (kfld K (pv 0) rfl) pa_nil)) (pg_name (i := 3) sc__law_keeps.nd rfl (by first | exact Or.inl rfl | exact Or.inr rfl)) (pss_one (ps_for PassesOwn.never rfl (pi_range1 rfl T.z_range (pa_cons (kfld K (pv 0) rfl) pa_nil)) (pg_name (i := 4) sc__law_keeps.nd rfl (by first | exact Or.inl rfl | exact Or.inr rfl)) (pss_one (ps_if (PW.pt (pw_and (pt_val (pe_meth (pv 1) T.cl_Order T.m_Order_at_most (ok_Order_at_most T) (hr.mono (by decide)) T.b_Order_at_most .nil pass0 (pa_cons (pv 3) (pa_cons (pv 4) pa_nil)))) (pw_and1 (pt_not (pt_val (pe_meth (pv 1) T.cl_Order T.m_Order_at_most (ok_Order_at_most T) (hr.mono (by decide)) T.b_Order_at_most .nil pass0 (pa_cons (pe_ix (r := rIxT K) ix_tup (pv 2) (pv 3) (fun _ _ => rfl)) (pa_cons (pe_ix (r := rIxT K) ix_tup (pv 2) (pv 4) (fun _ _ => rfl)) pa_nil)))))))) (pss_one (ps_ret pe_bl)) pss_nil)))))))
      (pss_one (ps_ret pe_bl)))), ?_⟩
  walk_at "n"
  refine x_forL (R := rTup rNat) (xs := t.maps) e (ev_fld (ev_var rfl r1)) (fun i σ' F' H' => Gr M0 F H F' H' ∧ (∀ s, s < i → ∀ x y, x < t.many → y < t.many → atMostM hs x y = true → atMostM hs ((t.maps.getD s []).getD x 0) ((t.maps.getD s []).getD y 0) = true) ∧ ∃ y1 y2 y3, σ' = [some v, some w, y1, y2, y3])
    (fun F1 H1 g => ⟨g, fun s hs => absurd hs (Nat.not_lt_zero s), _, _, _, rfl⟩) ?_ ?_
  · rintro F1 e1 i m u σ' F' H' hm e2 e3 rm ⟨g, hI, y1, y2, y3, rfl⟩
    have hi : i < t.maps.length := (List.getElem?_eq_some_iff.mp hm).1
    have em : t.maps.getD i [] = m := getD_eq hm
    obtain ⟨m1, m2⟩ := t.h4 m (mem_of_at hm)
    walk_at "n"
    refine x_forR (n := t.many) e3 (ev_fld (ev_var rfl (Mn.mono g.ff r1))).nat (by omega) (fun x σ' F6 H6 => Gr M0 F H F6 H6 ∧ Ex F' F6 ∧ (∀ x', x' < x → ∀ y, y < t.many → atMostM hs x' y = true → atMostM hs (m.getD x' 0) (m.getD y 0) = true) ∧ ∃ y2 y3, σ' = [some v, some w, some u, y2, y3])
      (fun F6 H6 g6 => ⟨g.trans g6, g6.ff, fun x' hx => absurd hx (Nat.not_lt_zero x'), _, _, rfl⟩) ?_ ?_
    · rintro F5 e5 x σ' F6 H6 hx e6 e7 ⟨g6, ex6, hX, y2, y3, rfl⟩
      walk_at "n"
      refine x_forR (n := t.many) e7 (ev_fld (ev_var rfl (Mn.mono g6.ff r1))).nat (by omega) (fun y σ' F8 H8 => Gr M0 F H F8 H8 ∧ Ex F' F8 ∧ (∀ y', y' < y → atMostM hs x y' = true → atMostM hs (m.getD x 0) (m.getD y' 0) = true) ∧ ∃ y3, σ' = [some v, some w, some u, some (.int (x : Int)), y3])
        (fun F8 H8 g8 => ⟨g6.trans g8, ex6.trans g8.ff, fun y' hy => absurd hy (Nat.not_lt_zero y'), _, rfl⟩) ?_ ?_
      · rintro F7 e8 y σ' F8 H8 hy e9 e10 ⟨g8, ex8, hY, y3, rfl⟩
        have rm8 := Mn.mono ex8 rm
        have hax : m[x]? = some (m.getD x 0) := at_getD (by rw [m1]; exact hx)
        have hay : m[y]? = some (m.getD y 0) := at_getD (by rw [m1]; exact hy)
        have hmx : m.getD x 0 < hs.length := by rw [h1]; exact m2 _ (List.mem_of_getElem? hax)
        have r28 := Mn.mono g8.ff r2
        walk_at "n"
        refine x_if (b := atMostM hs x y && !atMostM hs (m.getD x 0) (m.getD y 0)) e10 (et_and (et_B (ev_meth2 (x := hs) (y := x) (z := y) (ev_var rfl r28) (ev_var rfl (rn _ x)) (ev_var rfl (rn _ y)) (by omega))) fun _ => et_not (et_B (ev_meth2 (x := hs) (y := m.getD x 0) (z := m.getD y 0) (ev_var rfl r28) (ev_ixT (ev_var rfl rm8) (ev_var rfl (ri _ (x : Int))) (atI_natL hax)) (ev_ixT (ev_var rfl rm8) (ev_var rfl (ri _ (y : Int))) (atI_natL hay)) hmx))) (fun hb F9 H9 g9 => ?_) (fun hb F9 H9 g9 => ?_)
        · obtain ⟨hb1, hb2⟩ := Bool.and_eq_true_iff.mp hb
          have hb2 : atMostM hs (m.getD x 0) (m.getD y 0) = false := by simpa using hb2
          have hbad : (notKeptM t hs).isNone = false := by
            cases q : notKeptM t hs with
            | some p => rfl
            | none =>
              unfold atMostM at hb1
              rcases Bool.or_eq_true_iff.mp hb1 with z | z
              · have z := of_decide_eq_true z
                subst z
                rw [show atMostM hs (m.getD x 0) (m.getD x 0) = true by unfold atMostM; rw [decide_eq_true rfl]; rfl] at hb2
                cases hb2
              · have := not_none q hi hx (of_decide_eq_true z)
                rw [em, hb2] at this
                cases this
          walk_at "n"
          exact x_ret (R := rBl) (x := false) g9.fh ev_bl fun v' F10 H10 g10 r10 => k v' F10 H10 (g8.trans (g9.trans g10)) (by show rBl F10 v' (notKeptM t hs).isNone; rw [hbad]; exact r10)
        · walk_at "n"
          refine ⟨F9, e9.trans g9.ff, g9.fh, g8.trans g9, ex8.trans g9.ff, fun y' hy' ha => ?_, _, rfl⟩
          by_cases z : y' = y
          · subst z
            rw [ha, Bool.true_and] at hb
            simpa using hb
          · exact hY y' (by omega) ha
      · rintro σ' F8 H8 e8 e9 ⟨g8, ex8, hY, y3, rfl⟩
        walk_at "n"
        refine ⟨F8, e6.trans e8, e9, g8, ex8, fun x' hx' y hy ha => ?_, _, _, rfl⟩
        by_cases z : x' = x
        · subst z; exact hY y hy ha
        · exact hX x' (by omega) y hy ha
    · rintro σ' F6 H6 e5 e6 ⟨g6, ex6, hX, y2, y3, rfl⟩
      walk_at "n"
      refine ⟨F6, e2.trans e5, e6, g6, fun s hs' x y hx hy ha => ?_, _, _, _, rfl⟩
      by_cases z : s = i
      · subst z; rw [em]; exact hX x hx y hy ha
      · exact hI s (by omega) x y hx hy ha
  · rintro σ' F' H' e1 e2 ⟨g, hI, y1, y2, y3, rfl⟩
    have hgood : (notKeptM t hs).isNone = true := by
      cases q : notKeptM t hs with
      | none => rfl
      | some p =>
        obtain ⟨s, x, y⟩ := p
        obtain ⟨q1, q2, q3, q4⟩ := not_some q
        have := hI s q1 x y q2 (h2 x q2 y q3) (by unfold atMostM; rw [decide_eq_true q3, Bool.or_true])
        rw [q4] at this
        cases this
    walk_at "n"
    exact x_ret (R := rBl) (x := true) e2 ev_bl fun v' F10 H10 g10 r10 => k v' F10 H10 (g.trans g10) (by show rBl F10 v' (notKeptM t hs).isNone; rw [hgood]; exact r10)
abbrev sp__law_apart_right (T : Tx K mg) : Sp := SpS2 1 rNat rNat (fun s w => 1 ≤ s ∧ s ≤ 5 ∧ 1 ≤ w ∧ w ≤ 40) rBl (fun _ _ b => b = true)
theorem ok__law_apart_right (T : Tx K mg) : FnOk P w K mg base CX0 7 T.a__law_apart_right T.d__law_apart_right ["_law_well_here", "_law_spots", "_law_whole"] (sp__law_apart_right T) := by
  refine T.F__law_apart_right.ok sc__law_apart_right (fun vs H Q E h => SpLen.len h) (fun cdv A outer s H vs Q E hr h => ?_)
  obtain ⟨F, a, N, v, u, n, w, rfl, e, fa, s, r1, r2, ⟨n0, n1, w0, w1⟩, k⟩ := h
  cases (show v = _ from r1)
  cases (show u = _ from r2)
  have ri : ∀ F (i : Int), rInt F (.int i) i := fun F i => rfl
  have rn : ∀ F (i : Nat), rNat F (.int (i : Int)) i := fun F i => rfl
  refine ⟨_, (by exact (pss_cons (ps_set (i := 3) sc__law_apart_right.nd rfl (Or.inl rfl) (pe_call (ok__law_draw T) (hr.mono (by decide)) rfl T.g__law_draw T.F__law_draw.kp T.b__law_draw .nil pass0 (pa_cons (pv 0) (pa_cons (pe_op op_add (pv 2) pe_int) pa_nil))))
      (pss_cons (ps_set (i := 4) sc__law_apart_right.nd rfl (Or.inl rfl) (pe_make T.mk_Web (ok_Web_init T) (hr.mono (by decide)) rfl T.g_Web T.b_Web_init .nil pass0 (pa_cons (pe_callB (call_min2 rfl) (by rfl) T.z_min (by decide +kernel) (pa_cons (pv 1) (pa_cons pe_int pa_nil))) (pa_cons (pe_lst pa_nil) (pa_cons (pv 2) (pa_cons (pe_op op_rep (pe_lst (pa_cons (pv 3) pa_nil)) (pe_callB (call_min2 rfl) (by rfl) T.z_min (by decide +kernel) (pa_cons (pv 1) (pa_cons pe_int pa_nil)))) pa_nil))))))
      (pss_cons (ps_set (i := 5) sc__law_apart_right.nd rfl (Or.inl rfl) (pe_call (ok_walk_of T) (hr.mono (by decide)) rfl T.g_walk_of T.F_walk_of.kp T.b_walk_of .nil pass0 (pa_cons (pe_call (ok_turns_of T) (hr.mono (by decide)) rfl T.g_turns_of T.F_turns_of.kp T.b_turns_of .nil pass0 (pa_cons (pv 4) pa_nil)) pa_nil)))
      (pss_cons (ps_if (pt_cmpR op_ne (pe_callB (r := rLenS K) call_len_seq (by rfl) T.z_len PySem.boot_len (pa_cons (pe_call (ok_closed_sets T) (hr.mono (by decide)) rfl T.g_closed_sets T.F_closed_sets.kp T.b_closed_sets .nil pass0 (pa_cons (pv 5) pa_nil)) pa_nil)) pe_int (nomark _)) (pss_one (ps_ret pe_bl)) pss_nil)
      (pss_cons (ps_set (i := 6) sc__law_apart_right.nd rfl (Or.inl rfl) (pe_call (ok_resting T) (hr.mono (by decide)) rfl T.g_resting T.F_resting.kp T.b_resting .nil pass0 (pa_cons (pv 5) pa_nil)))
      (pss_cons (ps_for PassesOwn.never rfl (klist K (pe_slice (r := rSlL K) sl_list (pe_lst (pa_cons pe_int (pa_cons pe_int (pa_cons pe_int pa_nil)))) po_none (po_some (kfld K (pv 4) rfl)))) (pg_name (i := 7) sc__law_apart_right.nd rfl (by first | exact Or.inl rfl | exact Or.inr rfl)) (pss_cons (ps_setLc (i := 8) (own := [("_law_place", 9), ("_law_share", 10)]) (g := gTup K 2 (gCons (gName 9) (gCons (gName 10) gNil))) (tt := _) rfl sc__law_apart_right.nd rfl rfl (sw_true rfl rfl rfl (by decide +kernel)) (kenum K rfl T.z_enumerate (pa_cons (pv 6) pa_nil)) (blkOk_by (own := [("_law_place", 9), ("_law_share", 10)]) (N := N__law_apart_right) (sc := defScope s__law_apart_right) (by decide +kernel)) (fun _ _ _ _ _ => (kptup K (n := 2) rfl (pgs_cons (pg_name (i := 9) sc__law_apart_right.nd rfl (by first | exact Or.inl rfl | exact Or.inr rfl)) (pgs_cons (pg_name (i := 10) sc__law_apart_right.nd rfl (by first | exact Or.inl rfl | exact Or.inr rfl)) pgs_nil)))) (fun _ _ _ _ _ => (pts_one (pt_cmpR op_eq (pe_op op_mod (pe_op op_fdiv (pv 9) (pv 7)) pe_int) pe_int (nomark _)))) (fun _ _ _ _ _ => (pv 10)))
      (pss_one (ps_if (pt_cmpR (r := rNeG (DIns T.C_Share (RShr T.C_Share))) (op_neG (ok_Share_eq T) T.m_Share_eq.at_ T.m_Share_eq.fn T.ne_Share T.ob_Share T.b_Share_eq pass0 (hr.mono (by decide))) (pe_call (ok_sum_of T) (hr.mono (by decide)) rfl T.g_sum_of T.F_sum_of.kp T.b_sum_of .nil pass0 (pa_cons (pv 8) pa_nil)) (pe_make T.mk_Share (ok_Share_init T) (hr.mono (by decide)) rfl T.g_Share (T.b_Share_init).ok (T.b_Share_init).vs pass0 (pa_cons (pv 3) (pa_cons (pv 2) pa_nil))) (nomark _)) (pss_one (ps_ret pe_bl)) pss_nil))))
      (pss_one (ps_ret pe_bl))))))))), ?_⟩
  walk_at "n"
  refine x_setS (es_callP (x := w + 1) rfl (fun F7 H7 _ _ => Ev.toNat (Ev.is (ev_add (ev_var rfl (ri _ (w : Int))) ev_int) (by omega))) ⟨by omega, by omega⟩) e fa s (by omega) fun v3 L F3 H3 g3 fa3 s3 p3 r3 => ?_
  have hL : L < w + 1 := p3
  cases (show v3 = _ from r3)
  let W : Wb := ⟨min n 3, [], w, List.replicate (min n 3) L, by omega, by omega, (fun p hp => nomatch hp), List.nodup_nil, w0, w1, List.length_replicate, fun l hl => by rw [(List.mem_replicate.mp hl).2]; omega⟩
  have hA : Apart W L := ⟨rfl, rfl, by show min n 3 ≤ 3; omega⟩
  have hmin : ∀ F H, Ev rInt (tCB (fun xs H Q => ∃ i j : Int, xs = [.int i, .int j] ∧ Q (.int (if j < i then j else i)) H) (tCons (tVar 1) (tCons (tC (.int 3)) tNil))) [some (.ref a), some (.int (n : Int)), some (.int (w : Int)), some (.int (L : Int)), none, none, none, none, none, none, none] F H ((min n 3 : Nat) : Int) := fun F H => Ev.is (ev_min2 (ev_var rfl (ri _ (n : Int))) ev_int) (by split <;> omega)
  walk_at "n"
  refine x_set (R := rWeb T.C_Web) (x := W) g3.fh (ev_Web (W := W) (hmin _ _) (ev_lst (R := rPr rNat rNat) el_nil (Nat.zero_le _)) (ev_var rfl (ri _ (w : Int))) (Ev.is (ev_rep1 (R := rNat) (ev_lst (R := rNat) (el_cons (ev_var rfl (rn _ L)) el_nil) (by show 1 ≤ sizeLine; decide)) (hmin _ _) (by omega) (by omega)) (by rw [Int.toNat_natCast]))) fun v4 F4 H4 g4 r4 => ?_
  have wt := hA.few
  have hpw : 2 ^ W.spots ≤ 32 := pow_le W.h1
  walk_at "n"
  refine x_set (R := rWalk T.C_Walk) (x := walkM (turnsM W)) g4.fh (ev_call1 (ev_call1 (ev_var rfl r4) trivial) trivial) fun v5 F5 H5 g5 r5 => ?_
  obtain ⟨C, hC⟩ := apart_closed hA
  walk_at "n"
  refine x_if (b := false) g5.fh (EvT.is (et_test (ev_neI (ev_lenL (ev_call1 (ev_var rfl r5) trivial)) ev_int)) (by rw [hC]; rfl)) (fun z => nomatch z) fun _ F6 H6 g6 => ?_
  walk_at "n"
  refine x_set (R := rLst (rShare T.C_Share)) (x := restWk (walkM (turnsM W))) g6.fh (ev_call1 (ev_var rfl (Mn.mono g6.ff r5)) ⟨C, hC⟩) fun v7 F7 H7 g7 r7 => ?_
  have g47 := g4.trans (g5.trans (g6.trans g7))
  obtain ⟨o3, ho3⟩ := s3.someO
  have hrl : (restWk (walkM (turnsM W))).length = 2 ^ W.spots := by
    unfold restWk restW
    rw [List.length_map, List.length_range]
    exact walk_n _
  walk_at "n"
  refine x_forL (R := rNat) (xs := [1, 2, 4].take W.spots) g7.fh (Ev.is (ev_slL (lo := none) (hi := some (W.spots : Int)) (ev_lst (R := rNat) (el_cons ev_lit (el_cons ev_lit (el_cons ev_lit el_nil))) (by show 3 ≤ sizeLine; decide)) eo_none (eo_some (ev_fld (ev_var rfl (Mn.mono (g5.ff.trans (g6.ff.trans g7.ff)) r4))).nat)) cut_to)
    (fun i σ' F' H' => Gr M0 F7 H7 F' H' ∧ ∃ y1 y2 y3 y4, σ' = [some (.ref a), some (.int (n : Int)), some (.int (w : Int)), some (.int (L : Int)), some v4, some v5, some v7, y1, y2, y3, y4]) (fun F8 H8 g8 => ⟨g8, _, _, _, _, rfl⟩) ?_ ?_
  · rintro F8 e8 i h u8 σ' F9 H9 hh e9 e10 rh ⟨g9, y1, y2, y3, y4, rfl⟩
    cases (show u8 = _ from rh)
    have hi : i < W.spots := by
      have := (List.getElem?_eq_some_iff.mp hh).1
      rw [List.length_take] at this
      omega
    have h2 : h = 2 ^ i := by
      have hh2 : [1, 2, 4][i]? = some h := by rw [List.getElem?_take_of_lt hi] at hh; exact hh
      match i, hi with
      | 0, _ => cases hh2; rfl
      | 1, _ => cases hh2; rfl
      | 2, _ => cases hh2; rfl
      | k + 3, hk => omega
    have hpos : 0 < h := by rw [h2]; exact Nat.two_pow_pos i
    have hle : h ≤ 8 := by rw [h2]; exact Nat.pow_le_pow_right (by omega) (show i ≤ 3 by omega)
    have r79 := Mn.mono g9.ff r7
    walk_at "n"
    refine x_set (R := rLst (rShare T.C_Share)) (x := ((List.range (2 ^ W.spots)).filter fun b => upB b i).map fun b => (restWk (walkM (turnsM W))).getD b 0) e10 (Ev.is (ev_lcEF (R := rShare T.C_Share) (T := rShare T.C_Share) (fun b => upB b i) (fun b => (restWk (walkM (turnsM W))).getD b 0) (ev_var rfl r79) (by rw [hrl]; omega) (fun v w => rfl) (fun b x w11 F11 H11 hx g11 r11 => ?_) (fun b x w11 F11 H11 hx hp g11 r11 => ?_)) (by rw [hrl])) fun v12 F12 H12 g12 r12 => ?_
    · refine EvT.is (et_test (ev_eqI (ev_mod (ev_fdiv (ev_var rfl (ri _ (b : Int))) (ev_var rfl (ri _ (h : Int))) ⟨by omega, by omega⟩) ev_int (by decide)) ev_int)) ?_
      unfold upB
      rw [← h2]
      refine decide_eq_decide.mpr ?_
      show ((b : Int) / (h : Int)) % 2 = 1 ↔ _
      rw [← Int.natCast_ediv]
      omega
    · refine Ev.is (ev_var rfl r11) (getD_eq hx).symm
    have hsub : ∀ x ∈ ((List.range (2 ^ W.spots)).filter fun b => upB b i).map fun b => (restWk (walkM (turnsM W))).getD b 0, x ∈ restWk (walkM (turnsM W)) := fun x hx => by
      obtain ⟨b, hb, rfl⟩ := List.mem_map.mp hx
      exact List.mem_of_getElem? (at_getD (by rw [hrl]; exact List.mem_range.mp (List.mem_filter.mp hb).1))
    have hsl : (((List.range (2 ^ W.spots)).filter fun b => upB b i).map fun b => (restWk (walkM (turnsM W))).getD b 0).length ≤ 32 := by
      rw [List.length_map]
      have := List.length_filter_le (fun b => upB b i) (List.range (2 ^ W.spots))
      rw [List.length_range] at this
      omega
    walk_at "n"
    refine x_if (b := false) g12.fh (et_test (ev_neShare (r := Rat.divInt (L : Int) (w : Int)) (Ev.is (ev_call1 (ev_var rfl r12) (rest_sumOk hC hsub hsl)) (apart_share hA hi hC)) (ev_Share (ev_var rfl (ri _ (L : Int))) (ev_var rfl (ri _ (w : Int))) (by omega) (Nat.lt_of_lt_of_le (show ((w : Int)).natAbs < 2 ^ 6 by omega) (Nat.pow_le_pow_right (by omega) (by omega)))))) (fun z => nomatch z) fun _ F13 H13 g13 => ?_
    walk_at "n"
    exact ⟨F13, e9.trans (g12.ff.trans g13.ff), g13.fh, g9.trans (g12.trans g13), _, _, _, _, rfl⟩
  · rintro σ' F9 H9 e9 e10 ⟨g9, y1, y2, y3, y4, rfl⟩
    have G := g47.trans g9
    walk_at "n"
    exact x_ret (R := rBl) (x := true) e10 ev_bl fun v' F10 H10 g10 r10 => k v' true F10 H10 (g3.trans (G.trans g10).up) ((G.trans g10).nn ho3 fa3) ((s3.gr (G.trans g10)).le (by omega)) rfl r10
def spLaw (K : PySem.W.Frag) : Sp := fun vs H Q _ => ∃ (a : Addr) (ns : List Int), vs = [.ref a] ∧ SqL K H a (ns.map V.int) ∧ ns.length ≤ 63 ∧ ∀ H', Q (.bl true) H'
abbrev sp_law (T : Tx K mg) : Sp := spLaw K
instance : SpLen (spLaw K) 1 := ⟨fun ⟨_, _, h, _⟩ => by rw [h]; rfl⟩
theorem ok_law (T : Tx K mg) : FnOk P w K mg base CX0 8 T.a_law T.d_law ["_law_script"] (sp_law T) := by
  refine T.F_law.ok sc_law (fun vs H Q E h => SpLen.len h) (fun cdv A outer s H vs Q E hr h => ?_)
  obtain ⟨sa, ns, rfl, hS, hlen, k⟩ := h
  refine ⟨_, (by exact (pss_cons (ps_for PassesOwn.never rfl (klist K (pe_op op_cat (pe_slice (r := rSlL K) sl_list (pv 0) po_none (po_some pe_int)) (pe_lst (pa_cons pe_int (pa_cons pe_int pa_nil))))) (pg_name (i := 1) sc_law.nd rfl (by first | exact Or.inl rfl | exact Or.inr rfl)) (pss_cons (ps_set (i := 2) sc_law.nd rfl (Or.inr rfl) (pe_call (ok__law_well T) (hr.mono (by decide)) rfl T.g__law_well T.F__law_well.kp T.b__law_well .nil pass0 (pa_cons (pv 1) pa_nil)))
      (pss_cons (ps_asg (pe_call (ok__law_web T) (hr.mono (by decide)) rfl T.g__law_web T.F__law_web.kp T.b__law_web .nil pass0 (pa_cons (pv 2) (pa_cons pe_int pa_nil))) (kptup K (n := 4) rfl (pgs_cons (pg_name (i := 3) sc_law.nd rfl (by first | exact Or.inl rfl | exact Or.inr rfl)) (pgs_cons (pg_name (i := 4) sc_law.nd rfl (by first | exact Or.inl rfl | exact Or.inr rfl)) (pgs_cons (pg_name (i := 5) sc_law.nd rfl (by first | exact Or.inl rfl | exact Or.inr rfl)) (pgs_cons (pg_name (i := 6) sc_law.nd rfl (by first | exact Or.inl rfl | exact Or.inr rfl)) pgs_nil))))))
      (pss_cons (ps_set (i := 7) sc_law.nd rfl (Or.inl rfl) (pe_make T.mk_Web (ok_Web_init T) (hr.mono (by decide)) rfl T.g_Web T.b_Web_init .nil pass0 (pa_cons (pv 3) (pa_cons (pv 4) (pa_cons (pv 5) (pa_cons (pe_callB (r := rSorted K) cr_sorted (by rfl) T.z_sorted (by decide +kernel) (pa_cons (pv 6) pa_nil)) pa_nil))))))
      (pss_cons (ps_set (i := 8) sc_law.nd rfl (Or.inr rfl) (pe_call (ok_turns_of T) (hr.mono (by decide)) rfl T.g_turns_of T.F_turns_of.kp T.b_turns_of .nil pass0 (pa_cons (pv 7) pa_nil)))
      (pss_cons (ps_set (i := 9) sc_law.nd rfl (Or.inl rfl) (pe_call (ok_order_of T) (hr.mono (by decide)) rfl T.g_order_of T.F_order_of.kp T.b_order_of .nil pass0 (pa_cons (pv 7) pa_nil)))
      (pss_cons (ps_if (PW.pt (pw_or (pt_cmpR op_notN1 (pe_call (ok_not_kept T) (hr.mono (by decide)) rfl T.g_not_kept T.F_not_kept.kp T.b_not_kept .nil pass0 (pa_cons (pv 8) (pa_cons (pv 9) pa_nil))) pe_non (nomark _)) (pw_or1 (pt_not (pt_val (pe_call (ok__law_apart_right T) (hr.mono (by decide)) rfl T.g__law_apart_right T.F__law_apart_right.kp T.b__law_apart_right .nil pass0 (pa_cons (pv 2) (pa_cons (pv 3) (pa_cons (pv 5) pa_nil))))))))) (pss_one (ps_ret pe_bl)) pss_nil)
      (pss_cons (ps_setLc (i := 10) (own := [("_law_k", 11)]) (g := gName 11) (tt := tYes) rfl sc_law.nd rfl rfl (sw_true rfl rfl rfl (by decide +kernel)) (pi_range1 rfl T.z_range (pa_cons (pe_call (ok__law_draw T) (hr.mono (by decide)) rfl T.g__law_draw T.F__law_draw.kp T.b__law_draw .nil pass0 (pa_cons (pv 2) (pa_cons pe_int pa_nil))) pa_nil)) (blkOk_by (own := [("_law_k", 11)]) (N := N_law) (sc := defScope s_law) (by decide +kernel)) (fun _ _ _ _ _ => (pg_name (i := 11) sc_law.nd rfl (by first | exact Or.inl rfl | exact Or.inr rfl))) (fun _ _ _ _ _ => pts_nil) (fun _ _ _ _ _ => (pe_call (ok__law_draw T) (hr.mono (by decide)) rfl T.g__law_draw T.F__law_draw.kp T.b__law_draw .nil pass0 (pa_cons (pv 2) (pa_cons (pe_callB (call_lenOwn (ok_Turns_len T) (hr.mono (by decide)) T.m_Turns_len.at_ T.m_Turns_len.fn T.b_Turns_len pass0) (by rfl) T.z_len PySem.boot_len (pa_cons (pv 8) pa_nil)) pa_nil)))))
      (pss_cons (ps_for PassesOwn.never rfl (klist K (pe_lst (pa_cons (pe_callB (r := rLenS K) call_len_seq (by rfl) T.z_len PySem.boot_len (pa_cons (pv 10) pa_nil)) (pa_cons (pe_call (ok__law_draw T) (hr.mono (by decide)) rfl T.g__law_draw T.F__law_draw.kp T.b__law_draw .nil pass0 (pa_cons (pv 2) (pa_cons (pe_op op_add (pe_callB (r := rLenS K) call_len_seq (by rfl) T.z_len PySem.boot_len (pa_cons (pv 10) pa_nil)) pe_int) pa_nil))) (pa_cons (pe_call (ok__law_draw T) (hr.mono (by decide)) rfl T.g__law_draw T.F__law_draw.kp T.b__law_draw .nil pass0 (pa_cons (pv 2) (pa_cons (pe_op op_add (pe_callB (r := rLenS K) call_len_seq (by rfl) T.z_len PySem.boot_len (pa_cons (pv 10) pa_nil)) pe_int) pa_nil))) pa_nil))))) (pg_name (i := 12) sc_law.nd rfl (by first | exact Or.inl rfl | exact Or.inr rfl)) (pss_one (ps_if (pt_cmpR (r := rNeD K) (op_neD hr.units) (pe_call (ok_drawn_between T) (hr.mono (by decide)) rfl T.g_drawn_between T.F_drawn_between.kp T.b_drawn_between .nil pass0 (pa_cons (pv 8) (pa_cons (pv 9) (pa_cons (pe_slice (r := rSlL K) sl_list (pv 10) po_none (po_some (pv 12))) pa_nil)))) (pe_call (ok_drawn T) (hr.mono (by decide)) rfl T.g_drawn T.F_drawn.kp T.b_drawn .nil pass0 (pa_cons (pv 8) (pa_cons (pe_slice (r := rSlL K) sl_list (pv 10) po_none (po_some (pv 12))) pa_nil))) (nomark _)) (pss_one (ps_ret pe_bl)) pss_nil)))
      (pss_cons (ps_set (i := 13) sc_law.nd rfl (Or.inl rfl) (pe_call (ok_turns_of T) (hr.mono (by decide)) rfl T.g_turns_of T.F_turns_of.kp T.b_turns_of .nil pass0 (pa_cons (pe_make T.mk_Web (ok_Web_init T) (hr.mono (by decide)) rfl T.g_Web T.b_Web_init .nil pass0 (pa_cons (pv 3) (pa_cons (pv 4) (pa_cons (pv 5) (pa_cons (pv 6) pa_nil))))) pa_nil)))
      (pss_one (ps_if (pt_cmpR op_ne (pe_cmpR op_isN1 (pe_call (ok_not_kept T) (hr.mono (by decide)) rfl T.g_not_kept T.F_not_kept.kp T.b_not_kept .nil pass0 (pa_cons (pv 13) (pa_cons (pv 9) pa_nil))) pe_non (nomark _)) (pe_call (ok__law_keeps T) (hr.mono (by decide)) rfl T.g__law_keeps T.F__law_keeps.kp T.b__law_keeps .nil pass0 (pa_cons (pv 13) (pa_cons (pv 9) pa_nil))) (nomark _)) (pss_one (ps_ret pe_bl)) pss_nil))))))))))))
      (pss_one (ps_ret pe_bl)))), ?_⟩
  have e : Ex (fun _ => none) H := fun a o h => nomatch h
  have ri : ∀ F (i : Int), rInt F (.int i) i := fun F i => rfl
  have rn : ∀ F (i : Nat), rNat F (.int (i : Int)) i := fun F i => rfl
  walk_at "n"
  refine x_forL (F := fun _ => none) (xs := ns.take 3 ++ [0, 1]) e (ev_cat (ev_script (n := 3) (ev_var rfl rfl) hS) (ev_lst (el_cons ev_int (el_cons ev_int el_nil)) (by show 2 ≤ sizeLine; decide)) ?_)
    (fun i σ' F' H' => ∃ y1 y2 y3 y4 y5 y6 y7 y8 y9 y10 y11 y12 y13, σ' = [some (.ref sa), y1, y2, y3, y4, y5, y6, y7, y8, y9, y10, y11, y12, y13]) (fun F1 H1 g => ⟨_, _, _, _, _, _, _, _, _, _, _, _, _, rfl⟩) ?_ ?_
  · rw [List.length_take, sizeLine_eq]
    show min 3 ns.length + 2 ≤ _
    omega
  · rintro F1 e1 i c u σ' F' H' hx e2 e3 r ⟨y1, y2, y3, y4, y5, y6, y7, y8, y9, y10, y11, y12, y13, rfl⟩
    cases (show u = _ from r)
    walk_at "n"
    refine ⟨.int c, rfl, F', c, rfl, e3, fun b H2 g2 hb fb s2 => ?_⟩
    have fb2 : F' b = none := fb
    walk_at "n"
    refine x_quadS (c := 201) ((es_callP (x := 6) rfl (fun F H _ _ => ev_lit) ⟨by omega, by omega⟩).mono (P' := fun p => ∃ W : Wb, p = (W.spots, W.ties, W.whole, W.levels)) (fun p h => h) (by omega)) g2.fh fb2 s2 (by omega) fun v1 v2 v3 v4 p F3 H3 g3 fb3 s3 hp r1 r2 r3 r4 => ?_
    obtain ⟨W, rfl⟩ := hp
    have r1 : rNat F3 v1 W.spots := r1
    have r2 : rLst (rPr rNat rNat) F3 v2 W.ties := r2
    have r3 : rNat F3 v3 W.whole := r3
    have r4 : rLst rNat F3 v4 W.levels := r4
    cases (show v1 = _ from r1)
    cases (show v3 = _ from r3)
    have w0 := W.h0
    have w1 := W.h1
    have w4 := W.h4
    have w5 := W.h5
    have hpow := pow_le w1
    have hpos := Nat.two_pow_pos W.spots
    have h6 := W.h6
    let U : Wb := ⟨W.spots, W.ties, W.whole, sortN W.levels, W.h0, W.h1, W.h2, W.h3, W.h4, W.h5, by rw [sort_len]; exact W.h6, fun l hl => W.h7 l (sort_mem.mp hl)⟩
    have hU : U.levels.Pairwise (· ≤ ·) := sort_sorted _
    walk_at "n"
    refine x_set (R := rWeb T.C_Web) (x := U) g3.fh (ev_Web (W := U) (ev_var rfl (ri _ (W.spots : Int))) (ev_var rfl r2) (ev_var rfl (ri _ (W.whole : Int))) (ev_sortL (ev_var rfl r4) (by omega))) fun v5 F5 H5 g5 r5 => ?_
    walk_at "n"
    refine x_set (R := rTurns T.C_Turns) (x := turnsM U) g5.fh (ev_call1 (ev_var rfl r5) trivial) fun v6 F6 H6 g6 r6 => ?_
    walk_at "n"
    refine x_set (R := rOrder T.C_Order) (x := hsM W.spots) g6.fh (ev_call1 (x := U) (ev_var rfl (Mn.mono g6.ff r5)) trivial) fun v7 F7 H7 g7 r7 => ?_
    have g57 := g5.trans (g6.trans g7)
    have r67 := Mn.mono g7.ff r6
    have fb7 : F7 b = none := by obtain ⟨o, ho⟩ := s3.someO; exact g57.nn ho fb3
    have s7 := s3.gr g57
    have gkU := goodK_hs (t := turnsM U) w0 w1 rfl
    have kept := kept_web (W := U) hU
    have hl := hs_least w0 w1
    have hg := hs_greatest w0 w1
    have ho := ord_hs w0 w1
    have htl : (turnsM U).maps.length = W.spots * W.whole := turns_len
    have htl2 : W.spots * W.whole ≤ 200 := Nat.le_trans (Nat.mul_le_mul w1 w5) (by omega)
    have htl1 : 1 ≤ W.spots * W.whole := Nat.mul_pos w0 w4
    walk_at "n"
    refine x_ifS (P := fun b => (b = true ∧ true = false) ∨ (false = false ∧ (!b) = true)) (c := 0 + 1) (ets_or (P1 := fun b => b = false) (P2 := fun b => (!b) = true) (ets_pure fun F8 H8 g8 _ => EvT.is (et_test (ev_notN (ev_call2 (ev_var rfl (Mn.mono g8.ff r67)) (ev_var rfl (Mn.mono g8.ff r7)) gkU))) (by rw [kept]; rfl)) (ets_not (P1 := fun b => b = true) (ets_B (es_callP2 rfl (fun F8 H8 g8 _ => ev_var rfl (rn _ W.spots)) (fun F8 H8 g8 _ => ev_var rfl (rn _ W.whole)) ⟨w0, w1, w4, w5⟩)))) g7.fh fb7 s7 (by omega) (fun z => by simp at z) (fun _ F8 H8 g8 fb8 s8 => ?_)
    have r68 := Mn.mono g8.ff r67
    have r78 := Mn.mono g8.ff r7
    walk_at "n"
    refine x_setS (R := rLst rNat) (c := 81) ((es_lcR (B := 80) (c1 := 1) (c2 := 1) (P1 := fun x => 0 ≤ x ∧ x ≤ 80) (P2 := fun _ x => x < (turnsM U).maps.length) ((EvS.nat (es_callP rfl (fun _ _ _ _ => ev_lit (n := 81)) ⟨by omega, by omega⟩)).mono (by rintro x ⟨m, rfl, h⟩; omega) (Nat.le_refl _)) (fun _ h => h) (by omega) (fun v => rfl) fun i hi F H g _ => es_callP (x := (turnsM U).maps.length) rfl (fun F2 H2 g2 _ => (ev_lenOwn (ev_var rfl (Mn.mono (g.ff.trans g2.ff) r68)) (by omega)).toNat) ⟨by omega, by omega⟩).mono (fun _ h => h) (by omega)) g8.fh fb8 s8 (by omega) fun v9 xs F9 H9 g9 fb9 s9 p9 r9 => ?_
    obtain ⟨_, ⟨h0, h80⟩, hwl, hws⟩ := p9
    have hsg : ∀ s ∈ xs, s < (turnsM U).maps.length := fun s hs => by
      obtain ⟨i, hi⟩ := List.mem_iff_getElem?.mp hs
      exact hws i s hi
    have g89 := g8.ff.trans g9.ff
    have elen : ∀ F10 H10, Gr (M1 b) F9 H9 F10 H10 → F10 b = none → Ev rNat (tCB (rLenS K) (tCons (tVar 10) tNil)) [some (.ref sa), some (.int c), some (.ref b), some (.int (W.spots : Int)), some v2, some (.int (W.whole : Int)), some v4, some v5, some v6, some v7, some v9, y11, y12, y13] F10 H10 xs.length := fun F10 H10 g10 _ => Ev.toNat (ev_lenL (ev_var rfl (Mn.mono g10.ff r9)))
    walk_at "n"
    refine x_forLS (R := rNat) (c := 0 + (1 + (1 + 0))) (es_lst (els_cons (es_pure elen) (els_cons (es_callP (x := xs.length + 1) rfl (fun F10 H10 g10 fa10 => Ev.toNat (Ev.is (ev_add (elen F10 H10 g10 fa10) ev_int) (by omega))) ⟨by omega, by omega⟩) (els_cons (es_callP (x := xs.length + 1) rfl (fun F10 H10 g10 fa10 => Ev.toNat (Ev.is (ev_add (elen F10 H10 g10 fa10) ev_int) (by omega))) ⟨by omega, by omega⟩) els_nil))) (by rintro _ ⟨_, _, rfl, _, _, _, rfl, _, _, _, rfl, _, rfl⟩; show 3 ≤ sizeLine; decide)) g9.fh fb9 s9 (by omega) (fun cs _ F10 H10 g10 fb10 s10 => ⟨fun i σ' F' H' => Gr (M1 b) F10 H10 F' H' ∧ ∃ y11 y12 y13, σ' = [some (.ref sa), some (.int c), some (.ref b), some (.int (W.spots : Int)), some v2, some (.int (W.whole : Int)), some v4, some v5, some v6, some v7, some v9, y11, y12, y13], ⟨.refl g10.fh, _, _, _, rfl⟩, ?_, ?_⟩)
    · rintro i at_ v11 σ' F' H' hi e3 e4 rat ⟨gI, y11, y12, y13, rfl⟩
      cases (show v11 = _ from rat)
      have hk := g89.trans (g10.ff.trans e3)
      have hk9 := g10.ff.trans e3
      have hst : ∀ s ∈ xs.take at_, s < (turnsM U).maps.length := fun s h => hsg s (List.mem_of_mem_take h)
      have hlt : (xs.take at_).length ≤ 1000000 := by rw [List.length_take]; omega
      have esl : ∀ F11 H11, Gr M0 F' H' F11 H11 → Ev (rLst rNat) (tSl (rSlL K) (tVar 10) tNoPart (tPart (tVar 11))) [some (.ref sa), some (.int c), some (.ref b), some (.int (W.spots : Int)), some v2, some (.int (W.whole : Int)), some v4, some v5, some v6, some v7, some v9, some (.int (at_ : Int)), y12, y13] F11 H11 (xs.take at_) := fun F11 H11 g11 =>
        Ev.is (ev_slL (lo := none) (hi := some ((at_ : Nat) : Int)) (ev_var rfl (Mn.mono (hk9.trans g11.ff) r9)) eo_none (eo_some (ev_var rfl (ri _ (at_ : Int))))) cut_to
      walk_at "n"
      refine x_if (b := false) e4 (EvT.is (et_test (ev_neD (R := rOpt (rPr rNat rNat)) (ev_between (ev_var rfl (Mn.mono hk r67)) (ev_var rfl (Mn.mono hk r7)) (esl F' H' (.refl e4)) gkU hl hg ho.lo_lt ho.hi_lt hst hlt kept) (ev_call2 (ev_var rfl (Mn.mono hk r67)) (esl F' H' (.refl e4)) ⟨hst, hlt⟩))) ?_) (fun z => nomatch z) fun _ F12 H12 g12 => ?_
      · rw [between_eq ho kept hst, decide_eq_true rfl]
        rfl
      walk_at "n"
      exact ⟨F12, e3.trans g12.ff, g12.fh, gI.trans g12.up, _, _, _, rfl⟩
    · rintro σ' F' H' e3 e4 ⟨gI, y11, y12, y13, rfl⟩
      have hk := g10.ff.trans e3
      have hk8 := g8.ff.trans (g9.ff.trans hk)
      have r37 := g57.ff.trans hk8
      walk_at "n"
      refine x_set (R := rTurns T.C_Turns) (x := turnsM W) e4 (ev_call1 (ev_Web (W := W) (ev_var rfl (ri _ (W.spots : Int))) (ev_var rfl (Mn.mono r37 r2)) (ev_var rfl (ri _ (W.whole : Int))) (ev_var rfl (Mn.mono r37 r4))) trivial) fun v12 F12 H12 g12 r12 => ?_
      have gkW := goodK_hs (t := turnsM W) w0 w1 rfl
      have r7z := Mn.mono (hk8.trans g12.ff) r7
      walk_at "n"
      refine x_if (b := false) g12.fh (EvT.is (et_test (ev_neB (ev_isN (ev_call2 (ev_var rfl r12) (ev_var rfl r7z) gkW)) (ev_call2 (ev_var rfl r12) (ev_var rfl r7z) gkW))) (by rw [decide_eq_true rfl]; rfl)) (fun z => nomatch z) fun _ F13 H13 g13 => ?_
      walk_at "n"
      exact ⟨F13, e2.trans (g2.ff.trans (g3.ff.trans (r37.trans (g12.ff.trans g13.ff)))), g13.fh, _, _, _, _, _, _, _, _, _, _, _, _, _, rfl⟩
  · rintro σ' F' H' e1 e2 ⟨y1, y2, y3, y4, y5, y6, y7, y8, y9, y10, y11, y12, y13, rfl⟩
    walk_at "n"
    exact x_ret e2 ev_bl fun v F' H' g r => by
      cases (show v = _ from r)
      exact k _

end
theorem all_mk {l : PySem.W.OpenLaw} {w : World} {K : PySem.W.Frag} {h : Heap} {mg : Str → Option Value} {fa f_is_whole f_is_between f_common f_Share_init f_Share_eq f_plus f_sum_of f_with_pivot f_cleared f_solved f_is_map f_Turns_init f_Turns_len f_is_row f_Walk_init f_Walk_len f_walk_of f_reached_from f_closed_sets f_resting f_check_signs f_begin_of f_then f_has_met f_is_pair f_above f_Order_init f_Order_len f_Order_at_most f_Order_least f_Order_greatest f_not_kept f_drawn_between f_is_tie f_are_ties f_are_levels f_Web_init f_is_up f_tied_to f_moved f_turns_of f_order_of f_Draw_init f_Draw_place f_Draw_used f_Draw_elder f_drawn f__law_well f__law_draw f__law_mixed f__law_web f__law_keeps f__law_apart_right f_law C_Draw C_Order C_Share C_Turns C_Walk C_Web q_WORTHS : Addr} {t_MOST_PLACES_orders t_MOST_PLACES_turns t_MOST_PLACES_walks t_MOST_SIGNS t_MOST_SPOTS t_MOST_WHOLE_walks t_MOST_WHOLE_webs : Tok} (X : K.In h) (G : h.Ns mainGlobals mg) (hfa : mg "law" = some (.ref fa))
    {od_is_whole an_is_whole : Option Addr} {sl_is_whole : Array (Option Value)} {oc_is_whole kV_is_whole dc_is_whole pm_is_whole cd_is_whole ct_is_whole : Value}
    {od_is_between an_is_between : Option Addr} {sl_is_between : Array (Option Value)} {oc_is_between kV_is_between dc_is_between pm_is_between cd_is_between ct_is_between : Value}
    {od_common an_common : Option Addr} {sl_common : Array (Option Value)} {oc_common kV_common dc_common pm_common cd_common ct_common : Value}
    {od_Share_init an_Share_init : Option Addr} {sl_Share_init : Array (Option Value)} {oc_Share_init kV_Share_init dc_Share_init pm_Share_init cd_Share_init ct_Share_init : Value}
    {od_Share_eq an_Share_eq : Option Addr} {sl_Share_eq : Array (Option Value)} {oc_Share_eq kV_Share_eq dc_Share_eq pm_Share_eq cd_Share_eq ct_Share_eq : Value}
    {od_plus an_plus : Option Addr} {sl_plus : Array (Option Value)} {oc_plus kV_plus dc_plus pm_plus cd_plus ct_plus : Value}
    {od_sum_of an_sum_of : Option Addr} {sl_sum_of : Array (Option Value)} {oc_sum_of kV_sum_of dc_sum_of pm_sum_of cd_sum_of ct_sum_of : Value}
    {od_with_pivot an_with_pivot : Option Addr} {sl_with_pivot : Array (Option Value)} {oc_with_pivot kV_with_pivot dc_with_pivot pm_with_pivot cd_with_pivot ct_with_pivot : Value}
    {od_cleared an_cleared : Option Addr} {sl_cleared : Array (Option Value)} {oc_cleared kV_cleared dc_cleared pm_cleared cd_cleared ct_cleared : Value}
    {od_solved an_solved : Option Addr} {sl_solved : Array (Option Value)} {oc_solved kV_solved dc_solved pm_solved cd_solved ct_solved : Value}
    {od_is_map an_is_map : Option Addr} {sl_is_map : Array (Option Value)} {oc_is_map kV_is_map dc_is_map pm_is_map cd_is_map ct_is_map : Value}
    {od_Turns_init an_Turns_init : Option Addr} {sl_Turns_init : Array (Option Value)} {oc_Turns_init kV_Turns_init dc_Turns_init pm_Turns_init cd_Turns_init ct_Turns_init : Value}
    {od_Turns_len an_Turns_len : Option Addr} {sl_Turns_len : Array (Option Value)} {oc_Turns_len kV_Turns_len dc_Turns_len pm_Turns_len cd_Turns_len ct_Turns_len : Value}
    {od_is_row an_is_row : Option Addr} {sl_is_row : Array (Option Value)} {oc_is_row kV_is_row dc_is_row pm_is_row cd_is_row ct_is_row : Value}
    {od_Walk_init an_Walk_init : Option Addr} {sl_Walk_init : Array (Option Value)} {oc_Walk_init kV_Walk_init dc_Walk_init pm_Walk_init cd_Walk_init ct_Walk_init : Value}
    {od_Walk_len an_Walk_len : Option Addr} {sl_Walk_len : Array (Option Value)} {oc_Walk_len kV_Walk_len dc_Walk_len pm_Walk_len cd_Walk_len ct_Walk_len : Value}
    {od_walk_of an_walk_of : Option Addr} {sl_walk_of : Array (Option Value)} {oc_walk_of kV_walk_of dc_walk_of pm_walk_of cd_walk_of ct_walk_of : Value}
    {od_reached_from an_reached_from : Option Addr} {sl_reached_from : Array (Option Value)} {oc_reached_from kV_reached_from dc_reached_from pm_reached_from cd_reached_from ct_reached_from : Value}
    {od_closed_sets an_closed_sets : Option Addr} {sl_closed_sets : Array (Option Value)} {oc_closed_sets kV_closed_sets dc_closed_sets pm_closed_sets cd_closed_sets ct_closed_sets : Value}
    {od_resting an_resting : Option Addr} {sl_resting : Array (Option Value)} {oc_resting kV_resting dc_resting pm_resting cd_resting ct_resting : Value}
    {od_check_signs an_check_signs : Option Addr} {sl_check_signs : Array (Option Value)} {oc_check_signs kV_check_signs dc_check_signs pm_check_signs cd_check_signs ct_check_signs : Value}
    {od_begin_of an_begin_of : Option Addr} {sl_begin_of : Array (Option Value)} {oc_begin_of kV_begin_of dc_begin_of pm_begin_of cd_begin_of ct_begin_of : Value}
    {od_then an_then : Option Addr} {sl_then : Array (Option Value)} {oc_then kV_then dc_then pm_then cd_then ct_then : Value}
    {od_has_met an_has_met : Option Addr} {sl_has_met : Array (Option Value)} {oc_has_met kV_has_met dc_has_met pm_has_met cd_has_met ct_has_met : Value}
    {od_is_pair an_is_pair : Option Addr} {sl_is_pair : Array (Option Value)} {oc_is_pair kV_is_pair dc_is_pair pm_is_pair cd_is_pair ct_is_pair : Value}
    {od_above an_above : Option Addr} {sl_above : Array (Option Value)} {oc_above kV_above dc_above pm_above cd_above ct_above : Value}
    {od_Order_init an_Order_init : Option Addr} {sl_Order_init : Array (Option Value)} {oc_Order_init kV_Order_init dc_Order_init pm_Order_init cd_Order_init ct_Order_init : Value}
    {od_Order_len an_Order_len : Option Addr} {sl_Order_len : Array (Option Value)} {oc_Order_len kV_Order_len dc_Order_len pm_Order_len cd_Order_len ct_Order_len : Value}
    {od_Order_at_most an_Order_at_most : Option Addr} {sl_Order_at_most : Array (Option Value)} {oc_Order_at_most kV_Order_at_most dc_Order_at_most pm_Order_at_most cd_Order_at_most ct_Order_at_most : Value}
    {od_Order_least an_Order_least : Option Addr} {sl_Order_least : Array (Option Value)} {oc_Order_least kV_Order_least dc_Order_least pm_Order_least cd_Order_least ct_Order_least : Value}
    {od_Order_greatest an_Order_greatest : Option Addr} {sl_Order_greatest : Array (Option Value)} {oc_Order_greatest kV_Order_greatest dc_Order_greatest pm_Order_greatest cd_Order_greatest ct_Order_greatest : Value}
    {od_not_kept an_not_kept : Option Addr} {sl_not_kept : Array (Option Value)} {oc_not_kept kV_not_kept dc_not_kept pm_not_kept cd_not_kept ct_not_kept : Value}
    {od_drawn_between an_drawn_between : Option Addr} {sl_drawn_between : Array (Option Value)} {oc_drawn_between kV_drawn_between dc_drawn_between pm_drawn_between cd_drawn_between ct_drawn_between : Value}
    {od_is_tie an_is_tie : Option Addr} {sl_is_tie : Array (Option Value)} {oc_is_tie kV_is_tie dc_is_tie pm_is_tie cd_is_tie ct_is_tie : Value}
    {od_are_ties an_are_ties : Option Addr} {sl_are_ties : Array (Option Value)} {oc_are_ties kV_are_ties dc_are_ties pm_are_ties cd_are_ties ct_are_ties : Value}
    {od_are_levels an_are_levels : Option Addr} {sl_are_levels : Array (Option Value)} {oc_are_levels kV_are_levels dc_are_levels pm_are_levels cd_are_levels ct_are_levels : Value}
    {od_Web_init an_Web_init : Option Addr} {sl_Web_init : Array (Option Value)} {oc_Web_init kV_Web_init dc_Web_init pm_Web_init cd_Web_init ct_Web_init : Value}
    {od_is_up an_is_up : Option Addr} {sl_is_up : Array (Option Value)} {oc_is_up kV_is_up dc_is_up pm_is_up cd_is_up ct_is_up : Value}
    {od_tied_to an_tied_to : Option Addr} {sl_tied_to : Array (Option Value)} {oc_tied_to kV_tied_to dc_tied_to pm_tied_to cd_tied_to ct_tied_to : Value}
    {od_moved an_moved : Option Addr} {sl_moved : Array (Option Value)} {oc_moved kV_moved dc_moved pm_moved cd_moved ct_moved : Value}
    {od_turns_of an_turns_of : Option Addr} {sl_turns_of : Array (Option Value)} {oc_turns_of kV_turns_of dc_turns_of pm_turns_of cd_turns_of ct_turns_of : Value}
    {od_order_of an_order_of : Option Addr} {sl_order_of : Array (Option Value)} {oc_order_of kV_order_of dc_order_of pm_order_of cd_order_of ct_order_of : Value}
    {od_Draw_init an_Draw_init : Option Addr} {sl_Draw_init : Array (Option Value)} {oc_Draw_init kV_Draw_init dc_Draw_init pm_Draw_init cd_Draw_init ct_Draw_init : Value}
    {od_Draw_place an_Draw_place : Option Addr} {sl_Draw_place : Array (Option Value)} {oc_Draw_place kV_Draw_place dc_Draw_place pm_Draw_place cd_Draw_place ct_Draw_place : Value}
    {od_Draw_used an_Draw_used : Option Addr} {sl_Draw_used : Array (Option Value)} {oc_Draw_used kV_Draw_used dc_Draw_used pm_Draw_used cd_Draw_used ct_Draw_used : Value}
    {od_Draw_elder an_Draw_elder : Option Addr} {sl_Draw_elder : Array (Option Value)} {oc_Draw_elder kV_Draw_elder dc_Draw_elder pm_Draw_elder cd_Draw_elder ct_Draw_elder : Value}
    {od_drawn an_drawn : Option Addr} {sl_drawn : Array (Option Value)} {oc_drawn kV_drawn dc_drawn pm_drawn cd_drawn ct_drawn : Value}
    {od__law_well an__law_well : Option Addr} {sl__law_well : Array (Option Value)} {oc__law_well kV__law_well dc__law_well pm__law_well cd__law_well ct__law_well : Value}
    {od__law_draw an__law_draw : Option Addr} {sl__law_draw : Array (Option Value)} {oc__law_draw kV__law_draw dc__law_draw pm__law_draw cd__law_draw ct__law_draw : Value}
    {od__law_mixed an__law_mixed : Option Addr} {sl__law_mixed : Array (Option Value)} {oc__law_mixed kV__law_mixed dc__law_mixed pm__law_mixed cd__law_mixed ct__law_mixed : Value}
    {od__law_web an__law_web : Option Addr} {sl__law_web : Array (Option Value)} {oc__law_web kV__law_web dc__law_web pm__law_web cd__law_web ct__law_web : Value}
    {od__law_keeps an__law_keeps : Option Addr} {sl__law_keeps : Array (Option Value)} {oc__law_keeps kV__law_keeps dc__law_keeps pm__law_keeps cd__law_keeps ct__law_keeps : Value}
    {od__law_apart_right an__law_apart_right : Option Addr} {sl__law_apart_right : Array (Option Value)} {oc__law_apart_right kV__law_apart_right dc__law_apart_right pm__law_apart_right cd__law_apart_right ct__law_apart_right : Value}
    {od_law an_law : Option Addr} {sl_law : Array (Option Value)} {oc_law kV_law dc_law pm_law cd_law ct_law : Value}
    {dT_Share_init : Addr} {do_Share_init : Option Addr} {dt0_Share_init : Tok} {dn_Share_init : Nat} {ds_Share_init : Array (Option Value)}
    {od_WORTHS : Option Addr} {t0_WORTHS t1_WORTHS t2_WORTHS t3_WORTHS t4_WORTHS t5_WORTHS : Tok} {n_WORTHS : Nat} {sl_WORTHS : Array (Option Value)}
    (aC_Draw : PySem.W.nsIn K mainGlobals "Draw" = some (some (.ref C_Draw)))
    (aC_Order : PySem.W.nsIn K mainGlobals "Order" = some (some (.ref C_Order)))
    (aC_Share : PySem.W.nsIn K mainGlobals "Share" = some (some (.ref C_Share)))
    (aC_Turns : PySem.W.nsIn K mainGlobals "Turns" = some (some (.ref C_Turns)))
    (aC_Walk : PySem.W.nsIn K mainGlobals "Walk" = some (some (.ref C_Walk)))
    (aC_Web : PySem.W.nsIn K mainGlobals "Web" = some (some (.ref C_Web)))
    (a_is_whole : PySem.W.nsIn K mainGlobals "is_whole" = some (some (.ref f_is_whole)))
    (l_is_whole : K.lookup f_is_whole = some ⟨oc_is_whole, od_is_whole, .func (PySem.W.fnOf "is_whole" "is_whole" (defArgs s_is_whole) (defBody s_is_whole) (defScope s_is_whole) .none kV_is_whole dc_is_whole pm_is_whole an_is_whole cd_is_whole ct_is_whole), sl_is_whole⟩)
    (c_is_whole : PySem.W.codeIn K cd_is_whole "is_whole" = true)
    (k_is_whole : PySem.W.keepIn K (.ref f_is_whole) = true)
    (a_is_between : PySem.W.nsIn K mainGlobals "is_between" = some (some (.ref f_is_between)))
    (l_is_between : K.lookup f_is_between = some ⟨oc_is_between, od_is_between, .func (PySem.W.fnOf "is_between" "is_between" (defArgs s_is_between) (defBody s_is_between) (defScope s_is_between) .none kV_is_between dc_is_between pm_is_between an_is_between cd_is_between ct_is_between), sl_is_between⟩)
    (c_is_between : PySem.W.codeIn K cd_is_between "is_between" = true)
    (k_is_between : PySem.W.keepIn K (.ref f_is_between) = true)
    (a_common : PySem.W.nsIn K mainGlobals "common" = some (some (.ref f_common)))
    (l_common : K.lookup f_common = some ⟨oc_common, od_common, .func (PySem.W.fnOf "common" "common" (defArgs s_common) (defBody s_common) (defScope s_common) .none kV_common dc_common pm_common an_common cd_common ct_common), sl_common⟩)
    (c_common : PySem.W.codeIn K cd_common "common" = true)
    (k_common : PySem.W.keepIn K (.ref f_common) = true)
    (a_Share_init : PySem.W.findIn K (.ref C_Share) "__init__" = some (some (.ref f_Share_init)))
    (i_Share_init : PySem.W.isFn K (.ref f_Share_init) = true)
    (l_Share_init : K.lookup f_Share_init = some ⟨oc_Share_init, od_Share_init, .func (PySem.W.fnOf "__init__" "Share.__init__" (defArgs s_Share_init) (defBody s_Share_init) (defScope s_Share_init) (.ref dT_Share_init) kV_Share_init dc_Share_init pm_Share_init an_Share_init cd_Share_init ct_Share_init), sl_Share_init⟩)
    (dl_Share_init : K.lookup dT_Share_init = some ⟨.type "tuple", do_Share_init, .seq #[.int 1 dt0_Share_init] dn_Share_init, ds_Share_init⟩)
    (c_Share_init : PySem.W.codeIn K cd_Share_init "Share.__init__" = true)
    (k_Share_init : PySem.W.keepIn K (.ref f_Share_init) = true)
    (a_Share_eq : PySem.W.findIn K (.ref C_Share) "__eq__" = some (some (.ref f_Share_eq)))
    (i_Share_eq : PySem.W.isFn K (.ref f_Share_eq) = true)
    (l_Share_eq : K.lookup f_Share_eq = some ⟨oc_Share_eq, od_Share_eq, .func (PySem.W.fnOf "__eq__" "Share.__eq__" (defArgs s_Share_eq) (defBody s_Share_eq) (defScope s_Share_eq) .none kV_Share_eq dc_Share_eq pm_Share_eq an_Share_eq cd_Share_eq ct_Share_eq), sl_Share_eq⟩)
    (c_Share_eq : PySem.W.codeIn K cd_Share_eq "Share.__eq__" = true)
    (k_Share_eq : PySem.W.keepIn K (.ref f_Share_eq) = true)
    (a_plus : PySem.W.nsIn K mainGlobals "plus" = some (some (.ref f_plus)))
    (l_plus : K.lookup f_plus = some ⟨oc_plus, od_plus, .func (PySem.W.fnOf "plus" "plus" (defArgs s_plus) (defBody s_plus) (defScope s_plus) .none kV_plus dc_plus pm_plus an_plus cd_plus ct_plus), sl_plus⟩)
    (c_plus : PySem.W.codeIn K cd_plus "plus" = true)
    (k_plus : PySem.W.keepIn K (.ref f_plus) = true)
    (a_sum_of : PySem.W.nsIn K mainGlobals "sum_of" = some (some (.ref f_sum_of)))
    (l_sum_of : K.lookup f_sum_of = some ⟨oc_sum_of, od_sum_of, .func (PySem.W.fnOf "sum_of" "sum_of" (defArgs s_sum_of) (defBody s_sum_of) (defScope s_sum_of) .none kV_sum_of dc_sum_of pm_sum_of an_sum_of cd_sum_of ct_sum_of), sl_sum_of⟩)
    (c_sum_of : PySem.W.codeIn K cd_sum_of "sum_of" = true)
    (k_sum_of : PySem.W.keepIn K (.ref f_sum_of) = true)
    (a_with_pivot : PySem.W.nsIn K mainGlobals "with_pivot" = some (some (.ref f_with_pivot)))
    (l_with_pivot : K.lookup f_with_pivot = some ⟨oc_with_pivot, od_with_pivot, .func (PySem.W.fnOf "with_pivot" "with_pivot" (defArgs s_with_pivot) (defBody s_with_pivot) (defScope s_with_pivot) .none kV_with_pivot dc_with_pivot pm_with_pivot an_with_pivot cd_with_pivot ct_with_pivot), sl_with_pivot⟩)
    (c_with_pivot : PySem.W.codeIn K cd_with_pivot "with_pivot" = true)
    (k_with_pivot : PySem.W.keepIn K (.ref f_with_pivot) = true)
    (a_cleared : PySem.W.nsIn K mainGlobals "cleared" = some (some (.ref f_cleared)))
    (l_cleared : K.lookup f_cleared = some ⟨oc_cleared, od_cleared, .func (PySem.W.fnOf "cleared" "cleared" (defArgs s_cleared) (defBody s_cleared) (defScope s_cleared) .none kV_cleared dc_cleared pm_cleared an_cleared cd_cleared ct_cleared), sl_cleared⟩)
    (c_cleared : PySem.W.codeIn K cd_cleared "cleared" = true)
    (k_cleared : PySem.W.keepIn K (.ref f_cleared) = true)
    (a_solved : PySem.W.nsIn K mainGlobals "solved" = some (some (.ref f_solved)))
    (l_solved : K.lookup f_solved = some ⟨oc_solved, od_solved, .func (PySem.W.fnOf "solved" "solved" (defArgs s_solved) (defBody s_solved) (defScope s_solved) .none kV_solved dc_solved pm_solved an_solved cd_solved ct_solved), sl_solved⟩)
    (c_solved : PySem.W.codeIn K cd_solved "solved" = true)
    (k_solved : PySem.W.keepIn K (.ref f_solved) = true)
    (a_is_map : PySem.W.nsIn K mainGlobals "is_map" = some (some (.ref f_is_map)))
    (l_is_map : K.lookup f_is_map = some ⟨oc_is_map, od_is_map, .func (PySem.W.fnOf "is_map" "is_map" (defArgs s_is_map) (defBody s_is_map) (defScope s_is_map) .none kV_is_map dc_is_map pm_is_map an_is_map cd_is_map ct_is_map), sl_is_map⟩)
    (c_is_map : PySem.W.codeIn K cd_is_map "is_map" = true)
    (k_is_map : PySem.W.keepIn K (.ref f_is_map) = true)
    (a_Turns_init : PySem.W.findIn K (.ref C_Turns) "__init__" = some (some (.ref f_Turns_init)))
    (i_Turns_init : PySem.W.isFn K (.ref f_Turns_init) = true)
    (l_Turns_init : K.lookup f_Turns_init = some ⟨oc_Turns_init, od_Turns_init, .func (PySem.W.fnOf "__init__" "Turns.__init__" (defArgs s_Turns_init) (defBody s_Turns_init) (defScope s_Turns_init) .none kV_Turns_init dc_Turns_init pm_Turns_init an_Turns_init cd_Turns_init ct_Turns_init), sl_Turns_init⟩)
    (c_Turns_init : PySem.W.codeIn K cd_Turns_init "Turns.__init__" = true)
    (k_Turns_init : PySem.W.keepIn K (.ref f_Turns_init) = true)
    (a_Turns_len : PySem.W.findIn K (.ref C_Turns) "__len__" = some (some (.ref f_Turns_len)))
    (i_Turns_len : PySem.W.isFn K (.ref f_Turns_len) = true)
    (l_Turns_len : K.lookup f_Turns_len = some ⟨oc_Turns_len, od_Turns_len, .func (PySem.W.fnOf "__len__" "Turns.__len__" (defArgs s_Turns_len) (defBody s_Turns_len) (defScope s_Turns_len) .none kV_Turns_len dc_Turns_len pm_Turns_len an_Turns_len cd_Turns_len ct_Turns_len), sl_Turns_len⟩)
    (c_Turns_len : PySem.W.codeIn K cd_Turns_len "Turns.__len__" = true)
    (k_Turns_len : PySem.W.keepIn K (.ref f_Turns_len) = true)
    (a_is_row : PySem.W.nsIn K mainGlobals "is_row" = some (some (.ref f_is_row)))
    (l_is_row : K.lookup f_is_row = some ⟨oc_is_row, od_is_row, .func (PySem.W.fnOf "is_row" "is_row" (defArgs s_is_row) (defBody s_is_row) (defScope s_is_row) .none kV_is_row dc_is_row pm_is_row an_is_row cd_is_row ct_is_row), sl_is_row⟩)
    (c_is_row : PySem.W.codeIn K cd_is_row "is_row" = true)
    (k_is_row : PySem.W.keepIn K (.ref f_is_row) = true)
    (a_Walk_init : PySem.W.findIn K (.ref C_Walk) "__init__" = some (some (.ref f_Walk_init)))
    (i_Walk_init : PySem.W.isFn K (.ref f_Walk_init) = true)
    (l_Walk_init : K.lookup f_Walk_init = some ⟨oc_Walk_init, od_Walk_init, .func (PySem.W.fnOf "__init__" "Walk.__init__" (defArgs s_Walk_init) (defBody s_Walk_init) (defScope s_Walk_init) .none kV_Walk_init dc_Walk_init pm_Walk_init an_Walk_init cd_Walk_init ct_Walk_init), sl_Walk_init⟩)
    (c_Walk_init : PySem.W.codeIn K cd_Walk_init "Walk.__init__" = true)
    (k_Walk_init : PySem.W.keepIn K (.ref f_Walk_init) = true)
    (a_Walk_len : PySem.W.findIn K (.ref C_Walk) "__len__" = some (some (.ref f_Walk_len)))
    (i_Walk_len : PySem.W.isFn K (.ref f_Walk_len) = true)
    (l_Walk_len : K.lookup f_Walk_len = some ⟨oc_Walk_len, od_Walk_len, .func (PySem.W.fnOf "__len__" "Walk.__len__" (defArgs s_Walk_len) (defBody s_Walk_len) (defScope s_Walk_len) .none kV_Walk_len dc_Walk_len pm_Walk_len an_Walk_len cd_Walk_len ct_Walk_len), sl_Walk_len⟩)
    (c_Walk_len : PySem.W.codeIn K cd_Walk_len "Walk.__len__" = true)
    (k_Walk_len : PySem.W.keepIn K (.ref f_Walk_len) = true)
    (a_walk_of : PySem.W.nsIn K mainGlobals "walk_of" = some (some (.ref f_walk_of)))
    (l_walk_of : K.lookup f_walk_of = some ⟨oc_walk_of, od_walk_of, .func (PySem.W.fnOf "walk_of" "walk_of" (defArgs s_walk_of) (defBody s_walk_of) (defScope s_walk_of) .none kV_walk_of dc_walk_of pm_walk_of an_walk_of cd_walk_of ct_walk_of), sl_walk_of⟩)
    (c_walk_of : PySem.W.codeIn K cd_walk_of "walk_of" = true)
    (k_walk_of : PySem.W.keepIn K (.ref f_walk_of) = true)
    (a_reached_from : PySem.W.nsIn K mainGlobals "reached_from" = some (some (.ref f_reached_from)))
    (l_reached_from : K.lookup f_reached_from = some ⟨oc_reached_from, od_reached_from, .func (PySem.W.fnOf "reached_from" "reached_from" (defArgs s_reached_from) (defBody s_reached_from) (defScope s_reached_from) .none kV_reached_from dc_reached_from pm_reached_from an_reached_from cd_reached_from ct_reached_from), sl_reached_from⟩)
    (c_reached_from : PySem.W.codeIn K cd_reached_from "reached_from" = true)
    (k_reached_from : PySem.W.keepIn K (.ref f_reached_from) = true)
    (a_closed_sets : PySem.W.nsIn K mainGlobals "closed_sets" = some (some (.ref f_closed_sets)))
    (l_closed_sets : K.lookup f_closed_sets = some ⟨oc_closed_sets, od_closed_sets, .func (PySem.W.fnOf "closed_sets" "closed_sets" (defArgs s_closed_sets) (defBody s_closed_sets) (defScope s_closed_sets) .none kV_closed_sets dc_closed_sets pm_closed_sets an_closed_sets cd_closed_sets ct_closed_sets), sl_closed_sets⟩)
    (c_closed_sets : PySem.W.codeIn K cd_closed_sets "closed_sets" = true)
    (k_closed_sets : PySem.W.keepIn K (.ref f_closed_sets) = true)
    (a_resting : PySem.W.nsIn K mainGlobals "resting" = some (some (.ref f_resting)))
    (l_resting : K.lookup f_resting = some ⟨oc_resting, od_resting, .func (PySem.W.fnOf "resting" "resting" (defArgs s_resting) (defBody s_resting) (defScope s_resting) .none kV_resting dc_resting pm_resting an_resting cd_resting ct_resting), sl_resting⟩)
    (c_resting : PySem.W.codeIn K cd_resting "resting" = true)
    (k_resting : PySem.W.keepIn K (.ref f_resting) = true)
    (a_check_signs : PySem.W.nsIn K mainGlobals "check_signs" = some (some (.ref f_check_signs)))
    (l_check_signs : K.lookup f_check_signs = some ⟨oc_check_signs, od_check_signs, .func (PySem.W.fnOf "check_signs" "check_signs" (defArgs s_check_signs) (defBody s_check_signs) (defScope s_check_signs) .none kV_check_signs dc_check_signs pm_check_signs an_check_signs cd_check_signs ct_check_signs), sl_check_signs⟩)
    (c_check_signs : PySem.W.codeIn K cd_check_signs "check_signs" = true)
    (k_check_signs : PySem.W.keepIn K (.ref f_check_signs) = true)
    (a_begin_of : PySem.W.nsIn K mainGlobals "begin_of" = some (some (.ref f_begin_of)))
    (l_begin_of : K.lookup f_begin_of = some ⟨oc_begin_of, od_begin_of, .func (PySem.W.fnOf "begin_of" "begin_of" (defArgs s_begin_of) (defBody s_begin_of) (defScope s_begin_of) .none kV_begin_of dc_begin_of pm_begin_of an_begin_of cd_begin_of ct_begin_of), sl_begin_of⟩)
    (c_begin_of : PySem.W.codeIn K cd_begin_of "begin_of" = true)
    (k_begin_of : PySem.W.keepIn K (.ref f_begin_of) = true)
    (a_then : PySem.W.nsIn K mainGlobals "then" = some (some (.ref f_then)))
    (l_then : K.lookup f_then = some ⟨oc_then, od_then, .func (PySem.W.fnOf "then" "then" (defArgs s_then) (defBody s_then) (defScope s_then) .none kV_then dc_then pm_then an_then cd_then ct_then), sl_then⟩)
    (c_then : PySem.W.codeIn K cd_then "then" = true)
    (k_then : PySem.W.keepIn K (.ref f_then) = true)
    (a_has_met : PySem.W.nsIn K mainGlobals "has_met" = some (some (.ref f_has_met)))
    (l_has_met : K.lookup f_has_met = some ⟨oc_has_met, od_has_met, .func (PySem.W.fnOf "has_met" "has_met" (defArgs s_has_met) (defBody s_has_met) (defScope s_has_met) .none kV_has_met dc_has_met pm_has_met an_has_met cd_has_met ct_has_met), sl_has_met⟩)
    (c_has_met : PySem.W.codeIn K cd_has_met "has_met" = true)
    (k_has_met : PySem.W.keepIn K (.ref f_has_met) = true)
    (a_is_pair : PySem.W.nsIn K mainGlobals "is_pair" = some (some (.ref f_is_pair)))
    (l_is_pair : K.lookup f_is_pair = some ⟨oc_is_pair, od_is_pair, .func (PySem.W.fnOf "is_pair" "is_pair" (defArgs s_is_pair) (defBody s_is_pair) (defScope s_is_pair) .none kV_is_pair dc_is_pair pm_is_pair an_is_pair cd_is_pair ct_is_pair), sl_is_pair⟩)
    (c_is_pair : PySem.W.codeIn K cd_is_pair "is_pair" = true)
    (k_is_pair : PySem.W.keepIn K (.ref f_is_pair) = true)
    (a_above : PySem.W.nsIn K mainGlobals "above" = some (some (.ref f_above)))
    (l_above : K.lookup f_above = some ⟨oc_above, od_above, .func (PySem.W.fnOf "above" "above" (defArgs s_above) (defBody s_above) (defScope s_above) .none kV_above dc_above pm_above an_above cd_above ct_above), sl_above⟩)
    (c_above : PySem.W.codeIn K cd_above "above" = true)
    (k_above : PySem.W.keepIn K (.ref f_above) = true)
    (a_Order_init : PySem.W.findIn K (.ref C_Order) "__init__" = some (some (.ref f_Order_init)))
    (i_Order_init : PySem.W.isFn K (.ref f_Order_init) = true)
    (l_Order_init : K.lookup f_Order_init = some ⟨oc_Order_init, od_Order_init, .func (PySem.W.fnOf "__init__" "Order.__init__" (defArgs s_Order_init) (defBody s_Order_init) (defScope s_Order_init) .none kV_Order_init dc_Order_init pm_Order_init an_Order_init cd_Order_init ct_Order_init), sl_Order_init⟩)
    (c_Order_init : PySem.W.codeIn K cd_Order_init "Order.__init__" = true)
    (k_Order_init : PySem.W.keepIn K (.ref f_Order_init) = true)
    (a_Order_len : PySem.W.findIn K (.ref C_Order) "__len__" = some (some (.ref f_Order_len)))
    (i_Order_len : PySem.W.isFn K (.ref f_Order_len) = true)
    (l_Order_len : K.lookup f_Order_len = some ⟨oc_Order_len, od_Order_len, .func (PySem.W.fnOf "__len__" "Order.__len__" (defArgs s_Order_len) (defBody s_Order_len) (defScope s_Order_len) .none kV_Order_len dc_Order_len pm_Order_len an_Order_len cd_Order_len ct_Order_len), sl_Order_len⟩)
    (c_Order_len : PySem.W.codeIn K cd_Order_len "Order.__len__" = true)
    (k_Order_len : PySem.W.keepIn K (.ref f_Order_len) = true)
    (a_Order_at_most : PySem.W.findIn K (.ref C_Order) "at_most" = some (some (.ref f_Order_at_most)))
    (i_Order_at_most : PySem.W.isFn K (.ref f_Order_at_most) = true)
    (l_Order_at_most : K.lookup f_Order_at_most = some ⟨oc_Order_at_most, od_Order_at_most, .func (PySem.W.fnOf "at_most" "Order.at_most" (defArgs s_Order_at_most) (defBody s_Order_at_most) (defScope s_Order_at_most) .none kV_Order_at_most dc_Order_at_most pm_Order_at_most an_Order_at_most cd_Order_at_most ct_Order_at_most), sl_Order_at_most⟩)
    (c_Order_at_most : PySem.W.codeIn K cd_Order_at_most "Order.at_most" = true)
    (k_Order_at_most : PySem.W.keepIn K (.ref f_Order_at_most) = true)
    (a_Order_least : PySem.W.findIn K (.ref C_Order) "least" = some (some (.ref f_Order_least)))
    (i_Order_least : PySem.W.isFn K (.ref f_Order_least) = true)
    (l_Order_least : K.lookup f_Order_least = some ⟨oc_Order_least, od_Order_least, .func (PySem.W.fnOf "least" "Order.least" (defArgs s_Order_least) (defBody s_Order_least) (defScope s_Order_least) .none kV_Order_least dc_Order_least pm_Order_least an_Order_least cd_Order_least ct_Order_least), sl_Order_least⟩)
    (c_Order_least : PySem.W.codeIn K cd_Order_least "Order.least" = true)
    (k_Order_least : PySem.W.keepIn K (.ref f_Order_least) = true)
    (a_Order_greatest : PySem.W.findIn K (.ref C_Order) "greatest" = some (some (.ref f_Order_greatest)))
    (i_Order_greatest : PySem.W.isFn K (.ref f_Order_greatest) = true)
    (l_Order_greatest : K.lookup f_Order_greatest = some ⟨oc_Order_greatest, od_Order_greatest, .func (PySem.W.fnOf "greatest" "Order.greatest" (defArgs s_Order_greatest) (defBody s_Order_greatest) (defScope s_Order_greatest) .none kV_Order_greatest dc_Order_greatest pm_Order_greatest an_Order_greatest cd_Order_greatest ct_Order_greatest), sl_Order_greatest⟩)
    (c_Order_greatest : PySem.W.codeIn K cd_Order_greatest "Order.greatest" = true)
    (k_Order_greatest : PySem.W.keepIn K (.ref f_Order_greatest) = true)
    (a_not_kept : PySem.W.nsIn K mainGlobals "not_kept" = some (some (.ref f_not_kept)))
    (l_not_kept : K.lookup f_not_kept = some ⟨oc_not_kept, od_not_kept, .func (PySem.W.fnOf "not_kept" "not_kept" (defArgs s_not_kept) (defBody s_not_kept) (defScope s_not_kept) .none kV_not_kept dc_not_kept pm_not_kept an_not_kept cd_not_kept ct_not_kept), sl_not_kept⟩)
    (c_not_kept : PySem.W.codeIn K cd_not_kept "not_kept" = true)
    (k_not_kept : PySem.W.keepIn K (.ref f_not_kept) = true)
    (a_drawn_between : PySem.W.nsIn K mainGlobals "drawn_between" = some (some (.ref f_drawn_between)))
    (l_drawn_between : K.lookup f_drawn_between = some ⟨oc_drawn_between, od_drawn_between, .func (PySem.W.fnOf "drawn_between" "drawn_between" (defArgs s_drawn_between) (defBody s_drawn_between) (defScope s_drawn_between) .none kV_drawn_between dc_drawn_between pm_drawn_between an_drawn_between cd_drawn_between ct_drawn_between), sl_drawn_between⟩)
    (c_drawn_between : PySem.W.codeIn K cd_drawn_between "drawn_between" = true)
    (k_drawn_between : PySem.W.keepIn K (.ref f_drawn_between) = true)
    (a_is_tie : PySem.W.nsIn K mainGlobals "is_tie" = some (some (.ref f_is_tie)))
    (l_is_tie : K.lookup f_is_tie = some ⟨oc_is_tie, od_is_tie, .func (PySem.W.fnOf "is_tie" "is_tie" (defArgs s_is_tie) (defBody s_is_tie) (defScope s_is_tie) .none kV_is_tie dc_is_tie pm_is_tie an_is_tie cd_is_tie ct_is_tie), sl_is_tie⟩)
    (c_is_tie : PySem.W.codeIn K cd_is_tie "is_tie" = true)
    (k_is_tie : PySem.W.keepIn K (.ref f_is_tie) = true)
    (a_are_ties : PySem.W.nsIn K mainGlobals "are_ties" = some (some (.ref f_are_ties)))
    (l_are_ties : K.lookup f_are_ties = some ⟨oc_are_ties, od_are_ties, .func (PySem.W.fnOf "are_ties" "are_ties" (defArgs s_are_ties) (defBody s_are_ties) (defScope s_are_ties) .none kV_are_ties dc_are_ties pm_are_ties an_are_ties cd_are_ties ct_are_ties), sl_are_ties⟩)
    (c_are_ties : PySem.W.codeIn K cd_are_ties "are_ties" = true)
    (k_are_ties : PySem.W.keepIn K (.ref f_are_ties) = true)
    (a_are_levels : PySem.W.nsIn K mainGlobals "are_levels" = some (some (.ref f_are_levels)))
    (l_are_levels : K.lookup f_are_levels = some ⟨oc_are_levels, od_are_levels, .func (PySem.W.fnOf "are_levels" "are_levels" (defArgs s_are_levels) (defBody s_are_levels) (defScope s_are_levels) .none kV_are_levels dc_are_levels pm_are_levels an_are_levels cd_are_levels ct_are_levels), sl_are_levels⟩)
    (c_are_levels : PySem.W.codeIn K cd_are_levels "are_levels" = true)
    (k_are_levels : PySem.W.keepIn K (.ref f_are_levels) = true)
    (a_Web_init : PySem.W.findIn K (.ref C_Web) "__init__" = some (some (.ref f_Web_init)))
    (i_Web_init : PySem.W.isFn K (.ref f_Web_init) = true)
    (l_Web_init : K.lookup f_Web_init = some ⟨oc_Web_init, od_Web_init, .func (PySem.W.fnOf "__init__" "Web.__init__" (defArgs s_Web_init) (defBody s_Web_init) (defScope s_Web_init) .none kV_Web_init dc_Web_init pm_Web_init an_Web_init cd_Web_init ct_Web_init), sl_Web_init⟩)
    (c_Web_init : PySem.W.codeIn K cd_Web_init "Web.__init__" = true)
    (k_Web_init : PySem.W.keepIn K (.ref f_Web_init) = true)
    (a_is_up : PySem.W.nsIn K mainGlobals "is_up" = some (some (.ref f_is_up)))
    (l_is_up : K.lookup f_is_up = some ⟨oc_is_up, od_is_up, .func (PySem.W.fnOf "is_up" "is_up" (defArgs s_is_up) (defBody s_is_up) (defScope s_is_up) .none kV_is_up dc_is_up pm_is_up an_is_up cd_is_up ct_is_up), sl_is_up⟩)
    (c_is_up : PySem.W.codeIn K cd_is_up "is_up" = true)
    (k_is_up : PySem.W.keepIn K (.ref f_is_up) = true)
    (a_tied_to : PySem.W.nsIn K mainGlobals "tied_to" = some (some (.ref f_tied_to)))
    (l_tied_to : K.lookup f_tied_to = some ⟨oc_tied_to, od_tied_to, .func (PySem.W.fnOf "tied_to" "tied_to" (defArgs s_tied_to) (defBody s_tied_to) (defScope s_tied_to) .none kV_tied_to dc_tied_to pm_tied_to an_tied_to cd_tied_to ct_tied_to), sl_tied_to⟩)
    (c_tied_to : PySem.W.codeIn K cd_tied_to "tied_to" = true)
    (k_tied_to : PySem.W.keepIn K (.ref f_tied_to) = true)
    (a_moved : PySem.W.nsIn K mainGlobals "moved" = some (some (.ref f_moved)))
    (l_moved : K.lookup f_moved = some ⟨oc_moved, od_moved, .func (PySem.W.fnOf "moved" "moved" (defArgs s_moved) (defBody s_moved) (defScope s_moved) .none kV_moved dc_moved pm_moved an_moved cd_moved ct_moved), sl_moved⟩)
    (c_moved : PySem.W.codeIn K cd_moved "moved" = true)
    (k_moved : PySem.W.keepIn K (.ref f_moved) = true)
    (a_turns_of : PySem.W.nsIn K mainGlobals "turns_of" = some (some (.ref f_turns_of)))
    (l_turns_of : K.lookup f_turns_of = some ⟨oc_turns_of, od_turns_of, .func (PySem.W.fnOf "turns_of" "turns_of" (defArgs s_turns_of) (defBody s_turns_of) (defScope s_turns_of) .none kV_turns_of dc_turns_of pm_turns_of an_turns_of cd_turns_of ct_turns_of), sl_turns_of⟩)
    (c_turns_of : PySem.W.codeIn K cd_turns_of "turns_of" = true)
    (k_turns_of : PySem.W.keepIn K (.ref f_turns_of) = true)
    (a_order_of : PySem.W.nsIn K mainGlobals "order_of" = some (some (.ref f_order_of)))
    (l_order_of : K.lookup f_order_of = some ⟨oc_order_of, od_order_of, .func (PySem.W.fnOf "order_of" "order_of" (defArgs s_order_of) (defBody s_order_of) (defScope s_order_of) .none kV_order_of dc_order_of pm_order_of an_order_of cd_order_of ct_order_of), sl_order_of⟩)
    (c_order_of : PySem.W.codeIn K cd_order_of "order_of" = true)
    (k_order_of : PySem.W.keepIn K (.ref f_order_of) = true)
    (a_Draw_init : PySem.W.findIn K (.ref C_Draw) "__init__" = some (some (.ref f_Draw_init)))
    (i_Draw_init : PySem.W.isFn K (.ref f_Draw_init) = true)
    (l_Draw_init : K.lookup f_Draw_init = some ⟨oc_Draw_init, od_Draw_init, .func (PySem.W.fnOf "__init__" "Draw.__init__" (defArgs s_Draw_init) (defBody s_Draw_init) (defScope s_Draw_init) .none kV_Draw_init dc_Draw_init pm_Draw_init an_Draw_init cd_Draw_init ct_Draw_init), sl_Draw_init⟩)
    (c_Draw_init : PySem.W.codeIn K cd_Draw_init "Draw.__init__" = true)
    (k_Draw_init : PySem.W.keepIn K (.ref f_Draw_init) = true)
    (a_Draw_place : PySem.W.findIn K (.ref C_Draw) "place" = some (some (.ref f_Draw_place)))
    (i_Draw_place : PySem.W.isFn K (.ref f_Draw_place) = true)
    (l_Draw_place : K.lookup f_Draw_place = some ⟨oc_Draw_place, od_Draw_place, .func (PySem.W.fnOf "place" "Draw.place" (defArgs s_Draw_place) (defBody s_Draw_place) (defScope s_Draw_place) .none kV_Draw_place dc_Draw_place pm_Draw_place an_Draw_place cd_Draw_place ct_Draw_place), sl_Draw_place⟩)
    (c_Draw_place : PySem.W.codeIn K cd_Draw_place "Draw.place" = true)
    (k_Draw_place : PySem.W.keepIn K (.ref f_Draw_place) = true)
    (a_Draw_used : PySem.W.findIn K (.ref C_Draw) "used" = some (some (.ref f_Draw_used)))
    (i_Draw_used : PySem.W.isFn K (.ref f_Draw_used) = true)
    (l_Draw_used : K.lookup f_Draw_used = some ⟨oc_Draw_used, od_Draw_used, .func (PySem.W.fnOf "used" "Draw.used" (defArgs s_Draw_used) (defBody s_Draw_used) (defScope s_Draw_used) .none kV_Draw_used dc_Draw_used pm_Draw_used an_Draw_used cd_Draw_used ct_Draw_used), sl_Draw_used⟩)
    (c_Draw_used : PySem.W.codeIn K cd_Draw_used "Draw.used" = true)
    (k_Draw_used : PySem.W.keepIn K (.ref f_Draw_used) = true)
    (a_Draw_elder : PySem.W.findIn K (.ref C_Draw) "elder" = some (some (.ref f_Draw_elder)))
    (i_Draw_elder : PySem.W.isFn K (.ref f_Draw_elder) = true)
    (l_Draw_elder : K.lookup f_Draw_elder = some ⟨oc_Draw_elder, od_Draw_elder, .func (PySem.W.fnOf "elder" "Draw.elder" (defArgs s_Draw_elder) (defBody s_Draw_elder) (defScope s_Draw_elder) .none kV_Draw_elder dc_Draw_elder pm_Draw_elder an_Draw_elder cd_Draw_elder ct_Draw_elder), sl_Draw_elder⟩)
    (c_Draw_elder : PySem.W.codeIn K cd_Draw_elder "Draw.elder" = true)
    (k_Draw_elder : PySem.W.keepIn K (.ref f_Draw_elder) = true)
    (a_drawn : PySem.W.nsIn K mainGlobals "drawn" = some (some (.ref f_drawn)))
    (l_drawn : K.lookup f_drawn = some ⟨oc_drawn, od_drawn, .func (PySem.W.fnOf "drawn" "drawn" (defArgs s_drawn) (defBody s_drawn) (defScope s_drawn) .none kV_drawn dc_drawn pm_drawn an_drawn cd_drawn ct_drawn), sl_drawn⟩)
    (c_drawn : PySem.W.codeIn K cd_drawn "drawn" = true)
    (k_drawn : PySem.W.keepIn K (.ref f_drawn) = true)
    (a__law_well : PySem.W.nsIn K mainGlobals "_law_well" = some (some (.ref f__law_well)))
    (l__law_well : K.lookup f__law_well = some ⟨oc__law_well, od__law_well, .func (PySem.W.fnOf "_law_well" "_law_well" (defArgs s__law_well) (defBody s__law_well) (defScope s__law_well) .none kV__law_well dc__law_well pm__law_well an__law_well cd__law_well ct__law_well), sl__law_well⟩)
    (c__law_well : PySem.W.codeIn K cd__law_well "_law_well" = true)
    (k__law_well : PySem.W.keepIn K (.ref f__law_well) = true)
    (a__law_draw : PySem.W.nsIn K mainGlobals "_law_draw" = some (some (.ref f__law_draw)))
    (l__law_draw : K.lookup f__law_draw = some ⟨oc__law_draw, od__law_draw, .func (PySem.W.fnOf "_law_draw" "_law_draw" (defArgs s__law_draw) (defBody s__law_draw) (defScope s__law_draw) .none kV__law_draw dc__law_draw pm__law_draw an__law_draw cd__law_draw ct__law_draw), sl__law_draw⟩)
    (c__law_draw : PySem.W.codeIn K cd__law_draw "_law_draw" = true)
    (k__law_draw : PySem.W.keepIn K (.ref f__law_draw) = true)
    (a__law_mixed : PySem.W.nsIn K mainGlobals "_law_mixed" = some (some (.ref f__law_mixed)))
    (l__law_mixed : K.lookup f__law_mixed = some ⟨oc__law_mixed, od__law_mixed, .func (PySem.W.fnOf "_law_mixed" "_law_mixed" (defArgs s__law_mixed) (defBody s__law_mixed) (defScope s__law_mixed) .none kV__law_mixed dc__law_mixed pm__law_mixed an__law_mixed cd__law_mixed ct__law_mixed), sl__law_mixed⟩)
    (c__law_mixed : PySem.W.codeIn K cd__law_mixed "_law_mixed" = true)
    (k__law_mixed : PySem.W.keepIn K (.ref f__law_mixed) = true)
    (a__law_web : PySem.W.nsIn K mainGlobals "_law_web" = some (some (.ref f__law_web)))
    (l__law_web : K.lookup f__law_web = some ⟨oc__law_web, od__law_web, .func (PySem.W.fnOf "_law_web" "_law_web" (defArgs s__law_web) (defBody s__law_web) (defScope s__law_web) .none kV__law_web dc__law_web pm__law_web an__law_web cd__law_web ct__law_web), sl__law_web⟩)
    (c__law_web : PySem.W.codeIn K cd__law_web "_law_web" = true)
    (k__law_web : PySem.W.keepIn K (.ref f__law_web) = true)
    (a__law_keeps : PySem.W.nsIn K mainGlobals "_law_keeps" = some (some (.ref f__law_keeps)))
    (l__law_keeps : K.lookup f__law_keeps = some ⟨oc__law_keeps, od__law_keeps, .func (PySem.W.fnOf "_law_keeps" "_law_keeps" (defArgs s__law_keeps) (defBody s__law_keeps) (defScope s__law_keeps) .none kV__law_keeps dc__law_keeps pm__law_keeps an__law_keeps cd__law_keeps ct__law_keeps), sl__law_keeps⟩)
    (c__law_keeps : PySem.W.codeIn K cd__law_keeps "_law_keeps" = true)
    (k__law_keeps : PySem.W.keepIn K (.ref f__law_keeps) = true)
    (a__law_apart_right : PySem.W.nsIn K mainGlobals "_law_apart_right" = some (some (.ref f__law_apart_right)))
    (l__law_apart_right : K.lookup f__law_apart_right = some ⟨oc__law_apart_right, od__law_apart_right, .func (PySem.W.fnOf "_law_apart_right" "_law_apart_right" (defArgs s__law_apart_right) (defBody s__law_apart_right) (defScope s__law_apart_right) .none kV__law_apart_right dc__law_apart_right pm__law_apart_right an__law_apart_right cd__law_apart_right ct__law_apart_right), sl__law_apart_right⟩)
    (c__law_apart_right : PySem.W.codeIn K cd__law_apart_right "_law_apart_right" = true)
    (k__law_apart_right : PySem.W.keepIn K (.ref f__law_apart_right) = true)
    (a_law : PySem.W.nsIn K mainGlobals "law" = some (some (.ref f_law)))
    (l_law : K.lookup f_law = some ⟨oc_law, od_law, .func (PySem.W.fnOf "law" "law" (defArgs s_law) (defBody s_law) (defScope s_law) .none kV_law dc_law pm_law an_law cd_law ct_law), sl_law⟩)
    (c_law : PySem.W.codeIn K cd_law "law" = true)
    (k_law : PySem.W.keepIn K (.ref f_law) = true)
    (pg_Draw : PySem.W.plainGet K C_Draw Str.empty = true)
    (hd_Draw : PySem.W.hasDictIn K C_Draw = true)
    (po_Draw : PySem.W.plainOver K C_Draw = true)
    (sa_Draw : PySem.W.findIn K (.ref C_Draw) "__setattr__" = some (some (.builtin "object.__setattr__")))
    (kc_Draw : PySem.W.keepIn K (.ref C_Draw) = true)
    (mk_Draw : PySem.W.makesIn K C_Draw = true)
    (pg_Order : PySem.W.plainGet K C_Order Str.empty = true)
    (hd_Order : PySem.W.hasDictIn K C_Order = true)
    (po_Order : PySem.W.plainOver K C_Order = true)
    (sa_Order : PySem.W.findIn K (.ref C_Order) "__setattr__" = some (some (.builtin "object.__setattr__")))
    (kc_Order : PySem.W.keepIn K (.ref C_Order) = true)
    (mk_Order : PySem.W.makesIn K C_Order = true)
    (pg_Share : PySem.W.plainGet K C_Share Str.empty = true)
    (hd_Share : PySem.W.hasDictIn K C_Share = true)
    (po_Share : PySem.W.plainOver K C_Share = true)
    (sa_Share : PySem.W.findIn K (.ref C_Share) "__setattr__" = some (some (.builtin "object.__setattr__")))
    (kc_Share : PySem.W.keepIn K (.ref C_Share) = true)
    (mk_Share : PySem.W.makesIn K C_Share = true)
    (ne_Share : PySem.W.findIn K (.ref C_Share) "__ne__" = some (some (.builtin "object.__ne__")))
    (ob_Share : PySem.W.mroIn K C_Share (.type "object") = some true)
    (ha_Share : PySem.W.findIn K (.ref C_Share) "__class__" = some (some (.builtin "object.__class__")))
    (hn_Share : PySem.W.specialIn K (.builtin "object.__class__") "__get__" = some (some (.builtin "getset_descriptor.__get__")))
    (ht_Share : PySem.W.takesIn K (.builtin "object.__class__") = some true)
    (hm_Share : PySem.W.mroIn K C_Share (.type "object") = some true)
    (pg_Turns : PySem.W.plainGet K C_Turns Str.empty = true)
    (hd_Turns : PySem.W.hasDictIn K C_Turns = true)
    (po_Turns : PySem.W.plainOver K C_Turns = true)
    (sa_Turns : PySem.W.findIn K (.ref C_Turns) "__setattr__" = some (some (.builtin "object.__setattr__")))
    (kc_Turns : PySem.W.keepIn K (.ref C_Turns) = true)
    (mk_Turns : PySem.W.makesIn K C_Turns = true)
    (pg_Walk : PySem.W.plainGet K C_Walk Str.empty = true)
    (hd_Walk : PySem.W.hasDictIn K C_Walk = true)
    (po_Walk : PySem.W.plainOver K C_Walk = true)
    (sa_Walk : PySem.W.findIn K (.ref C_Walk) "__setattr__" = some (some (.builtin "object.__setattr__")))
    (kc_Walk : PySem.W.keepIn K (.ref C_Walk) = true)
    (mk_Walk : PySem.W.makesIn K C_Walk = true)
    (pg_Web : PySem.W.plainGet K C_Web Str.empty = true)
    (hd_Web : PySem.W.hasDictIn K C_Web = true)
    (po_Web : PySem.W.plainOver K C_Web = true)
    (sa_Web : PySem.W.findIn K (.ref C_Web) "__setattr__" = some (some (.builtin "object.__setattr__")))
    (kc_Web : PySem.W.keepIn K (.ref C_Web) = true)
    (mk_Web : PySem.W.makesIn K C_Web = true)
    (na_Draw_found : PySem.W.findIn K (.ref C_Draw) "found" = some none)
    (na_Draw_many : PySem.W.findIn K (.ref C_Draw) "many" = some none)
    (na_Draw_told : PySem.W.findIn K (.ref C_Draw) "told" = some none)
    (na_Draw_turns : PySem.W.findIn K (.ref C_Draw) "turns" = some none)
    (na_Order_higher : PySem.W.findIn K (.ref C_Order) "higher" = some none)
    (na_Share_bottom : PySem.W.findIn K (.ref C_Share) "bottom" = some none)
    (na_Share_top : PySem.W.findIn K (.ref C_Share) "top" = some none)
    (na_Turns_many : PySem.W.findIn K (.ref C_Turns) "many" = some none)
    (na_Turns_maps : PySem.W.findIn K (.ref C_Turns) "maps" = some none)
    (na_Walk_rows : PySem.W.findIn K (.ref C_Walk) "rows" = some none)
    (na_Walk_whole : PySem.W.findIn K (.ref C_Walk) "whole" = some none)
    (na_Web_levels : PySem.W.findIn K (.ref C_Web) "levels" = some none)
    (na_Web_spots : PySem.W.findIn K (.ref C_Web) "spots" = some none)
    (na_Web_ties : PySem.W.findIn K (.ref C_Web) "ties" = some none)
    (na_Web_whole : PySem.W.findIn K (.ref C_Web) "whole" = some none)
    (z_abs : PySem.W.nsIn K mainGlobals "abs" = some none)
    (z_all : PySem.W.nsIn K mainGlobals "all" = some none)
    (z_any : PySem.W.nsIn K mainGlobals "any" = some none)
    (z_bool : PySem.W.nsIn K mainGlobals "bool" = some none)
    (z_enumerate : PySem.W.nsIn K mainGlobals "enumerate" = some none)
    (z_int : PySem.W.nsIn K mainGlobals "int" = some none)
    (z_isinstance : PySem.W.nsIn K mainGlobals "isinstance" = some none)
    (z_len : PySem.W.nsIn K mainGlobals "len" = some none)
    (z_list : PySem.W.nsIn K mainGlobals "list" = some none)
    (z_min : PySem.W.nsIn K mainGlobals "min" = some none)
    (z_range : PySem.W.nsIn K mainGlobals "range" = some none)
    (z_set : PySem.W.nsIn K mainGlobals "set" = some none)
    (z_sorted : PySem.W.nsIn K mainGlobals "sorted" = some none)
    (z_sum : PySem.W.nsIn K mainGlobals "sum" = some none)
    (z_tuple : PySem.W.nsIn K mainGlobals "tuple" = some none)
    (z_zip : PySem.W.nsIn K mainGlobals "zip" = some none)
    (g_MOST_PLACES_orders : PySem.W.nsIn K mainGlobals "MOST_PLACES_orders" = some (some (.int 32 t_MOST_PLACES_orders)))
    (g_MOST_PLACES_turns : PySem.W.nsIn K mainGlobals "MOST_PLACES_turns" = some (some (.int 32 t_MOST_PLACES_turns)))
    (g_MOST_PLACES_walks : PySem.W.nsIn K mainGlobals "MOST_PLACES_walks" = some (some (.int 32 t_MOST_PLACES_walks)))
    (g_MOST_SIGNS : PySem.W.nsIn K mainGlobals "MOST_SIGNS" = some (some (.int 200 t_MOST_SIGNS)))
    (g_MOST_SPOTS : PySem.W.nsIn K mainGlobals "MOST_SPOTS" = some (some (.int 5 t_MOST_SPOTS)))
    (g_MOST_WHOLE_walks : PySem.W.nsIn K mainGlobals "MOST_WHOLE_walks" = some (some (.int 1000000 t_MOST_WHOLE_walks)))
    (g_MOST_WHOLE_webs : PySem.W.nsIn K mainGlobals "MOST_WHOLE_webs" = some (some (.int 40 t_MOST_WHOLE_webs)))
    (g_WORTHS : PySem.W.nsIn K mainGlobals "WORTHS" = some (some (.ref q_WORTHS)))
    (w_WORTHS : K.lookup q_WORTHS = some ⟨.type "tuple", od_WORTHS, .seq #[.int 1 t0_WORTHS, .int 2 t1_WORTHS, .int 4 t2_WORTHS, .int 8 t3_WORTHS, .int 16 t4_WORTHS, .int 32 t5_WORTHS] n_WORTHS, sl_WORTHS⟩)
    : ∃ fd : FuncData, (∀ (s : Shared) (v : Value), BindsTo s fd ⟨[v], []⟩ [("_law_script", v)]) ∧ ∀ base : Heap, K.In base → base.Ns mainGlobals mg → FnOk l.prog w K mg base CX0 8 fa fd ["_law_script"] (spLaw K) := by
  have e : f_law = fa := by
    have e := hfa.symm.trans (PySem.W.mg_of X G a_law)
    cases e
    rfl
  subst e
  have F_is_whole := fun_mk (st := s_is_whole) l_is_whole c_is_whole k_is_whole
  have b_is_whole := F_is_whole.binds (ps := ["thing"]) fun _ _ _ _ _ _ us hl => match us, hl with | [_], _ => rfl
  have F_is_between := fun_mk (st := s_is_between) l_is_between c_is_between k_is_between
  have b_is_between := F_is_between.binds (ps := ["thing", "least", "most"]) fun _ _ _ _ _ _ us hl => match us, hl with | [_, _, _], _ => rfl
  have F_common := fun_mk (st := s_common) l_common c_common k_common
  have b_common := F_common.binds (ps := ["one", "other"]) fun _ _ _ _ _ _ us hl => match us, hl with | [_, _], _ => rfl
  have F_Share_init : FunD K "__init__" "Share.__init__" (defArgs s_Share_init) (defBody s_Share_init) (defScope s_Share_init) [.int 1] [] f_Share_init _ := ⟨⟨_, _, _, _, _, _, _, _, _, _, rfl, l_Share_init, c_Share_init, .inr ⟨(fun z => nomatch z), _, _, [.int 1 dt0_Share_init], _, rfl, dl_Share_init, rfl, .cons ⟨_, rfl⟩ (.nil)⟩, .inl rfl⟩, k_Share_init⟩
  have b_Share_init := bnd_mk (F_Share_init.binds1 (ps := ["self", "top", "bottom"]) 3 1 (fun z => nomatch z) rfl fun _ _ _ _ _ _ _ us its hl hi => match us, hl, its, hi with | [_, _, _], _, [_], _ => ⟨_, rfl, rfl⟩)
  have bd_Share_init := bnd_mk (F_Share_init.binds1 (ps := ["self", "top", "bottom"]) 2 0 (fun z => nomatch z) rfl fun _ _ _ _ _ _ _ us its hl hi => match us, hl, its, hi with | [_, _], _, [_], _ => ⟨_, rfl, rfl⟩)
  have F_Share_eq := fun_mk (st := s_Share_eq) l_Share_eq c_Share_eq k_Share_eq
  have b_Share_eq := F_Share_eq.binds (ps := ["self", "other"]) fun _ _ _ _ _ _ us hl => match us, hl with | [_, _], _ => rfl
  have F_plus := fun_mk (st := s_plus) l_plus c_plus k_plus
  have b_plus := F_plus.binds (ps := ["one", "other"]) fun _ _ _ _ _ _ us hl => match us, hl with | [_, _], _ => rfl
  have F_sum_of := fun_mk (st := s_sum_of) l_sum_of c_sum_of k_sum_of
  have b_sum_of := F_sum_of.binds (ps := ["shares"]) fun _ _ _ _ _ _ us hl => match us, hl with | [_], _ => rfl
  have F_with_pivot := fun_mk (st := s_with_pivot) l_with_pivot c_with_pivot k_with_pivot
  have b_with_pivot := F_with_pivot.binds (ps := ["rows", "at"]) fun _ _ _ _ _ _ us hl => match us, hl with | [_, _], _ => rfl
  have F_cleared := fun_mk (st := s_cleared) l_cleared c_cleared k_cleared
  have b_cleared := F_cleared.binds (ps := ["rows", "at", "last"]) fun _ _ _ _ _ _ us hl => match us, hl with | [_, _, _], _ => rfl
  have F_solved := fun_mk (st := s_solved) l_solved c_solved k_solved
  have b_solved := F_solved.binds (ps := ["rows"]) fun _ _ _ _ _ _ us hl => match us, hl with | [_], _ => rfl
  have F_is_map := fun_mk (st := s_is_map) l_is_map c_is_map k_is_map
  have b_is_map := F_is_map.binds (ps := ["thing", "many"]) fun _ _ _ _ _ _ us hl => match us, hl with | [_, _], _ => rfl
  have F_Turns_init := fun_mk (st := s_Turns_init) l_Turns_init c_Turns_init k_Turns_init
  have b_Turns_init := F_Turns_init.binds (ps := ["self", "many", "maps"]) fun _ _ _ _ _ _ us hl => match us, hl with | [_, _, _], _ => rfl
  have F_Turns_len := fun_mk (st := s_Turns_len) l_Turns_len c_Turns_len k_Turns_len
  have b_Turns_len := F_Turns_len.binds (ps := ["self"]) fun _ _ _ _ _ _ us hl => match us, hl with | [_], _ => rfl
  have F_is_row := fun_mk (st := s_is_row) l_is_row c_is_row k_is_row
  have b_is_row := F_is_row.binds (ps := ["thing", "many", "whole"]) fun _ _ _ _ _ _ us hl => match us, hl with | [_, _, _], _ => rfl
  have F_Walk_init := fun_mk (st := s_Walk_init) l_Walk_init c_Walk_init k_Walk_init
  have b_Walk_init := F_Walk_init.binds (ps := ["self", "whole", "rows"]) fun _ _ _ _ _ _ us hl => match us, hl with | [_, _, _], _ => rfl
  have F_Walk_len := fun_mk (st := s_Walk_len) l_Walk_len c_Walk_len k_Walk_len
  have b_Walk_len := F_Walk_len.binds (ps := ["self"]) fun _ _ _ _ _ _ us hl => match us, hl with | [_], _ => rfl
  have F_walk_of := fun_mk (st := s_walk_of) l_walk_of c_walk_of k_walk_of
  have b_walk_of := F_walk_of.binds (ps := ["turns"]) fun _ _ _ _ _ _ us hl => match us, hl with | [_], _ => rfl
  have F_reached_from := fun_mk (st := s_reached_from) l_reached_from c_reached_from k_reached_from
  have b_reached_from := F_reached_from.binds (ps := ["walk", "place"]) fun _ _ _ _ _ _ us hl => match us, hl with | [_, _], _ => rfl
  have F_closed_sets := fun_mk (st := s_closed_sets) l_closed_sets c_closed_sets k_closed_sets
  have b_closed_sets := F_closed_sets.binds (ps := ["walk"]) fun _ _ _ _ _ _ us hl => match us, hl with | [_], _ => rfl
  have F_resting := fun_mk (st := s_resting) l_resting c_resting k_resting
  have b_resting := F_resting.binds (ps := ["walk"]) fun _ _ _ _ _ _ us hl => match us, hl with | [_], _ => rfl
  have F_check_signs := fun_mk (st := s_check_signs) l_check_signs c_check_signs k_check_signs
  have b_check_signs := F_check_signs.binds (ps := ["turns", "signs"]) fun _ _ _ _ _ _ us hl => match us, hl with | [_, _], _ => rfl
  have F_begin_of := fun_mk (st := s_begin_of) l_begin_of c_begin_of k_begin_of
  have b_begin_of := F_begin_of.binds (ps := ["turns"]) fun _ _ _ _ _ _ us hl => match us, hl with | [_], _ => rfl
  have F_then := fun_mk (st := s_then) l_then c_then k_then
  have b_then := F_then.binds (ps := ["first", "second"]) fun _ _ _ _ _ _ us hl => match us, hl with | [_, _], _ => rfl
  have F_has_met := fun_mk (st := s_has_met) l_has_met c_has_met k_has_met
  have b_has_met := F_has_met.binds (ps := ["one"]) fun _ _ _ _ _ _ us hl => match us, hl with | [_], _ => rfl
  have F_is_pair := fun_mk (st := s_is_pair) l_is_pair c_is_pair k_is_pair
  have b_is_pair := F_is_pair.binds (ps := ["thing", "many"]) fun _ _ _ _ _ _ us hl => match us, hl with | [_, _], _ => rfl
  have F_above := fun_mk (st := s_above) l_above c_above k_above
  have b_above := F_above.binds (ps := ["pairs", "many"]) fun _ _ _ _ _ _ us hl => match us, hl with | [_, _], _ => rfl
  have F_Order_init := fun_mk (st := s_Order_init) l_Order_init c_Order_init k_Order_init
  have b_Order_init := F_Order_init.binds (ps := ["self", "many", "pairs"]) fun _ _ _ _ _ _ us hl => match us, hl with | [_, _, _], _ => rfl
  have F_Order_len := fun_mk (st := s_Order_len) l_Order_len c_Order_len k_Order_len
  have b_Order_len := F_Order_len.binds (ps := ["self"]) fun _ _ _ _ _ _ us hl => match us, hl with | [_], _ => rfl
  have F_Order_at_most := fun_mk (st := s_Order_at_most) l_Order_at_most c_Order_at_most k_Order_at_most
  have b_Order_at_most := F_Order_at_most.binds (ps := ["self", "x", "y"]) fun _ _ _ _ _ _ us hl => match us, hl with | [_, _, _], _ => rfl
  have F_Order_least := fun_mk (st := s_Order_least) l_Order_least c_Order_least k_Order_least
  have b_Order_least := F_Order_least.binds (ps := ["self"]) fun _ _ _ _ _ _ us hl => match us, hl with | [_], _ => rfl
  have F_Order_greatest := fun_mk (st := s_Order_greatest) l_Order_greatest c_Order_greatest k_Order_greatest
  have b_Order_greatest := F_Order_greatest.binds (ps := ["self"]) fun _ _ _ _ _ _ us hl => match us, hl with | [_], _ => rfl
  have F_not_kept := fun_mk (st := s_not_kept) l_not_kept c_not_kept k_not_kept
  have b_not_kept := F_not_kept.binds (ps := ["turns", "order"]) fun _ _ _ _ _ _ us hl => match us, hl with | [_, _], _ => rfl
  have F_drawn_between := fun_mk (st := s_drawn_between) l_drawn_between c_drawn_between k_drawn_between
  have b_drawn_between := F_drawn_between.binds (ps := ["turns", "order", "signs"]) fun _ _ _ _ _ _ us hl => match us, hl with | [_, _, _], _ => rfl
  have F_is_tie := fun_mk (st := s_is_tie) l_is_tie c_is_tie k_is_tie
  have b_is_tie := F_is_tie.binds (ps := ["thing", "spots"]) fun _ _ _ _ _ _ us hl => match us, hl with | [_, _], _ => rfl
  have F_are_ties := fun_mk (st := s_are_ties) l_are_ties c_are_ties k_are_ties
  have b_are_ties := F_are_ties.binds (ps := ["thing", "spots"]) fun _ _ _ _ _ _ us hl => match us, hl with | [_, _], _ => rfl
  have F_are_levels := fun_mk (st := s_are_levels) l_are_levels c_are_levels k_are_levels
  have b_are_levels := F_are_levels.binds (ps := ["thing", "spots", "whole"]) fun _ _ _ _ _ _ us hl => match us, hl with | [_, _, _], _ => rfl
  have F_Web_init := fun_mk (st := s_Web_init) l_Web_init c_Web_init k_Web_init
  have b_Web_init := F_Web_init.binds (ps := ["self", "spots", "ties", "whole", "levels"]) fun _ _ _ _ _ _ us hl => match us, hl with | [_, _, _, _, _], _ => rfl
  have F_is_up := fun_mk (st := s_is_up) l_is_up c_is_up k_is_up
  have b_is_up := F_is_up.binds (ps := ["place", "spot"]) fun _ _ _ _ _ _ us hl => match us, hl with | [_, _], _ => rfl
  have F_tied_to := fun_mk (st := s_tied_to) l_tied_to c_tied_to k_tied_to
  have b_tied_to := F_tied_to.binds (ps := ["web", "spot"]) fun _ _ _ _ _ _ us hl => match us, hl with | [_, _], _ => rfl
  have F_moved := fun_mk (st := s_moved) l_moved c_moved k_moved
  have b_moved := F_moved.binds (ps := ["web", "place", "spot", "number"]) fun _ _ _ _ _ _ us hl => match us, hl with | [_, _, _, _], _ => rfl
  have F_turns_of := fun_mk (st := s_turns_of) l_turns_of c_turns_of k_turns_of
  have b_turns_of := F_turns_of.binds (ps := ["web"]) fun _ _ _ _ _ _ us hl => match us, hl with | [_], _ => rfl
  have F_order_of := fun_mk (st := s_order_of) l_order_of c_order_of k_order_of
  have b_order_of := F_order_of.binds (ps := ["web"]) fun _ _ _ _ _ _ us hl => match us, hl with | [_], _ => rfl
  have F_Draw_init := fun_mk (st := s_Draw_init) l_Draw_init c_Draw_init k_Draw_init
  have b_Draw_init := F_Draw_init.binds (ps := ["self", "turns"]) fun _ _ _ _ _ _ us hl => match us, hl with | [_, _], _ => rfl
  have F_Draw_place := fun_mk (st := s_Draw_place) l_Draw_place c_Draw_place k_Draw_place
  have b_Draw_place := F_Draw_place.binds (ps := ["self"]) fun _ _ _ _ _ _ us hl => match us, hl with | [_], _ => rfl
  have F_Draw_used := fun_mk (st := s_Draw_used) l_Draw_used c_Draw_used k_Draw_used
  have b_Draw_used := F_Draw_used.binds (ps := ["self"]) fun _ _ _ _ _ _ us hl => match us, hl with | [_], _ => rfl
  have F_Draw_elder := fun_mk (st := s_Draw_elder) l_Draw_elder c_Draw_elder k_Draw_elder
  have b_Draw_elder := F_Draw_elder.binds (ps := ["self", "sign"]) fun _ _ _ _ _ _ us hl => match us, hl with | [_, _], _ => rfl
  have F_drawn := fun_mk (st := s_drawn) l_drawn c_drawn k_drawn
  have b_drawn := F_drawn.binds (ps := ["turns", "signs"]) fun _ _ _ _ _ _ us hl => match us, hl with | [_, _], _ => rfl
  have F__law_well := fun_mk (st := s__law_well) l__law_well c__law_well k__law_well
  have b__law_well := F__law_well.binds (ps := ["_law_cell"]) fun _ _ _ _ _ _ us hl => match us, hl with | [_], _ => rfl
  have F__law_draw := fun_mk (st := s__law_draw) l__law_draw c__law_draw k__law_draw
  have b__law_draw := F__law_draw.binds (ps := ["_law_well_here", "_law_many"]) fun _ _ _ _ _ _ us hl => match us, hl with | [_, _], _ => rfl
  have F__law_mixed := fun_mk (st := s__law_mixed) l__law_mixed c__law_mixed k__law_mixed
  have b__law_mixed := F__law_mixed.binds (ps := ["_law_well_here", "_law_some"]) fun _ _ _ _ _ _ us hl => match us, hl with | [_, _], _ => rfl
  have F__law_web := fun_mk (st := s__law_web) l__law_web c__law_web k__law_web
  have b__law_web := F__law_web.binds (ps := ["_law_well_here", "_law_most"]) fun _ _ _ _ _ _ us hl => match us, hl with | [_, _], _ => rfl
  have F__law_keeps := fun_mk (st := s__law_keeps) l__law_keeps c__law_keeps k__law_keeps
  have b__law_keeps := F__law_keeps.binds (ps := ["_law_turns", "_law_order"]) fun _ _ _ _ _ _ us hl => match us, hl with | [_, _], _ => rfl
  have F__law_apart_right := fun_mk (st := s__law_apart_right) l__law_apart_right c__law_apart_right k__law_apart_right
  have b__law_apart_right := F__law_apart_right.binds (ps := ["_law_well_here", "_law_spots", "_law_whole"]) fun _ _ _ _ _ _ us hl => match us, hl with | [_, _, _], _ => rfl
  have F_law := fun_mk (st := s_law) l_law c_law k_law
  have b_law := F_law.binds (ps := ["_law_script"]) fun _ _ _ _ _ _ us hl => match us, hl with | [_], _ => rfl
  let T : Tx K mg := {
a_is_whole := f_is_whole,
    d_is_whole := _,
    F_is_whole := F_is_whole,
    b_is_whole := b_is_whole,
    g_is_whole := PySem.W.mg_of X G a_is_whole,
    a_is_between := f_is_between,
    d_is_between := _,
    F_is_between := F_is_between,
    b_is_between := b_is_between,
    g_is_between := PySem.W.mg_of X G a_is_between,
    a_common := f_common,
    d_common := _,
    F_common := F_common,
    b_common := b_common,
    g_common := PySem.W.mg_of X G a_common,
    a_Share_init := f_Share_init,
    d_Share_init := _,
    F_Share_init := F_Share_init,
    b_Share_init := b_Share_init,
    bd_Share_init := bd_Share_init,
    a_Share_eq := f_Share_eq,
    d_Share_eq := _,
    F_Share_eq := F_Share_eq,
    b_Share_eq := b_Share_eq,
    a_plus := f_plus,
    d_plus := _,
    F_plus := F_plus,
    b_plus := b_plus,
    g_plus := PySem.W.mg_of X G a_plus,
    a_sum_of := f_sum_of,
    d_sum_of := _,
    F_sum_of := F_sum_of,
    b_sum_of := b_sum_of,
    g_sum_of := PySem.W.mg_of X G a_sum_of,
    a_with_pivot := f_with_pivot,
    d_with_pivot := _,
    F_with_pivot := F_with_pivot,
    b_with_pivot := b_with_pivot,
    g_with_pivot := PySem.W.mg_of X G a_with_pivot,
    a_cleared := f_cleared,
    d_cleared := _,
    F_cleared := F_cleared,
    b_cleared := b_cleared,
    g_cleared := PySem.W.mg_of X G a_cleared,
    a_solved := f_solved,
    d_solved := _,
    F_solved := F_solved,
    b_solved := b_solved,
    g_solved := PySem.W.mg_of X G a_solved,
    a_is_map := f_is_map,
    d_is_map := _,
    F_is_map := F_is_map,
    b_is_map := b_is_map,
    g_is_map := PySem.W.mg_of X G a_is_map,
    a_Turns_init := f_Turns_init,
    d_Turns_init := _,
    F_Turns_init := F_Turns_init,
    b_Turns_init := b_Turns_init,
    a_Turns_len := f_Turns_len,
    d_Turns_len := _,
    F_Turns_len := F_Turns_len,
    b_Turns_len := b_Turns_len,
    a_is_row := f_is_row,
    d_is_row := _,
    F_is_row := F_is_row,
    b_is_row := b_is_row,
    g_is_row := PySem.W.mg_of X G a_is_row,
    a_Walk_init := f_Walk_init,
    d_Walk_init := _,
    F_Walk_init := F_Walk_init,
    b_Walk_init := b_Walk_init,
    a_Walk_len := f_Walk_len,
    d_Walk_len := _,
    F_Walk_len := F_Walk_len,
    b_Walk_len := b_Walk_len,
    a_walk_of := f_walk_of,
    d_walk_of := _,
    F_walk_of := F_walk_of,
    b_walk_of := b_walk_of,
    g_walk_of := PySem.W.mg_of X G a_walk_of,
    a_reached_from := f_reached_from,
    d_reached_from := _,
    F_reached_from := F_reached_from,
    b_reached_from := b_reached_from,
    g_reached_from := PySem.W.mg_of X G a_reached_from,
    a_closed_sets := f_closed_sets,
    d_closed_sets := _,
    F_closed_sets := F_closed_sets,
    b_closed_sets := b_closed_sets,
    g_closed_sets := PySem.W.mg_of X G a_closed_sets,
    a_resting := f_resting,
    d_resting := _,
    F_resting := F_resting,
    b_resting := b_resting,
    g_resting := PySem.W.mg_of X G a_resting,
    a_check_signs := f_check_signs,
    d_check_signs := _,
    F_check_signs := F_check_signs,
    b_check_signs := b_check_signs,
    g_check_signs := PySem.W.mg_of X G a_check_signs,
    a_begin_of := f_begin_of,
    d_begin_of := _,
    F_begin_of := F_begin_of,
    b_begin_of := b_begin_of,
    g_begin_of := PySem.W.mg_of X G a_begin_of,
    a_then := f_then,
    d_then := _,
    F_then := F_then,
    b_then := b_then,
    g_then := PySem.W.mg_of X G a_then,
    a_has_met := f_has_met,
    d_has_met := _,
    F_has_met := F_has_met,
    b_has_met := b_has_met,
    g_has_met := PySem.W.mg_of X G a_has_met,
    a_is_pair := f_is_pair,
    d_is_pair := _,
    F_is_pair := F_is_pair,
    b_is_pair := b_is_pair,
    g_is_pair := PySem.W.mg_of X G a_is_pair,
    a_above := f_above,
    d_above := _,
    F_above := F_above,
    b_above := b_above,
    g_above := PySem.W.mg_of X G a_above,
    a_Order_init := f_Order_init,
    d_Order_init := _,
    F_Order_init := F_Order_init,
    b_Order_init := b_Order_init,
    a_Order_len := f_Order_len,
    d_Order_len := _,
    F_Order_len := F_Order_len,
    b_Order_len := b_Order_len,
    a_Order_at_most := f_Order_at_most,
    d_Order_at_most := _,
    F_Order_at_most := F_Order_at_most,
    b_Order_at_most := b_Order_at_most,
    a_Order_least := f_Order_least,
    d_Order_least := _,
    F_Order_least := F_Order_least,
    b_Order_least := b_Order_least,
    a_Order_greatest := f_Order_greatest,
    d_Order_greatest := _,
    F_Order_greatest := F_Order_greatest,
    b_Order_greatest := b_Order_greatest,
    a_not_kept := f_not_kept,
    d_not_kept := _,
    F_not_kept := F_not_kept,
    b_not_kept := b_not_kept,
    g_not_kept := PySem.W.mg_of X G a_not_kept,
    a_drawn_between := f_drawn_between,
    d_drawn_between := _,
    F_drawn_between := F_drawn_between,
    b_drawn_between := b_drawn_between,
    g_drawn_between := PySem.W.mg_of X G a_drawn_between,
    a_is_tie := f_is_tie,
    d_is_tie := _,
    F_is_tie := F_is_tie,
    b_is_tie := b_is_tie,
    g_is_tie := PySem.W.mg_of X G a_is_tie,
    a_are_ties := f_are_ties,
    d_are_ties := _,
    F_are_ties := F_are_ties,
    b_are_ties := b_are_ties,
    g_are_ties := PySem.W.mg_of X G a_are_ties,
    a_are_levels := f_are_levels,
    d_are_levels := _,
    F_are_levels := F_are_levels,
    b_are_levels := b_are_levels,
    g_are_levels := PySem.W.mg_of X G a_are_levels,
    a_Web_init := f_Web_init,
    d_Web_init := _,
    F_Web_init := F_Web_init,
    b_Web_init := b_Web_init,
    a_is_up := f_is_up,
    d_is_up := _,
    F_is_up := F_is_up,
    b_is_up := b_is_up,
    g_is_up := PySem.W.mg_of X G a_is_up,
    a_tied_to := f_tied_to,
    d_tied_to := _,
    F_tied_to := F_tied_to,
    b_tied_to := b_tied_to,
    g_tied_to := PySem.W.mg_of X G a_tied_to,
    a_moved := f_moved,
    d_moved := _,
    F_moved := F_moved,
    b_moved := b_moved,
    g_moved := PySem.W.mg_of X G a_moved,
    a_turns_of := f_turns_of,
    d_turns_of := _,
    F_turns_of := F_turns_of,
    b_turns_of := b_turns_of,
    g_turns_of := PySem.W.mg_of X G a_turns_of,
    a_order_of := f_order_of,
    d_order_of := _,
    F_order_of := F_order_of,
    b_order_of := b_order_of,
    g_order_of := PySem.W.mg_of X G a_order_of,
    a_Draw_init := f_Draw_init,
    d_Draw_init := _,
    F_Draw_init := F_Draw_init,
    b_Draw_init := b_Draw_init,
    a_Draw_place := f_Draw_place,
    d_Draw_place := _,
    F_Draw_place := F_Draw_place,
    b_Draw_place := b_Draw_place,
    a_Draw_used := f_Draw_used,
    d_Draw_used := _,
    F_Draw_used := F_Draw_used,
    b_Draw_used := b_Draw_used,
    a_Draw_elder := f_Draw_elder,
    d_Draw_elder := _,
    F_Draw_elder := F_Draw_elder,
    b_Draw_elder := b_Draw_elder,
    a_drawn := f_drawn,
    d_drawn := _,
    F_drawn := F_drawn,
    b_drawn := b_drawn,
    g_drawn := PySem.W.mg_of X G a_drawn,
    a__law_well := f__law_well,
    d__law_well := _,
    F__law_well := F__law_well,
    b__law_well := b__law_well,
    g__law_well := PySem.W.mg_of X G a__law_well,
    a__law_draw := f__law_draw,
    d__law_draw := _,
    F__law_draw := F__law_draw,
    b__law_draw := b__law_draw,
    g__law_draw := PySem.W.mg_of X G a__law_draw,
    a__law_mixed := f__law_mixed,
    d__law_mixed := _,
    F__law_mixed := F__law_mixed,
    b__law_mixed := b__law_mixed,
    g__law_mixed := PySem.W.mg_of X G a__law_mixed,
    a__law_web := f__law_web,
    d__law_web := _,
    F__law_web := F__law_web,
    b__law_web := b__law_web,
    g__law_web := PySem.W.mg_of X G a__law_web,
    a__law_keeps := f__law_keeps,
    d__law_keeps := _,
    F__law_keeps := F__law_keeps,
    b__law_keeps := b__law_keeps,
    g__law_keeps := PySem.W.mg_of X G a__law_keeps,
    a__law_apart_right := f__law_apart_right,
    d__law_apart_right := _,
    F__law_apart_right := F__law_apart_right,
    b__law_apart_right := b__law_apart_right,
    g__law_apart_right := PySem.W.mg_of X G a__law_apart_right,
    a_law := f_law,
    d_law := _,
    F_law := F_law,
    b_law := b_law,
    g_law := PySem.W.mg_of X G a_law,
    C_Draw := C_Draw,
    cl_Draw := ⟨pg_Draw, hd_Draw, po_Draw, sa_Draw⟩,
    g_Draw := PySem.W.mg_of X G aC_Draw,
    mk_Draw := ⟨mk_Draw, a_Draw_init, i_Draw_init, kc_Draw⟩,
    C_Order := C_Order,
    cl_Order := ⟨pg_Order, hd_Order, po_Order, sa_Order⟩,
    g_Order := PySem.W.mg_of X G aC_Order,
    mk_Order := ⟨mk_Order, a_Order_init, i_Order_init, kc_Order⟩,
    C_Share := C_Share,
    cl_Share := ⟨pg_Share, hd_Share, po_Share, sa_Share⟩,
    g_Share := PySem.W.mg_of X G aC_Share,
    mk_Share := ⟨mk_Share, a_Share_init, i_Share_init, kc_Share⟩,
    ne_Share := ne_Share,
    ob_Share := ob_Share,
    ic_Share := ⟨⟨pg_Share, hd_Share, po_Share, sa_Share⟩, ha_Share, hn_Share, ht_Share, hm_Share, kit_same⟩,
    C_Turns := C_Turns,
    cl_Turns := ⟨pg_Turns, hd_Turns, po_Turns, sa_Turns⟩,
    g_Turns := PySem.W.mg_of X G aC_Turns,
    mk_Turns := ⟨mk_Turns, a_Turns_init, i_Turns_init, kc_Turns⟩,
    C_Walk := C_Walk,
    cl_Walk := ⟨pg_Walk, hd_Walk, po_Walk, sa_Walk⟩,
    g_Walk := PySem.W.mg_of X G aC_Walk,
    mk_Walk := ⟨mk_Walk, a_Walk_init, i_Walk_init, kc_Walk⟩,
    C_Web := C_Web,
    cl_Web := ⟨pg_Web, hd_Web, po_Web, sa_Web⟩,
    g_Web := PySem.W.mg_of X G aC_Web,
    mk_Web := ⟨mk_Web, a_Web_init, i_Web_init, kc_Web⟩,
    m_Draw_elder := ⟨a_Draw_elder, i_Draw_elder, k_Draw_elder⟩,
    m_Draw_place := ⟨a_Draw_place, i_Draw_place, k_Draw_place⟩,
    m_Draw_used := ⟨a_Draw_used, i_Draw_used, k_Draw_used⟩,
    m_Order_len := ⟨a_Order_len, i_Order_len, k_Order_len⟩,
    m_Order_at_most := ⟨a_Order_at_most, i_Order_at_most, k_Order_at_most⟩,
    m_Order_greatest := ⟨a_Order_greatest, i_Order_greatest, k_Order_greatest⟩,
    m_Order_least := ⟨a_Order_least, i_Order_least, k_Order_least⟩,
    m_Share_eq := ⟨a_Share_eq, i_Share_eq, k_Share_eq⟩,
    m_Turns_len := ⟨a_Turns_len, i_Turns_len, k_Turns_len⟩,
    m_Walk_len := ⟨a_Walk_len, i_Walk_len, k_Walk_len⟩,
    na_Draw_found := na_Draw_found,
    na_Draw_many := na_Draw_many,
    na_Draw_told := na_Draw_told,
    na_Draw_turns := na_Draw_turns,
    na_Order_higher := na_Order_higher,
    na_Share_bottom := na_Share_bottom,
    na_Share_top := na_Share_top,
    na_Turns_many := na_Turns_many,
    na_Turns_maps := na_Turns_maps,
    na_Walk_rows := na_Walk_rows,
    na_Walk_whole := na_Walk_whole,
    na_Web_levels := na_Web_levels,
    na_Web_spots := na_Web_spots,
    na_Web_ties := na_Web_ties,
    na_Web_whole := na_Web_whole,
    z_abs := PySem.W.mg_none_of X G z_abs,
    z_all := PySem.W.mg_none_of X G z_all,
    z_any := PySem.W.mg_none_of X G z_any,
    z_bool := PySem.W.mg_none_of X G z_bool,
    z_enumerate := PySem.W.mg_none_of X G z_enumerate,
    z_int := PySem.W.mg_none_of X G z_int,
    z_isinstance := PySem.W.mg_none_of X G z_isinstance,
    z_len := PySem.W.mg_none_of X G z_len,
    z_list := PySem.W.mg_none_of X G z_list,
    z_min := PySem.W.mg_none_of X G z_min,
    z_range := PySem.W.mg_none_of X G z_range,
    z_set := PySem.W.mg_none_of X G z_set,
    z_sorted := PySem.W.mg_none_of X G z_sorted,
    z_sum := PySem.W.mg_none_of X G z_sum,
    z_tuple := PySem.W.mg_none_of X G z_tuple,
    z_zip := PySem.W.mg_none_of X G z_zip,
    t_MOST_PLACES_orders := t_MOST_PLACES_orders,
    c_MOST_PLACES_orders := PySem.W.mg_of X G g_MOST_PLACES_orders,
    t_MOST_PLACES_turns := t_MOST_PLACES_turns,
    c_MOST_PLACES_turns := PySem.W.mg_of X G g_MOST_PLACES_turns,
    t_MOST_PLACES_walks := t_MOST_PLACES_walks,
    c_MOST_PLACES_walks := PySem.W.mg_of X G g_MOST_PLACES_walks,
    t_MOST_SIGNS := t_MOST_SIGNS,
    c_MOST_SIGNS := PySem.W.mg_of X G g_MOST_SIGNS,
    t_MOST_SPOTS := t_MOST_SPOTS,
    c_MOST_SPOTS := PySem.W.mg_of X G g_MOST_SPOTS,
    t_MOST_WHOLE_walks := t_MOST_WHOLE_walks,
    c_MOST_WHOLE_walks := PySem.W.mg_of X G g_MOST_WHOLE_walks,
    t_MOST_WHOLE_webs := t_MOST_WHOLE_webs,
    c_MOST_WHOLE_webs := PySem.W.mg_of X G g_MOST_WHOLE_webs,
    q_WORTHS := q_WORTHS,
    w_WORTHS := ⟨_, _, _, w_WORTHS, rfl, rfl, (by show 6 ≤ sizeLine; decide), (.cons ⟨_, rfl⟩ (.cons ⟨_, rfl⟩ (.cons ⟨_, rfl⟩ (.cons ⟨_, rfl⟩ (.cons ⟨_, rfl⟩ (.cons ⟨_, rfl⟩ .nil))))))⟩,
    c_WORTHS := PySem.W.mg_of X G g_WORTHS }
  refine ⟨_, fun s v => ?bb, fun base _ _ => ok_law T⟩
  case bb => exact .of_eq rfl
theorem walk {l : PySem.W.OpenLaw} {q : Program} {loose : List Str} {XP : (Str → Option Value) → Heap → Prop} {YP : World → Heap → Prop} {d : DefRec} {K : Params → PySem.W.Frag} (hn : l.most = some 63) (hdf : d.params.defaults = [])
    (hY : ∀ (w : World) (h : Heap), YP w h → (K w.params).In h)
    (F : ∀ (w : World) (mg : Str → Option Value) (fa : Addr) (h : Heap), (K w.params).In h → h.Ns mainGlobals mg → mg d.name = some (.ref fa) →
      ∃ fd : FuncData, (∀ (s : Shared) (u : Value), BindsTo s fd ⟨[u], []⟩ [("_law_script", u)]) ∧ ∀ base : Heap, (K w.params).In base → base.Ns mainGlobals mg → FnOk l.prog w (K w.params) mg base CX0 8 fa fd ["_law_script"] (spLaw (K w.params))) :
    PySem.W.WalkO q loose XP YP l.row.toRowW d [] (fun f vs => PySem.call f vs) :=
  L2.walk_of (n := 63) (k := 8) (x := "_law_script") (CX := fun _ => CX0) (sp := fun w => spLaw (K w.params)) hn (by decide) hdf ⟨rfl, by decide, by decide⟩ hY F (fun _ _ a ns hl _ hS => ⟨a, ns, rfl, hS, hl, fun _ => rfl⟩) fun _ _ _ _ _ z => z
end K71
open PySem PySem.W PyProof.Rows
set_option maxRecDepth 100000 in
set_option maxHeartbeats 0 in
theorem PySem.Challenge.cw_elderdraw_k71_whole_webs_keep_their_orde_holds : PySem.Challenge.rw_elderdraw_k71_whole_webs_keep_their_orde.Holds := by
  w_on; o_law; k_head; (case hw => w_witness2)
  k_fill
  refine K71.walk (l := PySem.Challenge.rw_elderdraw_k71_whole_webs_keep_their_orde) rfl rfl (fun w h Y => PySem.W.kIn_of Y) ?F
  case F =>
    intro w mg fa h KX G hmg
    refine' K71.all_mk KX G hmg ?aC_Draw ?aC_Order ?aC_Share ?aC_Turns ?aC_Walk ?aC_Web ?a_is_whole ?l_is_whole ?c_is_whole ?k_is_whole ?a_is_between ?l_is_between ?c_is_between ?k_is_between ?a_common ?l_common ?c_common ?k_common ?a_Share_init ?i_Share_init ?l_Share_init ?dl_Share_init ?c_Share_init ?k_Share_init ?a_Share_eq ?i_Share_eq ?l_Share_eq ?c_Share_eq ?k_Share_eq ?a_plus ?l_plus ?c_plus ?k_plus ?a_sum_of ?l_sum_of ?c_sum_of ?k_sum_of ?a_with_pivot ?l_with_pivot ?c_with_pivot ?k_with_pivot ?a_cleared ?l_cleared ?c_cleared ?k_cleared ?a_solved ?l_solved ?c_solved ?k_solved ?a_is_map ?l_is_map ?c_is_map ?k_is_map ?a_Turns_init ?i_Turns_init ?l_Turns_init ?c_Turns_init ?k_Turns_init ?a_Turns_len ?i_Turns_len ?l_Turns_len ?c_Turns_len ?k_Turns_len ?a_is_row ?l_is_row ?c_is_row ?k_is_row ?a_Walk_init ?i_Walk_init ?l_Walk_init ?c_Walk_init ?k_Walk_init ?a_Walk_len ?i_Walk_len ?l_Walk_len ?c_Walk_len ?k_Walk_len ?a_walk_of ?l_walk_of ?c_walk_of ?k_walk_of ?a_reached_from ?l_reached_from ?c_reached_from ?k_reached_from ?a_closed_sets ?l_closed_sets ?c_closed_sets ?k_closed_sets ?a_resting ?l_resting ?c_resting ?k_resting ?a_check_signs ?l_check_signs ?c_check_signs ?k_check_signs ?a_begin_of ?l_begin_of ?c_begin_of ?k_begin_of ?a_then ?l_then ?c_then ?k_then ?a_has_met ?l_has_met ?c_has_met ?k_has_met ?a_is_pair ?l_is_pair ?c_is_pair ?k_is_pair ?a_above ?l_above ?c_above ?k_above ?a_Order_init ?i_Order_init ?l_Order_init ?c_Order_init ?k_Order_init ?a_Order_len ?i_Order_len ?l_Order_len ?c_Order_len ?k_Order_len ?a_Order_at_most ?i_Order_at_most ?l_Order_at_most ?c_Order_at_most ?k_Order_at_most ?a_Order_least ?i_Order_least ?l_Order_least ?c_Order_least ?k_Order_least ?a_Order_greatest ?i_Order_greatest ?l_Order_greatest ?c_Order_greatest ?k_Order_greatest ?a_not_kept ?l_not_kept ?c_not_kept ?k_not_kept ?a_drawn_between ?l_drawn_between ?c_drawn_between ?k_drawn_between ?a_is_tie ?l_is_tie ?c_is_tie ?k_is_tie ?a_are_ties ?l_are_ties ?c_are_ties ?k_are_ties ?a_are_levels ?l_are_levels ?c_are_levels ?k_are_levels ?a_Web_init ?i_Web_init ?l_Web_init ?c_Web_init ?k_Web_init ?a_is_up ?l_is_up ?c_is_up ?k_is_up ?a_tied_to ?l_tied_to ?c_tied_to ?k_tied_to ?a_moved ?l_moved ?c_moved ?k_moved ?a_turns_of ?l_turns_of ?c_turns_of ?k_turns_of ?a_order_of ?l_order_of ?c_order_of ?k_order_of ?a_Draw_init ?i_Draw_init ?l_Draw_init ?c_Draw_init ?k_Draw_init ?a_Draw_place ?i_Draw_place ?l_Draw_place ?c_Draw_place ?k_Draw_place ?a_Draw_used ?i_Draw_used ?l_Draw_used ?c_Draw_used ?k_Draw_used ?a_Draw_elder ?i_Draw_elder ?l_Draw_elder ?c_Draw_elder ?k_Draw_elder ?a_drawn ?l_drawn ?c_drawn ?k_drawn ?a__law_well ?l__law_well ?c__law_well ?k__law_well ?a__law_draw ?l__law_draw ?c__law_draw ?k__law_draw ?a__law_mixed ?l__law_mixed ?c__law_mixed ?k__law_mixed ?a__law_web ?l__law_web ?c__law_web ?k__law_web ?a__law_keeps ?l__law_keeps ?c__law_keeps ?k__law_keeps ?a__law_apart_right ?l__law_apart_right ?c__law_apart_right ?k__law_apart_right ?a_law ?l_law ?c_law ?k_law ?pg_Draw ?hd_Draw ?po_Draw ?sa_Draw ?kc_Draw ?mk_Draw ?pg_Order ?hd_Order ?po_Order ?sa_Order ?kc_Order ?mk_Order ?pg_Share ?hd_Share ?po_Share ?sa_Share ?kc_Share ?mk_Share ?ne_Share ?ob_Share ?ha_Share ?hn_Share ?ht_Share ?hm_Share ?pg_Turns ?hd_Turns ?po_Turns ?sa_Turns ?kc_Turns ?mk_Turns ?pg_Walk ?hd_Walk ?po_Walk ?sa_Walk ?kc_Walk ?mk_Walk ?pg_Web ?hd_Web ?po_Web ?sa_Web ?kc_Web ?mk_Web ?na_Draw_found ?na_Draw_many ?na_Draw_told ?na_Draw_turns ?na_Order_higher ?na_Share_bottom ?na_Share_top ?na_Turns_many ?na_Turns_maps ?na_Walk_rows ?na_Walk_whole ?na_Web_levels ?na_Web_spots ?na_Web_ties ?na_Web_whole ?z_abs ?z_all ?z_any ?z_bool ?z_enumerate ?z_int ?z_isinstance ?z_len ?z_list ?z_min ?z_range ?z_set ?z_sorted ?z_sum ?z_tuple ?z_zip ?g_MOST_PLACES_orders ?g_MOST_PLACES_turns ?g_MOST_PLACES_walks ?g_MOST_SIGNS ?g_MOST_SPOTS ?g_MOST_WHOLE_walks ?g_MOST_WHOLE_webs ?g_WORTHS ?w_WORTHS
    (case aC_Draw => k_is)
    (case aC_Order => k_is)
    (case aC_Share => k_is)
    (case aC_Turns => k_is)
    (case aC_Walk => k_is)
    (case aC_Web => k_is)
    (case a_is_whole => k_is)
    (case l_is_whole => k_is)
    (case c_is_whole => k_is)
    (case k_is_whole => k_is)
    (case a_is_between => k_is)
    (case l_is_between => k_is)
    (case c_is_between => k_is)
    (case k_is_between => k_is)
    (case a_common => k_is)
    (case l_common => k_is)
    (case c_common => k_is)
    (case k_common => k_is)
    (case a_Share_init => k_is)
    (case i_Share_init => k_is)
    (case l_Share_init => k_is)
    (case dl_Share_init => k_is)
    (case c_Share_init => k_is)
    (case k_Share_init => k_is)
    (case a_Share_eq => k_is)
    (case i_Share_eq => k_is)
    (case l_Share_eq => k_is)
    (case c_Share_eq => k_is)
    (case k_Share_eq => k_is)
    (case a_plus => k_is)
    (case l_plus => k_is)
    (case c_plus => k_is)
    (case k_plus => k_is)
    (case a_sum_of => k_is)
    (case l_sum_of => k_is)
    (case c_sum_of => k_is)
    (case k_sum_of => k_is)
    (case a_with_pivot => k_is)
    (case l_with_pivot => k_is)
    (case c_with_pivot => k_is)
    (case k_with_pivot => k_is)
    (case a_cleared => k_is)
    (case l_cleared => k_is)
    (case c_cleared => k_is)
    (case k_cleared => k_is)
    (case a_solved => k_is)
    (case l_solved => k_is)
    (case c_solved => k_is)
    (case k_solved => k_is)
    (case a_is_map => k_is)
    (case l_is_map => k_is)
    (case c_is_map => k_is)
    (case k_is_map => k_is)
    (case a_Turns_init => k_is)
    (case i_Turns_init => k_is)
    (case l_Turns_init => k_is)
    (case c_Turns_init => k_is)
    (case k_Turns_init => k_is)
    (case a_Turns_len => k_is)
    (case i_Turns_len => k_is)
    (case l_Turns_len => k_is)
    (case c_Turns_len => k_is)
    (case k_Turns_len => k_is)
    (case a_is_row => k_is)
    (case l_is_row => k_is)
    (case c_is_row => k_is)
    (case k_is_row => k_is)
    (case a_Walk_init => k_is)
    (case i_Walk_init => k_is)
    (case l_Walk_init => k_is)
    (case c_Walk_init => k_is)
    (case k_Walk_init => k_is)
    (case a_Walk_len => k_is)
    (case i_Walk_len => k_is)
    (case l_Walk_len => k_is)
    (case c_Walk_len => k_is)
    (case k_Walk_len => k_is)
    (case a_walk_of => k_is)
    (case l_walk_of => k_is)
    (case c_walk_of => k_is)
    (case k_walk_of => k_is)
    (case a_reached_from => k_is)
    (case l_reached_from => k_is)
    (case c_reached_from => k_is)
    (case k_reached_from => k_is)
    (case a_closed_sets => k_is)
    (case l_closed_sets => k_is)
    (case c_closed_sets => k_is)
    (case k_closed_sets => k_is)
    (case a_resting => k_is)
    (case l_resting => k_is)
    (case c_resting => k_is)
    (case k_resting => k_is)
    (case a_check_signs => k_is)
    (case l_check_signs => k_is)
    (case c_check_signs => k_is)
    (case k_check_signs => k_is)
    (case a_begin_of => k_is)
    (case l_begin_of => k_is)
    (case c_begin_of => k_is)
    (case k_begin_of => k_is)
    (case a_then => k_is)
    (case l_then => k_is)
    (case c_then => k_is)
    (case k_then => k_is)
    (case a_has_met => k_is)
    (case l_has_met => k_is)
    (case c_has_met => k_is)
    (case k_has_met => k_is)
    (case a_is_pair => k_is)
    (case l_is_pair => k_is)
    (case c_is_pair => k_is)
    (case k_is_pair => k_is)
    (case a_above => k_is)
    (case l_above => k_is)
    (case c_above => k_is)
    (case k_above => k_is)
    (case a_Order_init => k_is)
    (case i_Order_init => k_is)
    (case l_Order_init => k_is)
    (case c_Order_init => k_is)
    (case k_Order_init => k_is)
    (case a_Order_len => k_is)
    (case i_Order_len => k_is)
    (case l_Order_len => k_is)
    (case c_Order_len => k_is)
    (case k_Order_len => k_is)
    (case a_Order_at_most => k_is)
    (case i_Order_at_most => k_is)
    (case l_Order_at_most => k_is)
    (case c_Order_at_most => k_is)
    (case k_Order_at_most => k_is)
    (case a_Order_least => k_is)
    (case i_Order_least => k_is)
    (case l_Order_least => k_is)
    (case c_Order_least => k_is)
    (case k_Order_least => k_is)
    (case a_Order_greatest => k_is)
    (case i_Order_greatest => k_is)
    (case l_Order_greatest => k_is)
    (case c_Order_greatest => k_is)
    (case k_Order_greatest => k_is)
    (case a_not_kept => k_is)
    (case l_not_kept => k_is)
    (case c_not_kept => k_is)
    (case k_not_kept => k_is)
    (case a_drawn_between => k_is)
    (case l_drawn_between => k_is)
    (case c_drawn_between => k_is)
    (case k_drawn_between => k_is)
    (case a_is_tie => k_is)
    (case l_is_tie => k_is)
    (case c_is_tie => k_is)
    (case k_is_tie => k_is)
    (case a_are_ties => k_is)
    (case l_are_ties => k_is)
    (case c_are_ties => k_is)
    (case k_are_ties => k_is)
    (case a_are_levels => k_is)
    (case l_are_levels => k_is)
    (case c_are_levels => k_is)
    (case k_are_levels => k_is)
    (case a_Web_init => k_is)
    (case i_Web_init => k_is)
    (case l_Web_init => k_is)
    (case c_Web_init => k_is)
    (case k_Web_init => k_is)
    (case a_is_up => k_is)
    (case l_is_up => k_is)
    (case c_is_up => k_is)
    (case k_is_up => k_is)
    (case a_tied_to => k_is)
    (case l_tied_to => k_is)
    (case c_tied_to => k_is)
    (case k_tied_to => k_is)
    (case a_moved => k_is)
    (case l_moved => k_is)
    (case c_moved => k_is)
    (case k_moved => k_is)
    (case a_turns_of => k_is)
    (case l_turns_of => k_is)
    (case c_turns_of => k_is)
    (case k_turns_of => k_is)
    (case a_order_of => k_is)
    (case l_order_of => k_is)
    (case c_order_of => k_is)
    (case k_order_of => k_is)
    (case a_Draw_init => k_is)
    (case i_Draw_init => k_is)
    (case l_Draw_init => k_is)
    (case c_Draw_init => k_is)
    (case k_Draw_init => k_is)
    (case a_Draw_place => k_is)
    (case i_Draw_place => k_is)
    (case l_Draw_place => k_is)
    (case c_Draw_place => k_is)
    (case k_Draw_place => k_is)
    (case a_Draw_used => k_is)
    (case i_Draw_used => k_is)
    (case l_Draw_used => k_is)
    (case c_Draw_used => k_is)
    (case k_Draw_used => k_is)
    (case a_Draw_elder => k_is)
    (case i_Draw_elder => k_is)
    (case l_Draw_elder => k_is)
    (case c_Draw_elder => k_is)
    (case k_Draw_elder => k_is)
    (case a_drawn => k_is)
    (case l_drawn => k_is)
    (case c_drawn => k_is)
    (case k_drawn => k_is)
    (case a__law_well => k_is)
    (case l__law_well => k_is)
    (case c__law_well => k_is)
    (case k__law_well => k_is)
    (case a__law_draw => k_is)
    (case l__law_draw => k_is)
    (case c__law_draw => k_is)
    (case k__law_draw => k_is)
    (case a__law_mixed => k_is)
    (case l__law_mixed => k_is)
    (case c__law_mixed => k_is)
    (case k__law_mixed => k_is)
    (case a__law_web => k_is)
    (case l__law_web => k_is)
    (case c__law_web => k_is)
    (case k__law_web => k_is)
    (case a__law_keeps => k_is)
    (case l__law_keeps => k_is)
    (case c__law_keeps => k_is)
    (case k__law_keeps => k_is)
    (case a__law_apart_right => k_is)
    (case l__law_apart_right => k_is)
    (case c__law_apart_right => k_is)
    (case k__law_apart_right => k_is)
    (case a_law => k_is)
    (case l_law => k_is)
    (case c_law => k_is)
    (case k_law => k_is)
    (case pg_Draw => k_is)
    (case hd_Draw => k_is)
    (case po_Draw => k_is)
    (case sa_Draw => k_is)
    (case kc_Draw => k_is)
    (case mk_Draw => k_is)
    (case pg_Order => k_is)
    (case hd_Order => k_is)
    (case po_Order => k_is)
    (case sa_Order => k_is)
    (case kc_Order => k_is)
    (case mk_Order => k_is)
    (case pg_Share => k_is)
    (case hd_Share => k_is)
    (case po_Share => k_is)
    (case sa_Share => k_is)
    (case kc_Share => k_is)
    (case mk_Share => k_is)
    (case ne_Share => k_is)
    (case ob_Share => k_is)
    (case ha_Share => k_is)
    (case hn_Share => k_is)
    (case ht_Share => k_is)
    (case hm_Share => k_is)
    (case pg_Turns => k_is)
    (case hd_Turns => k_is)
    (case po_Turns => k_is)
    (case sa_Turns => k_is)
    (case kc_Turns => k_is)
    (case mk_Turns => k_is)
    (case pg_Walk => k_is)
    (case hd_Walk => k_is)
    (case po_Walk => k_is)
    (case sa_Walk => k_is)
    (case kc_Walk => k_is)
    (case mk_Walk => k_is)
    (case pg_Web => k_is)
    (case hd_Web => k_is)
    (case po_Web => k_is)
    (case sa_Web => k_is)
    (case kc_Web => k_is)
    (case mk_Web => k_is)
    (case na_Draw_found => k_is)
    (case na_Draw_many => k_is)
    (case na_Draw_told => k_is)
    (case na_Draw_turns => k_is)
    (case na_Order_higher => k_is)
    (case na_Share_bottom => k_is)
    (case na_Share_top => k_is)
    (case na_Turns_many => k_is)
    (case na_Turns_maps => k_is)
    (case na_Walk_rows => k_is)
    (case na_Walk_whole => k_is)
    (case na_Web_levels => k_is)
    (case na_Web_spots => k_is)
    (case na_Web_ties => k_is)
    (case na_Web_whole => k_is)
    (case z_abs => k_is)
    (case z_all => k_is)
    (case z_any => k_is)
    (case z_bool => k_is)
    (case z_enumerate => k_is)
    (case z_int => k_is)
    (case z_isinstance => k_is)
    (case z_len => k_is)
    (case z_list => k_is)
    (case z_min => k_is)
    (case z_range => k_is)
    (case z_set => k_is)
    (case z_sorted => k_is)
    (case z_sum => k_is)
    (case z_tuple => k_is)
    (case z_zip => k_is)
    (case g_MOST_PLACES_orders => k_is)
    (case g_MOST_PLACES_turns => k_is)
    (case g_MOST_PLACES_walks => k_is)
    (case g_MOST_SIGNS => k_is)
    (case g_MOST_SPOTS => k_is)
    (case g_MOST_WHOLE_walks => k_is)
    (case g_MOST_WHOLE_webs => k_is)
    (case g_WORTHS => k_is)
    (case w_WORTHS => k_is)

