import PyProof.Rows.All
import Wide.All
import OpenK.AllK
import Wide.FinOn
import HandS.ForMost
import HandS.IsInst
import HandS.SetFor
import HandS.Conv
import HandS.Wide
import HandS.OwnEq
import HandS.Style
import HandS.Codes
import HandS.TupMul
import HandS.Walk
import HandS.TupSets
import PyProof.InstNe
import HandS.ForExc
import HandS.ExcInit
import HandS.ExcField
import PySem.Challenge.RW_elderdraw_k86_whole_webs_between_their_e
set_option Elab.async false
set_option linter.all false
set_option maxRecDepth 100000
set_option maxHeartbeats 2000000
namespace El
open PySem PySem.Spec L2

/-! ### heaps -/
def Ex (H H' : Hp) : Prop := ∀ a o, H a = some o → H' a = some o
theorem Ex.refl (H : Hp) : Ex H H := fun _ _ h => h
theorem Ex.trans {H H1 H2 : Hp} (a : Ex H H1) (b : Ex H1 H2) : Ex H H2 := fun x o h => b x o (a x o h)
theorem Ex.new {H : Hp} {p : Addr} {o : HO} (h : H p = none) : Ex H (upd H p o) := fun a u e => by
  rw [upd_ne (ne_of_none e h)]
  exact e
theorem Ex.mut {H H' : Hp} {p : Addr} {o : HO} (e : Ex H H') (h : H p = none) : Ex H (upd H' p o) := fun a u ha => by
  rw [upd_ne (ne_of_none ha h)]
  exact e a u ha
theorem Ex.free {H H' : Hp} (e : Ex H H') {p : Addr} (h : H' p = none) : H p = none := by
  cases q : H p with
  | none => rfl
  | some o => rw [e p o q] at h; cases h
theorem Ex.both {F H : Hp} {p : Addr} {o : HO} (e : Ex F H) : Ex (upd F p o) (upd H p o) := fun a u h => by
  by_cases q : a = p
  · subst q; rw [upd_same] at h ⊢; exact h
  · rw [upd_ne q] at h ⊢; exact e a u h
/-- growth: F the frozen part, H all; M may be changed -/
structure Gr (M : Addr → Prop) (F H F' H' : Hp) : Prop where
  ff : Ex F F'
  fh : Ex F' H'
  hh : ∀ b o, ¬ M b → H b = some o → H' b = some o
  nw : ∀ b, ¬ M b → H b ≠ none → F b = none → F' b = none
  dm : ∀ b, H b ≠ none → H' b ≠ none
abbrev M0 : Addr → Prop := fun _ => False
abbrev M1 (a : Addr) : Addr → Prop := fun b => b = a
theorem Gr.refl {M : Addr → Prop} {F H : Hp} (e : Ex F H) : Gr M F H F H := ⟨Ex.refl F, e, fun _ _ _ h => h, fun _ _ _ h => h, fun _ h => h⟩
theorem Gr.trans {M : Addr → Prop} {F H F1 H1 F2 H2 : Hp} (a : Gr M F H F1 H1) (b : Gr M F1 H1 F2 H2) : Gr M F H F2 H2 :=
  ⟨a.ff.trans b.ff, b.fh, fun c o m h => b.hh c o m (a.hh c o m h), fun c m h n => b.nw c m (a.dm c h) (a.nw c m h n), fun c h => b.dm c (a.dm c h)⟩
theorem Gr.mono {M M' : Addr → Prop} {F H F1 H1 : Hp} (a : Gr M F H F1 H1) (m : ∀ b, M b → M' b) : Gr M' F H F1 H1 :=
  ⟨a.ff, a.fh, fun c o n h => a.hh c o (fun z => n (m c z)) h, fun c n h => a.nw c (fun z => n (m c z)) h, a.dm⟩
theorem Gr.up {M : Addr → Prop} {F H F1 H1 : Hp} (a : Gr M0 F H F1 H1) : Gr M F H F1 H1 := a.mono fun _ z => z.elim
theorem Gr.hx {F H F1 H1 : Hp} (a : Gr M0 F H F1 H1) : Ex H H1 := fun b o h => a.hh b o (fun z => z) h
/-- a new thing, frozen -/
theorem Gr.new {M : Addr → Prop} {F H : Hp} {p : Addr} {o : HO} (e : Ex F H) (h : H p = none) : Gr M F H (upd F p o) (upd H p o) where
  ff := Ex.new (e.free h)
  fh := e.both
  hh := fun b u _ q => Ex.new h b u q
  nw := fun b _ q n => by
    by_cases z : b = p
    · subst z; exact absurd h q
    · rw [upd_ne z]; exact n
  dm := fun b q => by
    by_cases z : b = p
    · subst z; rw [upd_same]; exact fun x => nomatch x
    · rw [upd_ne z]; exact q
/-- a new thing that may change -/
theorem Gr.loc {M : Addr → Prop} {F H : Hp} {p : Addr} {o : HO} (e : Ex F H) (h : H p = none) : Gr M F H F (upd H p o) where
  ff := Ex.refl F
  fh := e.mut (e.free h)
  hh := fun b u _ q => Ex.new h b u q
  nw := fun b _ q n => n
  dm := fun b q => by
    by_cases z : b = p
    · subst z; rw [upd_same]; exact fun x => nomatch x
    · rw [upd_ne z]; exact q
/-- a change of what stands outside of F -/
theorem Gr.set {M : Addr → Prop} {F H : Hp} {p : Addr} {o : HO} (e : Ex F H) (h : F p = none) (m : M p) : Gr M F H F (upd H p o) where
  ff := Ex.refl F
  fh := e.mut h
  hh := fun b u n q => by
    have z : b ≠ p := fun z => n (z ▸ m)
    rw [upd_ne z]; exact q
  nw := fun b _ q n => n
  dm := fun b q => by
    by_cases z : b = p
    · subst z; rw [upd_same]; exact fun x => nomatch x
    · rw [upd_ne z]; exact q
/-- behind an entry (F₀, H₀), a change of what is younger -/
theorem Gr.set' {M : Addr → Prop} {F0 H0 F H : Hp} {p : Addr} {o : HO} (g : Gr M F0 H0 F H) (h : F p = none) (n : H0 p = none ∨ M p) : Gr M F0 H0 F (upd H p o) where
  ff := g.ff
  fh := g.fh.mut h
  hh := fun b u m q => by
    have z : b ≠ p := fun z => by
      subst z
      rcases n with n | n
      · rw [n] at q; cases q
      · exact m n
    rw [upd_ne z]; exact g.hh b u m q
  nw := g.nw
  dm := fun b q => by
    by_cases z : b = p
    · subst z; rw [upd_same]; exact fun x => nomatch x
    · rw [upd_ne z]; exact g.dm b q
/-- a thing that may change is frozen from here on -/
theorem Gr.frz {M : Addr → Prop} {F0 H0 F H : Hp} {p : Addr} {o : HO} (g : Gr M F0 H0 F H) (h : H p = some o) (n : F0 p = none) (n2 : H0 p = none ∨ M p) : Gr M F0 H0 (upd F p o) H where
  ff := fun b u q => by
    rw [upd_ne (ne_of_none q n)]; exact g.ff b u q
  fh := fun b u q => by
    by_cases z : b = p
    · subst z; rw [upd_same] at q; cases q; exact h
    · rw [upd_ne z] at q; exact g.fh b u q
  hh := g.hh
  nw := fun b w q m => by
    have z : b ≠ p := fun z => by
      subst z
      rcases n2 with n2 | n2
      · exact q n2
      · exact w n2
    rw [upd_ne z]; exact g.nw b w q m
  dm := g.dm
theorem Gr.nn {F H F' H' : Hp} {p : Addr} {o : HO} (g : Gr M0 F H F' H') (h : H p = some o) (n : F p = none) : F' p = none := g.nw p (fun z => z) (by rw [h]; exact fun z => nomatch z) n
theorem Ex.frz {F H : Hp} {p : Addr} {o : HO} (e : Ex F H) (h : H p = some o) (n : F p = none) : Ex F (upd F p o) := fun b u q => by
  rw [upd_ne (ne_of_none q n)]; exact q

/-! ### what a value stands for -/
abbrev Rp (α : Type) := Hp → V → α → Prop
class Mn {α : Type} (R : Rp α) : Prop where
  mono : ∀ {H H' : Hp} {v : V} {x : α}, Ex H H' → R H v x → R H' v x
def rInt : Rp Int := fun _ v i => v = .int i
def rNat : Rp Nat := fun _ v i => v = .int (i : Int)
def rBl : Rp Bool := fun _ v i => v = .bl i
def rStr : Rp Str := fun _ v i => v = .str i
def rNon : Rp Unit := fun _ v _ => v = .non
def rLst {α : Type} (R : Rp α) : Rp (List α) := fun H v xs => ∃ a vs, v = .ref a ∧ H a = some (.lst vs) ∧ Paired (R H) vs xs
def rTup {α : Type} (R : Rp α) : Rp (List α) := fun H v xs => ∃ a vs, v = .ref a ∧ H a = some (.tup vs) ∧ Paired (R H) vs xs
def rPr {α β : Type} (R : Rp α) (S : Rp β) : Rp (α × β) := fun H v p => ∃ a x y, v = .ref a ∧ H a = some (.tup [x, y]) ∧ R H x p.1 ∧ S H y p.2
def rOpt {α : Type} (R : Rp α) : Rp (Option α) := fun H v x => match x with
  | none => v = .non
  | some y => R H v y
instance : Mn rInt := ⟨fun _ h => h⟩
instance : Mn rNat := ⟨fun _ h => h⟩
instance : Mn rBl := ⟨fun _ h => h⟩
instance : Mn rStr := ⟨fun _ h => h⟩
instance : Mn rNon := ⟨fun _ h => h⟩
theorem Paired.up {α : Type} {R : Rp α} [m : Mn R] {H H' : Hp} (e : Ex H H') {vs : List V} {xs : List α} (h : Paired (R H) vs xs) : Paired (R H') vs xs := L2.Paired.mapP h fun _ _ q => m.mono e q
instance {α : Type} {R : Rp α} [Mn R] : Mn (rLst R) := ⟨fun e ⟨a, vs, h1, h2, h3⟩ => ⟨a, vs, h1, e _ _ h2, Paired.up e h3⟩⟩
instance {α : Type} {R : Rp α} [Mn R] : Mn (rTup R) := ⟨fun e ⟨a, vs, h1, h2, h3⟩ => ⟨a, vs, h1, e _ _ h2, Paired.up e h3⟩⟩
instance {α β : Type} {R : Rp α} {S : Rp β} [m : Mn R] [n : Mn S] : Mn (rPr R S) := ⟨fun e ⟨a, x, y, h1, h2, h3, h4⟩ => ⟨a, x, y, h1, e _ _ h2, m.mono e h3, n.mono e h4⟩⟩
instance {α : Type} {R : Rp α} [m : Mn R] : Mn (rOpt R) := ⟨fun {H H' v x} e h => by
  cases x with
  | none => exact h
  | some y => exact m.mono e h⟩
theorem Paired.get {α β : Type} {F : α → β → Prop} : ∀ {as : List α} {bs : List β} {i : Nat} {b : β}, Paired F as bs → bs[i]? = some b → ∃ a, as[i]? = some a ∧ F a b
  | _, _, _, _, .nil, e => by simp at e
  | _, _, 0, _, .cons r _, e => by simp at e; subst e; exact ⟨_, rfl, r⟩
  | _, _, i + 1, _, .cons _ t, e => by
    obtain ⟨a, h1, h2⟩ := Paired.get t (i := i) (by simpa using e)
    exact ⟨a, by simpa using h1, h2⟩
theorem Paired.getL {α β : Type} {F : α → β → Prop} : ∀ {as : List α} {bs : List β} {i : Nat} {a : α}, Paired F as bs → as[i]? = some a → ∃ b, bs[i]? = some b ∧ F a b
  | _, _, _, _, .nil, e => by simp at e
  | _, _, 0, _, .cons r _, e => by simp at e; subst e; exact ⟨_, rfl, r⟩
  | _, _, i + 1, _, .cons _ t, e => by
    obtain ⟨a, h1, h2⟩ := Paired.getL t (i := i) (by simpa using e)
    exact ⟨a, by simpa using h1, h2⟩
theorem Paired.app {α β : Type} {F : α → β → Prop} : ∀ {as cs : List α} {bs ds : List β}, Paired F as bs → Paired F cs ds → Paired F (as ++ cs) (bs ++ ds)
  | _, _, _, _, .nil, h => h
  | _, _, _, _, .cons r t, h => .cons r (Paired.app t h)
theorem Paired.take {α β : Type} {F : α → β → Prop} : ∀ {as : List α} {bs : List β} (n : Nat), Paired F as bs → Paired F (as.take n) (bs.take n)
  | _, _, 0, _ => .nil
  | _, _, _ + 1, .nil => .nil
  | _, _, n + 1, .cons r t => .cons r (Paired.take n t)
theorem Paired.drop {α β : Type} {F : α → β → Prop} : ∀ {as : List α} {bs : List β} (n : Nat), Paired F as bs → Paired F (as.drop n) (bs.drop n)
  | _, _, 0, h => h
  | _, _, _ + 1, .nil => .nil
  | _, _, n + 1, .cons r t => Paired.drop n t
theorem Paired.rev {α β : Type} {F : α → β → Prop} : ∀ {as : List α} {bs : List β}, Paired F as bs → Paired F as.reverse bs.reverse
  | _, _, .nil => .nil
  | _, _, .cons r t => by
    rw [List.reverse_cons, List.reverse_cons]
    exact Paired.app (Paired.rev t) (.cons r .nil)
theorem Paired.set {α β : Type} {F : α → β → Prop} {a : α} {b : β} (r : F a b) : ∀ {as : List α} {bs : List β} (n : Nat), Paired F as bs → Paired F (as.set n a) (bs.set n b)
  | _, _, _, .nil => .nil
  | _, _, 0, .cons _ t => .cons r t
  | _, _, n + 1, .cons q t => .cons q (Paired.set r n t)
/-- ints as they stand -/
theorem ints_paired {H : Hp} : ∀ {vs : List V} {ns : List Int}, Paired (rInt H) vs ns → vs = ns.map V.int
  | _, _, .nil => rfl
  | _, _, .cons r t => by rw [List.map_cons, ints_paired t, show _ = _ from r]
theorem paired_ints {H : Hp} : ∀ ns : List Int, Paired (rInt H) (ns.map V.int) ns
  | [] => .nil
  | n :: ns => .cons rfl (paired_ints ns)
theorem nats_paired {H : Hp} : ∀ {vs : List V} {ns : List Nat}, Paired (rNat H) vs ns → vs = (ns.map fun n : Nat => (n : Int)).map V.int
  | _, _, .nil => rfl
  | _, _, .cons r t => by rw [List.map_cons, List.map_cons, ← nats_paired t, show _ = _ from r]
theorem bls_paired {H : Hp} : ∀ {vs : List V} {ns : List Bool}, Paired (rBl H) vs ns → vs = ns.map V.bl
  | _, _, .nil => rfl
  | _, _, .cons r t => by rw [List.map_cons, ← bls_paired t, show _ = _ from r]
theorem strs_paired {H : Hp} : ∀ {vs : List V} {ns : List Str}, Paired (rStr H) vs ns → vs = ns.map V.str
  | _, _, .nil => rfl
  | _, _, .cons r t => by rw [List.map_cons, ← strs_paired t, show _ = _ from r]

/-! ### what evaluates to what -/
def Ev {α : Type} (R : Rp α) (te : TE) (σ : St) (F H : Hp) (x : α) : Prop :=
  ∀ F1 H1, Gr M0 F H F1 H1 → ∀ Q : VK, (∀ v F2 H2, Gr M0 F1 H1 F2 H2 → R F2 v x → Q v H2) → te σ H1 Q
def EvT (tt : TT) (σ : St) (F H : Hp) (b : Bool) : Prop :=
  ∀ F1 H1, Gr M0 F H F1 H1 → ∀ Q : Bool → Hp → Prop, (∀ F2 H2, Gr M0 F1 H1 F2 H2 → Q b H2) → tt σ H1 Q
def EvA (ta : TA) (σ : St) (F H : Hp) (P : Hp → List V → Prop) : Prop :=
  ∀ F1 H1, Gr M0 F H F1 H1 → ∀ Q : List V → Hp → Prop, (∀ vs F2 H2, Gr M0 F1 H1 F2 H2 → P F2 vs → Q vs H2) → ta σ H1 Q
section
variable {K : PySem.W.Frag} {σ : St} {F H F' H' : Hp} {ta tb tc te : TE} {t u : TT} {α β γ δ ε : Type} {R : Rp α} {S : Rp β} {T : Rp γ} {x : α} {y : β} {z : γ}
theorem Ev.mono (g : Gr M0 F H F' H') (h : Ev R te σ F H x) : Ev R te σ F' H' x := fun F1 H1 g1 Q q => h F1 H1 (g.trans g1) Q q
theorem EvT.mono {b : Bool} (g : Gr M0 F H F' H') (h : EvT t σ F H b) : EvT t σ F' H' b := fun F1 H1 g1 Q q => h F1 H1 (g.trans g1) Q q
theorem Ev.is {x' : α} (h : Ev R te σ F H x) (e : x = x') : Ev R te σ F H x' := e ▸ h
theorem EvT.is {b b' : Bool} (h : EvT t σ F H b) (e : b = b') : EvT t σ F H b' := e ▸ h
/-- another reading of the value -/
theorem Ev.as (h : Ev R te σ F H x) (c : ∀ F v, R F v x → S F v y) : Ev S te σ F H y := fun F1 H1 g Q q => h F1 H1 g Q fun v F2 H2 g2 r => q v F2 H2 g2 (c F2 v r)
theorem Ev.nat {n : Nat} (h : Ev rNat te σ F H n) : Ev rInt te σ F H (n : Int) := h
theorem Ev.toNat {n : Nat} (h : Ev rInt te σ F H (n : Int)) : Ev rNat te σ F H n := h
theorem ev_var {i : Nat} {v : V} (h : σ[i]? = some (some v)) (r : R F v x) (m : Mn R := by infer_instance) : Ev R (tVar i) σ F H x := fun F1 H1 g Q q => ⟨v, h, q v F1 H1 (.refl g.fh) (m.mono g.ff r)⟩
theorem ev_int {i : Int} : Ev rInt (tC (.int i)) σ F H i := fun F1 H1 g Q q => q _ F1 H1 (.refl g.fh) rfl
theorem ev_bl {i : Bool} : Ev rBl (tC (.bl i)) σ F H i := fun F1 H1 g Q q => q _ F1 H1 (.refl g.fh) rfl
theorem ev_str {i : Str} : Ev rStr (tC (.str i)) σ F H i := fun F1 H1 g Q q => q _ F1 H1 (.refl g.fh) rfl
theorem ev_non : Ev rNon (tC .non) σ F H () := fun F1 H1 g Q q => q _ F1 H1 (.refl g.fh) rfl
theorem ev_noneO : Ev (rOpt R) (tC .non) σ F H none := fun F1 H1 g Q q => q _ F1 H1 (.refl g.fh) rfl
theorem ev_someO (h : Ev R te σ F H x) : Ev (rOpt R) te σ F H (some x) := h
/-- operators of two ints -/
theorem ev_I0 {g : Int → Int → V} {i j : Int} (ha : Ev rInt ta σ F H i) (hb : Ev rInt tb σ F H j) (hz : ∀ F, R F (g i j) x) : Ev R (tOp (rI0 g) ta tb) σ F H x := fun F1 H1 g1 Q q =>
  ha F1 H1 g1 _ fun v F2 H2 g2 r => hb F2 H2 (g1.trans g2) _ fun w F3 H3 g3 r2 => ⟨i, j, r, r2, q _ F3 H3 (g2.trans g3) (hz F3)⟩
theorem ev_I {C : Int → Int → Prop} {g : Int → Int → V} {i j : Int} (ha : Ev rInt ta σ F H i) (hb : Ev rInt tb σ F H j) (hc : C i j) (hz : ∀ F, R F (g i j) x) : Ev R (tOp (rI C g) ta tb) σ F H x := fun F1 H1 g1 Q q =>
  ha F1 H1 g1 _ fun v F2 H2 g2 r => hb F2 H2 (g1.trans g2) _ fun w F3 H3 g3 r2 => ⟨i, j, r, r2, hc, q _ F3 H3 (g2.trans g3) (hz F3)⟩
variable {i j : Int}
theorem ev_add (ha : Ev rInt ta σ F H i) (hb : Ev rInt tb σ F H j) : Ev rInt (tOp (rI0 fun i j => .int (i + j)) ta tb) σ F H (i + j) := ev_I0 ha hb fun _ => rfl
theorem ev_sub (ha : Ev rInt ta σ F H i) (hb : Ev rInt tb σ F H j) : Ev rInt (tOp (rI0 fun i j => .int (i - j)) ta tb) σ F H (i - j) := ev_I0 ha hb fun _ => rfl
theorem ev_mul (ha : Ev rInt ta σ F H i) (hb : Ev rInt tb σ F H j) (hc : CMul i j) : Ev rInt (tOp (rI CMul fun i j => .int (i * j)) ta tb) σ F H (i * j) := ev_I ha hb hc fun _ => rfl
theorem ev_mulW (ha : Ev rInt ta σ F H i) (hb : Ev rInt tb σ F H j) (hc : CMulW i j) : Ev rInt (tOp (rI CMulW fun i j => .int (i * j)) ta tb) σ F H (i * j) := ev_I ha hb hc fun _ => rfl
theorem ev_fdiv (ha : Ev rInt ta σ F H i) (hb : Ev rInt tb σ F H j) (hc : CDiv i j) : Ev rInt (tOp (rI CDiv fun i j => .int (i / j)) ta tb) σ F H (i / j) := ev_I ha hb hc fun _ => rfl
theorem ev_mod (ha : Ev rInt ta σ F H i) (hb : Ev rInt tb σ F H j) (hc : 0 < j) : Ev rInt (tOp (rI (fun _ j => 0 < j) fun i j => .int (i % j)) ta tb) σ F H (i % j) := ev_I ha hb hc fun _ => rfl
theorem ev_pow (ha : Ev rInt ta σ F H i) (hb : Ev rInt tb σ F H j) (hc : CPow i j) : Ev rInt (tOp (rI CPow fun i j => .int (i ^ j.toNat)) ta tb) σ F H (i ^ j.toNat) := ev_I ha hb hc fun _ => rfl
theorem ev_lt (ha : Ev rInt ta σ F H i) (hb : Ev rInt tb σ F H j) : Ev rBl (tOp (rI0 fun i j => .bl (decide (i < j))) ta tb) σ F H (decide (i < j)) := ev_I0 ha hb fun _ => rfl
theorem ev_le (ha : Ev rInt ta σ F H i) (hb : Ev rInt tb σ F H j) : Ev rBl (tOp (rI0 fun i j => .bl (decide (i ≤ j))) ta tb) σ F H (decide (i ≤ j)) := ev_I0 ha hb fun _ => rfl
theorem ev_gt (ha : Ev rInt ta σ F H i) (hb : Ev rInt tb σ F H j) : Ev rBl (tOp (rI0 fun i j => .bl (decide (j < i))) ta tb) σ F H (decide (j < i)) := ev_I0 ha hb fun _ => rfl
theorem ev_ge (ha : Ev rInt ta σ F H i) (hb : Ev rInt tb σ F H j) : Ev rBl (tOp (rI0 fun i j => .bl (decide (j ≤ i))) ta tb) σ F H (decide (j ≤ i)) := ev_I0 ha hb fun _ => rfl
theorem ev_neg (ha : Ev rInt ta σ F H i) : Ev rInt (tUn (rU fun i => .int (-i)) ta) σ F H (-i) := fun F1 H1 g1 Q q => ha F1 H1 g1 _ fun v F2 H2 g2 r => ⟨i, r, q _ F2 H2 g2 rfl⟩
theorem ev_eqI (ha : Ev rInt ta σ F H i) (hb : Ev rInt tb σ F H j) : Ev rBl (tOp rEq ta tb) σ F H (decide (i = j)) := fun F1 H1 g1 Q q =>
  ha F1 H1 g1 _ fun v F2 H2 g2 r => hb F2 H2 (g1.trans g2) _ fun w F3 H3 g3 r2 => by
    cases (show v = V.int i from r)
    cases (show w = V.int j from r2)
    refine ⟨rfl, ?_⟩
    have e : decide (V.int i = V.int j) = decide (i = j) := by simp
    rw [e]
    exact q _ F3 H3 (g2.trans g3) rfl
theorem ev_neI (ha : Ev rInt ta σ F H i) (hb : Ev rInt tb σ F H j) : Ev rBl (tOp rNe ta tb) σ F H (!decide (i = j)) := fun F1 H1 g1 Q q =>
  ha F1 H1 g1 _ fun v F2 H2 g2 r => hb F2 H2 (g1.trans g2) _ fun w F3 H3 g3 r2 => by
    cases (show v = V.int i from r)
    cases (show w = V.int j from r2)
    refine ⟨rfl, ?_⟩
    have e : decide (V.int i = V.int j) = decide (i = j) := by simp
    rw [e]
    exact q _ F3 H3 (g2.trans g3) rfl
theorem ev_eqS {a b : Str} (ha : Ev rStr ta σ F H a) (hb : Ev rStr tb σ F H b) : Ev rBl (tOp rEq ta tb) σ F H (decide (a = b)) := fun F1 H1 g1 Q q =>
  ha F1 H1 g1 _ fun v F2 H2 g2 r => hb F2 H2 (g1.trans g2) _ fun w F3 H3 g3 r2 => by
    cases (show v = V.str a from r)
    cases (show w = V.str b from r2)
    refine ⟨rfl, ?_⟩
    have e : decide (V.str a = V.str b) = decide (a = b) := by simp
    rw [e]
    exact q _ F3 H3 (g2.trans g3) rfl
theorem ev_neS {a b : Str} (ha : Ev rStr ta σ F H a) (hb : Ev rStr tb σ F H b) : Ev rBl (tOp rNe ta tb) σ F H (!decide (a = b)) := fun F1 H1 g1 Q q =>
  ha F1 H1 g1 _ fun v F2 H2 g2 r => hb F2 H2 (g1.trans g2) _ fun w F3 H3 g3 r2 => by
    cases (show v = V.str a from r)
    cases (show w = V.str b from r2)
    refine ⟨rfl, ?_⟩
    have e : decide (V.str a = V.str b) = decide (a = b) := by simp
    rw [e]
    exact q _ F3 H3 (g2.trans g3) rfl
/-- is None -/
def rIsN : R2 := fun x y H Q => y = .non ∧ Q (.bl (decide (x = .non))) H
def rNotN : R2 := fun x y H Q => y = .non ∧ Q (.bl (!decide (x = .non))) H
theorem op_isN1 {X : Cx} : OpR X (compareOp .Is) rIsN := op_isN
theorem op_notN1 {X : Cx} : OpR X (compareOp .IsNot) rNotN := op_notN
class NotN {α : Type} (R : Rp α) : Prop where
  nn : ∀ {F v x}, R F v x → v ≠ .non
instance : NotN rInt := ⟨fun h e => by rw [show _ = _ from h] at e; cases e⟩
instance : NotN rNat := ⟨fun h e => by rw [show _ = _ from h] at e; cases e⟩
instance : NotN rStr := ⟨fun h e => by rw [show _ = _ from h] at e; cases e⟩
instance : NotN rBl := ⟨fun h e => by rw [show _ = _ from h] at e; cases e⟩
instance {α : Type} {R : Rp α} : NotN (rLst R) := ⟨fun ⟨_, _, h, _⟩ e => by rw [h] at e; cases e⟩
instance {α : Type} {R : Rp α} : NotN (rTup R) := ⟨fun ⟨_, _, h, _⟩ e => by rw [h] at e; cases e⟩
instance {α β : Type} {R : Rp α} {S : Rp β} : NotN (rPr R S) := ⟨fun ⟨_, _, _, h, _⟩ e => by rw [h] at e; cases e⟩
theorem opt_isNone {R : Rp α} [n : NotN R] {v : V} {x : Option α} (h : rOpt R F v x) : decide (v = .non) = x.isNone := by
  cases x with
  | none => exact decide_eq_true h
  | some y => exact decide_eq_false (n.nn h)
theorem ev_isN {x : Option α} (ha : Ev (rOpt R) ta σ F H x) (n : NotN R := by infer_instance) : Ev rBl (tOp rIsN ta (tC .non)) σ F H x.isNone := fun F1 H1 g1 Q q =>
  ha F1 H1 g1 _ fun v F2 H2 g2 r => ⟨rfl, by rw [opt_isNone r]; exact q _ F2 H2 g2 rfl⟩
theorem ev_notN {x : Option α} (ha : Ev (rOpt R) ta σ F H x) (n : NotN R := by infer_instance) : Ev rBl (tOp rNotN ta (tC .non)) σ F H x.isSome := fun F1 H1 g1 Q q =>
  ha F1 H1 g1 _ fun v F2 H2 g2 r => ⟨rfl, by rw [opt_isNone r]; exact q _ F2 H2 g2 (by cases x <;> rfl)⟩
/-! tests -/
theorem et_test {b : Bool} (h : Ev rBl te σ F H b) : EvT (tTest te) σ F H b := fun F1 H1 g Q q => h F1 H1 g _ fun v F2 H2 g2 r => ⟨b, r, q F2 H2 g2⟩
theorem et_B {b : Bool} (h : Ev rBl te σ F H b) : EvT (tB te) σ F H b := fun F1 H1 g Q q => h F1 H1 g _ fun v F2 H2 g2 r => ⟨b, r, q F2 H2 g2⟩
theorem et_and {a b : Bool} (h1 : EvT t σ F H a) (h2 : a = true → EvT u σ F H b) : EvT (tAnd t u) σ F H (a && b) := fun F1 H1 g Q q => h1 F1 H1 g _ fun F2 H2 g2 => by
  cases a with
  | true => exact h2 rfl F2 H2 (g.trans g2) Q fun F3 H3 g3 => q F3 H3 (g2.trans g3)
  | false => exact q F2 H2 g2
theorem et_or {a b : Bool} (h1 : EvT t σ F H a) (h2 : a = false → EvT u σ F H b) : EvT (tOr t u) σ F H (a || b) := fun F1 H1 g Q q => h1 F1 H1 g _ fun F2 H2 g2 => by
  cases a with
  | true => exact q F2 H2 g2
  | false => exact h2 rfl F2 H2 (g.trans g2) Q fun F3 H3 g3 => q F3 H3 (g2.trans g3)
theorem et_not {a : Bool} (h1 : EvT t σ F H a) : EvT (tNot t) σ F H (!a) := fun F1 H1 g Q q => h1 F1 H1 g _ fun F2 H2 g2 => q F2 H2 g2
theorem ev_andV {a b : Bool} (h1 : Ev rBl ta σ F H a) (h2 : a = true → Ev rBl tb σ F H b) : Ev rBl (tAndV ta tb) σ F H (a && b) := fun F1 H1 g Q q => h1 F1 H1 g _ fun v F2 H2 g2 r => ⟨a, r, by
  cases a with
  | true => exact h2 rfl F2 H2 (g.trans g2) Q fun w F3 H3 g3 => q w F3 H3 (g2.trans g3)
  | false => exact q _ F2 H2 g2 rfl⟩
theorem ev_orV {a b : Bool} (h1 : Ev rBl ta σ F H a) (h2 : a = false → Ev rBl tb σ F H b) : Ev rBl (tOrV ta tb) σ F H (a || b) := fun F1 H1 g Q q => h1 F1 H1 g _ fun v F2 H2 g2 r => ⟨a, r, by
  cases a with
  | true => exact q _ F2 H2 g2 rfl
  | false => exact h2 rfl F2 H2 (g.trans g2) Q fun w F3 H3 g3 => q w F3 H3 (g2.trans g3)⟩
theorem ev_notV {a : Bool} (h1 : Ev rBl ta σ F H a) : Ev rBl (tNotV ta) σ F H (!a) := fun F1 H1 g Q q => h1 F1 H1 g _ fun v F2 H2 g2 r => ⟨a, r, q _ F2 H2 g2 rfl⟩
theorem ev_if {b : Bool} {x1 x2 : α} (h : EvT t σ F H b) (h1 : b = true → Ev R ta σ F H x1) (h2 : b = false → Ev R tb σ F H x2) : Ev R (tIf t ta tb) σ F H (if b = true then x1 else x2) := fun F1 H1 g Q q => h F1 H1 g _ fun F2 H2 g2 => by
  cases b with
  | true => exact h1 rfl F2 H2 (g.trans g2) Q fun w F3 H3 g3 r => q w F3 H3 (g2.trans g3) (by simpa using r)
  | false => exact h2 rfl F2 H2 (g.trans g2) Q fun w F3 H3 g3 r => q w F3 H3 (g2.trans g3) (by simpa using r)
theorem ev_chain {i j k : Int} {p p' : Int → Int → Bool} (ha : Ev rInt ta σ F H i) (hb : Ev rInt tb σ F H j) (hc : Ev rInt tc σ F H k) :
    Ev rBl (tChain (rI0 fun i j => .bl (p i j)) (rI0 fun i j => .bl (p' i j)) ta tb tc) σ F H (p i j && p' j k) := fun F1 H1 g1 Q q =>
  ha F1 H1 g1 _ fun v F2 H2 g2 r => hb F2 H2 (g1.trans g2) _ fun w F3 H3 g3 r2 => ⟨i, j, r, r2, p i j, rfl, by
    cases e : p i j with
    | true => exact hc F3 H3 ((g1.trans g2).trans g3) _ fun w2 F4 H4 g4 r3 => ⟨j, k, r2, r3, q _ F4 H4 ((g2.trans g3).trans g4) (by rw [e, Bool.true_and]; rfl)⟩
    | false => exact q _ F3 H3 (g2.trans g3) (by rw [e, Bool.false_and]; rfl)⟩
/-! arguments -/
theorem ea_nil : EvA tNil σ F H (fun _ vs => vs = []) := fun F1 H1 g Q q => q _ F1 H1 (.refl g.fh) rfl
theorem ea_cons {tr : TA} {P : Hp → List V → Prop} (h : Ev R te σ F H x) (hr : EvA tr σ F H P) (m : Mn R := by infer_instance) : EvA (tCons te tr) σ F H (fun F vs => ∃ v ws, vs = v :: ws ∧ R F v x ∧ P F ws) := fun F1 H1 g Q q =>
  h F1 H1 g _ fun v F2 H2 g2 r => hr F2 H2 (g.trans g2) _ fun ws F3 H3 g3 p => q _ F3 H3 (g2.trans g3) ⟨v, ws, rfl, m.mono g3.ff r, p⟩
end
end El

set_option Elab.async false
set_option linter.all false
set_option maxRecDepth 100000
set_option maxHeartbeats 2000000
namespace El
open PySem PySem.Spec L2
/-- a reference as it stands -/
def rRef : Rp Addr := fun _ v a => v = .ref a
def rTy : Rp String := fun _ v a => v = .ty a
instance : Mn rRef := ⟨fun _ h => h⟩
instance : Mn rTy := ⟨fun _ h => h⟩
section
variable {K : PySem.W.Frag} {σ : St} {F H F' H' : Hp} {ta tb tc te : TE} {t u : TT} {α β γ δ ε : Type} {R : Rp α} {S : Rp β} {T : Rp γ} {x : α} {y : β} {z : γ} {xs : List α} {i j : Int}
theorem ev_ref {a : Addr} : Ev rRef (tC (.ref a)) σ F H a := fun F1 H1 g Q q => q _ F1 H1 (.refl g.fh) rfl
theorem ev_ty {n : String} : Ev rTy (tC (.ty n)) σ F H n := fun F1 H1 g Q q => q _ F1 H1 (.refl g.fh) rfl

/-! ### index, slice, length -/
theorem atI_paired {f : V → α → Prop} {vs : List V} {xs : List α} {i : Int} {x : α} (p : Paired f vs xs) (h : atI xs i = some x) : ∃ v, atI vs i = some v ∧ f v x := by
  unfold atI at h ⊢
  rw [p.length]
  cases e : ixN xs.length i with
  | none => rw [e] at h; cases h
  | some j =>
    rw [e] at h
    exact El.Paired.get p h
theorem atI_natL {xs : List α} {n : Nat} {x : α} (h : xs[n]? = some x) : atI xs (n : Int) = some x := by
  have hl : n < xs.length := (List.getElem?_eq_some_iff.mp h).1
  unfold atI ixN
  rw [if_pos (by omega), if_pos (by omega)]
  exact h
theorem ev_ixL (ha : Ev (rLst R) ta σ F H xs) (hb : Ev rInt tb σ F H i) (h : atI xs i = some x) (m : Mn R := by infer_instance) : Ev R (tOp (rIxL K) ta tb) σ F H x := fun F1 H1 g1 Q q =>
  ha F1 H1 g1 _ fun v F2 H2 g2 ⟨a, vs, e, hl, p⟩ => hb F2 H2 (g1.trans g2) _ fun w F3 H3 g3 r2 => by
    obtain ⟨y, hy, ry⟩ := atI_paired p h
    exact ⟨a, vs, i, y, e, r2, SqL.of (g3.fh _ _ (g3.ff _ _ hl)), hy, q y F3 H3 (g2.trans g3) (m.mono g3.ff ry)⟩
theorem ev_ixT (ha : Ev (rTup R) ta σ F H xs) (hb : Ev rInt tb σ F H i) (h : atI xs i = some x) (m : Mn R := by infer_instance) : Ev R (tOp (rIxT K) ta tb) σ F H x := fun F1 H1 g1 Q q =>
  ha F1 H1 g1 _ fun v F2 H2 g2 ⟨a, vs, e, hl, p⟩ => hb F2 H2 (g1.trans g2) _ fun w F3 H3 g3 r2 => by
    obtain ⟨y, hy, ry⟩ := atI_paired p h
    exact ⟨a, vs, i, y, e, r2, SqT.of (g3.fh _ _ (g3.ff _ _ hl)), hy, q y F3 H3 (g2.trans g3) (m.mono g3.ff ry)⟩
theorem ev_fst {p : α × β} (ha : Ev (rPr R S) ta σ F H p) (m : Mn R := by infer_instance) : Ev R (tOp (rIxT K) ta (tC (.int 0))) σ F H p.1 := fun F1 H1 g1 Q q =>
  ha F1 H1 g1 _ fun v F2 H2 g2 ⟨a, u, w, e, hl, r1, r2⟩ => ⟨a, [u, w], 0, u, e, rfl, SqT.of (g2.fh _ _ hl), rfl, q u F2 H2 g2 r1⟩
theorem ev_snd {p : α × β} (ha : Ev (rPr R S) ta σ F H p) (m : Mn S := by infer_instance) : Ev S (tOp (rIxT K) ta (tC (.int 1))) σ F H p.2 := fun F1 H1 g1 Q q =>
  ha F1 H1 g1 _ fun v F2 H2 g2 ⟨a, u, w, e, hl, r1, r2⟩ => ⟨a, [u, w], 1, w, e, rfl, SqT.of (g2.fh _ _ hl), rfl, q w F2 H2 g2 r2⟩
/-- a list that may change, as it stands -/
theorem ev_ixM {a : Addr} {vs : List V} {v : V} (ha : Ev rRef ta σ F H a) (hb : Ev rInt tb σ F H i) (hl : H a = some (.lst vs)) (h : atI vs i = some v) (r : R F v x) (m : Mn R := by infer_instance) : Ev R (tOp (rIxL K) ta tb) σ F H x := fun F1 H1 g1 Q q =>
  ha F1 H1 g1 _ fun w F2 H2 g2 e => hb F2 H2 (g1.trans g2) _ fun w2 F3 H3 g3 r2 =>
    ⟨a, vs, i, v, e, r2, SqL.of (g3.hx _ _ (g2.hx _ _ (g1.hx _ _ hl))), h, q v F3 H3 (g2.trans g3) (m.mono ((g1.ff.trans g2.ff).trans g3.ff) r)⟩
def cut (xs : List α) (lo hi : Option Int) : List α := (xs.drop (HT.sIx xs.length 0 lo)).take (HT.sIx xs.length xs.length hi - HT.sIx xs.length 0 lo)
theorem cut_paired {f : V → α → Prop} {vs : List V} {xs : List α} {lo hi : Option Int} (p : Paired f vs xs) : Paired f (cutV vs lo hi) (cut xs lo hi) := by
  unfold cutV cut
  rw [p.length]
  exact Paired.take _ (Paired.drop _ p)
theorem cut_to {n : Nat} : cut xs none (some (n : Int)) = xs.take n := by
  unfold cut
  rw [HT.sIx_none, HT.sIx_nat, List.drop_zero, Nat.sub_zero]
  by_cases h : n ≤ xs.length
  · rw [Nat.min_eq_left h]
  · rw [Nat.min_eq_right (by omega), List.take_of_length_le (Nat.le_refl _), List.take_of_length_le (by omega)]
theorem cut_from {n : Nat} : cut xs (some (n : Int)) none = xs.drop n := by
  unfold cut
  rw [HT.sIx_none, HT.sIx_nat]
  by_cases h : n ≤ xs.length
  · rw [Nat.min_eq_left h]
    exact List.take_of_length_le (by rw [List.length_drop]; exact Nat.le_refl _)
  · rw [Nat.min_eq_right (by omega), List.drop_of_length_le (Nat.le_refl _), List.drop_of_length_le (by omega), List.take_nil]
theorem cut_mid {n k : Nat} (h : n ≤ k) : cut xs (some (n : Int)) (some (k : Int)) = (xs.drop n).take (k - n) := by
  unfold cut
  rw [HT.sIx_nat, HT.sIx_nat]
  by_cases h1 : n ≤ xs.length
  · rw [Nat.min_eq_left h1]
    by_cases h2 : k ≤ xs.length
    · rw [Nat.min_eq_left h2]
    · rw [Nat.min_eq_right (by omega), List.take_of_length_le (by rw [List.length_drop]; exact Nat.le_refl _), List.take_of_length_le (by rw [List.length_drop]; omega)]
  · rw [show min n xs.length = xs.length by omega, List.drop_of_length_le (Nat.le_refl _), List.drop_of_length_le (show xs.length ≤ n by omega), List.take_nil, List.take_nil]
def EvO (to : TO) (σ : St) (F H : Hp) (o : Option Int) : Prop :=
  ∀ F1 H1, Gr M0 F H F1 H1 → ∀ Q : Option Int → Hp → Prop, (∀ F2 H2, Gr M0 F1 H1 F2 H2 → Q o H2) → to σ H1 Q
theorem eo_none : EvO tNoPart σ F H none := fun F1 H1 g Q q => q F1 H1 (.refl g.fh)
theorem eo_some (h : Ev rInt te σ F H i) : EvO (tPart te) σ F H (some i) := fun F1 H1 g Q q => h F1 H1 g _ fun v F2 H2 g2 r => ⟨i, r, q F2 H2 g2⟩
theorem ev_slL {tl th : TO} {lo hi : Option Int} (h : Ev (rLst R) te σ F H xs) (h1 : EvO tl σ F H lo) (h2 : EvO th σ F H hi) (m : Mn R := by infer_instance) : Ev (rLst R) (tSl (rSlL K) te tl th) σ F H (cut xs lo hi) := fun F1 H1 g1 Q q =>
  h F1 H1 g1 _ fun v F2 H2 g2 ⟨a, vs, e, hl, p⟩ => h1 F2 H2 (g1.trans g2) _ fun F3 H3 g3 => h2 F3 H3 ((g1.trans g2).trans g3) _ fun F4 H4 g4 =>
    ⟨a, vs, e, SqL.of (g4.fh _ _ (g4.ff _ _ (g3.ff _ _ hl))), fun D hD => by
      have g5 : Gr M0 F4 H4 (upd F4 D (.lst (cutV vs lo hi))) (upd H4 D (.lst (cutV vs lo hi))) := .new g4.fh hD
      exact q _ _ _ (((g2.trans g3).trans g4).trans g5) ⟨D, _, rfl, upd_same, Paired.up (((g3.ff).trans g4.ff).trans g5.ff) (cut_paired p)⟩⟩
abbrev rLenS (K : PySem.W.Frag) : List V → Hp → VK → Prop := fun xs H Q => ∃ p ys, xs = [.ref p] ∧ (SqL K H p ys ∨ SqT K H p ys) ∧ Q (.int ys.length) H
theorem ev_lenL (ha : Ev (rLst R) ta σ F H xs) : Ev rInt (tCB (rLenS K) (tCons ta tNil)) σ F H (xs.length : Int) := fun F1 H1 g1 Q q =>
  ha F1 H1 g1 _ fun v F2 H2 g2 ⟨a, vs, e, hl, p⟩ => ⟨a, vs, by rw [e], .inl (SqL.of (g2.fh _ _ hl)), q _ F2 H2 g2 (by rw [← p.length]; rfl)⟩
theorem ev_lenT (ha : Ev (rTup R) ta σ F H xs) : Ev rInt (tCB (rLenS K) (tCons ta tNil)) σ F H (xs.length : Int) := fun F1 H1 g1 Q q =>
  ha F1 H1 g1 _ fun v F2 H2 g2 ⟨a, vs, e, hl, p⟩ => ⟨a, vs, by rw [e], .inr (SqT.of (g2.fh _ _ hl)), q _ F2 H2 g2 (by rw [← p.length]; rfl)⟩
theorem ev_lenM {a : Addr} {vs : List V} (ha : Ev rRef ta σ F H a) (hl : H a = some (.lst vs)) : Ev rInt (tCB (rLenS K) (tCons ta tNil)) σ F H (vs.length : Int) := fun F1 H1 g1 Q q =>
  ha F1 H1 g1 _ fun v F2 H2 g2 e => ⟨a, vs, by rw [show v = _ from e], .inl (SqL.of (g2.hx _ _ (g1.hx _ _ hl))), q _ F2 H2 g2 rfl⟩
theorem ev_lenStr {s : Str} (hz : s.length ≤ sizeLine) (ha : Ev rStr ta σ F H s) : Ev rInt (tCB (fun xs H Q => ∃ z, xs = [.str z] ∧ z.length ≤ sizeLine ∧ Q (.int z.length) H) (tCons ta tNil)) σ F H (s.length : Int) := fun F1 H1 g1 Q q =>
  ha F1 H1 g1 _ fun v F2 H2 g2 e => ⟨s, by rw [show v = _ from e], hz, q _ F2 H2 g2 rfl⟩

/-! ### displays, list(..), tuple(..) -/
def EvL {α : Type} (R : Rp α) (ta : TA) (σ : St) (F H : Hp) (xs : List α) : Prop := EvA ta σ F H (fun F vs => Paired (R F) vs xs)
theorem el_nil : EvL R tNil σ F H [] := fun F1 H1 g Q q => q _ F1 H1 (.refl g.fh) .nil
theorem el_cons {tr : TA} (h : Ev R te σ F H x) (hr : EvL R tr σ F H xs) (m : Mn R := by infer_instance) : EvL R (tCons te tr) σ F H (x :: xs) := fun F1 H1 g Q q =>
  h F1 H1 g _ fun v F2 H2 g2 r => hr F2 H2 (g.trans g2) _ fun ws F3 H3 g3 p => q _ F3 H3 (g2.trans g3) (.cons (m.mono g3.ff r) p)
theorem ev_lst {t : TA} (h : EvL R t σ F H xs) (hz : xs.length ≤ sizeLine) (m : Mn R := by infer_instance) : Ev (rLst R) (tLst t) σ F H xs := fun F1 H1 g Q q =>
  h F1 H1 g _ fun vs F2 H2 g2 p => ⟨by rw [p.length]; exact hz, fun D hD => q _ _ _ (g2.trans (.new g2.fh hD)) ⟨D, vs, rfl, upd_same, Paired.up (Gr.new (M := M0) g2.fh hD).ff p⟩⟩
theorem ev_tup {t : TA} (h : EvL R t σ F H xs) (hz : xs.length ≤ sizeLine) (m : Mn R := by infer_instance) : Ev (rTup R) (tTup t) σ F H xs := fun F1 H1 g Q q =>
  h F1 H1 g _ fun vs F2 H2 g2 p => ⟨by rw [p.length]; exact hz, fun D hD => q _ _ _ (g2.trans (.new g2.fh hD)) ⟨D, vs, rfl, upd_same, Paired.up (Gr.new (M := M0) g2.fh hD).ff p⟩⟩
theorem ev_pr (ha : Ev R ta σ F H x) (hb : Ev S tb σ F H y) (m : Mn R := by infer_instance) (n : Mn S := by infer_instance) : Ev (rPr R S) (tTup (tCons ta (tCons tb tNil))) σ F H (x, y) := fun F1 H1 g Q q =>
  ha F1 H1 g _ fun v F2 H2 g2 r => hb F2 H2 (g.trans g2) _ fun w F3 H3 g3 r2 => ⟨by show 2 ≤ sizeLine; decide, fun D hD => by
    have g4 : Gr M0 F3 H3 (upd F3 D (.tup [v, w])) (upd H3 D (.tup [v, w])) := .new g3.fh hD
    exact q _ _ _ ((g2.trans g3).trans g4) ⟨D, v, w, rfl, upd_same, m.mono (g3.ff.trans g4.ff) r, n.mono g4.ff r2⟩⟩
abbrev rListS (K : PySem.W.Frag) : List V → Hp → VK → Prop := fun xs H Q => ∃ p ys, xs = [.ref p] ∧ (SqL K H p ys ∨ SqT K H p ys) ∧ ∀ l, H l = none → Q (.ref l) (upd H l (.lst ys))
abbrev rTupS (K : PySem.W.Frag) : List V → Hp → VK → Prop := fun xs H Q => ∃ p ys, xs = [.ref p] ∧ ((SqL K H p ys ∧ ∀ l, H l = none → Q (.ref l) (upd H l (.tup ys))) ∨ (SqT K H p ys ∧ Q (.ref p) H))
theorem ev_listL (ha : Ev (rLst R) ta σ F H xs) (m : Mn R := by infer_instance) : Ev (rLst R) (tCB (rListS K) (tCons ta tNil)) σ F H xs := fun F1 H1 g1 Q q =>
  ha F1 H1 g1 _ fun v F2 H2 g2 ⟨a, vs, e, hl, p⟩ => ⟨a, vs, by rw [e], .inl (SqL.of (g2.fh _ _ hl)), fun D hD => q _ _ _ (g2.trans (.new g2.fh hD)) ⟨D, vs, rfl, upd_same, Paired.up (Gr.new (M := M0) g2.fh hD).ff p⟩⟩
theorem ev_listT (ha : Ev (rTup R) ta σ F H xs) (m : Mn R := by infer_instance) : Ev (rLst R) (tCB (rListS K) (tCons ta tNil)) σ F H xs := fun F1 H1 g1 Q q =>
  ha F1 H1 g1 _ fun v F2 H2 g2 ⟨a, vs, e, hl, p⟩ => ⟨a, vs, by rw [e], .inr (SqT.of (g2.fh _ _ hl)), fun D hD => q _ _ _ (g2.trans (.new g2.fh hD)) ⟨D, vs, rfl, upd_same, Paired.up (Gr.new (M := M0) g2.fh hD).ff p⟩⟩
theorem ev_tupL (ha : Ev (rLst R) ta σ F H xs) (m : Mn R := by infer_instance) : Ev (rTup R) (tCB (rTupS K) (tCons ta tNil)) σ F H xs := fun F1 H1 g1 Q q =>
  ha F1 H1 g1 _ fun v F2 H2 g2 ⟨a, vs, e, hl, p⟩ => ⟨a, vs, by rw [e], .inl ⟨SqL.of (g2.fh _ _ hl), fun D hD => q _ _ _ (g2.trans (.new g2.fh hD)) ⟨D, vs, rfl, upd_same, Paired.up (Gr.new (M := M0) g2.fh hD).ff p⟩⟩⟩
theorem rgV_paired {H : Hp} (n : Nat) : Paired (rNat H) (rgV 0 (n : Int)) (List.range n) := by
  unfold rgV
  rw [show ((n : Int) - 0).toNat = n by omega]
  have : ∀ l : List Nat, Paired (rNat H) (l.map fun i => V.int (0 + (i : Nat))) l := fun l => by
    induction l with
    | nil => exact .nil
    | cons a l ih => exact .cons (show V.int (0 + (a : Int)) = V.int (a : Int) by rw [Int.zero_add]) ih
  exact this _
theorem ev_tupRg {n : Nat} (ha : Ev rInt ta σ F H (n : Int)) (hn : n ≤ 1000000) : Ev (rTup rNat) (tTupRg (tRg1 ta)) σ F H (List.range n) := fun F1 H1 g1 Q q =>
  ha F1 H1 g1 _ fun v F2 H2 g2 e => ⟨n, e, .of_le (by omega) (by omega) (by omega) (by omega), fun D hD => q _ _ _ (g2.trans (.new g2.fh hD)) ⟨D, _, rfl, upd_same, rgV_paired n⟩⟩
theorem ev_lstRg {n : Nat} (ha : Ev rInt ta σ F H (n : Int)) (hn : n ≤ 1000000) : Ev (rLst rNat) (tLstRg (tRg1 ta)) σ F H (List.range n) := fun F1 H1 g1 Q q =>
  ha F1 H1 g1 _ fun v F2 H2 g2 e => ⟨n, e, .of_le (by omega) (by omega) (by omega) (by omega), fun D hD => q _ _ _ (g2.trans (.new g2.fh hD)) ⟨D, _, rfl, upd_same, rgV_paired n⟩⟩
theorem ev_all {bs : List Bool} (ha : Ev (rLst rBl) ta σ F H bs) : Ev rBl (tCB (rAll K) (tCons ta tNil)) σ F H (bs.all id) := fun F1 H1 g1 Q q =>
  ha F1 H1 g1 _ fun v F2 H2 g2 ⟨a, vs, e, hl, p⟩ => ⟨a, bs, by rw [e], by rw [← bls_paired p]; exact SqL.of (g2.fh _ _ hl), q _ F2 H2 g2 rfl⟩
theorem ev_any {bs : List Bool} (ha : Ev (rLst rBl) ta σ F H bs) : Ev rBl (tCB (rAny K) (tCons ta tNil)) σ F H (bs.any id) := fun F1 H1 g1 Q q =>
  ha F1 H1 g1 _ fun v F2 H2 g2 ⟨a, vs, e, hl, p⟩ => ⟨a, bs, by rw [e], by rw [← bls_paired p]; exact SqL.of (g2.fh _ _ hl), q _ F2 H2 g2 rfl⟩
theorem ev_sum {ns : List Int} (ha : Ev (rLst rInt) ta σ F H ns) : Ev rInt (tCB (rSum K) (tCons ta tNil)) σ F H ns.sum := fun F1 H1 g1 Q q =>
  ha F1 H1 g1 _ fun v F2 H2 g2 ⟨a, vs, e, hl, p⟩ => ⟨a, ns, by rw [e], by rw [← ints_paired p]; exact SqL.of (g2.fh _ _ hl), q _ F2 H2 g2 rfl⟩
theorem ev_cat {xs ys : List α} (ha : Ev (rLst R) ta σ F H xs) (hb : Ev (rLst R) tb σ F H ys) (hz : xs.length + ys.length ≤ sizeLine) (m : Mn R := by infer_instance) : Ev (rLst R) (tOp rCat ta tb) σ F H (xs ++ ys) := fun F1 H1 g1 Q q =>
  ha F1 H1 g1 _ fun v F2 H2 g2 ⟨a, vs, e, hl, p⟩ => hb F2 H2 (g1.trans g2) _ fun w F3 H3 g3 ⟨b, ws, e2, hl2, p2⟩ =>
    ⟨a, b, vs, ws, e, e2, g3.fh _ _ (g3.ff _ _ hl), g3.fh _ _ hl2, by rw [p.length, p2.length]; exact hz, fun D hD => by
      have g4 : Gr M0 F3 H3 (upd F3 D (.lst (vs ++ ws))) (upd H3 D (.lst (vs ++ ws))) := .new g3.fh hD
      exact q _ _ _ ((g2.trans g3).trans g4) ⟨D, _, rfl, upd_same, Paired.app (Paired.up (g3.ff.trans g4.ff) p) (Paired.up g4.ff p2)⟩⟩
theorem ev_rep1 {n : Int} (ha : Ev (rLst R) ta σ F H [x]) (hb : Ev rInt tb σ F H n) (hn : n ≤ 1000000) (h0 : -1000000 ≤ n) (m : Mn R := by infer_instance) : Ev (rLst R) (tOp rRep ta tb) σ F H (List.replicate n.toNat x) := fun F1 H1 g1 Q q =>
  ha F1 H1 g1 _ fun v F2 H2 g2 ⟨a, vs, e, hl, p⟩ => hb F2 H2 (g1.trans g2) _ fun w F3 H3 g3 e2 => by
    cases p with
    | cons r p =>
      cases p
      rename_i y
      refine ⟨a, n, [y], e, e2, g3.fh _ _ (g3.ff _ _ hl), by omega, by omega, by show 1 * n.toNat ≤ sizeLine; rw [sizeLine_eq]; omega, fun D hD => ?_⟩
      have g4 : ∀ o, Gr M0 F3 H3 (upd F3 D o) (upd H3 D o) := fun o => .new g3.fh hD
      refine q _ _ _ ((g2.trans g3).trans (g4 _)) ⟨D, _, rfl, upd_same, ?_⟩
      have r' := fun o => m.mono (g3.ff.trans (g4 o).ff) r
      generalize e5 : HO.lst _ = o5
      have r5 := r' o5
      have : ∀ k, Paired (R (upd F3 D o5)) (List.replicate k [y]).flatten (List.replicate k x) := fun k => by
        induction k with
        | zero => exact .nil
        | succ k ih => exact .cons r5 ih
      exact this _
end
end El

set_option Elab.async false
set_option linter.all false
set_option maxRecDepth 100000
set_option maxHeartbeats 2000000
namespace El
open PySem PySem.Spec L2
section
variable {K : PySem.W.Frag} {σ : St} {F H F' H' : Hp} {ta tb tc te tl : TE} {tt t u : TT} {α β γ δ ε : Type} {R : Rp α} {S : Rp β} {T : Rp γ} {x : α} {y : β} {z : γ} {xs : List α} {ys : List β} {i j : Int} {D : Ends} {ts tu : TS}

/-! ### statements -/
theorem x_set {i : Nat} (e : Ex F H) (h : Ev R te σ F H x) (k : ∀ v F' H', Gr M0 F H F' H' → R F' v x → D.nx (σ.set i (some v)) H') : tAsg te (gName i) D σ H := h F H (.refl e) _ fun v F' H' g r => k v F' H' g r
theorem x_ret (e : Ex F H) (h : Ev R te σ F H x) (k : ∀ v F' H', Gr M0 F H F' H' → R F' v x → D.rt v H') : tRet te D σ H := h F H (.refl e) _ k
theorem x_drop (e : Ex F H) (h : Ev R te σ F H x) (k : ∀ F' H', Gr M0 F H F' H' → D.nx σ H') : tDrop te D σ H := h F H (.refl e) _ fun v F' H' g _ => k F' H' g
theorem x_if {b : Bool} (e : Ex F H) (h : EvT t σ F H b) (k1 : b = true → ∀ F' H', Gr M0 F H F' H' → ts D σ H') (k2 : b = false → ∀ F' H', Gr M0 F H F' H' → tu D σ H') : tIfS t ts tu D σ H := h F H (.refl e) _ fun F' H' g => by
  cases b with
  | true => exact k1 rfl F' H' g
  | false => exact k2 rfl F' H' g
/-- name += int -/
theorem x_aug {i : Nat} {a b : Int} {f : Int → Int → Int} (e : Ex F H) (hx : σ[i]? = some (some (.int a))) (h : Ev rInt te σ F H b) (k : ∀ F' H', Gr M0 F H F' H' → D.nx (σ.set i (some (.int (f a b)))) H') : tAug i te (ipI f) D σ H :=
  ⟨.int a, hx, h F H (.refl e) _ fun v F' H' g r => ⟨a, b, rfl, r, k F' H' g⟩⟩
/-- a new list that may change: x = [] -/
theorem x_nil {i : Nat} (e : Ex F H) (k : ∀ l, H l = none → D.nx (σ.set i (some (.ref l))) (upd H l (.lst []))) : tAsg (tLst tNil) (gName i) D σ H := ⟨Nat.zero_le _, fun l hl => k l hl⟩
/-- a new list that may change, by what it evaluates to -/
theorem x_setM {i : Nat} (e : Ex F H) (h : Ev (rLst R) te σ F H xs) (k : ∀ v F' H', Gr M0 F H F' H' → rLst R F' v xs → D.nx (σ.set i (some v)) H') : tAsg te (gName i) D σ H := x_set e h k
/-- xs.append(e) -/
theorem x_app {l : Addr} {vs : List V} (e : Ex F H) (ha : Ev rRef ta σ F H l) (hl : H l = some (.lst vs)) (h : Ev R te σ F H x) (hz : vs.length < sizeLine)
    (k : ∀ v F' H', Gr M0 F H F' H' → R F' v x → H' l = some (.lst vs) → D.nx σ (upd H' l (.lst (vs ++ [v])))) : tDrop (tBM K "list" rAppend ta (tCons te tNil)) D σ H :=
  ha F H (.refl e) _ fun v F1 H1 g1 r1 => by
    cases (show v = _ from r1)
    exact ⟨.inl ⟨rfl, vs, SqL.of (g1.hx _ _ hl)⟩, h F1 H1 g1 _ fun w F2 H2 g2 r2 => ⟨l, vs, w, rfl, rfl, g2.hx _ _ (g1.hx _ _ hl), hz, k w F2 H2 (g1.trans g2) r2 (g2.hx _ _ (g1.hx _ _ hl))⟩⟩
/-- xs.extend(e) -/
theorem x_ext {l : Addr} {vs : List V} {zs : List α} (e : Ex F H) (ha : Ev rRef ta σ F H l) (hl : H l = some (.lst vs)) (h : Ev (rLst R) te σ F H zs) (hz : vs.length + zs.length ≤ sizeLine)
    (k : ∀ ws F' H', Gr M0 F H F' H' → Paired (R F') ws zs → H' l = some (.lst vs) → D.nx σ (upd H' l (.lst (vs ++ ws)))) : tDrop (tBM K "list" rExtend ta (tCons te tNil)) D σ H :=
  ha F H (.refl e) _ fun v F1 H1 g1 r1 => by
    cases (show v = _ from r1)
    exact ⟨.inl ⟨rfl, vs, SqL.of (g1.hx _ _ hl)⟩, h F1 H1 g1 _ fun w F2 H2 g2 ⟨b, ws, eb, hb, p⟩ => by
      subst eb
      exact ⟨l, b, vs, ws, rfl, rfl, g2.hx _ _ (g1.hx _ _ hl), g2.fh _ _ hb, by rw [p.length]; exact hz, k ws F2 H2 (g1.trans g2) p (g2.hx _ _ (g1.hx _ _ hl))⟩⟩
/-- xs[i] = e -/
theorem x_setI {l : Addr} {vs : List V} {n : Nat} (e : Ex F H) (h : Ev R te σ F H x) (ha : Ev rRef ta σ F H l) (hi : Ev rInt tb σ F H (n : Int)) (hl : H l = some (.lst vs)) (hn : n < vs.length)
    (k : ∀ v F' H', Gr M0 F H F' H' → R F' v x → H' l = some (.lst vs) → D.nx σ (upd H' l (.lst (vs.set n v)))) (m : Mn R := by infer_instance) : tAsg te (gSub ta tb rSetL) D σ H :=
  h F H (.refl e) _ fun v F1 H1 g1 r1 => ha F1 H1 g1 _ fun w F2 H2 g2 r2 => hi F2 H2 (g1.trans g2) _ fun w3 F3 H3 g3 r3 => by
    refine ⟨l, vs, (n : Int), n, r2, r3, g3.hx _ _ (g2.hx _ _ (g1.hx _ _ hl)), ?_, k v F3 H3 ((g1.trans g2).trans g3) (m.mono (g2.ff.trans g3.ff) r1) (g3.hx _ _ (g2.hx _ _ (g1.hx _ _ hl)))⟩
    unfold ixN
    rw [if_pos (by omega), if_pos (by omega)]
    rfl

/-! ### loops -/
/-- for x in a frozen list -/
theorem x_forL {n : Nat} (e : Ex F H) (h : Ev (rLst R) tl σ F H xs) (Pv : Nat → St → Hp → Hp → Prop) (h0 : ∀ F1 H1, Gr M0 F H F1 H1 → Pv 0 σ F1 H1)
    (hs : ∀ F1, Ex F F1 → ∀ i x v σ' F' H', xs[i]? = some x → Ex F1 F' → Ex F' H' → R F' v x → Pv i σ' F' H' →
      ts { D with nx := fun σ2 H2 => ∃ F2, Ex F1 F2 ∧ Ex F2 H2 ∧ Pv (i + 1) σ2 F2 H2, ct := fun σ2 H2 => ∃ F2, Ex F1 F2 ∧ Ex F2 H2 ∧ Pv (i + 1) σ2 F2 H2, bk := D.nx } (σ'.set n (some v)) H')
    (hd : ∀ σ' F' H', Ex F F' → Ex F' H' → Pv xs.length σ' F' H' → D.nx σ' H') (m : Mn R := by infer_instance) : tFor (iList K tl) (gName n) ts D σ H := by
  refine h F H (.refl e) _ fun v F1 H1 g1 ⟨a, vs, ea, hl, p⟩ => ⟨a, ea, ⟨vs, SqL.of (g1.fh _ _ hl)⟩, ?_⟩
  refine for_list (xs := vs) (fun i σ' H' => ∃ F', Ex F1 F' ∧ Ex F' H' ∧ Pv i σ' F' H') ⟨F1, Ex.refl _, g1.fh, h0 F1 H1 g1⟩ (fun i σ' H' _ ⟨F', e1, e2, _⟩ => SqL.of (e2 _ _ (e1 _ _ hl))) ?_ ?_
  · rintro i w σ' H' hi ⟨F', e1, e2, pv⟩
    obtain ⟨x, hx, rx⟩ := Paired.getL p hi
    exact hs F1 g1.ff i x w σ' F' H' hx e1 e2 (m.mono e1 rx) pv
  · rintro σ' H' ⟨F', e1, e2, pv⟩
    rw [p.length] at pv
    exact hd σ' F' H' (g1.ff.trans e1) e2 pv
theorem x_forT {n : Nat} (e : Ex F H) (h : Ev (rTup R) tl σ F H xs) (Pv : Nat → St → Hp → Hp → Prop) (h0 : ∀ F1 H1, Gr M0 F H F1 H1 → Pv 0 σ F1 H1)
    (hs : ∀ F1, Ex F F1 → ∀ i x v σ' F' H', xs[i]? = some x → Ex F1 F' → Ex F' H' → R F' v x → Pv i σ' F' H' →
      ts { D with nx := fun σ2 H2 => ∃ F2, Ex F1 F2 ∧ Ex F2 H2 ∧ Pv (i + 1) σ2 F2 H2, ct := fun σ2 H2 => ∃ F2, Ex F1 F2 ∧ Ex F2 H2 ∧ Pv (i + 1) σ2 F2 H2, bk := D.nx } (σ'.set n (some v)) H')
    (hd : ∀ σ' F' H', Ex F F' → Ex F' H' → Pv xs.length σ' F' H' → D.nx σ' H') (m : Mn R := by infer_instance) : tFor (iTup K tl) (gName n) ts D σ H := by
  refine h F H (.refl e) _ fun v F1 H1 g1 ⟨a, vs, ea, hl, p⟩ => ⟨a, ea, ⟨vs, SqT.of (g1.fh _ _ hl)⟩, ?_⟩
  refine for_tup (xs := vs) (fun i σ' H' => ∃ F', Ex F1 F' ∧ Ex F' H' ∧ Pv i σ' F' H') ⟨F1, Ex.refl _, g1.fh, h0 F1 H1 g1⟩ (fun i σ' H' _ ⟨F', e1, e2, _⟩ => SqT.of (e2 _ _ (e1 _ _ hl))) ?_ ?_
  · rintro i w σ' H' hi ⟨F', e1, e2, pv⟩
    obtain ⟨x, hx, rx⟩ := Paired.getL p hi
    exact hs F1 g1.ff i x w σ' F' H' hx e1 e2 (m.mono e1 rx) pv
  · rintro σ' H' ⟨F', e1, e2, pv⟩
    rw [p.length] at pv
    exact hd σ' F' H' (g1.ff.trans e1) e2 pv
/-- for k in range(n) -/
theorem x_forR {j : Nat} {n : Nat} {ta : TE} (e : Ex F H) (h : Ev rInt ta σ F H (n : Int)) (hn : n ≤ 1000000000) (Pv : Nat → St → Hp → Hp → Prop) (h0 : ∀ F1 H1, Gr M0 F H F1 H1 → Pv 0 σ F1 H1)
    (hs : ∀ F1, Ex F F1 → ∀ i σ' F' H', i < n → Ex F1 F' → Ex F' H' → Pv i σ' F' H' →
      ts { D with nx := fun σ2 H2 => ∃ F2, Ex F1 F2 ∧ Ex F2 H2 ∧ Pv (i + 1) σ2 F2 H2, ct := fun σ2 H2 => ∃ F2, Ex F1 F2 ∧ Ex F2 H2 ∧ Pv (i + 1) σ2 F2 H2, bk := D.nx } (σ'.set j (some (.int (i : Int)))) H')
    (hd : ∀ σ' F' H', Ex F F' → Ex F' H' → Pv n σ' F' H' → D.nx σ' H') : tFor (iRng1 (tCons ta tNil)) (gName j) ts D σ H := by
  refine h F H (.refl e) _ fun v F1 H1 g1 ea => ⟨(n : Int), by rw [show v = _ from ea], by omega, by omega, ?_⟩
  rw [Int.toNat_natCast]
  refine for_range (lo := 0) (n := n) (fun i σ' H' => ∃ F', Ex F1 F' ∧ Ex F' H' ∧ Pv i σ' F' H') ⟨F1, Ex.refl _, g1.fh, h0 F1 H1 g1⟩ ?_ ?_
  · rintro i σ' H' hi ⟨F', e1, e2, pv⟩
    have e0 : (0 : Int) + (i : Int) = (i : Int) := Int.zero_add _
    show ts _ (σ'.set j (some (.int ((0 : Int) + (i : Int))))) H'
    rw [e0]
    exact hs F1 g1.ff i σ' F' H' hi e1 e2 pv
  · rintro σ' H' ⟨F', e1, e2, pv⟩
    exact hd σ' F' H' (g1.ff.trans e1) e2 pv
/-- for k in range(a, b) -/
theorem x_forR2 {j : Nat} {a b : Nat} {ta tb : TE} (e : Ex F H) (h : Ev rInt ta σ F H (a : Int)) (h2 : Ev rInt tb σ F H (b : Int)) (hn : b ≤ 1000000000) (ha : a ≤ 1000000000) (Pv : Nat → St → Hp → Hp → Prop) (h0 : ∀ F1 H1, Gr M0 F H F1 H1 → Pv 0 σ F1 H1)
    (hs : ∀ F1, Ex F F1 → ∀ i σ' F' H', a + i < b → Ex F1 F' → Ex F' H' → Pv i σ' F' H' →
      ts { D with nx := fun σ2 H2 => ∃ F2, Ex F1 F2 ∧ Ex F2 H2 ∧ Pv (i + 1) σ2 F2 H2, ct := fun σ2 H2 => ∃ F2, Ex F1 F2 ∧ Ex F2 H2 ∧ Pv (i + 1) σ2 F2 H2, bk := D.nx } (σ'.set j (some (.int ((a + i : Nat) : Int)))) H')
    (hd : ∀ σ' F' H', Ex F F' → Ex F' H' → Pv (b - a) σ' F' H' → D.nx σ' H') : tFor (iRng2 (tCons ta (tCons tb tNil))) (gName j) ts D σ H := by
  refine h F H (.refl e) _ fun v F1 H1 g1 ea => h2 F1 H1 g1 _ fun w F2 H2 g2 eb => ⟨(a : Int), (b : Int), by rw [show v = _ from ea, show w = _ from eb], ⟨by omega, by omega, by omega, by omega⟩, ?_⟩
  rw [show ((b : Int) - (a : Int)).toNat = b - a by omega]
  refine for_range (lo := (a : Int)) (n := b - a) (fun i σ' H' => ∃ F', Ex F2 F' ∧ Ex F' H' ∧ Pv i σ' F' H') ⟨F2, Ex.refl _, g2.fh, h0 F2 H2 (g1.trans g2)⟩ ?_ ?_
  · rintro i σ' H' hi ⟨F', e1, e2, pv⟩
    have e0 : ((a : Int) + (i : Int)) = ((a + i : Nat) : Int) := by omega
    show ts _ (σ'.set j (some (.int ((a : Int) + (i : Int))))) H'
    rw [e0]
    exact hs F2 (g1.ff.trans g2.ff) i σ' F' H' (by omega) e1 e2 pv
  · rintro σ' H' ⟨F', e1, e2, pv⟩
    exact hd σ' F' H' ((g1.ff.trans g2.ff).trans e1) e2 pv
/-- while: a test that is pure, a measure -/
theorem x_while {tc : TT} (e : Ex F H) (Pv : Nat → St → Hp → Hp → Prop) (m0 : Nat) (h0 : Pv m0 σ F H) (b : Nat → St → Hp → Hp → Bool) (hc : ∀ m σ' F' H', Ex F F' → Ex F' H' → Pv m σ' F' H' → EvT tc σ' F' H' (b m σ' F' H'))
    (st : ∀ m σ' F' H' F2 H2, Gr M0 F' H' F2 H2 → Pv m σ' F' H' → Pv m σ' F2 H2)
    (hs : ∀ m σ' F' H' F2 H2, Ex F F' → Gr M0 F' H' F2 H2 → b m σ' F' H' = true → Pv m σ' F' H' → Pv m σ' F2 H2 → 
      ts { D with nx := fun σ2 H2 => ∃ F2 m', Ex F F2 ∧ Ex F2 H2 ∧ m' < m ∧ Pv m' σ2 F2 H2, ct := fun σ2 H2 => ∃ F2 m', Ex F F2 ∧ Ex F2 H2 ∧ m' < m ∧ Pv m' σ2 F2 H2, bk := D.nx } σ' H2)
    (hd : ∀ m σ' F' H' F2 H2, Ex F F' → Gr M0 F' H' F2 H2 → b m σ' F' H' = false → Pv m σ' F' H' → Pv m σ' F2 H2 → D.nx σ' H2) : tWhile tc ts D σ H := by
  refine ⟨fun m σ' H' => ∃ F', Ex F F' ∧ Ex F' H' ∧ Pv m σ' F' H', ⟨m0, F, Ex.refl _, e, h0⟩, ?_⟩
  rintro m σ' H' ⟨F', e1, e2, pv⟩
  refine hc m σ' F' H' e1 e2 pv F' H' (.refl e2) _ fun F2 H2 g => ?_
  cases q : b m σ' F' H' with
  | true => exact ⟨_, fun σ2 H3 ⟨F3, m', a1, a2, a3, a4⟩ => ⟨m', a3, F3, a1, a2, a4⟩, hs m σ' F' H' F2 H2 e1 g q pv (st _ _ _ _ _ _ g pv)⟩
  | false => exact hd m σ' F' H' F2 H2 e1 g q pv (st _ _ _ _ _ _ g pv)

/-! ### comprehensions -/
/-- [elt for x in list], of each item an answer -/
theorem ev_lc {n : Nat} {vs : List Nat} (h : Ev (rLst R) tl σ F H xs) (hlen : ys.length = xs.length) (hz : xs.length ≤ 1000000) (hw : ∀ v, wipe ((wipe σ vs).set n (some v)) vs = wipe σ vs)
    (he : ∀ (i : Nat) x y v F1 H1, xs[i]? = some x → ys[i]? = some y → Gr M0 F H F1 H1 → R F1 v x → Ev S te ((wipe σ vs).set n (some v)) F1 H1 y) (m : Mn R := by infer_instance) (m' : Mn S := by infer_instance) : Ev (rLst S) (tLc (iList K tl) (gName n) tYes te vs) σ F H ys := by
  intro F1 H1 g1 Q q
  refine h F1 H1 g1 _ fun v F2 H2 g2 ⟨a, ws, ea, hl, p⟩ => ⟨a, ea, ⟨ws, SqL.of (g2.fh _ _ hl)⟩, fun D hD => ?_⟩
  refine lc_list (xs := ws) (fun i H' => ∃ F' us, Gr M0 F2 H2 F' H' ∧ F' D = none ∧ H' D = some (.lst us) ∧ Paired (S F') us (ys.take i)) ⟨F2, [], .loc g2.fh hD, g2.fh.free hD, upd_same, .nil⟩ (fun i H' _ ⟨F', us, g, _⟩ => SqL.of (g.fh _ _ (g.ff _ _ hl))) ?_ ?_
  · rintro i w H' hi ⟨F', us, g, fD, hD', pu⟩
    obtain ⟨x, hx, rx⟩ := Paired.getL p hi
    have hil : i < ys.length := by rw [hlen]; exact (List.getElem?_eq_some_iff.mp hx).1
    have hy : ys[i]? = some ys[i] := List.getElem?_eq_getElem hil
    refine ⟨hw w, ?_⟩
    refine he i x ys[i] w F' H' hx hy ((g1.trans g2).trans g) (m.mono g.ff rx) F' H' (.refl g.fh) _ fun u F3 H3 g3 r3 => ?_
    refine ⟨us, g3.hx _ _ hD', ?_, F3, us ++ [u], (g.trans g3).set' (g3.nn hD' fD) (.inl hD), g3.nn hD' fD, upd_same, ?_⟩
    · rw [pu.length, List.length_take, sizeLine_eq]
      omega
    · rw [List.take_add_one, hy]
      exact (Paired.up g3.ff pu).snoc r3
  · rintro H' ⟨F', us, g, fD, hD', pu⟩
    rw [p.length, ← hlen, List.take_length] at pu
    exact q _ _ _ (g2.trans (g.frz hD' (g2.fh.free hD) (.inl hD))) ⟨D, us, rfl, upd_same, Paired.up (g.fh.frz hD' fD) pu⟩
theorem ev_lcT {n : Nat} {vs : List Nat} (h : Ev (rTup R) tl σ F H xs) (hlen : ys.length = xs.length) (hz : xs.length ≤ 1000000) (hw : ∀ v, wipe ((wipe σ vs).set n (some v)) vs = wipe σ vs)
    (he : ∀ (i : Nat) x y v F1 H1, xs[i]? = some x → ys[i]? = some y → Gr M0 F H F1 H1 → R F1 v x → Ev S te ((wipe σ vs).set n (some v)) F1 H1 y) (m : Mn R := by infer_instance) (m' : Mn S := by infer_instance) : Ev (rLst S) (tLc (iTup K tl) (gName n) tYes te vs) σ F H ys := by
  intro F1 H1 g1 Q q
  refine h F1 H1 g1 _ fun v F2 H2 g2 ⟨a, ws, ea, hl, p⟩ => ⟨a, ea, ⟨ws, SqT.of (g2.fh _ _ hl)⟩, fun D hD => ?_⟩
  refine lc_tup (xs := ws) (fun i H' => ∃ F' us, Gr M0 F2 H2 F' H' ∧ F' D = none ∧ H' D = some (.lst us) ∧ Paired (S F') us (ys.take i)) ⟨F2, [], .loc g2.fh hD, g2.fh.free hD, upd_same, .nil⟩ (fun i H' _ ⟨F', us, g, _⟩ => SqT.of (g.fh _ _ (g.ff _ _ hl))) ?_ ?_
  · rintro i w H' hi ⟨F', us, g, fD, hD', pu⟩
    obtain ⟨x, hx, rx⟩ := Paired.getL p hi
    have hil : i < ys.length := by rw [hlen]; exact (List.getElem?_eq_some_iff.mp hx).1
    have hy : ys[i]? = some ys[i] := List.getElem?_eq_getElem hil
    refine ⟨hw w, ?_⟩
    refine he i x ys[i] w F' H' hx hy ((g1.trans g2).trans g) (m.mono g.ff rx) F' H' (.refl g.fh) _ fun u F3 H3 g3 r3 => ?_
    refine ⟨us, g3.hx _ _ hD', ?_, F3, us ++ [u], (g.trans g3).set' (g3.nn hD' fD) (.inl hD), g3.nn hD' fD, upd_same, ?_⟩
    · rw [pu.length, List.length_take, sizeLine_eq]
      omega
    · rw [List.take_add_one, hy]
      exact (Paired.up g3.ff pu).snoc r3
  · rintro H' ⟨F', us, g, fD, hD', pu⟩
    rw [p.length, ← hlen, List.take_length] at pu
    exact q _ _ _ (g2.trans (g.frz hD' (g2.fh.free hD) (.inl hD))) ⟨D, us, rfl, upd_same, Paired.up (g.fh.frz hD' fD) pu⟩
/-- [elt for k in range(n)] -/
theorem ev_lcR {j n : Nat} {vs : List Nat} {ta : TE} (h : Ev rInt ta σ F H (n : Int)) (hlen : ys.length = n) (hz : n ≤ 1000000) (hw : ∀ v, wipe ((wipe σ vs).set j (some v)) vs = wipe σ vs)
    (he : ∀ i y F1 H1, i < n → ys[i]? = some y → Gr M0 F H F1 H1 → Ev S te ((wipe σ vs).set j (some (.int (i : Int)))) F1 H1 y) (m' : Mn S := by infer_instance) : Ev (rLst S) (tLc (iRng1 (tCons ta tNil)) (gName j) tYes te vs) σ F H ys := by
  intro F1 H1 g1 Q q
  refine h F1 H1 g1 _ fun v F2 H2 g2 ea => ⟨(n : Int), by rw [show v = _ from ea], by omega, by omega, fun D hD => ?_⟩
  rw [Int.toNat_natCast]
  refine lc_range (lo := 0) (n := n) (fun i H' => ∃ F' us, Gr M0 F2 H2 F' H' ∧ F' D = none ∧ H' D = some (.lst us) ∧ Paired (S F') us (ys.take i)) ⟨F2, [], .loc g2.fh hD, g2.fh.free hD, upd_same, .nil⟩ ?_ ?_
  · rintro i H' hi ⟨F', us, g, fD, hD', pu⟩
    have hil : i < ys.length := by rw [hlen]; exact hi
    have hy : ys[i]? = some ys[i] := List.getElem?_eq_getElem hil
    have e0 : (0 : Int) + (i : Int) = (i : Int) := Int.zero_add _
    rw [e0]
    refine ⟨hw _, ?_⟩
    refine he i ys[i] F' H' hi hy ((g1.trans g2).trans g) F' H' (.refl g.fh) _ fun u F3 H3 g3 r3 => ?_
    refine ⟨us, g3.hx _ _ hD', ?_, F3, us ++ [u], (g.trans g3).set' (g3.nn hD' fD) (.inl hD), g3.nn hD' fD, upd_same, ?_⟩
    · rw [pu.length, List.length_take, sizeLine_eq]
      omega
    · rw [List.take_add_one, hy]
      exact (Paired.up g3.ff pu).snoc r3
  · rintro H' ⟨F', us, g, fD, hD', pu⟩
    rw [← hlen, List.take_length] at pu
    exact q _ _ _ (g2.trans (g.frz hD' (g2.fh.free hD) (.inl hD))) ⟨D, us, rfl, upd_same, Paired.up (g.fh.frz hD' fD) pu⟩
end

/-! ### promises of pure defs -/
def Sp1 {α β : Type} (R : Rp α) (Pre : α → Prop) (S : Rp β) (f : α → β) : Sp := fun vs H Q _ => ∃ F v x, vs = [v] ∧ Ex F H ∧ R F v x ∧ Pre x ∧ ∀ w F' H', Gr M0 F H F' H' → S F' w (f x) → Q w H'
def Sp2 {α β γ : Type} (R : Rp α) (S : Rp β) (Pre : α → β → Prop) (T : Rp γ) (f : α → β → γ) : Sp := fun vs H Q _ => ∃ F v w x y, vs = [v, w] ∧ Ex F H ∧ R F v x ∧ S F w y ∧ Pre x y ∧ ∀ z F' H', Gr M0 F H F' H' → T F' z (f x y) → Q z H'
def Sp3 {α β γ δ : Type} (R : Rp α) (S : Rp β) (T : Rp γ) (Pre : α → β → γ → Prop) (U : Rp δ) (f : α → β → γ → δ) : Sp := fun vs H Q _ => ∃ F v w u x y z, vs = [v, w, u] ∧ Ex F H ∧ R F v x ∧ S F w y ∧ T F u z ∧ Pre x y z ∧ ∀ r F' H', Gr M0 F H F' H' → U F' r (f x y z) → Q r H'
def Sp4 {α β γ δ ε : Type} (R : Rp α) (S : Rp β) (T : Rp γ) (U : Rp δ) (Pre : α → β → γ → δ → Prop) (W : Rp ε) (f : α → β → γ → δ → ε) : Sp := fun vs H Q _ => ∃ F v w u u' x y z z', vs = [v, w, u, u'] ∧ Ex F H ∧ R F v x ∧ S F w y ∧ T F u z ∧ U F u' z' ∧ Pre x y z z' ∧ ∀ r F' H', Gr M0 F H F' H' → W F' r (f x y z z') → Q r H'
section
variable {K : PySem.W.Frag} {σ : St} {F H F' H' : Hp} {ta tb tc td te tl : TE} {α β γ δ ε : Type} {R : Rp α} {S : Rp β} {T : Rp γ} {U : Rp δ} {W : Rp ε} {x : α} {y : β} {z : γ} {u : δ} {E : XK}
theorem ev_call1 {Pre : α → Prop} {f : α → β} (ha : Ev R ta σ F H x) (p : Pre x) : Ev S (tCall (Sp1 R Pre S f) [] E (tCons ta tNil)) σ F H (f x) := fun F1 H1 g1 Q q =>
  ha F1 H1 g1 _ fun v F2 H2 g2 r => ⟨F2, v, x, rfl, g2.fh, r, p, fun w F' H' g k => q w F' H' (g2.trans g) k⟩
theorem ev_call2 {Pre : α → β → Prop} {f : α → β → γ} (ha : Ev R ta σ F H x) (hb : Ev S tb σ F H y) (p : Pre x y) (m : Mn R := by infer_instance) : Ev T (tCall (Sp2 R S Pre T f) [] E (tCons ta (tCons tb tNil))) σ F H (f x y) := fun F1 H1 g1 Q q =>
  ha F1 H1 g1 _ fun v F2 H2 g2 r => hb F2 H2 (g1.trans g2) _ fun w F3 H3 g3 r3 => ⟨F3, v, w, x, y, rfl, g3.fh, m.mono g3.ff r, r3, p, fun w F' H' g k => q w F' H' ((g2.trans g3).trans g) k⟩
theorem ev_call3 {Pre : α → β → γ → Prop} {f : α → β → γ → δ} (ha : Ev R ta σ F H x) (hb : Ev S tb σ F H y) (hc : Ev T tc σ F H z) (p : Pre x y z) (m : Mn R := by infer_instance) (n : Mn S := by infer_instance) : Ev U (tCall (Sp3 R S T Pre U f) [] E (tCons ta (tCons tb (tCons tc tNil)))) σ F H (f x y z) := fun F1 H1 g1 Q q =>
  ha F1 H1 g1 _ fun v F2 H2 g2 r => hb F2 H2 (g1.trans g2) _ fun w F3 H3 g3 r3 => hc F3 H3 ((g1.trans g2).trans g3) _ fun w' F4 H4 g4 r4 =>
    ⟨F4, v, w, w', x, y, z, rfl, g4.fh, m.mono (g3.ff.trans g4.ff) r, n.mono g4.ff r3, r4, p, fun w F' H' g k => q w F' H' (((g2.trans g3).trans g4).trans g) k⟩
theorem ev_call4 {Pre : α → β → γ → δ → Prop} {f : α → β → γ → δ → ε} (ha : Ev R ta σ F H x) (hb : Ev S tb σ F H y) (hc : Ev T tc σ F H z) (hd : Ev U td σ F H u) (p : Pre x y z u) (m : Mn R := by infer_instance) (n : Mn S := by infer_instance) (o : Mn T := by infer_instance) :
    Ev W (tCall (Sp4 R S T U Pre W f) [] E (tCons ta (tCons tb (tCons tc (tCons td tNil))))) σ F H (f x y z u) := fun F1 H1 g1 Q q =>
  ha F1 H1 g1 _ fun v F2 H2 g2 r => hb F2 H2 (g1.trans g2) _ fun w F3 H3 g3 r3 => hc F3 H3 ((g1.trans g2).trans g3) _ fun w' F4 H4 g4 r4 => hd F4 H4 (((g1.trans g2).trans g3).trans g4) _ fun w'' F5 H5 g5 r5 =>
    ⟨F5, v, w, w', w'', x, y, z, u, rfl, g5.fh, m.mono ((g3.ff.trans g4.ff).trans g5.ff) r, n.mono (g4.ff.trans g5.ff) r3, o.mono g5.ff r4, r5, p, fun w F' H' g k => q w F' H' ((((g2.trans g3).trans g4).trans g5).trans g) k⟩
/-- instances: what stands at the address -/
class IsI {α : Type} (R : Rp α) (C : Addr) (m : Str) : Prop where
  at_ : ∀ {F v x}, R F v x → ∃ a dx fs, v = .ref a ∧ F a = some (.ins C dx fs) ∧ fs.lookup m = none
theorem ev_meth0 {C : Addr} {m : Str} {Pre : α → Prop} {f : α → β} [c : IsI R C m] (ha : Ev R ta σ F H x) (p : Pre x) : Ev S (tMeth C m (Sp1 R Pre S f) [] E ta tNil) σ F H (f x) := fun F1 H1 g1 Q q =>
  ha F1 H1 g1 _ fun v F2 H2 g2 r => by
    obtain ⟨a, dx, fs, e, h, l⟩ := c.at_ r
    exact ⟨a, dx, fs, e, g2.fh _ _ h, l, F2, v, x, rfl, g2.fh, r, p, fun w F' H' g k => q w F' H' (g2.trans g) k⟩
theorem ev_meth1 {C : Addr} {m : Str} {Pre : α → β → Prop} {f : α → β → γ} [c : IsI R C m] (ha : Ev R ta σ F H x) (hb : Ev S tb σ F H y) (p : Pre x y) (m' : Mn R := by infer_instance) : Ev T (tMeth C m (Sp2 R S Pre T f) [] E ta (tCons tb tNil)) σ F H (f x y) := fun F1 H1 g1 Q q =>
  ha F1 H1 g1 _ fun v F2 H2 g2 r => by
    obtain ⟨a, dx, fs, e, h, l⟩ := c.at_ r
    exact ⟨a, dx, fs, e, g2.fh _ _ h, l, hb F2 H2 (g1.trans g2) _ fun w F3 H3 g3 r3 => ⟨F3, v, w, x, y, rfl, g3.fh, m'.mono g3.ff r, r3, p, fun w F' H' g k => q w F' H' ((g2.trans g3).trans g) k⟩⟩
theorem ev_meth2 {C : Addr} {m : Str} {Pre : α → β → γ → Prop} {f : α → β → γ → δ} [c : IsI R C m] (ha : Ev R ta σ F H x) (hb : Ev S tb σ F H y) (hc : Ev T tc σ F H z) (p : Pre x y z) (m' : Mn R := by infer_instance) (n' : Mn S := by infer_instance) : Ev U (tMeth C m (Sp3 R S T Pre U f) [] E ta (tCons tb (tCons tc tNil))) σ F H (f x y z) := fun F1 H1 g1 Q q =>
  ha F1 H1 g1 _ fun v F2 H2 g2 r => by
    obtain ⟨a, dx, fs, e, h, l⟩ := c.at_ r
    exact ⟨a, dx, fs, e, g2.fh _ _ h, l, hb F2 H2 (g1.trans g2) _ fun w F3 H3 g3 r3 => hc F3 H3 ((g1.trans g2).trans g3) _ fun w' F4 H4 g4 r4 => ⟨F4, v, w, w', x, y, z, rfl, g4.fh, m'.mono (g3.ff.trans g4.ff) r, n'.mono g4.ff r3, r4, p, fun w F' H' g k => q w F' H' (((g2.trans g3).trans g4).trans g) k⟩⟩
/-- o.f -/
class IsF {α : Type} {β : outParam Type} (R : Rp α) (K : PySem.W.Frag) (f : Str) (S : outParam (Rp β)) (p : outParam (α → β)) : Prop where
  at_ : ∀ {F v x}, R F v x → ∃ a C dx fs w, v = .ref a ∧ F a = some (.ins C dx fs) ∧ Cls K C ∧ NoAttr K C f ∧ fs.lookup f = some w ∧ S F w (p x)
theorem ev_fld {f : Str} {p : α → β} (ha : Ev R ta σ F H x) (c : IsF R K f S p := by infer_instance) : Ev S (tFld K ta f) σ F H (p x) := fun F1 H1 g1 Q q =>
  ha F1 H1 g1 _ fun v F2 H2 g2 r => by
    obtain ⟨a, C, dx, fs, w, e, h, c1, c2, l, s⟩ := c.at_ r
    exact ⟨a, C, dx, fs, w, e, g2.fh _ _ h, c1, c2, l, q w F2 H2 g2 s⟩

/-! ### isinstance -/
theorem ev_isi {T : String} {b : Bool} (ha : Ev R ta σ F H x) (ht : ∀ F H v, Ex F H → R F v x → ∃ t, TyX K H v t ∧ PySem.W.kitOne K t (.type T) = some b) : Ev rBl (tCB (rIsi K) (tCons ta (tCons (tC (.ty T)) tNil))) σ F H b := fun F1 H1 g1 Q q =>
  ha F1 H1 g1 _ fun v F2 H2 g2 r => by
    obtain ⟨t, h1, h2⟩ := ht F2 H2 v g2.fh r
    exact ⟨v, .ty T, t, .type T, b, rfl, .ty T, h1, h2, q _ F2 H2 g2 rfl⟩
theorem kit_same {t : Value} : PySem.W.kitOne K t t = some true := if_pos (beq_self_eq_true _)
theorem ev_isIntInt {i : Int} (ha : Ev rInt ta σ F H i) : Ev rBl (tCB (rIsi K) (tCons ta (tCons (tC (.ty "int")) tNil))) σ F H true := ev_isi ha fun F H v _ r => ⟨_, .base (by cases (show v = _ from r); exact .int i), kit_same⟩
theorem ev_isIntBool {i : Int} (ha : Ev rInt ta σ F H i) : Ev rBl (tCB (rIsi K) (tCons ta (tCons (tC (.ty "bool")) tNil))) σ F H false := ev_isi ha fun F H v _ r => ⟨_, .base (by cases (show v = _ from r); exact .int i), kit_ty (by decide +kernel)⟩
theorem ev_isTup {xs : List α} (ha : Ev (rTup R) ta σ F H xs) : Ev rBl (tCB (rIsi K) (tCons ta (tCons (tC (.ty "tuple")) tNil))) σ F H true := ev_isi ha fun F H v e r => ⟨_, .base (by obtain ⟨a, vs, rfl, h, _⟩ := r; exact .tup (e _ _ h)), kit_same⟩
theorem ev_isLst {xs : List α} (ha : Ev (rLst R) ta σ F H xs) : Ev rBl (tCB (rIsi K) (tCons ta (tCons (tC (.ty "list")) tNil))) σ F H true := ev_isi ha fun F H v e r => ⟨_, .base (by obtain ⟨a, vs, rfl, h, _⟩ := r; exact .lst (e _ _ h)), kit_same⟩
theorem ev_isStr {s : Str} (ha : Ev rStr ta σ F H s) : Ev rBl (tCB (rIsi K) (tCons ta (tCons (tC (.ty "str")) tNil))) σ F H true := ev_isi ha fun F H v _ r => ⟨_, .base (by cases (show v = _ from r); exact .str s), kit_same⟩
end
end El
namespace El
open PySem PySem.Spec L2
theorem rpm {α : Type} {R : Rp α} {H H' : Hp} {v : V} {x : α} (e : Ex H H') (r : R H v x) (m : Mn R) : R H' v x := m.mono e r
theorem sn {D : Ends} {σ : St} {H : Hp} (h : D.nx σ H) : tNext D σ H := h
theorem sq {t u : TS} {D : Ends} {σ : St} {H : Hp} (h : t { D with nx := u D } σ H) : tSeq t u D σ H := h
theorem x_fld {K : PySem.W.Frag} {σ : St} {F H : Hp} {ta tv : TE} {α : Type} {R : Rp α} {x : α} {D : Ends} {f : Str} {a C dx : Addr} {fs : List (Str × V)} (e : Ex F H) (h : Ev R tv σ F H x) (ha : Ev rRef ta σ F H a) (ho : H a = some (.ins C dx fs)) (c : Cls K C) (n : NoAttr K C f) (l : fs.length < 1000)
    (k : ∀ v F' H', Gr M0 F H F' H' → R F' v x → H' a = some (.ins C dx fs) → D.nx σ (upd H' a (.ins C dx (putF f v fs)))) (m : Mn R := by infer_instance) : sFld K ta tv f D σ H :=
  h F H (.refl e) _ fun v F1 H1 g1 r1 => ha F1 H1 g1 _ fun w F2 H2 g2 r2 => ⟨a, C, dx, fs, r2, g2.hx _ _ (g1.hx _ _ ho), c, n, l, k v F2 H2 (g1.trans g2) (m.mono g2.ff r1) (g2.hx _ _ (g1.hx _ _ ho))⟩
end El

set_option Elab.async false
set_option linter.all false
set_option maxRecDepth 100000
set_option maxHeartbeats 2000000
namespace El
open PySem PySem.Spec L2
/-! ### len of an instance with its own __len__ -/
def rLenOwn (C : Addr) (sp : Sp) (E : XK) : List V → Hp → VK → Prop := fun xs H Q => ∃ a dx fs, xs = [V.ref a] ∧ H a = some (.ins C dx fs) ∧ sp [.ref a] H (fun v H' => ∃ n : Int, v = .int n ∧ 0 ≤ n ∧ n < 2 ^ 63 ∧ Q v H') E
theorem call_lenOwn {X : Cx} {CX : CXT} {n : Nat} {C f : Addr} {fd : FuncData} {ps : List Str} {sp : Sp} {E : XK} (F : FnOk X.prog X.w X.K X.mg X.base CX n f fd ps sp) (hr : Room (n + 1) X.A) (hs : PySem.W.findIn X.K (.ref C) "__len__" = some (some (.ref f))) (hf : PySem.W.isFn X.K (.ref f) = true)
    (hb : Binds X.K fd ps []) (hx : Passes CX X E) : CallR X (.builtin "len") (rLenOwn C sp E) := by
  intro pins s σ H xs us Q I r h
  obtain ⟨a, dx, fs, rfl, ha, hsp⟩ := h
  cases r with
  | cons r1 r2 =>
    cases r2
    cases r1
    obtain ⟨mA, J, _⟩ := ins_get I.hok ha
    obtain ⟨od, J, _⟩ := J.look
    obtain ⟨m, hF⟩ := I.fr
    refine PySem.W.len_K hF I.ok.mod.kin J hs hf ?_
    have e0 : Env0 X.prog X.w X.K X.mg X.base X.A.in1 X.stack s H := by
      have e := I.env0
      exact ⟨e.frames, e.mod, e.bs, e.bsz, e.funs, e.frf, e.hok, e.bare⟩
    have hl := F.len _ _ _ _ hsp
    have r2 : Vals [V.ref a] [Value.ref a] := .cons rfl .nil
    refine wpAny_call (codeAny_mono (F.run X.A.in1 X.stack s H ⟨[.ref a], []⟩ [.ref a] [.ref a] _ E hr.in1 e0 (by
      have := hb s [.ref a] I.kIn (by simpa using hl)
      simpa using this) r2 hsp) fun r s' hq => ?_)
    cases r with
    | error e => exact hx pins σ H s e s' I hq
    | ok fl =>
      cases fl with
      | ret w =>
        obtain ⟨z, H', I', rz, k, ez, h0, h1, q⟩ := I.after hq
        subst ez
        obtain ⟨t, rfl⟩ := rz
        exact ⟨⟨h0, h1⟩, .int k, H', I'.tok _, ⟨_, rfl⟩, q⟩
      | next => exact False.elim hq
      | brk => exact False.elim hq
      | cont => exact False.elim hq
section
variable {K : PySem.W.Frag} {σ : St} {F H : Hp} {ta : TE} {α : Type} {R : Rp α} {x : α} {E : XK}
theorem ev_lenOwn {C : Addr} {f : α → Nat} [c : IsI R C "__len__"] (ha : Ev R ta σ F H x) (hz : f x < 2 ^ 62) : Ev rInt (tCB (rLenOwn C (Sp1 R (fun _ => True) rNat f) E) (tCons ta tNil)) σ F H (f x : Int) := fun F1 H1 g1 Q q =>
  ha F1 H1 g1 _ fun v F2 H2 g2 r => by
    obtain ⟨a, dx, fs, e, h, l⟩ := c.at_ r
    subst e
    exact ⟨a, dx, fs, rfl, g2.fh _ _ h, F2, _, x, rfl, g2.fh, r, True.intro, fun w F' H' g k => ⟨(f x : Int), k, by omega, by omega, q w F' H' (g2.trans g) k⟩⟩
end
/-! ### len(set(xs)) of ints -/
def tLenSetJ (K : PySem.W.Frag) (ta : TE) : TE := fun σ H Q => ta σ H fun x H1 => ∃ (l : Addr) (ns : List Int), x = .ref l ∧ SqT K H1 l (ns.map V.int) ∧ ns.length ≤ 4000 ∧ ∀ out : List Int, out.Nodup → (∀ k, k ∈ out ↔ k ∈ ns) → Q (.int (out.length : Nat)) H1
open PyProof.Rows in
theorem pe_lenSetJ {X : Cx} {a : Expr} {ta : TE} {p p2 q pos : Pos} (hg : Gl X "len") (hm : X.mg "len" = none) (hg2 : Gl X "set") (hm2 : X.mg "set" = none) (ha : PE X a ta) (hc : X.calm = true := by rfl)
    (na : starEach [a] X.env = (false, eval a X.env) :: starEach [] X.env := by rfl) : PE X (.Call (.Name "len" p) [.Call (.Name "set" p2) [a] [] q] [] pos) (tLenSetJ X.K ta) := by
  refine ⟨fun pins s σ H Q I h => ?_⟩
  refine Call_ (ld_blt I hg hm boot_len ?_)
  refine PyProof.Rows.callWith_builtin1 (PyProof.Rows.args_cons ?_ rfl) rfl rfl
  refine Call_ (ld_blt I hg2 hm2 boot_set ?_)
  refine PyProof.Rows.callWith_type1 (PyProof.Rows.args_cons (thn (ha.run pins s σ H _ I h) fun v s1 ⟨x, H1, I1, r1, q1⟩ => PyProof.Rows.args_nil ?_) na) na rfl
  obtain ⟨l, ns, rfl, hq, hl, q1⟩ := q1
  cases r1
  obtain ⟨its, r, pt, hz⟩ := I1.tuple hq
  have hi : PyProof.Rows.IntsAre its.toArray.toList ns := ints_of_vals r
  refine call_set_tupI ns (I1.ok.hd hc) (show s1.heap.IsTuple l its.toArray from pt) hi (by unfold scanBound; omega) fun h' tk c R1 hcn k => ?_
  refine PyProof.Rows.args_nil ?_
  obtain ⟨o, es, ep, t, ho, hex, hdt, g, nd, hm3, hb, hf, hn, hr, hl2⟩ := R1
  have I2 : Inv X pins σ H1 { s1 with heap := h', toks := tk } := I1.kept fun b o e => k b o e
  have hlen : (es.toList.map keyOf).length = es.size := by rw [List.length_map, Array.length_toList]
  refine call_len_set ho hex hdt hf (by omega) ⟨.int es.size, H1, I2.tok _, ⟨_, rfl⟩, ?_⟩
  have := q1 (es.toList.map keyOf) nd fun j => by rw [← hm3 j, decide_eq_true_eq]
  rw [hlen] at this
  exact this
/-- the things of a list, each once -/
def uniq (ns : List Nat) : List Nat := ns.foldr (fun n l => if n ∈ l then l else n :: l) []
theorem mem_uniq {k : Nat} : ∀ {ns : List Nat}, k ∈ uniq ns ↔ k ∈ ns
  | [] => Iff.rfl
  | n :: ns => by
    show k ∈ (if n ∈ uniq ns then uniq ns else n :: uniq ns) ↔ _
    split
    · rename_i h
      rw [mem_uniq, List.mem_cons]
      exact ⟨.inr, fun z => z.elim (fun e => by rw [e]; exact mem_uniq.mp h) id⟩
    · rw [List.mem_cons, List.mem_cons, mem_uniq]
theorem nodup_uniq : ∀ ns : List Nat, (uniq ns).Nodup
  | [] => List.nodup_nil
  | n :: ns => by
    show (if n ∈ uniq ns then uniq ns else n :: uniq ns).Nodup
    split
    · exact nodup_uniq ns
    · rename_i h
      exact List.nodup_cons.mpr ⟨h, nodup_uniq ns⟩
theorem nodup_len_of_mem {α : Type} [DecidableEq α] {as bs : List α} (ha : as.Nodup) (hb : bs.Nodup) (h : ∀ k, k ∈ as ↔ k ∈ bs) : as.length = bs.length := by
  have p : as.Perm bs := (List.perm_ext_iff_of_nodup ha hb).mpr h
  exact p.length_eq
section
variable {K : PySem.W.Frag} {σ : St} {F H : Hp} {ta : TE}
theorem ev_lenSet {ns : List Nat} (ha : Ev (rTup rNat) ta σ F H ns) (hz : ns.length ≤ 4000) : Ev rInt (tLenSetJ K ta) σ F H ((uniq ns).length : Int) := fun F1 H1 g1 Q q =>
  ha F1 H1 g1 _ fun v F2 H2 g2 ⟨a, vs, e, hl, p⟩ => ⟨a, ns.map fun n : Nat => (n : Int), e, by rw [← nats_paired p]; exact SqT.of (g2.fh _ _ hl), by rw [List.length_map]; exact hz, fun out nd hm => by
    have : out.length = ((uniq ns).map fun n : Nat => (n : Int)).length := by
      refine nodup_len_of_mem nd ?_ fun k => ?_
      · refine List.Pairwise.map _ ?_ (nodup_uniq ns)
        intro a b h e
        exact h (by omega)
      · rw [hm, List.mem_map, List.mem_map]
        exact ⟨fun ⟨n, h, e⟩ => ⟨n, mem_uniq.mpr h, e⟩, fun ⟨n, h, e⟩ => ⟨n, mem_uniq.mp h, e⟩⟩
    rw [this, List.length_map]
    exact q _ F2 H2 g2 rfl⟩
end
/-! ### the laws' own source of draws -/
/-- a source at a: so many more draws may be made of it -/
def Src (H : Hp) (a : Addr) (N : Nat) : Prop := ∃ n c k : Int, H a = some (.lst [.int n, .int c, .int k]) ∧ 0 ≤ n ∧ 0 ≤ c ∧ c < 2147483648 ∧ 0 ≤ k ∧ k + N ≤ 1099511627776
theorem Src.le {H : Hp} {a : Addr} {N M : Nat} (h : Src H a N) (l : M ≤ N) : Src H a M := by
  obtain ⟨n, c, k, h1, h2, h3, h4, h5, h6⟩ := h
  exact ⟨n, c, k, h1, h2, h3, h4, h5, by omega⟩
theorem Src.hn {H : Hp} {a : Addr} {N : Nat} (h : Src H a N) : H a ≠ none := by
  obtain ⟨n, c, k, h1, _⟩ := h
  rw [h1]
  exact fun z => nomatch z
theorem Src.ex {H H' : Hp} {a : Addr} {N : Nat} (h : Src H a N) (e : H' a = H a) : Src H' a N := by
  unfold Src
  rw [e]
  exact h
theorem Src.gr {F H F' H' : Hp} {a : Addr} {N : Nat} (h : Src H a N) (g : Gr M0 F H F' H') : Src H' a N := by
  obtain ⟨n, c, k, h1, h2⟩ := h
  exact ⟨n, c, k, g.hx _ _ h1, h2⟩
theorem Src.upd {H : Hp} {a b : Addr} {o : HO} {N : Nat} (h : Src H a N) (e : a ≠ b) : Src (upd H b o) a N := h.ex (upd_ne e)
end El

set_option Elab.async false
set_option linter.all false
set_option maxRecDepth 100000
set_option maxHeartbeats 2000000
namespace El
open PySem PySem.Spec L2
section
variable {K : PySem.W.Frag} {σ : St} {F H F' H' : Hp} {ta tb tc te tl : TE} {tt t u : TT} {α β γ δ ε : Type} {R : Rp α} {S : Rp β} {xs : List α} {n : Nat} {vs : List Nat}
theorem ev_lcm (f : α → β) (h : Ev (rLst R) tl σ F H xs) (hz : xs.length ≤ 1000000) (hw : ∀ v, wipe ((wipe σ vs).set n (some v)) vs = wipe σ vs)
    (he : ∀ (i : Nat) x v F1 H1, xs[i]? = some x → Gr M0 F H F1 H1 → R F1 v x → Ev S te ((wipe σ vs).set n (some v)) F1 H1 (f x)) (m : Mn R := by infer_instance) (m' : Mn S := by infer_instance) : Ev (rLst S) (tLc (iList K tl) (gName n) tYes te vs) σ F H (xs.map f) :=
  ev_lc h (List.length_map _) hz hw fun i x y v F1 H1 hx hy g r => by
    rw [List.getElem?_map, hx] at hy
    cases hy
    exact he i x v F1 H1 hx g r
theorem ev_lcTm (f : α → β) (h : Ev (rTup R) tl σ F H xs) (hz : xs.length ≤ 1000000) (hw : ∀ v, wipe ((wipe σ vs).set n (some v)) vs = wipe σ vs)
    (he : ∀ (i : Nat) x v F1 H1, xs[i]? = some x → Gr M0 F H F1 H1 → R F1 v x → Ev S te ((wipe σ vs).set n (some v)) F1 H1 (f x)) (m : Mn R := by infer_instance) (m' : Mn S := by infer_instance) : Ev (rLst S) (tLc (iTup K tl) (gName n) tYes te vs) σ F H (xs.map f) :=
  ev_lcT h (List.length_map _) hz hw fun i x y v F1 H1 hx hy g r => by
    rw [List.getElem?_map, hx] at hy
    cases hy
    exact he i x v F1 H1 hx g r
theorem ev_lcRm (f : Nat → β) {j : Nat} {ta : TE} (h : Ev rInt ta σ F H (n : Int)) (hz : n ≤ 1000000) (hw : ∀ v, wipe ((wipe σ vs).set j (some v)) vs = wipe σ vs)
    (he : ∀ i F1 H1, i < n → Gr M0 F H F1 H1 → Ev S te ((wipe σ vs).set j (some (.int (i : Int)))) F1 H1 (f i)) (m' : Mn S := by infer_instance) : Ev (rLst S) (tLc (iRng1 (tCons ta tNil)) (gName j) tYes te vs) σ F H ((List.range n).map f) :=
  ev_lcR h (by rw [List.length_map, List.length_range]) hz hw fun i y F1 H1 hi hy g => by
    rw [List.getElem?_map, List.getElem?_range hi] at hy
    cases hy
    exact he i F1 H1 hi g
theorem mem_of_at {xs : List α} {i : Nat} {x : α} (h : xs[i]? = some x) : x ∈ xs := List.mem_of_getElem? h
end

/-! ### turns -/
structure Tn where
  many : Nat
  maps : List (List Nat)
  h0 : 1 ≤ many
  h1 : many ≤ 32
  h2 : 1 ≤ maps.length
  h3 : maps.length ≤ 200
  h4 : ∀ m ∈ maps, m.length = many ∧ ∀ x ∈ m, x < many
def rTurns (C : Addr) : Rp Tn := fun H v T => ∃ a dx l, v = .ref a ∧ H a = some (.ins C dx [("many", .int (T.many : Int)), ("maps", l)]) ∧ rLst (rTup rNat) H l T.maps
instance {C : Addr} : Mn (rTurns C) := ⟨fun e ⟨a, dx, l, h1, h2, h3⟩ => ⟨a, dx, l, h1, e _ _ h2, Mn.mono e h3⟩⟩
instance {C : Addr} : NotN (rTurns C) := ⟨fun ⟨_, _, _, h, _⟩ e => by rw [h] at e; cases e⟩
instance {C : Addr} : IsI (rTurns C) C "__len__" := ⟨fun ⟨a, dx, l, h1, h2, h3⟩ => ⟨a, dx, _, h1, h2, rfl⟩⟩
theorem fld_many {K : PySem.W.Frag} {C : Addr} (c : Cls K C) (n : NoAttr K C "many") : IsF (rTurns C) K "many" rNat Tn.many := ⟨fun ⟨a, dx, l, h1, h2, h3⟩ => ⟨a, C, dx, _, _, h1, h2, c, n, rfl, rfl⟩⟩
theorem fld_maps {K : PySem.W.Frag} {C : Addr} (c : Cls K C) (n : NoAttr K C "maps") : IsF (rTurns C) K "maps" (rLst (rTup rNat)) Tn.maps := ⟨fun ⟨a, dx, l, h1, h2, h3⟩ => ⟨a, C, dx, _, _, h1, h2, c, n, rfl, h3⟩⟩
/-- what C(..) makes of turns: the promise of __init__ -/
def SpTurns (C : Addr) : Sp := fun vs H Q _ => ∃ (F : Hp) (a dx : Addr) (l : V) (T : Tn), vs = [.ref a, .int (T.many : Int), l] ∧ Ex F H ∧ F a = none ∧ H a = some (.ins C dx []) ∧ rLst (rTup rNat) F l T.maps ∧
  ∀ F' H', Gr (M1 a) F H F' H' → rTurns C F' (.ref a) T → Q .non H'
theorem ev_Turns {σ : St} {F H : Hp} {ta tb : TE} {C : Addr} {T : Tn} {E : XK} (ha : Ev rInt ta σ F H (T.many : Int)) (hb : Ev (rLst (rTup rNat)) tb σ F H T.maps) : Ev (rTurns C) (tMake C (SpTurns C) [] E (tCons ta (tCons tb tNil))) σ F H T := fun F1 H1 g1 Q q =>
  ha F1 H1 g1 _ fun v F2 H2 g2 r => hb F2 H2 (g1.trans g2) _ fun w F3 H3 g3 r3 => fun x dx nx ndx nex => by
    cases (show v = _ from r)
    have h1 : (upd H3 dx (.own x)) x = none := by rw [upd_ne nex.symm]; exact nx
    have e1 : Ex F3 (upd (upd H3 dx (.own x)) x (.ins C dx [])) := (g3.fh.mut (g3.fh.free ndx)).mut (g3.fh.free nx)
    refine ⟨F3, x, dx, w, T, rfl, e1, g3.fh.free nx, upd_same, r3, fun F' H' g k => ⟨rfl, q _ F' H' ((g2.trans g3).trans ⟨g.ff, g.fh, fun b o _ h => ?_, fun b _ h n => ?_, fun b h => ?_⟩) k⟩⟩
    · have b1 : b ≠ x := fun z => by subst z; rw [nx] at h; cases h
      have b2 : b ≠ dx := fun z => by subst z; rw [ndx] at h; cases h
      exact g.hh b o b1 (by rw [upd_ne b1, upd_ne b2]; exact h)
    · have b1 : b ≠ x := fun z => h (z ▸ nx)
      have b2 : b ≠ dx := fun z => h (z ▸ ndx)
      exact g.nw b b1 (by rw [upd_ne b1, upd_ne b2]; exact h) n
    · have b1 : b ≠ x := fun z => h (z ▸ nx)
      have b2 : b ≠ dx := fun z => h (z ▸ ndx)
      exact g.dm b (by rw [upd_ne b1, upd_ne b2]; exact h)
/-- mirrors -/
def idMap (n : Nat) : List Nat := List.range n
def thenM (a b : List Nat) : List Nat := a.map fun x => b.getD x 0
def metB (a : List Nat) : Bool := decide ((uniq a).length = 1)
def mapFrom (T : Tn) (m : List Nat) (w : List Nat) : List Nat := w.foldl (fun m s => thenM m (T.maps.getD s [])) m
def mapW (T : Tn) (w : List Nat) : List Nat := mapFrom T (idMap T.many) w
/-- a map of the turns' places -/
def IsMap (n : Nat) (m : List Nat) : Prop := m.length = n ∧ ∀ x ∈ m, x < n
theorem isMap_id (n : Nat) : IsMap n (idMap n) := ⟨List.length_range, fun x h => List.mem_range.mp h⟩
theorem isMap_then {n : Nat} {a b : List Nat} (ha : IsMap n a) (hb : IsMap n b) : IsMap n (thenM a b) := by
  refine ⟨by unfold thenM; rw [List.length_map]; exact ha.1, fun x h => ?_⟩
  obtain ⟨y, hy, rfl⟩ := List.mem_map.mp h
  have hl : y < b.length := by rw [hb.1]; exact ha.2 y hy
  rw [List.getD_eq_getElem?_getD, List.getElem?_eq_getElem hl]
  exact hb.2 _ (List.getElem_mem hl)
theorem Tn.isMap (T : Tn) {s : Nat} (h : s < T.maps.length) : IsMap T.many (T.maps.getD s []) := by
  rw [List.getD_eq_getElem?_getD, List.getElem?_eq_getElem h]
  exact T.h4 _ (List.getElem_mem h)
theorem isMap_from {T : Tn} : ∀ {w : List Nat} {m : List Nat}, IsMap T.many m → (∀ s ∈ w, s < T.maps.length) → IsMap T.many (mapFrom T m w)
  | [], _, h, _ => h
  | s :: w, m, h, hs => isMap_from (w := w) (m := thenM m (T.maps.getD s [])) (isMap_then h (T.isMap (hs s List.mem_cons_self))) fun s' h' => hs s' (List.mem_cons_of_mem _ h')
theorem isMap_mapW {T : Tn} {w : List Nat} (hs : ∀ s ∈ w, s < T.maps.length) : IsMap T.many (mapW T w) := isMap_from (isMap_id _) hs
theorem getD_at {α : Type} {xs : List α} {i : Nat} {d : α} (h : i < xs.length) : xs[i]? = some (xs.getD i d) := by
  rw [List.getD_eq_getElem?_getD, List.getElem?_eq_getElem h]
  rfl
end El

set_option Elab.async false
set_option linter.all false
set_option maxRecDepth 100000
set_option maxHeartbeats 2000000
namespace El
open PySem PySem.Spec L2
section
variable {X : Cx} (K : PySem.W.Frag)
theorem kfld {e : Expr} {f : Str} {pos : Pos} {ta : TE} (he : PE X e ta) (hb : attributeBase e f X.env (eval e X.env) = eval e X.env) (hK : X.K = K := by rfl) : PE X (.Attribute e f pos) (tFld K ta f) := by
  subst hK
  exact pe_fld he hb
theorem kset {o value : Expr} {f : Str} {pos pos' : Pos} {ta tv : TE} (ha : PE X o ta) (hv : PE X value tv) (hs : swapsWith value (some (.Attribute o f pos')) pos.line X.env = pure false) (hK : X.K = K := by rfl) : PS X (.Assign [.Attribute o f pos'] value pos) (sFld K ta tv f) := by
  subst hK
  exact ps_fld ha hv hs
theorem kaug {o value : Expr} {f : Str} {pos tpos : Pos} {ta tv : TE} {op : Operator} {rd : V → V → Hp → VK → Prop} (ha : PE X o ta) (hv : PE X value tv) (hop : InOp X op rd) (hK : X.K = K := by rfl) : PS X (.AugAssign (.Attribute o f tpos) op value pos) (sFldAug K ta tv rd f) := by
  subst hK
  exact ps_fldaug ha hv hop
theorem klist {tg l : Expr} {tl : TE} (hl : PE X l tl) (hK : X.K = K := by rfl) : PI X tg l (iList K tl) := by
  subst hK
  exact pi_list hl
theorem ktup {tg l : Expr} {tl : TE} (hl : PE X l tl) (hK : X.K = K := by rfl) : PI X tg l (iTup K tl) := by
  subst hK
  exact pi_tup hl
theorem kptup {es : List Expr} {k : Nat} {t : TGs} {n : Nat} {pos : Pos} (hc : X.calm = true) (h : PGs X es t)
    (hn : (assignEach es X.env).length = n := by rfl) (hst : (assignEach es X.env).findIdx? (·.1) = none := by rfl) (hK : X.K = K := by rfl) : PG X (.Tuple es k pos) (gTup K n t) := by
  subst hK
  exact pg_tup hc h hn hst
theorem klenset {a : Expr} {ta : TE} {p p2 q pos : Pos} (hg : Gl X "len") (hm : X.mg "len" = none) (hg2 : Gl X "set") (hm2 : X.mg "set" = none) (ha : PE X a ta) (hc : X.calm = true := by rfl)
    (na : starEach [a] X.env = (false, eval a X.env) :: starEach [] X.env := by rfl) (hK : X.K = K := by rfl) : PE X (.Call (.Name "len" p) [.Call (.Name "set" p2) [a] [] q] [] pos) (tLenSetJ K ta) := by
  subst hK
  exact pe_lenSetJ hg hm hg2 hm2 ha hc na
theorem kenum {e : Expr} {ta : TA} {p pos tpos : Pos} {elts : List Expr} {kk : Nat} (hg : Gl X "enumerate") (hm : X.mg "enumerate" = none) (ha : PA X [e] ta) (hs : starEach [e] X.env = [(false, eval e X.env)] := by rfl) (hK : X.K = K := by rfl) :
    PI X (.Tuple elts kk tpos) (.Call (.Name "enumerate" p) [e] [] pos) (iEnum K ta) := by
  subst hK
  exact pi_enum hg hm ha hs
theorem kbm0 {T : String} {name : Str} {id : String} {r : V → List V → Hp → VK → Prop} {o : Expr} {to : TE} {apos cpos : Pos} (pa : PlainAttrs T) (slot : Slot T name id) (hty : typeOf (.builtin id) = pure (.type "method_descriptor")) (hm : MtR X id r) (ho : PE X o to)
    (hbase : attributeBase o name X.env (eval o X.env) = eval o X.env := by rfl) (hline : (apos.endLine == cpos.line) = true := by rfl) (hK : X.K = K := by rfl) : PE X (.Call (.Attribute o name apos) [] [] cpos) (tBM0 K T r to) := by
  subst hK
  exact pe_bm0 pa slot hty hm ho hbase hline
theorem kbm {T : String} {name : Str} {id : String} {r : V → List V → Hp → VK → Prop} {o e : Expr} {es : List Expr} {to : TE} {t : TA} {apos cpos : Pos} (pa : PlainAttrs T) (slot : Slot T name id) (hty : typeOf (.builtin id) = pure (.type "method_descriptor")) (hm : MtR X id r) (ho : PE X o to) (ha : PA X (e :: es) t)
    (hbase : attributeBase o name X.env (eval o X.env) = eval o X.env := by rfl)
    (hfew : ((backTo cpos (starEach (e :: es) X.env)).all (fun x => !x.1) && (backToKw cpos (keywordEach [] X.env)).all (fun x => x.1.isSome)
      && decide ((e :: es).length + ([] : List Keyword).length + (if ([] : List Keyword).isEmpty then 0 else 1) < 30)) = true := by rfl) 
    (hline : (apos.endLine == cpos.line) = true := by rfl) (hs : starEach (e :: es) X.env = (false, eval e X.env) :: starEach es X.env := by rfl) (hplain : (backTo cpos (starEach es X.env)).any (·.1) = false := by rfl) (hK : X.K = K := by rfl) : PE X (.Call (.Attribute o name apos) (e :: es) [] cpos) (tBM K T r to t) := by
  subst hK
  exact pe_bm pa slot hty hm ho ha hbase hfew hline hs hplain
end
end El

namespace El
open PySem PySem.Spec L2
section
variable {K : PySem.W.Frag} {σ : St} {F H F' H' : Hp} {ta tb tc te tl : TE} {α β : Type} {R : Rp α} {S : Rp β} {x : α} {y : β}
/-- o.f of an instance that may change -/
theorem ev_fldM {f : Str} {a C dx : Addr} {fs : List (Str × V)} {w : V} (ha : Ev rRef ta σ F H a) (ho : H a = some (.ins C dx fs)) (c : Cls K C) (n : NoAttr K C f) (l : fs.lookup f = some w) (s : S F w y) (m : Mn S := by infer_instance) : Ev S (tFld K ta f) σ F H y := fun F1 H1 g1 Q q =>
  ha F1 H1 g1 _ fun v F2 H2 g2 r => ⟨a, C, dx, fs, w, r, g2.hx _ _ (g1.hx _ _ ho), c, n, l, q w F2 H2 g2 (m.mono (g1.ff.trans g2.ff) s)⟩
end
/-! ### draws -/
structure DrAt (CD CT : Addr) (F H : Hp) (a l : Addr) (T : Tn) (m : List Nat) (n : Nat) (ws : List V) : Prop where
  ne : a ≠ l
  fa : F a = none
  fl : F l = none
  ha : ∃ dx tv fv, H a = some (.ins CD dx [("turns", tv), ("found", fv), ("many", .int (n : Int)), ("told", .ref l)]) ∧ rTurns CT F tv T ∧ rTup rNat F fv m
  hl : H l = some (.lst ws)
theorem DrAt.gr {CD CT : Addr} {F H F' H' : Hp} {a l : Addr} {T : Tn} {m : List Nat} {n : Nat} {ws : List V} (d : DrAt CD CT F H a l T m n ws) (g : Gr M0 F H F' H') : DrAt CD CT F' H' a l T m n ws := by
  obtain ⟨ne, fa, fl, ⟨dx, tv, fv, h1, h2, h3⟩, hl⟩ := d
  exact ⟨ne, g.nn h1 fa, g.nn hl fl, ⟨dx, tv, fv, g.hx _ _ h1, Mn.mono g.ff h2, Mn.mono g.ff h3⟩, g.hx _ _ hl⟩
def drStep (T : Tn) (p : List Nat × Nat) (s : Nat) : List Nat × Nat := if metB p.1 = true then p else (thenM (T.maps.getD s []) p.1, p.2 + 1)
def drRun (T : Tn) (w : List Nat) : List Nat × Nat := w.foldl (drStep T) (idMap T.many, 0)
def plc (m : List Nat) : Option Nat := if metB m = true then some (m.headD 0) else none
def drawnM (T : Tn) (w : List Nat) : Option (Nat × Nat) := match plc (drRun T w).1 with
  | none => none
  | some p => some (p, (drRun T w).2)
/-- what begins a draw -/
def SpDraw (CD CT : Addr) : Sp := fun vs H Q _ => ∃ (F : Hp) (a dx : Addr) (tv : V) (T : Tn), vs = [.ref a, tv] ∧ Ex F H ∧ F a = none ∧ H a = some (.ins CD dx []) ∧ rTurns CT F tv T ∧
  ∀ l F' H', Gr (M1 a) F H F' H' → H l = none → DrAt CD CT F' H' a l T (idMap T.many) 0 [] → Q .non H'
def SpElder (CD CT : Addr) : Sp := fun vs H Q _ => ∃ (F : Hp) (a l : Addr) (T : Tn) (m : List Nat) (n : Nat) (ws : List V) (s : Nat), vs = [.ref a, .int (s : Int)] ∧ Ex F H ∧ DrAt CD CT F H a l T m n ws ∧ IsMap T.many m ∧ s < T.maps.length ∧ ws.length ≤ 1000000 ∧
  ∀ v F' H', Gr (fun b => b = a ∨ b = l) F H F' H' → DrAt CD CT F' H' a l T (drStep T (m, n) s).1 (drStep T (m, n) s).2 (ws ++ [.int (s : Int)]) → rOpt rNat F' v (plc (drStep T (m, n) s).1) → Q v H'
def SpPlace (CD CT : Addr) : Sp := fun vs H Q _ => ∃ (F : Hp) (a l : Addr) (T : Tn) (m : List Nat) (n : Nat) (ws : List V), vs = [.ref a] ∧ Ex F H ∧ DrAt CD CT F H a l T m n ws ∧ IsMap T.many m ∧
  ∀ v F' H', Gr M0 F H F' H' → rOpt rNat F' v (plc m) → Q v H'
def SpUsed (CD CT : Addr) : Sp := fun vs H Q _ => ∃ (F : Hp) (a l : Addr) (T : Tn) (m : List Nat) (n : Nat) (ws : List V), vs = [.ref a] ∧ Ex F H ∧ DrAt CD CT F H a l T m n ws ∧
  ∀ v F' H', Gr M0 F H F' H' → rNat F' v n → Q v H'
section
variable {K : PySem.W.Frag} {σ : St} {F H F' H' : Hp} {ta : TE} {CD CT a l : Addr} {T : Tn} {m : List Nat} {n : Nat} {ws : List V} {E : XK}
theorem ev_place (ha : Ev rRef ta σ F H a) (d : DrAt CD CT F H a l T m n ws) (hm : IsMap T.many m) : Ev (rOpt rNat) (tMeth CD "place" (SpPlace CD CT) [] E ta tNil) σ F H (plc m) := fun F1 H1 g1 Q q =>
  ha F1 H1 g1 _ fun v F2 H2 g2 r => by
    cases (show v = _ from r)
    have d2 := d.gr (g1.trans g2)
    obtain ⟨dx, tv, fv, h1, h2, h3⟩ := id d2.ha
    exact ⟨a, dx, _, rfl, h1, rfl, F2, a, l, T, m, n, ws, rfl, g2.fh, d2, hm, fun v F' H' g k => q v F' H' (g2.trans g) k⟩
theorem ev_used (ha : Ev rRef ta σ F H a) (d : DrAt CD CT F H a l T m n ws) : Ev rNat (tMeth CD "used" (SpUsed CD CT) [] E ta tNil) σ F H n := fun F1 H1 g1 Q q =>
  ha F1 H1 g1 _ fun v F2 H2 g2 r => by
    cases (show v = _ from r)
    have d2 := d.gr (g1.trans g2)
    obtain ⟨dx, tv, fv, h1, h2, h3⟩ := id d2.ha
    exact ⟨a, dx, _, rfl, h1, rfl, F2, a, l, T, m, n, ws, rfl, g2.fh, d2, fun v F' H' g k => q v F' H' (g2.trans g) k⟩
end
theorem isMap_step {T : Tn} {p : List Nat × Nat} {s : Nat} (h : IsMap T.many p.1) (hs : s < T.maps.length) : IsMap T.many (drStep T p s).1 := by
  unfold drStep
  split
  · exact h
  · exact isMap_then (T.isMap hs) h
theorem isMap_run {T : Tn} {w : List Nat} (hs : ∀ s ∈ w, s < T.maps.length) : IsMap T.many (drRun T w).1 := by
  have : ∀ (w : List Nat) (p : List Nat × Nat), IsMap T.many p.1 → (∀ s ∈ w, s < T.maps.length) → IsMap T.many (w.foldl (drStep T) p).1 := fun w => by
    induction w with
    | nil => exact fun p h _ => h
    | cons s w ih => exact fun p h hs => ih _ (isMap_step h (hs s List.mem_cons_self)) fun s' h' => hs s' (List.mem_cons_of_mem _ h')
  exact this w _ (isMap_id _) hs
theorem headD_lt {n : Nat} {m : List Nat} (h : IsMap n m) (h0 : 1 ≤ n) : m.headD 0 < n := by
  cases m with
  | nil => have := h.1; simp at this; omega
  | cons a m => exact h.2 a List.mem_cons_self
theorem at0 {m : List Nat} (h : 1 ≤ m.length) : atI m 0 = some (m.headD 0) := by
  cases m with
  | nil => simp at h
  | cons a m => exact atI_natL (n := 0) rfl
end El
namespace El
open PySem PySem.Spec L2
theorem Gr.seq0 {M : Addr → Prop} {F H F1 H1 F2 H2 : Hp} (g : Gr M0 F H F1 H1) (g2 : Gr M F1 H1 F2 H2) (n : ∀ b, M b → H b = none) : Gr M0 F H F2 H2 where
  ff := g.ff.trans g2.ff
  fh := g2.fh
  hh := fun b o _ h => g2.hh b o (fun z => by rw [n b z] at h; cases h) (g.hx b o h)
  nw := fun b _ h f => g2.nw b (fun z => h (n b z)) (g.dm b h) (g.nw b (fun z => z) h f)
  dm := fun b h => g2.dm b (g.dm b h)
/-- a new instance, its dict laid -/
theorem Gr.make {F H F' H' : Hp} {x dx C : Addr} (e : Ex F H) (nx : H x = none) (ndx : H dx = none) (nex : dx ≠ x) (g : Gr (M1 x) F (upd (upd H dx (.own x)) x (.ins C dx [])) F' H') : Gr M0 F H F' H' where
  ff := g.ff
  fh := g.fh
  hh := fun b o _ h => by
    have b1 : b ≠ x := fun z => by subst z; rw [nx] at h; cases h
    have b2 : b ≠ dx := fun z => by subst z; rw [ndx] at h; cases h
    exact g.hh b o b1 (by rw [upd_ne b1, upd_ne b2]; exact h)
  nw := fun b _ h n => by
    have b1 : b ≠ x := fun z => h (z ▸ nx)
    have b2 : b ≠ dx := fun z => h (z ▸ ndx)
    exact g.nw b b1 (by rw [upd_ne b1, upd_ne b2]; exact h) n
  dm := fun b h => by
    have b1 : b ≠ x := fun z => h (z ▸ nx)
    have b2 : b ≠ dx := fun z => h (z ▸ ndx)
    exact g.dm b (by rw [upd_ne b1, upd_ne b2]; exact h)
theorem Ex.make {F H : Hp} {x dx C : Addr} (e : Ex F H) (nx : H x = none) (ndx : H dx = none) : Ex F (upd (upd H dx (.own x)) x (.ins C dx [])) := (e.mut (e.free ndx)).mut (e.free nx)
/-! reading once -/
def roLoop (t : Tn) (long : Nat) (w : List Nat) : Nat → Nat → Option Nat → Option (Nat × Nat)
  | 0, _, _ => none
  | n + 1, k, none => roLoop t long w n (k + 1) (plc (mapW t ((w.drop (k * long)).take long)))
  | n + 1, k, some s => if metB (mapW t ((w.drop (k * long)).take long)) = true then some (s, k + 1) else roLoop t long w n (k + 1) (some ((mapW t ((w.drop (k * long)).take long)).getD s 0))
def readOnceM (t : Tn) (long : Nat) (w : List Nat) : Option (Nat × Nat) := roLoop t long w (w.length / long) 0 none
end El

set_option Elab.async false
set_option linter.all false
set_option maxRecDepth 100000
set_option maxHeartbeats 2000000
namespace El
open PySem PySem.Spec L2
/-! ### what draws of a source -/
def EvS {α : Type} (a : Addr) (c : Nat) (R : Rp α) (te : TE) (σ : St) (F H : Hp) (P : α → Prop) : Prop :=
  ∀ F1 H1 N, Gr (M1 a) F H F1 H1 → F1 a = none → Src H1 a (N + c) → ∀ Q : VK, (∀ v x F2 H2, Gr (M1 a) F1 H1 F2 H2 → F2 a = none → Src H2 a N → P x → R F2 v x → Q v H2) → te σ H1 Q
def EvTS (a : Addr) (c : Nat) (tt : TT) (σ : St) (F H : Hp) (P : Bool → Prop) : Prop :=
  ∀ F1 H1 N, Gr (M1 a) F H F1 H1 → F1 a = none → Src H1 a (N + c) → ∀ Q : Bool → Hp → Prop, (∀ b F2 H2, Gr (M1 a) F1 H1 F2 H2 → F2 a = none → Src H2 a N → P b → Q b H2) → tt σ H1 Q
def SpS0 (c : Nat) {β : Type} (S : Rp β) (P : β → Prop) : Sp := fun vs H Q _ => ∃ F a N, vs = [.ref a] ∧ Ex F H ∧ F a = none ∧ Src H a (N + c) ∧
  ∀ w y F' H', Gr (M1 a) F H F' H' → F' a = none → Src H' a N → P y → S F' w y → Q w H'
def SpS1 (c : Nat) {α β : Type} (R : Rp α) (Pre : α → Prop) (S : Rp β) (P : α → β → Prop) : Sp := fun vs H Q _ => ∃ F a N v x, vs = [.ref a, v] ∧ Ex F H ∧ F a = none ∧ Src H a (N + c) ∧ R F v x ∧ Pre x ∧
  ∀ w y F' H', Gr (M1 a) F H F' H' → F' a = none → Src H' a N → P x y → S F' w y → Q w H'
def SpS2 (c : Nat) {α β γ : Type} (R : Rp α) (R2 : Rp γ) (Pre : α → γ → Prop) (S : Rp β) (P : α → γ → β → Prop) : Sp := fun vs H Q _ => ∃ F a N v u x z, vs = [.ref a, v, u] ∧ Ex F H ∧ F a = none ∧ Src H a (N + c) ∧ R F v x ∧ R2 F u z ∧ Pre x z ∧
  ∀ w y F' H', Gr (M1 a) F H F' H' → F' a = none → Src H' a N → P x z y → S F' w y → Q w H'
class SpLen (sp : Sp) (n : outParam Nat) : Prop where
  len : ∀ {vs H Q E}, sp vs H Q E → vs.length = n
section
variable {α β γ δ ε : Type} {R : Rp α} {S : Rp β} {T : Rp γ} {U : Rp δ} {W : Rp ε}
instance {p : α → Prop} {f : α → β} : SpLen (Sp1 R p S f) 1 := ⟨fun ⟨_, _, _, h, _⟩ => by rw [h]; rfl⟩
instance {p : α → β → Prop} {f : α → β → γ} : SpLen (Sp2 R S p T f) 2 := ⟨fun ⟨_, _, _, _, _, h, _⟩ => by rw [h]; rfl⟩
instance {p : α → β → γ → Prop} {f : α → β → γ → δ} : SpLen (Sp3 R S T p U f) 3 := ⟨fun ⟨_, _, _, _, _, _, _, h, _⟩ => by rw [h]; rfl⟩
instance {p : α → β → γ → δ → Prop} {f : α → β → γ → δ → ε} : SpLen (Sp4 R S T U p W f) 4 := ⟨fun ⟨_, _, _, _, _, _, _, _, _, h, _⟩ => by rw [h]; rfl⟩
instance {c : Nat} {P : β → Prop} : SpLen (SpS0 c S P) 1 := ⟨fun ⟨_, _, _, h, _⟩ => by rw [h]; rfl⟩
instance {c : Nat} {p : α → Prop} {P : α → β → Prop} : SpLen (SpS1 c R p S P) 2 := ⟨fun ⟨_, _, _, _, _, h, _⟩ => by rw [h]; rfl⟩
instance {c : Nat} {p : α → γ → Prop} {P : α → γ → β → Prop} : SpLen (SpS2 c R T p S P) 3 := ⟨fun ⟨_, _, _, _, _, _, _, h, _⟩ => by rw [h]; rfl⟩
instance {a b : Addr} : SpLen (SpDraw a b) 2 := ⟨fun ⟨_, _, _, _, _, h, _⟩ => by rw [h]; rfl⟩
instance {a b : Addr} : SpLen (SpElder a b) 2 := ⟨fun ⟨_, _, _, _, _, _, _, _, h, _⟩ => by rw [h]; rfl⟩
instance {a b : Addr} : SpLen (SpPlace a b) 1 := ⟨fun ⟨_, _, _, _, _, _, _, h, _⟩ => by rw [h]; rfl⟩
instance {a b : Addr} : SpLen (SpUsed a b) 1 := ⟨fun ⟨_, _, _, _, _, _, _, h, _⟩ => by rw [h]; rfl⟩
instance {C : Addr} : SpLen (SpTurns C) 3 := ⟨fun ⟨_, _, _, _, _, h, _⟩ => by rw [h]; rfl⟩
end
section
variable {K : PySem.W.Frag} {σ : St} {F H F' H' : Hp} {ta tb tc te tl : TE} {tt t u : TT} {α β γ δ ε : Type} {R : Rp α} {S : Rp β} {T : Rp γ} {x : α} {y : β} {z : γ} {xs : List α} {a : Addr} {c c1 c2 N : Nat} {P P1 : α → Prop} {P2 : β → Prop} {D : Ends} {ts tu : TS} {E : XK}
theorem EvS.mono {c' : Nat} {P' : α → Prop} (h : EvS a c R te σ F H P) (hp : ∀ x, P x → P' x) (hc : c ≤ c') : EvS a c' R te σ F H P' := fun F1 H1 N g fa s Q q =>
  h F1 H1 (N + (c' - c)) g fa (s.le (by omega)) Q fun v x F2 H2 g2 fa2 s2 p r => q v x F2 H2 g2 fa2 (s2.le (by omega)) (hp x p) r
theorem EvS.gr (h : EvS a c R te σ F H P) (g : Gr (M1 a) F H F' H') : EvS a c R te σ F' H' P := fun F1 H1 N g1 fa s Q q => h F1 H1 N (g.trans g1) fa s Q q
theorem Src.someO {H : Hp} (s : Src H a N) : ∃ o, H a = some o := by
  obtain ⟨n, c, k, h, _⟩ := s
  exact ⟨_, h⟩
theorem es_pure (h : ∀ F1 H1, Gr (M1 a) F H F1 H1 → F1 a = none → Ev R te σ F1 H1 x) : EvS a 0 R te σ F H (fun y => y = x) := fun F1 H1 N g fa s Q q =>
  h F1 H1 g fa F1 H1 (.refl g.fh) Q fun v F2 H2 g2 r => by
    obtain ⟨o, ho⟩ := s.someO
    exact q v x F2 H2 g2.up (g2.nn ho fa) (s.gr g2) rfl r
theorem ets_pure {b : Bool} (h : ∀ F1 H1, Gr (M1 a) F H F1 H1 → F1 a = none → EvT tt σ F1 H1 b) : EvTS a 0 tt σ F H (fun y => y = b) := fun F1 H1 N g fa s Q q =>
  h F1 H1 g fa F1 H1 (.refl g.fh) Q fun F2 H2 g2 => by
    obtain ⟨o, ho⟩ := s.someO
    exact q b F2 H2 g2.up (g2.nn ho fa) (s.gr g2) rfl
theorem es_var {i : Nat} {v : V} (h : σ[i]? = some (some v)) (r : R F v x) (m : Mn R := by infer_instance) : EvS a 0 R (tVar i) σ F H (fun y => y = x) := es_pure fun F1 H1 g _ => ev_var h (m.mono g.ff r)
theorem es_int {i : Int} : EvS a 0 rInt (tC (.int i)) σ F H (fun y => y = i) := es_pure fun _ _ _ _ => ev_int
theorem ev_lit {i : Int} {n : Nat} (h : i = (n : Int) := by rfl) : Ev rNat (tC (.int i)) σ F H n := by
  subst h
  exact ev_int
theorem es_lit {i : Int} {n : Nat} (h : i = (n : Int) := by rfl) : EvS a 0 rNat (tC (.int i)) σ F H (fun y => y = n) := es_pure fun _ _ _ _ => ev_lit h
theorem EvS.nat {P : Nat → Prop} (h : EvS a c rNat te σ F H P) : EvS a c rInt te σ F H (fun i => ∃ n : Nat, i = (n : Int) ∧ P n) := fun F1 H1 N g fa s Q q =>
  h F1 H1 N g fa s Q fun v x F2 H2 g2 fa2 s2 p r => q v (x : Int) F2 H2 g2 fa2 s2 ⟨x, rfl, p⟩ r
theorem EvS.toNat {P : Int → Prop} {P' : Nat → Prop} (h : EvS a c rInt te σ F H P) (hp : ∀ i, P i → ∃ n : Nat, i = (n : Int) ∧ P' n) : EvS a c rNat te σ F H P' := fun F1 H1 N g fa s Q q =>
  h F1 H1 N g fa s Q fun v x F2 H2 g2 fa2 s2 p r => by
    obtain ⟨n, rfl, p'⟩ := hp x p
    exact q v n F2 H2 g2 fa2 s2 p' r
/-- two parts, one behind the other -/
theorem es_two {r : R2} {P' : γ → Prop} (ha : EvS a c1 R ta σ F H P1) (hb : EvS a c2 S tb σ F H P2) (m : Mn R)
    (k : ∀ F3 H3 N v w x y (Q : VK), Ex F3 H3 → F3 a = none → Src H3 a N → P1 x → P2 y → R F3 v x → S F3 w y → (∀ u z F4 H4, Gr M0 F3 H3 F4 H4 → P' z → T F4 u z → Q u H4) → r v w H3 Q) : EvS a (c1 + c2) T (tOp r ta tb) σ F H P' := fun F1 H1 N g fa s Q q =>
  ha F1 H1 (N + c2) g fa (s.le (by omega)) _ fun v x F2 H2 g2 fa2 s2 p1 r1 => hb F2 H2 N (g.trans g2) fa2 s2 _ fun w y F3 H3 g3 fa3 s3 p2 r2 =>
    k F3 H3 N v w x y Q g3.fh fa3 s3 p1 p2 (m.mono g3.ff r1) r2 fun u z F4 H4 g4 p4 r4 => by
      obtain ⟨o, ho⟩ := s3.someO
      exact q u z F4 H4 ((g2.trans g3).trans g4.up) (g4.nn ho fa3) (s3.gr g4) p4 r4
theorem es_I0 {P1 P2 : Int → Prop} {g : Int → Int → V} {f : Int → Int → γ} (ha : EvS a c1 rInt ta σ F H P1) (hb : EvS a c2 rInt tb σ F H P2) (hz : ∀ F i j, T F (g i j) (f i j)) : EvS a (c1 + c2) T (tOp (rI0 g) ta tb) σ F H (fun z => ∃ i j, P1 i ∧ P2 j ∧ z = f i j) :=
  es_two ha hb inferInstance fun F3 H3 N v w i j Q e fa s p1 p2 r1 r2 q => ⟨i, j, r1, r2, q _ _ F3 H3 (.refl e) ⟨i, j, p1, p2, rfl⟩ (hz F3 i j)⟩
theorem es_I {P1 P2 : Int → Prop} {C : Int → Int → Prop} {g : Int → Int → V} {f : Int → Int → γ} (ha : EvS a c1 rInt ta σ F H P1) (hb : EvS a c2 rInt tb σ F H P2) (hc : ∀ i j, P1 i → P2 j → C i j) (hz : ∀ F i j, T F (g i j) (f i j)) : EvS a (c1 + c2) T (tOp (rI C g) ta tb) σ F H (fun z => ∃ i j, P1 i ∧ P2 j ∧ z = f i j) :=
  es_two ha hb inferInstance fun F3 H3 N v w i j Q e fa s p1 p2 r1 r2 q => ⟨i, j, r1, r2, hc i j p1 p2, q _ _ F3 H3 (.refl e) ⟨i, j, p1, p2, rfl⟩ (hz F3 i j)⟩
theorem es_add {P1 P2 : Int → Prop} (ha : EvS a c1 rInt ta σ F H P1) (hb : EvS a c2 rInt tb σ F H P2) : EvS a (c1 + c2) rInt (tOp (rI0 fun i j => .int (i + j)) ta tb) σ F H (fun z => ∃ i j, P1 i ∧ P2 j ∧ z = i + j) := es_I0 ha hb fun _ _ _ => rfl
theorem es_sub {P1 P2 : Int → Prop} (ha : EvS a c1 rInt ta σ F H P1) (hb : EvS a c2 rInt tb σ F H P2) : EvS a (c1 + c2) rInt (tOp (rI0 fun i j => .int (i - j)) ta tb) σ F H (fun z => ∃ i j, P1 i ∧ P2 j ∧ z = i - j) := es_I0 ha hb fun _ _ _ => rfl
theorem es_mul {P1 P2 : Int → Prop} (ha : EvS a c1 rInt ta σ F H P1) (hb : EvS a c2 rInt tb σ F H P2) (hc : ∀ i j, P1 i → P2 j → CMul i j) : EvS a (c1 + c2) rInt (tOp (rI CMul fun i j => .int (i * j)) ta tb) σ F H (fun z => ∃ i j, P1 i ∧ P2 j ∧ z = i * j) := es_I ha hb hc fun _ _ _ => rfl
theorem es_eqI {P1 P2 : Int → Prop} (ha : EvS a c1 rInt ta σ F H P1) (hb : EvS a c2 rInt tb σ F H P2) : EvS a (c1 + c2) rBl (tOp rEq ta tb) σ F H (fun z => ∃ i j, P1 i ∧ P2 j ∧ z = decide (i = j)) :=
  es_two ha hb inferInstance fun F3 H3 N v w i j Q e fa s p1 p2 r1 r2 q => by
    cases (show v = _ from r1)
    cases (show w = _ from r2)
    refine ⟨rfl, ?_⟩
    have e1 : decide (V.int i = V.int j) = decide (i = j) := by simp
    rw [e1]
    exact q _ _ F3 H3 (.refl e) ⟨i, j, p1, p2, rfl⟩ rfl
theorem es_gtI {P1 P2 : Int → Prop} (ha : EvS a c1 rInt ta σ F H P1) (hb : EvS a c2 rInt tb σ F H P2) : EvS a (c1 + c2) rBl (tOp (rI0 fun i j => .bl (decide (j < i))) ta tb) σ F H (fun z => ∃ i j, P1 i ∧ P2 j ∧ z = decide (j < i)) := es_I0 ha hb fun _ _ _ => rfl
/-- an item of a frozen list, at a drawn place -/
theorem es_ixL {P2 : Int → Prop} (ha : ∀ F1 H1, Gr (M1 a) F H F1 H1 → F1 a = none → Ev (rLst R) ta σ F1 H1 xs) (hb : EvS a c rInt tb σ F H P2) (h : ∀ i, P2 i → ∃ x, atI xs i = some x) (m : Mn R := by infer_instance) : EvS a c R (tOp (rIxL K) ta tb) σ F H (fun x => ∃ i, P2 i ∧ atI xs i = some x) :=
  (es_two (es_pure ha) hb inferInstance fun F3 H3 N v w ys i Q e fa s p1 p2 ⟨b, vs, eb, hl, p⟩ r2 q => by
    subst p1
    obtain ⟨x, hx⟩ := h i p2
    obtain ⟨y, hy, ry⟩ := atI_paired p hx
    exact ⟨b, vs, i, y, eb, r2, SqL.of (e _ _ hl), hy, q y x F3 H3 (.refl e) ⟨i, p2, hx⟩ ry⟩).mono (fun _ h => h) (by omega)
theorem es_pr {P1 : α → Prop} (ha : EvS a c1 R ta σ F H P1) (hb : EvS a c2 S tb σ F H P2) (m : Mn R := by infer_instance) (n : Mn S := by infer_instance) : EvS a (c1 + c2) (rPr R S) (tTup (tCons ta (tCons tb tNil))) σ F H (fun p => P1 p.1 ∧ P2 p.2) := fun F1 H1 N g fa s Q q =>
  ha F1 H1 (N + c2) g fa (s.le (by omega)) _ fun v x F2 H2 g2 fa2 s2 p1 r1 => hb F2 H2 N (g.trans g2) fa2 s2 _ fun w y F3 H3 g3 fa3 s3 p2 r2 => ⟨by show 2 ≤ sizeLine; decide, fun B hB => by
    have g4 : Gr M0 F3 H3 (upd F3 B (.tup [v, w])) (upd H3 B (.tup [v, w])) := .new g3.fh hB
    obtain ⟨o, ho⟩ := s3.someO
    exact q _ (x, y) _ _ ((g2.trans g3).trans g4.up) (g4.nn ho fa3) (s3.gr g4) ⟨p1, p2⟩ ⟨B, v, w, rfl, upd_same, m.mono (g3.ff.trans g4.ff) r1, n.mono g4.ff r2⟩⟩
theorem es_tupL {P : List α → Prop} (ha : EvS a c (rLst R) ta σ F H P) (m : Mn R := by infer_instance) : EvS a c (rTup R) (tCB (rTupS K) (tCons ta tNil)) σ F H P := fun F1 H1 N g fa s Q q =>
  ha F1 H1 N g fa s _ fun v x F2 H2 g2 fa2 s2 p ⟨b, vs, e, hl, pr⟩ => ⟨b, vs, by rw [e], .inl ⟨SqL.of (g2.fh _ _ hl), fun B hB => by
    have g4 : Gr M0 F2 H2 (upd F2 B (.tup vs)) (upd H2 B (.tup vs)) := .new g2.fh hB
    obtain ⟨o, ho⟩ := s2.someO
    exact q _ x _ _ (g2.trans g4.up) (g4.nn ho fa2) (s2.gr g4) p ⟨B, vs, rfl, upd_same, Paired.up g4.ff pr⟩⟩⟩
/-! calls -/
theorem es_call0 {i : Nat} (hv : σ[i]? = some (some (.ref a))) : EvS a c S (tCall (SpS0 c S P2) [] E (tCons (tVar i) tNil)) σ F H P2 := fun F1 H1 N g fa s Q q =>
  ⟨.ref a, hv, F1, a, N, rfl, g.fh, fa, s, fun w y F' H' g' fa' s' p r => q w y F' H' g' fa' s' p r⟩
theorem es_call1 {i : Nat} {Pre : α → Prop} {P' : α → β → Prop} (hv : σ[i]? = some (some (.ref a))) (hb : EvS a c2 R tb σ F H P1) (hp : ∀ x, P1 x → Pre x) : EvS a (c2 + c) S (tCall (SpS1 c R Pre S P') [] E (tCons (tVar i) (tCons tb tNil))) σ F H (fun y => ∃ x, P1 x ∧ P' x y) := fun F1 H1 N g fa s Q q =>
  ⟨.ref a, hv, hb F1 H1 (N + c) g fa (s.le (by omega)) _ fun v x F2 H2 g2 fa2 s2 p r => ⟨F2, a, N, v, x, rfl, g2.fh, fa2, s2, r, hp x p, fun w y F' H' g' fa' s' p' r' => q w y F' H' (g2.trans g') fa' s' ⟨x, p, p'⟩ r'⟩⟩
theorem es_call2 {i : Nat} {Pre : α → γ → Prop} {P' : α → γ → β → Prop} {P3 : γ → Prop} {c3 : Nat} (hv : σ[i]? = some (some (.ref a))) (hb : EvS a c2 R tb σ F H P1) (hc : EvS a c3 T tc σ F H P3) (hp : ∀ x z, P1 x → P3 z → Pre x z) (m : Mn R := by infer_instance) : EvS a (c2 + c3 + c) S (tCall (SpS2 c R T Pre S P') [] E (tCons (tVar i) (tCons tb (tCons tc tNil)))) σ F H (fun y => ∃ x z, P1 x ∧ P3 z ∧ P' x z y) := fun F1 H1 N g fa s Q q =>
  ⟨.ref a, hv, hb F1 H1 (N + c3 + c) g fa (s.le (by omega)) _ fun v x F2 H2 g2 fa2 s2 p r => hc F2 H2 (N + c) (g.trans g2) fa2 (s2.le (by omega)) _ fun u z F3 H3 g3 fa3 s3 p3 r3 => ⟨F3, a, N, v, u, x, z, rfl, g3.fh, fa3, s3, m.mono g3.ff r, r3, hp x z p p3, fun w y F' H' g' fa' s' p' r' => q w y F' H' ((g2.trans g3).trans g') fa' s' ⟨x, z, p, p3, p'⟩ r'⟩⟩
/-! [elt for k in range(n)] -/
theorem es_lcR {j B : Nat} {vs : List Nat} {P1 : Int → Prop} {P2 : Nat → β → Prop} (h : EvS a c1 rInt ta σ F H P1) (hn : ∀ n, P1 n → 0 ≤ n ∧ n ≤ (B : Int)) (hB : B ≤ 1000000) (hw : ∀ v, wipe ((wipe σ vs).set j (some v)) vs = wipe σ vs)
    (he : ∀ i : Nat, i < B → ∀ F1 H1, Gr (M1 a) F H F1 H1 → F1 a = none → EvS a c2 S te ((wipe σ vs).set j (some (.int (i : Int)))) F1 H1 (P2 i)) (m' : Mn S := by infer_instance) :
    EvS a (c1 + B * c2) (rLst S) (tLc (iRng1 (tCons ta tNil)) (gName j) tYes te vs) σ F H (fun l => ∃ n, P1 n ∧ (l.length : Int) = n ∧ ∀ (i : Nat) x, l[i]? = some x → P2 i x) := by
  intro F1 H1 N g1 fa s Q q
  refine h F1 H1 (N + B * c2) g1 fa (s.le (by omega)) _ fun v n F2 H2 g2 fa2 s2 p ea => ?_
  obtain ⟨n0, n1⟩ := hn n p
  refine ⟨n, by rw [show v = _ from ea], by omega, by omega, fun B' hD => ?_⟩
  obtain ⟨k, hk⟩ : ∃ k : Nat, n = (k : Int) := ⟨n.toNat, by omega⟩
  subst hk
  rw [Int.toNat_natCast]
  have hne : B' ≠ a := fun z => by
    subst z
    exact s2.hn hD
  refine lc_range (lo := 0) (n := k) (fun i H' => ∃ F' us l, Gr (M1 a) F2 H2 F' H' ∧ F' a = none ∧ Src H' a (N + (B - i) * c2) ∧ F' B' = none ∧ H' B' = some (.lst us) ∧ l.length = i ∧ Paired (S F') us l ∧ ∀ (t : Nat) x, l[t]? = some x → P2 t x)
    ⟨F2, [], [], .loc g2.fh hD, fa2, (by rw [Nat.sub_zero]; exact s2.ex (upd_ne hne.symm)), g2.fh.free hD, upd_same, rfl, .nil, fun t x hx => by simp at hx⟩ ?_ ?_
  · rintro i H' hi ⟨F', us, l, g, fa', s', fD, hD', hl, pu, hP⟩
    have e0 : (0 : Int) + (i : Int) = (i : Int) := Int.zero_add _
    rw [e0]
    refine ⟨hw _, ?_⟩
    have hb : (B - i) * c2 = (B - (i + 1)) * c2 + c2 := by
      rw [show B - i = (B - (i + 1)) + 1 by omega, Nat.succ_mul]
    refine he i (by omega) F' H' ((g1.trans g2).trans g) fa' F' H' (N + (B - (i + 1)) * c2) (.refl g.fh) fa' (s'.le (by omega)) _ fun u y F3 H3 g3 fa3 s3 py r3 => ?_
    have hD3 : H3 B' = some (.lst us) := g3.hh _ _ hne hD'
    have fD3 : F3 B' = none := g3.nw B' hne (by rw [hD']; exact fun z => nomatch z) fD
    refine ⟨us, hD3, ?_, F3, us ++ [u], l ++ [y], (g.trans g3).set' fD3 (.inl hD), fa3, s3.ex (upd_ne hne.symm), fD3, upd_same, by rw [List.length_append, hl]; rfl, (Paired.up g3.ff pu).snoc r3, ?_⟩
    · rw [pu.length, hl, sizeLine_eq]
      omega
    · intro t x hx
      by_cases ht : t < l.length
      · rw [List.getElem?_append_left ht] at hx
        exact hP t x hx
      · have ht2 : t < (l ++ [y]).length := (List.getElem?_eq_some_iff.mp hx).1
        rw [List.length_append] at ht2
        have e1 : t = l.length := by simp at ht2; omega
        subst e1
        rw [List.getElem?_append_right (Nat.le_refl _), Nat.sub_self] at hx
        cases hx
        rw [hl]
        exact py
  · rintro H' ⟨F', us, l, g, fa', s', fD, hD', hl, pu, hP⟩
    exact q _ l _ _ (g2.trans (g.frz hD' (g2.fh.free hD) (.inl hD))) (by rw [upd_ne hne.symm]; exact fa') (s'.le (Nat.le_add_right _ _)) ⟨(k : Int), p, by rw [hl], hP⟩ ⟨B', us, rfl, upd_same, Paired.up (g.fh.frz hD' fD) pu⟩
theorem es_callP {i : Nat} {Pre : α → Prop} {P' : α → β → Prop} (hv : σ[i]? = some (some (.ref a))) (hb : ∀ F1 H1, Gr (M1 a) F H F1 H1 → F1 a = none → Ev R tb σ F1 H1 x) (hp : Pre x) : EvS a c S (tCall (SpS1 c R Pre S P') [] E (tCons (tVar i) (tCons tb tNil))) σ F H (fun y => P' x y) :=
  (es_call1 hv (es_pure hb) (fun z e => by rw [e]; exact hp)).mono (fun y ⟨z, e, p⟩ => by rw [← e]; exact p) (by omega)
theorem es_callP2 {i : Nat} {Pre : α → γ → Prop} {P' : α → γ → β → Prop} (hv : σ[i]? = some (some (.ref a))) (hb : ∀ F1 H1, Gr (M1 a) F H F1 H1 → F1 a = none → Ev R tb σ F1 H1 x) (hc : ∀ F1 H1, Gr (M1 a) F H F1 H1 → F1 a = none → Ev T tc σ F1 H1 z) (hp : Pre x z) (m : Mn R := by infer_instance) : EvS a c S (tCall (SpS2 c R T Pre S P') [] E (tCons (tVar i) (tCons tb (tCons tc tNil)))) σ F H (fun y => P' x z y) :=
  (es_call2 hv (es_pure hb) (es_pure hc) (fun u w e e2 => by rw [e, e2]; exact hp) m).mono (fun y ⟨u, w, e, e2, p⟩ => by rw [← e, ← e2]; exact p) (by omega)
theorem es_lcRP {j n B : Nat} {vs : List Nat} {P2 : Nat → β → Prop} (h : ∀ F1 H1, Gr (M1 a) F H F1 H1 → F1 a = none → Ev rInt ta σ F1 H1 (n : Int)) (hn : n ≤ B) (hB : B ≤ 1000000) (hw : ∀ v, wipe ((wipe σ vs).set j (some v)) vs = wipe σ vs)
    (he : ∀ i : Nat, i < n → ∀ F1 H1, Gr (M1 a) F H F1 H1 → F1 a = none → EvS a c2 S te ((wipe σ vs).set j (some (.int (i : Int)))) F1 H1 (P2 i)) (m' : Mn S := by infer_instance) :
    EvS a (B * c2) (rLst S) (tLc (iRng1 (tCons ta tNil)) (gName j) tYes te vs) σ F H (fun l => l.length = n ∧ ∀ (i : Nat) x, l[i]? = some x → P2 i x) :=
  (es_lcR (B := n) (es_pure h) (fun k e => by rw [e]; omega) (by omega) hw he m').mono (fun l ⟨k, e, hl, p⟩ => ⟨by omega, p⟩) (by rw [Nat.zero_add]; exact Nat.mul_le_mul_right _ hn)
/-! tests -/
theorem ets_test {P : Bool → Prop} (h : EvS a c rBl te σ F H P) : EvTS a c (tTest te) σ F H P := fun F1 H1 N g fa s Q q => h F1 H1 N g fa s _ fun v b F2 H2 g2 fa2 s2 p r => ⟨b, r, q b F2 H2 g2 fa2 s2 p⟩
theorem ets_B {P : Bool → Prop} (h : EvS a c rBl te σ F H P) : EvTS a c (tB te) σ F H P := fun F1 H1 N g fa s Q q => h F1 H1 N g fa s _ fun v b F2 H2 g2 fa2 s2 p r => ⟨b, r, q b F2 H2 g2 fa2 s2 p⟩
theorem ets_and {P1 P2 : Bool → Prop} (h1 : EvTS a c1 t σ F H P1) (h2 : EvTS a c2 u σ F H P2) : EvTS a (c1 + c2) (tAnd t u) σ F H (fun b => b = true → P1 true ∧ P2 true) := fun F1 H1 N g fa s Q q =>
  h1 F1 H1 (N + c2) g fa (s.le (by omega)) _ fun b F2 H2 g2 fa2 s2 p => by
    cases b with
    | true => exact h2 F2 H2 N (g.trans g2) fa2 s2 _ fun b F3 H3 g3 fa3 s3 p3 => q b F3 H3 (g2.trans g3) fa3 s3 fun e => ⟨p, e ▸ p3⟩
    | false => exact q false F2 H2 g2 fa2 (s2.le (by omega)) fun e => nomatch e
/-! statements -/
theorem x_setS {i : Nat} (h : EvS a c R te σ F H P) (e : Ex F H) (fa : F a = none) (s : Src H a N) (hc : c ≤ N) (k : ∀ v x F' H', Gr (M1 a) F H F' H' → F' a = none → Src H' a (N - c) → P x → R F' v x → D.nx (σ.set i (some v)) H') : tAsg te (gName i) D σ H :=
  h F H (N - c) (.refl e) fa (s.le (by omega)) _ fun v x F' H' g fa' s' p r => k v x F' H' g fa' s' p r
theorem x_retS (h : EvS a c R te σ F H P) (e : Ex F H) (fa : F a = none) (s : Src H a N) (hc : c ≤ N) (k : ∀ v x F' H', Gr (M1 a) F H F' H' → F' a = none → Src H' a (N - c) → P x → R F' v x → D.rt v H') : tRet te D σ H :=
  h F H (N - c) (.refl e) fa (s.le (by omega)) _ fun v x F' H' g fa' s' p r => k v x F' H' g fa' s' p r
theorem x_ifS {P : Bool → Prop} (h : EvTS a c t σ F H P) (e : Ex F H) (fa : F a = none) (s : Src H a N) (hc : c ≤ N) (k1 : P true → ∀ F' H', Gr (M1 a) F H F' H' → F' a = none → Src H' a (N - c) → ts D σ H') (k2 : P false → ∀ F' H', Gr (M1 a) F H F' H' → F' a = none → Src H' a (N - c) → tu D σ H') : tIfS t ts tu D σ H :=
  h F H (N - c) (.refl e) fa (s.le (by omega)) _ fun b F' H' g fa' s' p => by
    cases b with
    | true => exact k1 p F' H' g fa' s'
    | false => exact k2 p F' H' g fa' s'
/-- x, y = e, e a pair -/
theorem x_pairS {i j : Nat} {P : α × β → Prop} (h : EvS a c (rPr R S) te σ F H P) (e : Ex F H) (fa : F a = none) (s : Src H a N) (hc : c ≤ N)
    (k : ∀ v w x F' H', Gr (M1 a) F H F' H' → F' a = none → Src H' a (N - c) → P x → R F' v x.1 → S F' w x.2 → D.nx ((σ.set i (some v)).set j (some w)) H') : tAsg te (gTup K 2 (gCons (gName i) (gCons (gName j) gNil))) D σ H :=
  h F H (N - c) (.refl e) fa (s.le (by omega)) _ fun v x F' H' g fa' s' p ⟨b, u, w, eb, hb, r1, r2⟩ => by
    subst eb
    refine ⟨b, [u, w], rfl, SqT.of (g.fh _ _ hb), rfl, u, [w], rfl, w, [], rfl, rfl, ?_⟩
    exact k u w x F' H' g fa' s' p r1 r2
end
end El

set_option Elab.async false
set_option linter.all false
set_option maxRecDepth 100000
set_option maxHeartbeats 2000000
namespace El
open PySem PySem.Spec L2
/-! ### == of data -/
class Dt {α : Type} (R : Rp α) where
  data : α → PyData
  rep : ∀ {K : PySem.W.Frag} {F H : Hp} {v : V} {x : α}, Ex F H → R F v x → Dp K H v (data x)
  lay : ∀ x, (data x).canLay0 = true
  dep : Nat
  depth : ∀ x, (data x).depth ≤ dep
  eqv : ∀ x y, PyData.eqv (data x) (data y) = true ↔ x = y
instance : Dt rInt where
  data := .int
  rep := fun e r => by cases (show _ = _ from r); exact .int _
  lay := fun _ => rfl
  dep := 0
  depth := fun _ => Nat.le_refl _
  eqv := fun x y => by show (x == y) = true ↔ x = y; exact beq_iff_eq
instance : Dt rNat where
  data := fun n => .int (n : Int)
  rep := fun e r => by cases (show _ = _ from r); exact .int _
  lay := fun _ => rfl
  dep := 0
  depth := fun _ => Nat.le_refl _
  eqv := fun x y => by show ((x : Int) == (y : Int)) = true ↔ x = y; rw [beq_iff_eq]; omega
instance : Dt rBl where
  data := .bool
  rep := fun e r => by cases (show _ = _ from r); exact .bl _
  lay := fun _ => rfl
  dep := 0
  depth := fun _ => Nat.le_refl _
  eqv := fun x y => by show (x == y) = true ↔ x = y; exact beq_iff_eq
theorem dpAll {α : Type} {R : Rp α} [d : Dt R] {K : PySem.W.Frag} {F H : Hp} (e : Ex F H) : ∀ {vs : List V} {xs : List α}, Paired (R F) vs xs → DpAll K H vs (xs.map d.data)
  | _, _, .nil => .nil
  | _, _, .cons r t => .cons (d.rep e r) (dpAll e t)
theorem layAll {α : Type} {R : Rp α} [d : Dt R] : ∀ xs : List α, PyData.canLayAll0 (xs.map d.data) = true
  | [] => rfl
  | x :: xs => by
    show (PyData.canLay0 (d.data x) && PyData.canLayAll0 (xs.map d.data)) = true
    rw [d.lay x, layAll xs]
    rfl
theorem depAll {α : Type} {R : Rp α} [d : Dt R] : ∀ xs : List α, PyData.depthAll (xs.map d.data) ≤ d.dep
  | [] => Nat.zero_le _
  | x :: xs => by
    show max (PyData.depth (d.data x)) (PyData.depthAll (xs.map d.data)) ≤ _
    exact Nat.max_le.mpr ⟨d.depth x, depAll xs⟩
theorem eqvAllD {α : Type} {R : Rp α} [d : Dt R] : ∀ xs ys : List α, PyData.eqvAll (xs.map d.data) (ys.map d.data) = true ↔ xs = ys
  | [], [] => by simp [PyData.eqvAll]
  | x :: xs, [] => by simp [PyData.eqvAll]
  | [], y :: ys => by simp [PyData.eqvAll]
  | x :: xs, y :: ys => by
    show (PyData.eqv (d.data x) (d.data y) && PyData.eqvAll (xs.map d.data) (ys.map d.data)) = true ↔ _
    rw [Bool.and_eq_true, d.eqv, eqvAllD xs ys, List.cons.injEq]
instance {α : Type} {R : Rp α} [d : Dt R] : Dt (rLst R) where
  data := fun xs => .list (xs.map d.data)
  rep := fun e ⟨a, vs, h1, h2, h3⟩ => by subst h1; exact .lst (SqL.of (e _ _ h2)) (dpAll e h3)
  lay := fun xs => by show PyData.canLayAll0 _ = true; exact layAll xs
  dep := d.dep + 1
  depth := fun xs => by show PyData.depthAll _ + 1 ≤ _; exact Nat.succ_le_succ (depAll xs)
  eqv := fun xs ys => by show PyData.eqvAll _ _ = true ↔ _; exact eqvAllD xs ys
instance {α : Type} {R : Rp α} [d : Dt R] : Dt (rTup R) where
  data := fun xs => .tuple (xs.map d.data)
  rep := fun e ⟨a, vs, h1, h2, h3⟩ => by subst h1; exact .tup (SqT.of (e _ _ h2)) (dpAll e h3)
  lay := fun xs => by show PyData.canLayAll0 _ = true; exact layAll xs
  dep := d.dep + 1
  depth := fun xs => by show PyData.depthAll _ + 1 ≤ _; exact Nat.succ_le_succ (depAll xs)
  eqv := fun xs ys => by show PyData.eqvAll _ _ = true ↔ _; exact eqvAllD xs ys
instance {α β : Type} {R : Rp α} {S : Rp β} [d : Dt R] [f : Dt S] : Dt (rPr R S) where
  data := fun p => .tuple [d.data p.1, f.data p.2]
  rep := fun e ⟨a, x, y, h1, h2, h3, h4⟩ => by subst h1; exact .tup (SqT.of (e _ _ h2)) (.cons (d.rep e h3) (.cons (f.rep e h4) .nil))
  lay := fun p => by
    show (PyData.canLay0 _ && (PyData.canLay0 _ && true)) = true
    rw [d.lay, f.lay]
    rfl
  dep := max d.dep f.dep + 1
  depth := fun p => by
    show max (PyData.depth (d.data p.1)) (max (PyData.depth (f.data p.2)) 0) + 1 ≤ _
    have := d.depth p.1
    have := f.depth p.2
    omega
  eqv := fun p q => by
    show (PyData.eqv _ _ && (PyData.eqv _ _ && true)) = true ↔ _
    rw [Bool.and_true, Bool.and_eq_true, d.eqv, f.eqv, Prod.ext_iff]
class NotNoneD {α : Type} (R : Rp α) [d : Dt R] : Prop where
  nn : ∀ x, d.data x ≠ .none
instance : NotNoneD rInt := ⟨fun _ => fun z => nomatch z⟩
instance : NotNoneD rNat := ⟨fun _ => fun z => nomatch z⟩
instance : NotNoneD rBl := ⟨fun _ => fun z => nomatch z⟩
instance {α : Type} {R : Rp α} [d : Dt R] : NotNoneD (rLst R) := ⟨fun _ => fun z => nomatch z⟩
instance {α : Type} {R : Rp α} [d : Dt R] : NotNoneD (rTup R) := ⟨fun _ => fun z => nomatch z⟩
instance {α β : Type} {R : Rp α} {S : Rp β} [d : Dt R] [f : Dt S] : NotNoneD (rPr R S) := ⟨fun _ => fun z => nomatch z⟩
theorem eqv_none {d : PyData} (h : d ≠ .none) : PyData.eqv .none d = false ∧ PyData.eqv d .none = false := by
  cases d with
  | none => exact absurd rfl h
  | bool _ => exact ⟨rfl, rfl⟩
  | int _ => exact ⟨rfl, rfl⟩
  | str _ => exact ⟨rfl, rfl⟩
  | list _ => exact ⟨rfl, rfl⟩
  | tuple _ => exact ⟨rfl, rfl⟩
  | dict _ => exact ⟨rfl, rfl⟩
instance {α : Type} {R : Rp α} [d : Dt R] [n : NotNoneD R] : Dt (rOpt R) where
  data := fun x => match x with
    | none => .none
    | some y => d.data y
  rep := fun {K F H v x} e r => by
    cases x with
    | none => cases (show _ = _ from r); exact .non
    | some y => exact d.rep e r
  lay := fun x => by
    cases x with
    | none => rfl
    | some y => exact d.lay y
  dep := d.dep
  depth := fun x => by
    cases x with
    | none => exact Nat.zero_le _
    | some y => exact d.depth y
  eqv := fun x y => by
    cases x with
    | none =>
      cases y with
      | none => exact ⟨fun _ => rfl, fun _ => rfl⟩
      | some y => exact ⟨(fun h => by rw [(eqv_none (n.nn y)).1] at h; exact Bool.noConfusion h), (fun h => nomatch h)⟩
    | some x =>
      cases y with
      | none => exact ⟨(fun h => by rw [(eqv_none (n.nn x)).2] at h; exact Bool.noConfusion h), (fun h => nomatch h)⟩
      | some y => exact (d.eqv x y).trans ⟨fun h => by rw [h], fun h => Option.some.inj h⟩
section
variable {K : PySem.W.Frag} {σ : St} {F H F' H' : Hp} {ta tb tc te tl : TE} {α β : Type} {R : Rp α} {S : Rp β} {x y : α} {xs : List α}
theorem shapedD (d : Dt R) (h : d.dep ≤ 64) (x : α) : SeqAt.shaped (d.data x) = true := by
  show (PyData.canLay0 _ && decide _) = true
  rw [d.lay, decide_eq_true (Nat.le_trans (d.depth x) h)]
  rfl
theorem ev_eqD [DecidableEq α] (ha : Ev R ta σ F H x) (hb : Ev R tb σ F H y) (d : Dt R := by infer_instance) (m : Mn R := by infer_instance) (h : d.dep ≤ 64 := by decide) : Ev rBl (tOp (rEqD K) ta tb) σ F H (decide (x = y)) := fun F1 H1 g1 Q q =>
  ha F1 H1 g1 _ fun v F2 H2 g2 r => hb F2 H2 (g1.trans g2) _ fun w F3 H3 g3 r3 => ⟨d.data x, d.data y, d.rep g3.fh (m.mono g3.ff r), d.rep g3.fh r3, shapedD d h x, shapedD d h y, by
    have e : PyData.eqv (d.data x) (d.data y) = decide (x = y) := by
      by_cases z : x = y
      · rw [decide_eq_true z]; exact (d.eqv x y).mpr z
      · rw [decide_eq_false z]
        cases q : PyData.eqv (d.data x) (d.data y) with
        | false => rfl
        | true => exact absurd ((d.eqv x y).mp q) z
    rw [e]
    exact q _ F3 H3 (g2.trans g3) rfl⟩
theorem ev_neD [DecidableEq α] (ha : Ev R ta σ F H x) (hb : Ev R tb σ F H y) (d : Dt R := by infer_instance) (m : Mn R := by infer_instance) (h : d.dep ≤ 64 := by decide) : Ev rBl (tOp (rNeD K) ta tb) σ F H (!decide (x = y)) := fun F1 H1 g1 Q q =>
  ha F1 H1 g1 _ fun v F2 H2 g2 r => hb F2 H2 (g1.trans g2) _ fun w F3 H3 g3 r3 => ⟨d.data x, d.data y, d.rep g3.fh (m.mono g3.ff r), d.rep g3.fh r3, shapedD d h x, shapedD d h y, by
    have e : PyData.eqv (d.data x) (d.data y) = decide (x = y) := by
      by_cases z : x = y
      · rw [decide_eq_true z]; exact (d.eqv x y).mpr z
      · rw [decide_eq_false z]
        cases q : PyData.eqv (d.data x) (d.data y) with
        | false => rfl
        | true => exact absurd ((d.eqv x y).mp q) z
    rw [e]
    exact q _ F3 H3 (g2.trans g3) rfl⟩
theorem ev_neB {a b : Bool} (ha : Ev rBl ta σ F H a) (hb : Ev rBl tb σ F H b) : Ev rBl (tOp rNe ta tb) σ F H (!decide (a = b)) := fun F1 H1 g1 Q q =>
  ha F1 H1 g1 _ fun v F2 H2 g2 r => hb F2 H2 (g1.trans g2) _ fun w F3 H3 g3 r2 => by
    cases (show v = V.bl a from r)
    cases (show w = V.bl b from r2)
    refine ⟨rfl, ?_⟩
    have e : decide (V.bl a = V.bl b) = decide (a = b) := by simp
    rw [e]
    exact q _ F3 H3 (g2.trans g3) rfl
theorem ev_eqB {a b : Bool} (ha : Ev rBl ta σ F H a) (hb : Ev rBl tb σ F H b) : Ev rBl (tOp rEq ta tb) σ F H (decide (a = b)) := fun F1 H1 g1 Q q =>
  ha F1 H1 g1 _ fun v F2 H2 g2 r => hb F2 H2 (g1.trans g2) _ fun w F3 H3 g3 r2 => by
    cases (show v = V.bl a from r)
    cases (show w = V.bl b from r2)
    refine ⟨rfl, ?_⟩
    have e : decide (V.bl a = V.bl b) = decide (a = b) := by simp
    rw [e]
    exact q _ F3 H3 (g2.trans g3) rfl
/-- x == y of options of ints -/
theorem krev {X : Cx} (K : PySem.W.Frag) {e : Expr} {te : TE} {k : Nat} {p1 p2 p3 pos : Pos} (he : PE X e te) (hK : X.K = K := by rfl) : PE X (.Subscript e (.Slice none none (some (.UnaryOp .USub (.Constant (.int 1) k p1) p2)) p3) pos) (tRevL K te) := by
  subst hK
  exact pe_revL he
theorem ev_rev (ha : Ev (rLst R) ta σ F H xs) (m : Mn R := by infer_instance) : Ev (rLst R) (tRevL K ta) σ F H xs.reverse := fun F1 H1 g1 Q q =>
  ha F1 H1 g1 _ fun v F2 H2 g2 ⟨a, vs, e, hl, p⟩ => ⟨a, vs, e, SqL.of (g2.fh _ _ hl), fun D hD => q _ _ _ (g2.trans (.new g2.fh hD)) ⟨D, _, rfl, upd_same, Paired.rev (Paired.up (Gr.new (M := M0) g2.fh hD).ff p)⟩⟩
/-- the script's items -/
theorem Ex.seq {K : PySem.W.Frag} {H H' : Hp} {a : Addr} {xs : List V} (e : Ex H H') (h : SqL K H a xs) : SqL K H' a xs := by
  rcases h with (h | ⟨o, h⟩) | h
  · exact .inl (.inl (e _ _ h))
  · exact .inl (.inr ⟨o, e _ _ h⟩)
  · exact .inr h
theorem ev_script {a : Addr} {ns : List Int} {n : Nat} (ha : Ev rRef te σ F H a) (h : SqL K H a (ns.map V.int)) : Ev (rLst rInt) (tSl (rSlL K) te tNoPart (tPart (tC (.int (n : Int))))) σ F H (ns.take n) := fun F1 H1 g1 Q q =>
  ha F1 H1 g1 _ fun v F2 H2 g2 e => ⟨(n : Int), rfl, a, ns.map V.int, e, (g1.hx.trans g2.hx).seq h, fun D hD => q _ _ _ (g2.trans (.new g2.fh hD)) ⟨D, _, rfl, upd_same, by
    rw [← cut_to]
    exact cut_paired (paired_ints ns)⟩⟩
end
theorem gsx {M : Addr → Prop} {F0 H0 F H F' H' : Hp} (g : Gr M0 F0 H0 F H) (g2 : Gr M F H F' H') (n : ∀ b, M b → H0 b = none) : Gr M0 F0 H0 F' H' := g.seq0 g2 n
end El

set_option Elab.async false
set_option linter.all false
set_option maxHeartbeats 2000000
namespace El
/-! ### plain facts of maps and words -/
theorem uniq_const {c : Nat} : ∀ {l : List Nat}, (∀ x ∈ l, x = c) → l ≠ [] → uniq l = [c]
  | [], _, h => absurd rfl h
  | x :: l, h, _ => by
    have hx : x = c := h x List.mem_cons_self
    have hl : ∀ y ∈ l, y = c := fun y hy => h y (List.mem_cons_of_mem _ hy)
    show (if x ∈ uniq l then uniq l else x :: uniq l) = [c]
    by_cases hn : l = []
    · subst hn
      subst hx
      rfl
    · rw [uniq_const hl hn, if_pos (by rw [hx]; exact List.mem_singleton.mpr rfl)]
theorem metB_iff {l : List Nat} : metB l = true ↔ l ≠ [] ∧ ∃ c, ∀ x ∈ l, x = c := by
  constructor
  · intro h
    have h1 : (uniq l).length = 1 := of_decide_eq_true h
    obtain ⟨c, hc⟩ := List.length_eq_one_iff.mp h1
    refine ⟨fun e => ?_, c, fun x hx => ?_⟩
    · subst e; cases hc
    · have := mem_uniq.mpr hx
      rw [hc] at this
      exact List.mem_singleton.mp this
  · rintro ⟨h1, c, h2⟩
    unfold metB
    rw [uniq_const h2 h1]
    rfl
theorem metB_eq {l : List Nat} {x y : Nat} (h : metB l = true) (hx : x ∈ l) (hy : y ∈ l) : x = y := by
  obtain ⟨_, c, hc⟩ := metB_iff.mp h
  rw [hc x hx, hc y hy]
theorem metB_repl {n c : Nat} (h : 1 ≤ n) : metB (List.replicate n c) = true := metB_iff.mpr ⟨fun e => by have := congrArg List.length e; simp at this; omega, c, fun x hx => (List.mem_replicate.mp hx).2⟩
theorem isMap_repl {n c : Nat} {m : List Nat} (hm : IsMap n m) (h : ∀ x ∈ m, x = c) : m = List.replicate n c := by
  rw [List.eq_replicate_iff]
  exact ⟨hm.1, h⟩
theorem metB_const {n : Nat} {m : List Nat} (hm : IsMap n m) (h0 : 1 ≤ n) (h : metB m = true) : m = List.replicate n (m.headD 0) := by
  refine isMap_repl hm fun x hx => metB_eq h hx ?_
  cases m with
  | nil => have := hm.1; simp at this; omega
  | cons a m => exact List.mem_cons_self
theorem then_id {n : Nat} {m : List Nat} (h : IsMap n m) : thenM m (idMap n) = m := by
  unfold thenM idMap
  apply List.ext_getElem
  · rw [List.length_map]
  · intro i h1 h2
    rw [List.getElem_map, List.getD_eq_getElem?_getD, List.getElem?_range (h.2 _ (List.getElem_mem h2))]
    rfl
theorem id_then {n : Nat} {m : List Nat} (h : IsMap n m) : thenM (idMap n) m = m := by
  unfold thenM idMap
  apply List.ext_getElem
  · rw [List.length_map, List.length_range, h.1]
  · intro i h1 h2
    rw [List.getElem_map, List.getElem_range, List.getD_eq_getElem?_getD, List.getElem?_eq_getElem h2]
    rfl
theorem then_get {a b : List Nat} {x : Nat} (h : x < a.length) : (thenM a b).getD x 0 = b.getD (a.getD x 0) 0 := by
  unfold thenM
  rw [List.getD_eq_getElem?_getD, List.getElem?_map, List.getElem?_eq_getElem h, List.getD_eq_getElem?_getD (l := a), List.getElem?_eq_getElem h]
  rfl
theorem map_getD {b : List Nat} {f : Nat → Nat} {x : Nat} (h : x < b.length) : (b.map f).getD x 0 = f (b.getD x 0) := by
  rw [List.getD_eq_getElem?_getD, List.getElem?_map, List.getElem?_eq_getElem h, List.getD_eq_getElem?_getD, List.getElem?_eq_getElem h]
  rfl
theorem then_assoc {n : Nat} {a b c : List Nat} (ha : IsMap n a) (hb : IsMap n b) : thenM (thenM a b) c = thenM a (thenM b c) := by
  unfold thenM
  rw [List.map_map]
  refine List.map_congr_left fun x hx => ?_
  show c.getD (b.getD x 0) 0 = _
  rw [map_getD (by rw [hb.1]; exact ha.2 x hx)]
theorem then_const {n c : Nat} {a : List Nat} (ha : IsMap n a) : thenM a (List.replicate n c) = List.replicate n c := by
  rw [List.eq_replicate_iff]
  refine ⟨by unfold thenM; rw [List.length_map, ha.1], fun x hx => ?_⟩
  obtain ⟨y, hy, rfl⟩ := List.mem_map.mp hx
  rw [List.getD_eq_getElem?_getD, List.getElem?_replicate, if_pos (ha.2 y hy)]
  rfl
/-- a constant map, then another one -/
theorem const_then {n c : Nat} {b : List Nat} : thenM (List.replicate n c) b = List.replicate n (b.getD c 0) := by
  unfold thenM
  rw [List.map_replicate]
/-! words -/
theorem from_then {t : Tn} : ∀ {w : List Nat} {m : List Nat}, IsMap t.many m → (∀ s ∈ w, s < t.maps.length) → mapFrom t m w = thenM m (mapW t w)
  | [], m, hm, _ => (then_id hm).symm
  | s :: w, m, hm, hs => by
    have h1 := hs s List.mem_cons_self
    have h2 : ∀ s' ∈ w, s' < t.maps.length := fun s' h' => hs s' (List.mem_cons_of_mem _ h')
    show mapFrom t (thenM m (t.maps.getD s [])) w = thenM m (mapFrom t (thenM (idMap t.many) (t.maps.getD s [])) w)
    rw [id_then (t.isMap h1), from_then (isMap_then hm (t.isMap h1)) h2, from_then (t.isMap h1) h2, then_assoc hm (t.isMap h1)]
theorem mapW_app {t : Tn} {u v : List Nat} (hu : ∀ s ∈ u, s < t.maps.length) (hv : ∀ s ∈ v, s < t.maps.length) : mapW t (u ++ v) = thenM (mapW t u) (mapW t v) := by
  unfold mapW mapFrom
  rw [List.foldl_append]
  exact from_then (isMap_mapW hu) hv
theorem mapW_cons {t : Tn} {s : Nat} {v : List Nat} (h1 : s < t.maps.length) (hv : ∀ s ∈ v, s < t.maps.length) : mapW t (s :: v) = thenM (t.maps.getD s []) (mapW t v) := by
  show mapFrom t (thenM (idMap t.many) (t.maps.getD s [])) v = _
  rw [id_then (t.isMap h1), from_then (t.isMap h1) hv]
theorem mapW_one {t : Tn} {s : Nat} (h1 : s < t.maps.length) : mapW t [s] = t.maps.getD s [] := id_then (t.isMap h1)
/-! what is drawn: the first signs (the newest on) that meet -/
theorem drRun_snoc {t : Tn} {w : List Nat} {s : Nat} : drRun t (w ++ [s]) = drStep t (drRun t w) s := by
  unfold drRun
  rw [List.foldl_append]
  rfl
/-- the run: its map is that of its first signs, turned about; and it met no earlier -/
theorem drRun_spec {t : Tn} : ∀ (n : Nat) (w : List Nat), w.length = n → (∀ s ∈ w, s < t.maps.length) →
    (drRun t w).1 = mapW t (w.take (drRun t w).2).reverse ∧ (drRun t w).2 ≤ w.length ∧ (∀ j, j < (drRun t w).2 → metB (mapW t (w.take j).reverse) = false) ∧ ((drRun t w).2 = w.length ∨ metB (drRun t w).1 = true)
  | 0, w, hl, _ => by
    cases w with
    | nil => exact ⟨rfl, Nat.le_refl _, fun j hj => absurd hj (Nat.not_lt_zero _), .inl rfl⟩
    | cons a w => cases hl
  | n + 1, w, hl, hs => by
    obtain ⟨w', s, rfl⟩ : ∃ w' s, w = w' ++ [s] := ⟨w.dropLast, w.getLast (by intro e; subst e; cases hl), (List.dropLast_concat_getLast _).symm⟩
    have hl' : w'.length = n := by simpa using hl
    have h1 : ∀ s ∈ w', s < t.maps.length := fun s h => hs s (List.mem_append_left _ h)
    have h2 : s < t.maps.length := hs s (List.mem_append_right _ List.mem_cons_self)
    obtain ⟨i1, i2, i3, i4⟩ := drRun_spec n w' hl' h1
    rw [drRun_snoc]
    unfold drStep
    by_cases hm : metB (drRun t w').1 = true
    · rw [if_pos hm]
      refine ⟨?_, by rw [List.length_append]; omega, fun j hj => ?_, .inr hm⟩
      · rw [List.take_append_of_le_length i2]
        exact i1
      · rw [List.take_append_of_le_length (by omega)]
        exact i3 j hj
    · rw [if_neg hm]
      have e : (drRun t w').2 = w'.length := i4.resolve_right hm
      refine ⟨?_, by rw [List.length_append, e]; exact Nat.le_refl _, fun j hj => ?_, .inl (by rw [List.length_append, e]; rfl)⟩
      · rw [List.take_of_length_le (by rw [List.length_append, e]; exact Nat.le_refl _), List.reverse_append]
        show thenM (t.maps.getD s []) (drRun t w').1 = mapW t (s :: w'.reverse)
        rw [mapW_cons h2 (fun x hx => h1 x (List.mem_reverse.mp hx)), i1, e, List.take_length]
      · have hj' : j ≤ w'.length := by have : j < (drRun t w').2 + 1 := hj; omega
        rw [List.take_append_of_le_length hj']
        by_cases hj2 : j < w'.length
        · exact i3 j (by omega)
        · have : j = w'.length := by omega
          rw [this, List.take_length]
          have e2 := i1
          rw [e, List.take_length] at e2
          rw [← e2]
          simpa using hm
/-- the elder signs that are read behind the first that meet change nothing -/
theorem drawn_of_met {t : Tn} {w : List Nat} (hs : ∀ s ∈ w, s < t.maps.length) {j : Nat} (hj : j ≤ w.length) (hm : metB (mapW t (w.take j).reverse) = true) : ∃ u, u ≤ j ∧ drawnM t w = some ((mapW t w.reverse).headD 0, u) := by
  obtain ⟨h1, h2, h3, h4⟩ := drRun_spec w.length w rfl hs
  have hu : (drRun t w).2 ≤ j := by
    rcases Nat.lt_or_ge j (drRun t w).2 with h | h
    · rw [h3 j h] at hm; cases hm
    · exact h
  have t0 := t.h0
  have hm2 : metB (drRun t w).1 = true := by
    rcases h4 with h4 | h4
    · have : j = (drRun t w).2 := by omega
      rw [h1, ← this]; exact hm
    · exact h4
  have him : IsMap t.many (drRun t w).1 := isMap_run hs
  refine ⟨(drRun t w).2, hu, ?_⟩
  have ew : (mapW t w.reverse) = List.replicate t.many ((drRun t w).1.headD 0) := by
    have e : w.reverse = (w.drop (drRun t w).2).reverse ++ (w.take (drRun t w).2).reverse := by rw [← List.reverse_append, List.take_append_drop]
    have a1 : ∀ s ∈ (w.drop (drRun t w).2).reverse, s < t.maps.length := fun s h => hs s (List.mem_of_mem_drop (List.mem_reverse.mp h))
    have a2 : ∀ s ∈ (w.take (drRun t w).2).reverse, s < t.maps.length := fun s h => hs s (List.mem_of_mem_take (List.mem_reverse.mp h))
    rw [e, mapW_app a1 a2, ← h1, metB_const him t0 hm2, then_const (isMap_mapW a1)]
    cases hq : t.many with
    | zero => omega
    | succ k => rfl
  unfold drawnM plc
  rw [if_pos hm2]
  show some ((drRun t w).1.headD 0, _) = some ((mapW t w.reverse).headD 0, _)
  rw [ew]
  cases hq : t.many with
  | zero => omega
  | succ k => rfl
end El

set_option Elab.async false
set_option linter.all false
set_option maxHeartbeats 2000000
namespace El
def blkM (t : Tn) (n : Nat) (w : List Nat) (k : Nat) : List Nat := mapW t ((w.drop (k * n)).take n)
def meetM (t : Tn) (n : Nat) (w : List Nat) : List Nat := (List.range (w.length / n)).filter fun k => metB (blkM t n w k)
section
variable {t : Tn} {n : Nat} {w : List Nat}
theorem take_succ_blk (k : Nat) : w.take ((k + 1) * n) = w.take (k * n) ++ (w.drop (k * n)).take n := by
  rw [Nat.succ_mul, List.take_add]
theorem blk_ok (hs : ∀ s ∈ w, s < t.maps.length) (k : Nat) : ∀ s ∈ (w.drop (k * n)).take n, s < t.maps.length := fun s h => hs s (List.mem_of_mem_drop (List.mem_of_mem_take h))
theorem take_ok (hs : ∀ s ∈ w, s < t.maps.length) (k : Nat) : ∀ s ∈ w.take k, s < t.maps.length := fun s h => hs s (List.mem_of_mem_take h)
theorem map_succ (hs : ∀ s ∈ w, s < t.maps.length) (k : Nat) : mapW t (w.take ((k + 1) * n)) = thenM (mapW t (w.take (k * n))) (blkM t n w k) := by
  rw [take_succ_blk, mapW_app (take_ok hs _) (blk_ok hs k)]
  rfl
def roInv (t : Tn) (n : Nat) (w : List Nat) (k : Nat) : Option Nat → Prop
  | none => (List.range k).filter (fun k => metB (blkM t n w k)) = []
  | some s => ∃ i0, i0 < k ∧ (List.range k).filter (fun k => metB (blkM t n w k)) = [i0] ∧ mapW t (w.take (k * n)) = List.replicate t.many s ∧ metB (mapW t ((w.take (k * n)).drop (i0 * n))) = true
def roEnd (t : Tn) (n : Nat) (w : List Nat) (L : Nat) : Option (Nat × Nat) → Prop
  | none => ((List.range L).filter (fun k => metB (blkM t n w k))).length < 2
  | some (s, k) => ∃ i0 i1 rest, (List.range L).filter (fun k => metB (blkM t n w k)) = i0 :: i1 :: rest ∧ k = i1 + 1 ∧ i0 < i1 ∧ i1 < L ∧ mapW t (w.take (i1 * n)) = List.replicate t.many s ∧ metB (mapW t ((w.take (i1 * n)).drop (i0 * n))) = true
theorem roLoop_spec (hs : ∀ s ∈ w, s < t.maps.length) (L : Nat) (hL : L * n ≤ w.length) : ∀ (r k : Nat) (st : Option Nat), k + r = L → roInv t n w k st → roEnd t n w L (roLoop t n w r k st)
  | 0, k, st, hk, h => by
    have : k = L := by omega
    subst this
    show ((List.range k).filter (fun k => metB (blkM t n w k))).length < 2
    cases st with
    | none => rw [show (List.range k).filter _ = [] from h]; exact Nat.zero_lt_succ _
    | some s => obtain ⟨i0, _, e, _⟩ := h; rw [e]; exact Nat.lt_succ_self _
  | r + 1, k, none, hk, h => by
    have t0 := t.h0
    refine roLoop_spec hs L hL r (k + 1) _ (by omega) ?_
    have him : IsMap t.many (blkM t n w k) := isMap_mapW (blk_ok hs k)
    show roInv t n w (k + 1) (plc (blkM t n w k))
    unfold plc
    have e0 : (List.range k).filter (fun k => metB (blkM t n w k)) = [] := h
    by_cases hm : metB (blkM t n w k) = true
    · rw [if_pos hm]
      refine ⟨k, Nat.lt_succ_self k, ?_, ?_, ?_⟩
      · rw [List.range_succ, List.filter_append, e0, List.filter_cons, if_pos hm]
        rfl
      · rw [map_succ hs, metB_const him t0 hm, then_const (isMap_mapW (take_ok hs _))]
        cases hq : t.many with
        | zero => omega
        | succ k => rfl
      · rw [take_succ_blk]
        have hl : (w.take (k * n)).length = k * n := by
          rw [List.length_take]
          have : k * n ≤ L * n := Nat.mul_le_mul_right _ (by omega)
          omega
        rw [List.drop_append_of_le_length (by omega), List.drop_of_length_le (by omega)]
        exact hm
    · rw [if_neg hm]
      show (List.range (k + 1)).filter _ = []
      rw [List.range_succ, List.filter_append, e0, List.filter_cons, if_neg hm]
      rfl
  | r + 1, k, some s, hk, h => by
    have t0 := t.h0
    have him : IsMap t.many (blkM t n w k) := isMap_mapW (blk_ok hs k)
    obtain ⟨i0, hi, e0, e1, e2⟩ := h
    show roEnd t n w L (if metB (blkM t n w k) = true then some (s, k + 1) else roLoop t n w r (k + 1) (some ((blkM t n w k).getD s 0)))
    by_cases hm : metB (blkM t n w k) = true
    · rw [if_pos hm]
      refine ⟨i0, k, (List.range' (k + 1) r).filter (fun k => metB (blkM t n w k)), ?_, rfl, hi, by omega, e1, e2⟩
      have : List.range L = List.range k ++ (k :: List.range' (k + 1) r) := by
        rw [← hk, List.range_eq_range', List.range_eq_range', ← List.range'_append_1, Nat.zero_add]
        rfl
      rw [this, List.filter_append, e0, List.filter_cons, if_pos hm]
      rfl
    · rw [if_neg hm]
      refine roLoop_spec hs L hL r (k + 1) _ (by omega) ⟨i0, by omega, ?_, ?_, ?_⟩
      · rw [List.range_succ, List.filter_append, e0, List.filter_cons, if_neg hm]
        rfl
      · rw [map_succ hs, e1, const_then]
      · have hl : (w.take (k * n)).length = k * n := by
          rw [List.length_take]
          have : k * n ≤ L * n := Nat.mul_le_mul_right _ (by omega)
          omega
        have hi2 : i0 * n ≤ k * n := Nat.mul_le_mul_right _ (by omega)
        rw [take_succ_blk, List.drop_append_of_le_length (by omega), mapW_app (fun s h => take_ok hs _ s (List.mem_of_mem_drop h)) (blk_ok hs k)]
        rw [metB_const (isMap_mapW (fun s h => take_ok hs _ s (List.mem_of_mem_drop h))) t0 e2, const_then]
        exact metB_repl t0
/-- the whole of the law -/
theorem once_law (hs : ∀ s ∈ w, s < t.maps.length) : match readOnceM t n w with
    | none => (meetM t n w).length < 2
    | some (s, k) => ∃ i0 i1 rest, meetM t n w = i0 :: i1 :: rest ∧ k = i1 + 1 ∧ i0 < i1 ∧ i1 * n ≤ w.length ∧ mapW t (w.take (i1 * n)) = List.replicate t.many s ∧ ∃ u, drawnM t (w.take (i1 * n)).reverse = some (s, u) ∧ u ≤ (i1 - i0) * n := by
  have t0 := t.h0
  have h := roLoop_spec (n := n) hs (w.length / n) (Nat.div_mul_le_self _ _) (w.length / n) 0 none (by omega) rfl
  unfold readOnceM
  revert h
  cases roLoop t n w (w.length / n) 0 none with
  | none => exact fun h => h
  | some p =>
    obtain ⟨s, k⟩ := p
    rintro ⟨i0, i1, rest, e1, e2, e3, e4, e5, e6⟩
    have hle : i1 * n ≤ w.length := Nat.le_trans (Nat.mul_le_mul_right n (Nat.le_of_lt e4)) (Nat.div_mul_le_self _ _)
    have hlen : (w.take (i1 * n)).length = i1 * n := by rw [List.length_take]; omega
    have hi : i0 * n ≤ i1 * n := Nat.mul_le_mul_right _ (by omega)
    have hj : i1 * n - (i1 - i0) * n = i0 * n := by rw [← Nat.sub_mul, show i1 - (i1 - i0) = i0 by omega]
    have hjl : (i1 - i0) * n ≤ i1 * n := Nat.mul_le_mul_right _ (by omega)
    obtain ⟨u, hu, hd⟩ := drawn_of_met (t := t) (w := (w.take (i1 * n)).reverse) (fun s h => take_ok hs _ s (List.mem_reverse.mp h)) (j := (i1 - i0) * n) (by rw [List.length_reverse]; omega) (by
      rw [List.take_reverse, List.reverse_reverse, hlen, hj]
      exact e6)
    refine ⟨i0, i1, rest, e1, e2, e3, hle, e5, u, ?_, hu⟩
    rw [hd, List.reverse_reverse, e5]
    cases hq : t.many with
    | zero => omega
    | succ k => rfl
end
end El

set_option Elab.async false
set_option linter.all false
set_option maxRecDepth 100000
set_option maxHeartbeats 4000000
namespace El
open PySem PySem.Spec L2
/-! ### tuple * 1 and more -/
theorem tuple_mul1 (l : Addr) (items : Array Value) (n : Nat) (dd : Option Addr) (sl : Array (Option Value)) (u : Tok) (hl0 : items.isEmpty = false) :
    Meets (Builtin.«tuple.__mul__» ⟨[.ref l, .int 1 u], []⟩) (fun _ R s => s.heap.get? l = some { cls := .type "tuple", dict := dd, data := .seq items n, slots := sl } ∧
      R (.ok (.ret (Value.ref l))) s) :=
  .of_wp fun prog w A R s h => by
    obtain ⟨hp, g, d, tk, os⟩ := s
    obtain ⟨hl, h⟩ := h
    have f1 := AutoSeq1.idx_int
    wp_walk using wpAny_loadPart' hl
    repeat (first
      | (refine wpAny_ite_false (decide_eq_false (by decide)) ?_; wp_walk using wpAny_loadPart' hl)
      | (refine wpAny_ite_true (decide_eq_true (by rw [hl0]; rfl)) ?_; wp_walk using wpAny_loadPart' hl))
    exact ⟨_, rfl, h⟩

def rRepU (K : PySem.W.Frag) : R2 := fun x y H Q => ∃ l k xs, x = .ref l ∧ y = .int k ∧ SqT K H l xs ∧ xs ≠ [] ∧ 1 ≤ k ∧ k ≤ 1000 ∧ xs.length ≤ 1000 ∧ (k = 1 → Q x H) ∧ ∀ p, H p = none → Q (.ref p) (upd H p (.tup (List.replicate k.toNat xs).flatten))
theorem op_repU {X : Cx} : OpR X (binaryOp .Mult) (rRepU X.K) := by
  intro pins s σ H x y v u Q I rx ry h
  obtain ⟨l, k, xs, rfl, rfl, hT, hne, h1, h2, hz, q1, q⟩ := h
  by_cases hk : k = 1
  · subst hk
    have rx' := rx
    cases rx'
    obtain ⟨t, rfl⟩ := ry
    obtain ⟨its, r, ⟨⟨cls, dd, data, sl⟩, ho, hc, n, hd⟩, hs⟩ := I.tuple hT
    simp only at hc hd
    subst hc hd
    have hle : its.length = xs.length := r.length.symm
    have hi : its.toArray.isEmpty = false := by
      cases its with
      | nil => exact absurd (List.eq_nil_of_length_eq_zero hle.symm) hne
      | cons a b => rfl
    refine wpAny_binaryOp_repeat_ref (T := "tuple") (U := "int") (by decide) ⟨_, ho, rfl⟩ (fun s' => typeIs_int s' 1 t) noFill_tuple_mul F.fills_int_mul F.slot_int_rmul repeat_tuple F.slot_int_index.lookup
      (call_meets F.slot_int_rmul (typeIs_int s 1 t) F.entry_int_rmul (F.args_int_rmul_2 _ _) (int_rmul_tuple 1 t l its.toArray n dd sl)
        ⟨ho, rfl, ⟨_, ho, rfl⟩, call_meets F.slot_tuple_mul ⟨_, ho, rfl⟩ F.entry_tuple_mul (F.args_tuple_mul_2 _ _) (tuple_mul1 l its.toArray n dd sl t hi) ⟨ho, ?_⟩⟩)
    exact ⟨.ref l, H, I, rfl, q1 rfl⟩
  · exact op_repT pins s σ H (.ref l) (.int k) v u Q I rx ry ⟨l, k, xs, rfl, rfl, hT, hne, by omega, h2, hz, q⟩

/-! ### texts -/
def num (n : Nat) : Str := Str.ofString (toString ((n : Nat) : Int))
theorem tl_numE (n : Nat) : TL.tl (num n) = TL.numL n := TL.tl_num n
/-- the text of a number -/
def rNum : Rp Nat := fun _ v n => v = .str (num n)
instance : Mn rNum := ⟨fun _ h => h⟩
section
variable {K : PySem.W.Frag} {σ : St} {F H F' H' : Hp} {ta tb tc te tl to : TE} {α β γ : Type} {R : Rp α} {S : Rp β} {x : α} {y : β} {xs : List α} {ys : List β} {a b z : Str} {D : Ends} {ts : TS}
theorem ev_strN {n : Nat} (ha : Ev rInt ta σ F H (n : Int)) (hn : n < 1000000) : Ev rNum (tCB (fun xs H Q => ∃ i : Int, xs = [.int i] ∧ i.natAbs.log2 < 1920 ∧ Q (.str (toString i)) H) (tCons ta tNil)) σ F H n := fun F1 H1 g1 Q q =>
  ha F1 H1 g1 _ fun v F2 H2 g2 r => ⟨(n : Int), by rw [show v = _ from r], by
    rw [Int.natAbs_natCast]
    have : n.log2 ≤ n := by
      rw [Nat.log2_def]
      split
      · have := Nat.log2_lt (n := n / 2) (k := n) (by omega)
        by_cases h : n / 2 = 0
        · rw [h]; omega
        · have := (Nat.log2_lt (n := n / 2) (k := n / 2) h).mpr Nat.lt_two_pow_self
          omega
      · omega
    have h2 : n.log2 < 20 := by
      by_cases h : n = 0
      · subst h; decide
      · exact (Nat.log2_lt h).mpr (Nat.lt_of_lt_of_le hn (by decide))
    omega, q _ F2 H2 g2 rfl⟩
theorem Ev.str {n : Nat} (h : Ev rNum ta σ F H n) : Ev rStr ta σ F H (num n) := h
theorem Ev.num {n : Nat} (h : Ev rStr ta σ F H (num n)) : Ev rNum ta σ F H n := h
abbrev rJoinS (K : PySem.W.Frag) : V → List V → Hp → VK → Prop := fun x xs H Q => ∃ a p, ∃ ys : List Str, x = .str a ∧ xs = [.ref p] ∧ (SqL K H p (ys.map V.str) ∨ SqT K H p (ys.map V.str)) ∧ (ys.map (·.length)).sum + ys.length * a.length ≤ 16777216 ∧ Q (.str (Txt.join a ys)) H
theorem ev_join {ys : List Str} (ha : Ev rStr to σ F H a) (hb : Ev (rLst rStr) te σ F H ys) (hz : (ys.map (·.length)).sum + ys.length * a.length ≤ 16777216) : Ev rStr (tM1 (rJoinS K) to te) σ F H (Txt.join a ys) := fun F1 H1 g1 Q q =>
  ha F1 H1 g1 _ fun v F2 H2 g2 r => ⟨⟨a, r⟩, hb F2 H2 (g1.trans g2) _ fun w F3 H3 g3 ⟨p, vs, e, hp, pr⟩ => ⟨a, p, ys, r, by rw [e], .inl (by rw [← strs_paired pr]; exact SqL.of (g3.fh _ _ hp)), hz, q _ F3 H3 (g2.trans g3) rfl⟩⟩
theorem paired_strs {H : Hp} : ∀ ns : List Str, Paired (rStr H) (ns.map V.str) ns
  | [] => .nil
  | n :: ns => .cons rfl (paired_strs ns)
theorem ev_joinM {p : Addr} {ys : List Str} (ha : Ev rStr to σ F H a) (hb : Ev rRef te σ F H p) (hp : H p = some (.lst (ys.map V.str))) (hz : (ys.map (·.length)).sum + ys.length * a.length ≤ 16777216) : Ev rStr (tM1 (rJoinS K) to te) σ F H (Txt.join a ys) := fun F1 H1 g1 Q q =>
  ha F1 H1 g1 _ fun v F2 H2 g2 r => ⟨⟨a, r⟩, hb F2 H2 (g1.trans g2) _ fun w F3 H3 g3 e => ⟨a, p, ys, r, by rw [show w = _ from e], .inl (SqL.of (g3.hx _ _ (g2.hx _ _ (g1.hx _ _ hp)))), hz, q _ F3 H3 (g2.trans g3) rfl⟩⟩
theorem ev_split (ha : Ev rStr to σ F H a) (hb : Ev rStr te σ F H b) (h0 : (b.length == 0) = false) (hz : a.length + 2 ≤ sizeLine) : Ev (rLst rStr) (tM1 (fun x xs H Q => ∃ a b, x = .str a ∧ xs = [.str b] ∧ (b.length == 0) = false ∧ a.length + 2 ≤ sizeLine ∧ rNewStrs (Txt.split a b) H Q) to te) σ F H (Txt.split a b) := fun F1 H1 g1 Q q =>
  ha F1 H1 g1 _ fun v F2 H2 g2 r => ⟨⟨a, r⟩, hb F2 H2 (g1.trans g2) _ fun w F3 H3 g3 e => ⟨a, b, r, by rw [show w = _ from e], h0, hz, fun p hp => q _ _ _ ((g2.trans g3).trans (.new g3.fh hp)) ⟨p, _, rfl, upd_same, paired_strs _⟩⟩⟩
theorem ev_intS {n : Int} (ha : Ev rStr ta σ F H a) (hn : PySem.intText? a = some n) (hz : a.length ≤ 640) : Ev rInt (tCB (fun xs H Q => ∃ a n, xs = [.str a] ∧ PySem.intText? a = some n ∧ a.length ≤ 640 ∧ Q (.int n) H) (tCons ta tNil)) σ F H n := fun F1 H1 g1 Q q =>
  ha F1 H1 g1 _ fun v F2 H2 g2 r => ⟨a, n, by rw [show v = _ from r], hn, hz, q _ F2 H2 g2 rfl⟩
theorem ev_inSign {c : Nat} (ha : Ev rStr ta σ F H ⟨#[c]⟩) (hb : Ev rStr tb σ F H z) : Ev rBl (tOp (fun x y H Q => ∃ (c : Nat) (z : Str), x = .str ⟨#[c]⟩ ∧ y = .str z ∧ Q (.bl (decide (c ∈ z.cps.toList))) H) ta tb) σ F H (decide (c ∈ z.cps.toList)) := fun F1 H1 g1 Q q =>
  ha F1 H1 g1 _ fun v F2 H2 g2 r => hb F2 H2 (g1.trans g2) _ fun w F3 H3 g3 e => ⟨c, z, r, e, q _ F3 H3 (g2.trans g3) rfl⟩
theorem ev_ixS {i : Int} {c : Nat} (ha : Ev rStr ta σ F H z) (hb : Ev rInt tb σ F H i) (hz : z.length ≤ sizeLine) (hi : atI z.cps.toList i = some c) : Ev rStr (tOp rIxS ta tb) σ F H ⟨#[c]⟩ := fun F1 H1 g1 Q q =>
  ha F1 H1 g1 _ fun v F2 H2 g2 r => hb F2 H2 (g1.trans g2) _ fun w F3 H3 g3 e => ⟨z, i, c, r, e, hz, hi, q _ F3 H3 (g2.trans g3) rfl⟩
/-- [elt for sign in text] -/
theorem ev_lcS {n : Nat} {vs : List Nat} (h : Ev rStr tl σ F H z) (hlen : ys.length = z.cps.size) (hz : z.cps.size ≤ 1000000) (hw : ∀ v, wipe ((wipe σ vs).set n (some v)) vs = wipe σ vs)
    (he : ∀ (i : Nat) c y F1 H1, z.cps[i]? = some c → ys[i]? = some y → Gr M0 F H F1 H1 → Ev S te ((wipe σ vs).set n (some (.str ⟨#[c]⟩))) F1 H1 y) (m' : Mn S := by infer_instance) : Ev (rLst S) (tLc (iStr tl) (gName n) tYes te vs) σ F H ys := by
  intro F1 H1 g1 Q q
  refine h F1 H1 g1 _ fun v F2 H2 g2 ea => ⟨z, ea, fun D hD => ?_⟩
  refine lc_it walk_str (fun i H' => ∃ F' us, Gr M0 F2 H2 F' H' ∧ F' D = none ∧ H' D = some (.lst us) ∧ Paired (S F') us (ys.take i)) ⟨F2, [], .loc g2.fh hD, g2.fh.free hD, upd_same, .nil⟩ (fun _ _ _ _ => trivial) ?_ ?_
  · rintro i w H' H0 hi ⟨F', us, g, fD, hD', pu⟩ ⟨eq, c, hc, rfl⟩
    obtain rfl : H' = H0 := eq.symm
    have hil : i < ys.length := by rw [hlen]; exact hi
    have hy : ys[i]? = some ys[i] := List.getElem?_eq_getElem hil
    refine ⟨hw _, ?_⟩
    refine he i c ys[i] F' H' hc hy ((g1.trans g2).trans g) F' H' (.refl g.fh) _ fun u F3 H3 g3 r3 => ?_
    refine ⟨us, g3.hx _ _ hD', ?_, F3, us ++ [u], (g.trans g3).set' (g3.nn hD' fD) (.inl hD), g3.nn hD' fD, upd_same, ?_⟩
    · rw [pu.length, List.length_take, sizeLine_eq]
      omega
    · rw [List.take_add_one, hy]
      exact (Paired.up g3.ff pu).snoc r3
  · rintro H' ⟨F', us, g, fD, hD', pu⟩
    rw [← hlen, List.take_length] at pu
    exact q _ _ _ (g2.trans (g.frz hD' (g2.fh.free hD) (.inl hD))) ⟨D, us, rfl, upd_same, Paired.up (g.fh.frz hD' fD) pu⟩
/-- tuple * n -/
theorem ev_repU {n : Int} (ha : Ev (rTup R) ta σ F H [x]) (hb : Ev rInt tb σ F H n) (h1 : 1 ≤ n) (h2 : n ≤ 1000) (m : Mn R := by infer_instance) : Ev (rTup R) (tOp (rRepU K) ta tb) σ F H (List.replicate n.toNat x) := fun F1 H1 g1 Q q =>
  ha F1 H1 g1 _ fun v F2 H2 g2 ⟨a, vs, e, hl, p⟩ => hb F2 H2 (g1.trans g2) _ fun w F3 H3 g3 e2 => by
    cases p with
    | cons r p =>
      cases p
      rename_i y
      refine ⟨a, n, [y], e, e2, SqT.of (g3.fh _ _ (g3.ff _ _ hl)), by simp, h1, h2, by simp, fun hn => ?_, fun D hD => ?_⟩
      · subst hn
        exact q _ F3 H3 (g2.trans g3) ⟨a, [y], e, g3.ff _ _ hl, .cons (m.mono g3.ff r) .nil⟩
      · have g4 : Gr M0 F3 H3 (upd F3 D (.tup (List.replicate n.toNat [y]).flatten)) (upd H3 D (.tup (List.replicate n.toNat [y]).flatten)) := .new g3.fh hD
        refine q _ _ _ ((g2.trans g3).trans g4) ⟨D, _, rfl, upd_same, ?_⟩
        have : ∀ k : Nat, Paired (R (upd F3 D (.tup (List.replicate n.toNat [y]).flatten))) (List.replicate k [y]).flatten (List.replicate k x) := fun k => by
          induction k with
          | zero => exact .nil
          | succ k ih =>
            rw [List.replicate_succ, List.replicate_succ, List.flatten_cons]
            exact .cons (m.mono (g3.ff.trans g4.ff) r) ih
        exact this _
/-- min of two -/
theorem ev_min2 {i j : Int} (ha : Ev rInt ta σ F H i) (hb : Ev rInt tb σ F H j) : Ev rInt (tCB (fun xs H Q => ∃ i j : Int, xs = [.int i, .int j] ∧ Q (.int (if j < i then j else i)) H) (tCons ta (tCons tb tNil))) σ F H (if j < i then j else i) := fun F1 H1 g1 Q q =>
  ha F1 H1 g1 _ fun v F2 H2 g2 r => hb F2 H2 (g1.trans g2) _ fun w F3 H3 g3 r2 => ⟨i, j, by rw [show v = _ from r, show w = _ from r2], q _ F3 H3 (g2.trans g3) rfl⟩
theorem ev_max2 {i j : Int} (ha : Ev rInt ta σ F H i) (hb : Ev rInt tb σ F H j) : Ev rInt (tCB (fun xs H Q => ∃ i j : Int, xs = [.int i, .int j] ∧ Q (.int (if j > i then j else i)) H) (tCons ta (tCons tb tNil))) σ F H (if j > i then j else i) := fun F1 H1 g1 Q q =>
  ha F1 H1 g1 _ fun v F2 H2 g2 r => hb F2 H2 (g1.trans g2) _ fun w F3 H3 g3 r2 => ⟨i, j, by rw [show v = _ from r, show w = _ from r2], q _ F3 H3 (g2.trans g3) rfl⟩

/-! ### own == of turns, isinstance -/
theorem Gr.ext {F H H' : Hp} (e : Ex F H) (x : Ext H H') : Gr M0 F H F H' := ⟨Ex.refl F, fun a o h => x a o (e a o h), fun b o _ h => x b o h, fun _ _ _ h => h, fun b h => by
  cases q : H b with
  | none => exact absurd q h
  | some o => rw [x b o q]; exact fun z => nomatch z⟩
def REq (C : Addr) : Addr → Addr → Hp → Prop := fun a b H => ∃ F t, Ex F H ∧ rTurns C F (.ref a) t ∧ rTurns C F (.ref b) t
instance {R : Addr → Addr → Hp → Prop} : SpLen (spEq R) 2 := ⟨fun ⟨_, _, h, _⟩ => by rw [h]; rfl⟩
theorem ev_eqTurns {C : Addr} {t : Tn} (ha : Ev (rTurns C) ta σ F H t) (hb : Ev (rTurns C) tb σ F H t) : Ev rBl (tOp (rEqG (DIns C (REq C))) ta tb) σ F H true := fun F1 H1 g1 Q q =>
  ha F1 H1 g1 _ fun v F2 H2 g2 r => hb F2 H2 (g1.trans g2) _ fun w F3 H3 g3 r2 => by
    have r' := Mn.mono g3.ff r
    have r3 := r'
    have r4 := r2
    obtain ⟨a, dx, l, rfl, h1, h2⟩ := r3
    obtain ⟨b, dy, l', rfl, h3, h4⟩ := r4
    exact ⟨⟨a, b, dx, dy, _, _, rfl, rfl, g3.fh _ _ h1, g3.fh _ _ h3, F3, t, g3.fh, r', r2⟩, fun H' x => q _ F3 H' ((g2.trans g3).trans (.ext g3.fh x)) rfl⟩
abbrev rIsC (C : Addr) : List V → Hp → VK → Prop := fun xs H Q => ∃ a dx fs, xs = [.ref a, .ref C] ∧ H a = some (.ins C dx fs) ∧ Q (.bl true) H
theorem ev_isTurns {C : Addr} {t : Tn} (ha : Ev (rTurns C) ta σ F H t) : Ev rBl (tCB (rIsC C) (tCons ta (tCons (tC (.ref C)) tNil))) σ F H true := fun F1 H1 g1 Q q =>
  ha F1 H1 g1 _ fun v F2 H2 g2 ⟨a, dx, l, e, h1, h2⟩ => ⟨a, dx, _, by rw [e], g2.fh _ _ h1, q _ F2 H2 g2 rfl⟩

/-! ### statements -/
/-- x = [e]: a list that may change -/
theorem x_lst1 {i : Nat} (e : Ex F H) (h : Ev R te σ F H x) (k : ∀ v l F' H', Gr M0 F H F' H' → R F' v x → H' l = none → D.nx (σ.set i (some (.ref l))) (upd H' l (.lst [v]))) : tAsg (tLst (tCons te tNil)) (gName i) D σ H :=
  h F H (.refl e) _ fun v F' H' g r => ⟨by show 1 ≤ sizeLine; decide, fun l hl => k v l F' H' g r hl⟩
/-- xs.append(e), e a draw -/
theorem x_appS {a l : Addr} {c N : Nat} {P : α → Prop} {vs : List V} {i : Nat} (hne : l ≠ a) (h : EvS a c R te σ F H P) (e : Ex F H) (fa : F a = none) (s : Src H a N) (hc : c ≤ N) (hv : σ[i]? = some (some (.ref l))) (hl : H l = some (.lst vs)) (hz : vs.length < sizeLine)
    (k : ∀ v x F' H', Gr (M1 a) F H F' H' → F' a = none → Src H' a (N - c) → P x → R F' v x → H' l = some (.lst vs) → D.nx σ (upd H' l (.lst (vs ++ [v])))) : tDrop (tBM K "list" rAppend (tVar i) (tCons te tNil)) D σ H :=
  ⟨.ref l, hv, .inl ⟨rfl, vs, SqL.of hl⟩, h F H (N - c) (.refl e) fa (s.le (by omega)) _ fun w x F' H' g fa' s' p r => ⟨l, vs, w, rfl, rfl, g.hh _ _ hne hl, hz, k w x F' H' g fa' s' p r (g.hh _ _ hne hl)⟩⟩
/-- for k in range(n), n a draw -/
theorem x_forRS {a : Addr} {c N j : Nat} {P1 : Int → Prop} (h : EvS a c rInt ta σ F H P1) (e : Ex F H) (fa : F a = none) (s : Src H a N) (hc : c ≤ N) (hn : ∀ n, P1 n → 0 ≤ n ∧ n ≤ 1000000)
    (k : ∀ n : Nat, P1 (n : Int) → ∀ F1 H1, Gr (M1 a) F H F1 H1 → F1 a = none → Src H1 a (N - c) → ∃ Pv : Nat → St → Hp → Hp → Prop, Pv 0 σ F1 H1 ∧
      (∀ i σ' F' H', i < n → Ex F1 F' → Ex F' H' → Pv i σ' F' H' →
        ts { D with nx := fun σ2 H2 => ∃ F2, Ex F1 F2 ∧ Ex F2 H2 ∧ Pv (i + 1) σ2 F2 H2, ct := fun σ2 H2 => ∃ F2, Ex F1 F2 ∧ Ex F2 H2 ∧ Pv (i + 1) σ2 F2 H2, bk := D.nx } (σ'.set j (some (.int (i : Int)))) H') ∧
      ∀ σ' F' H', Ex F1 F' → Ex F' H' → Pv n σ' F' H' → D.nx σ' H') : tFor (iRng1 (tCons ta tNil)) (gName j) ts D σ H := by
  refine h F H (N - c) (.refl e) fa (s.le (by omega)) _ fun v n F1 H1 g1 fa1 s1 p ea => ?_
  obtain ⟨n0, n1⟩ := hn n p
  obtain ⟨m, rfl⟩ : ∃ m : Nat, n = (m : Int) := ⟨n.toNat, by omega⟩
  obtain ⟨Pv, h0, hs, hd⟩ := k m p F1 H1 g1 fa1 s1
  refine ⟨(m : Int), by rw [show v = _ from ea], by omega, by omega, ?_⟩
  rw [Int.toNat_natCast]
  refine for_range (lo := 0) (n := m) (fun i σ' H' => ∃ F', Ex F1 F' ∧ Ex F' H' ∧ Pv i σ' F' H') ⟨F1, Ex.refl _, g1.fh, h0⟩ ?_ ?_
  · rintro i σ' H' hi ⟨F', e1, e2, pv⟩
    have e0 : (0 : Int) + (i : Int) = (i : Int) := Int.zero_add _
    show ts _ (σ'.set j (some (.int ((0 : Int) + (i : Int))))) H'
    rw [e0]
    exact hs i σ' F' H' hi e1 e2 pv
  · rintro σ' H' ⟨F', e1, e2, pv⟩
    exact hd σ' F' H' e1 e2 pv
end
/-- the script, or any list that is only read -/
def rQ (K : PySem.W.Frag) : Rp (List Int) := fun F v ns => ∃ a, v = .ref a ∧ SqL K F a (ns.map V.int)
instance {K : PySem.W.Frag} : Mn (rQ K) := ⟨fun e ⟨a, h1, h2⟩ => ⟨a, h1, Ex.seq e h2⟩⟩
end El

set_option Elab.async false
set_option linter.all false
set_option maxRecDepth 100000
set_option maxHeartbeats 4000000
namespace El
open PySem PySem.Spec L2
/-! ### dicts of whole numbers, as sets -/
def kvsOf (ks : List Nat) : List (Key × V) := ks.map fun k : Nat => ((Sum.inl (k : Int) : Key), V.bl true)
def rDct : Rp (List Nat) := fun F v ks => ∃ a, v = .ref a ∧ F a = some (.dK (kvsOf ks))
instance : Mn rDct := ⟨fun e ⟨a, h1, h2⟩ => ⟨a, h1, e _ _ h2⟩⟩
theorem val_kvs {k : Nat} : ∀ {ks : List Nat}, (valV (kvsOf ks) (Sum.inl (k : Int))).isSome = decide (k ∈ ks)
  | [] => rfl
  | j :: ks => by
    by_cases h : j = k
    · subst h
      rw [show kvsOf (j :: ks) = ((Sum.inl (j : Int) : Key), V.bl true) :: kvsOf ks from rfl, valV_pos rfl, decide_eq_true List.mem_cons_self]
      rfl
    · rw [show kvsOf (j :: ks) = ((Sum.inl (j : Int) : Key), V.bl true) :: kvsOf ks from rfl, valV_neg (fun e => h (by injection e with e; omega)), val_kvs (ks := ks)]
      have : (k ∈ j :: ks) ↔ k ∈ ks := by rw [List.mem_cons]; exact ⟨fun z => z.elim (fun e => absurd e.symm h) id, .inr⟩
      rw [decide_eq_decide.mpr this]
theorem put_kvs {k : Nat} {ks : List Nat} (h : k ∉ ks) : putK (kvsOf ks) (Sum.inl (k : Int)) (.bl true) = kvsOf (ks ++ [k]) := by
  have e : valV (kvsOf ks) (Sum.inl (k : Int)) = none := by
    have := val_kvs (k := k) (ks := ks)
    rw [decide_eq_false h] at this
    cases q : valV (kvsOf ks) (Sum.inl (k : Int)) with
    | none => rfl
    | some v => rw [q] at this; cases this
  rw [putK_new _ e]
  unfold kvsOf
  rw [List.map_append]
  rfl
theorem len_kvs (ks : List Nat) : (kvsOf ks).length = ks.length := List.length_map _
section
variable {K : PySem.W.Frag} {σ : St} {F H F' H' : Hp} {ta tb tc td ty tv te tl to : TE} {α β γ : Type} {R : Rp α} {S : Rp β} {U : Rp γ} {x : α} {y : β} {xs : List α} {ys : List β} {D : Ends} {ts : TS} {d l : Addr} {ks : List Nat} {k : Nat}
theorem ev_din (ha : Ev rNat ta σ F H k) (hd : Ev rDct td σ F H ks) : Ev rBl (tDIn ta td) σ F H (decide (k ∈ ks)) := fun F1 H1 g1 Q q =>
  ha F1 H1 g1 _ fun v F2 H2 g2 r => hd F2 H2 (g1.trans g2) _ fun w F3 H3 g3 ⟨a, e, h⟩ => ⟨a, _, e, by
    cases (show v = _ from r)
    exact DGet.k (k := Sum.inl (k : Int)) (g3.fh _ _ h), by rw [val_kvs]; exact q _ F3 H3 (g2.trans g3) rfl⟩
theorem ev_dnotM (ha : Ev rNat ta σ F H k) (hd : Ev rRef td σ F H d) (h : H d = some (.dK (kvsOf ks))) : Ev rBl (tDNotIn ta td) σ F H (!decide (k ∈ ks)) := fun F1 H1 g1 Q q =>
  ha F1 H1 g1 _ fun v F2 H2 g2 r => hd F2 H2 (g1.trans g2) _ fun w F3 H3 g3 e => ⟨d, _, e, by
    cases (show v = _ from r)
    exact DGet.k (k := Sum.inl (k : Int)) (g3.hx _ _ (g2.hx _ _ (g1.hx _ _ h))), by rw [val_kvs]; exact q _ F3 H3 (g2.trans g3) rfl⟩
theorem ev_lenD (hd : Ev rDct td σ F H ks) : Ev rInt (tCB (fun xs H Q => ∃ a kvs, xs = [V.ref a] ∧ H a = some (.dK kvs) ∧ Q (.int kvs.length) H) (tCons td tNil)) σ F H (ks.length : Int) := fun F1 H1 g1 Q q =>
  hd F1 H1 g1 _ fun v F2 H2 g2 ⟨a, e, h⟩ => ⟨a, _, by rw [e], g2.fh _ _ h, q _ F2 H2 g2 (by rw [len_kvs]; rfl)⟩
theorem x_dict {i : Nat} (k : ∀ p, H p = none → D.nx (σ.set i (some (.ref p))) (upd H p (.dK (kvsOf [])))) : tAsg tDNewK (gName i) D σ H := fun p hp => k p hp
theorem x_dput (e : Ex F H) (hv : Ev rBl tv σ F H true) (hd : Ev rRef td σ F H d) (hy : Ev rNat ty σ F H k) (h : H d = some (.dK (kvsOf ks))) (hn : k ∉ ks) (hz : ks.length < sizeLine)
    (kk : ∀ F' H', Gr M0 F H F' H' → H' d = some (.dK (kvsOf ks)) → D.nx σ (upd H' d (.dK (kvsOf (ks ++ [k]))))) : sDPut td ty tv D σ H :=
  hv F H (.refl e) _ fun v F1 H1 g1 r1 => hd F1 H1 g1 _ fun w F2 H2 g2 r2 => hy F2 H2 (g1.trans g2) _ fun u F3 H3 g3 r3 => by
    cases (show v = _ from r1)
    cases (show u = _ from r3)
    have h3 := g3.hx _ _ (g2.hx _ _ (g1.hx _ _ h))
    refine ⟨d, _, r2, DPut.k (k := Sum.inl (k : Int)) h3 (by rw [len_kvs]; exact hz), ?_⟩
    rw [put_kvs hn]
    exact kk F3 H3 ((g1.trans g2).trans g3) h3
theorem x_pop {i w : Nat} {vs : List V} {y : V} (hv : σ[w]? = some (some (.ref l))) (hl : H l = some (.lst vs)) (hy : vs[vs.length - 1]? = some y) (k : D.nx (σ.set i (some y)) (upd H l (.lst vs.dropLast))) : tAsg (tBM0 K "list" rPop (tVar w)) (gName i) D σ H :=
  ⟨.ref l, hv, .inl ⟨rfl, vs, SqL.of hl⟩, l, vs, y, rfl, rfl, hl, hy, k⟩
theorem x_listM {i : Nat} (e : Ex F H) (h : Ev (rLst R) te σ F H xs) (k : ∀ vs l F' H', Gr M0 F H F' H' → Paired (R F') vs xs → H' l = none → D.nx (σ.set i (some (.ref l))) (upd H' l (.lst vs))) : tAsg (tCB (rListS K) (tCons te tNil)) (gName i) D σ H :=
  h F H (.refl e) _ fun v F' H' g ⟨a, vs, ea, hl, p⟩ => ⟨a, vs, by rw [ea], .inl (SqL.of (g.fh _ _ hl)), fun l hl' => k vs l F' H' g p hl'⟩
/-- xs != [], of a list that may change -/
abbrev dtN : Dt (rLst rNat) := inferInstance
theorem dtN_dep : dtN.dep ≤ 64 := by decide
theorem ev_neNilM {ns : List Nat} (ha : Ev rRef ta σ F H l) (hl : H l = some (.lst (ns.map fun n : Nat => V.int (n : Int)))) : Ev rBl (tOp (rNeD K) ta (tLst tNil)) σ F H (!decide (ns = [])) := fun F1 H1 g1 Q q =>
  ha F1 H1 g1 _ fun v F2 H2 g2 r => ⟨Nat.zero_le _, fun p hp => by
    have x2 : Ex H H2 := (g1.hx).trans g2.hx
    have g3 : Gr M0 F2 H2 (upd F2 p (.lst [])) (upd H2 p (.lst [])) := .new g2.fh hp
    have pm : ∀ (HH : Hp) (ks : List Nat), Paired (rNat HH) (ks.map fun k : Nat => V.int (k : Int)) ks := fun HH ks => by
      induction ks with
      | nil => exact .nil
      | cons a l ih => exact .cons rfl ih
    have r1 : rLst rNat H v ns := ⟨l, _, r, hl, pm _ _⟩
    have r2 : rLst rNat (upd F2 p (.lst [])) (.ref p) [] := ⟨p, [], rfl, upd_same, .nil⟩
    refine ⟨dtN.data ns, dtN.data [], dtN.rep (x2.trans g3.hx) r1, dtN.rep g3.fh r2, shapedD dtN dtN_dep _, shapedD dtN dtN_dep _, ?_⟩
    have e : PyData.eqv (dtN.data ns) (dtN.data []) = decide (ns = []) := by
      by_cases z : ns = []
      · rw [decide_eq_true z]; exact (dtN.eqv _ _).mpr z
      · rw [decide_eq_false z]
        cases q : PyData.eqv (dtN.data ns) (dtN.data []) with
        | false => rfl
        | true => exact absurd ((dtN.eqv _ _).mp q) z
    rw [e]
    exact q _ _ _ (g2.trans g3) rfl⟩
/-! ### loops with pairs -/
theorem x_forLP {i j : Nat} (e : Ex F H) (h : Ev (rLst (rPr R S)) tl σ F H ps) (Pv : Nat → St → Hp → Hp → Prop) (h0 : ∀ F1 H1, Gr M0 F H F1 H1 → Pv 0 σ F1 H1)
    (hs : ∀ F1, Ex F F1 → ∀ n x v w σ' F' H', ps[n]? = some x → Ex F1 F' → Ex F' H' → R F' v x.1 → S F' w x.2 → Pv n σ' F' H' →
      ts { D with nx := fun σ2 H2 => ∃ F2, Ex F1 F2 ∧ Ex F2 H2 ∧ Pv (n + 1) σ2 F2 H2, ct := fun σ2 H2 => ∃ F2, Ex F1 F2 ∧ Ex F2 H2 ∧ Pv (n + 1) σ2 F2 H2, bk := D.nx } ((σ'.set i (some v)).set j (some w)) H')
    (hd : ∀ σ' F' H', Ex F F' → Ex F' H' → Pv ps.length σ' F' H' → D.nx σ' H') (m : Mn R := by infer_instance) (m2 : Mn S := by infer_instance) : tFor (iList K tl) (gTup K 2 (gCons (gName i) (gCons (gName j) gNil))) ts D σ H := by
  refine h F H (.refl e) _ fun v F1 H1 g1 ⟨a, vs, ea, hl, p⟩ => ⟨a, ea, ⟨vs, SqL.of (g1.fh _ _ hl)⟩, ?_⟩
  refine for_list (xs := vs) (fun i σ' H' => ∃ F', Ex F1 F' ∧ Ex F' H' ∧ Pv i σ' F' H') ⟨F1, Ex.refl _, g1.fh, h0 F1 H1 g1⟩ (fun i σ' H' _ ⟨F', e1, e2, _⟩ => SqL.of (e2 _ _ (e1 _ _ hl))) ?_ ?_
  · rintro n w σ' H' hi ⟨F', e1, e2, pv⟩
    obtain ⟨x, hx, rx⟩ := Paired.getL p hi
    obtain ⟨b, u, w, eb, hb, r1, r2⟩ := Mn.mono e1 rx
    subst eb
    exact ⟨b, [u, w], rfl, SqT.of (e2 _ _ hb), rfl, u, [w], rfl, w, [], rfl, rfl, hs F1 g1.ff n x u w σ' F' H' hx e1 e2 r1 r2 pv⟩
  · rintro σ' H' ⟨F', e1, e2, pv⟩
    rw [p.length] at pv
    exact hd σ' F' H' (g1.ff.trans e1) e2 pv
theorem x_forE {i j : Nat} (e : Ex F H) (h : Ev (rLst R) tl σ F H xs) (Pv : Nat → St → Hp → Hp → Prop) (h0 : ∀ F1 H1, Gr M0 F H F1 H1 → Pv 0 σ F1 H1)
    (hst : ∀ n σ' F' H' F2 H2, Gr M0 F' H' F2 H2 → Pv n σ' F' H' → Pv n σ' F2 H2)
    (hs : ∀ F1, Ex F F1 → ∀ n x v σ' F' H', xs[n]? = some x → Ex F1 F' → Ex F' H' → R F' v x → Pv n σ' F' H' →
      ts { D with nx := fun σ2 H2 => ∃ F2, Ex F1 F2 ∧ Ex F2 H2 ∧ Pv (n + 1) σ2 F2 H2, ct := fun σ2 H2 => ∃ F2, Ex F1 F2 ∧ Ex F2 H2 ∧ Pv (n + 1) σ2 F2 H2, bk := D.nx } ((σ'.set i (some (.int (n : Int)))).set j (some v)) H')
    (hd : ∀ σ' F' H', Ex F F' → Ex F' H' → Pv xs.length σ' F' H' → D.nx σ' H') (m : Mn R := by infer_instance) : tFor (iEnum K (tCons tl tNil)) (gTup K 2 (gCons (gName i) (gCons (gName j) gNil))) ts D σ H := by
  refine h F H (.refl e) _ fun v F1 H1 g1 ⟨a, vs, ea, hl, p⟩ => ⟨a, vs, by rw [ea], SqL.of (g1.fh _ _ hl), ?_⟩
  refine for_it walk_enum (fun i σ' H' => ∃ F', Ex F1 F' ∧ Ex F' H' ∧ Pv i σ' F' H') ⟨F1, Ex.refl _, g1.fh, h0 F1 H1 g1⟩ (fun i σ' H' _ ⟨F', e1, e2, _⟩ => SqL.of (e2 _ _ (e1 _ _ hl))) ?_ ?_
  · rintro n w σ' H' H2 hi ⟨F', e1, e2, pv⟩ ⟨T, u, w2, rfl, hT, rfl, h1, h2⟩
    obtain ⟨x, hx, rx⟩ := Paired.getL p h2
    cases h1
    have g2 : Gr M0 F' H' F' (upd H' T (.tup [.int (n : Nat), w2])) := .loc e2 hT
    exact ⟨T, [.int (n : Nat), w2], rfl, SqT.of upd_same, rfl, _, [w2], rfl, w2, [], rfl, rfl, hs F1 g1.ff n x w2 σ' F' _ hx e1 g2.fh (m.mono e1 rx) (hst _ _ _ _ _ _ g2 pv)⟩
  · rintro σ' H' ⟨F', e1, e2, pv⟩
    rw [p.length] at pv
    exact hd σ' F' H' (g1.ff.trans e1) e2 pv
end
end El

set_option Elab.async false
set_option linter.all false
set_option maxRecDepth 100000
set_option maxHeartbeats 4000000
namespace El
open PySem PySem.Spec L2
theorem take_filter_succ {α β : Type} {p : α → Bool} {f : α → β} {xs : List α} {i : Nat} {x : α} (hx : xs[i]? = some x) : ((xs.take (i + 1)).filter p).map f = if p x = true then ((xs.take i).filter p).map f ++ [f x] else ((xs.take i).filter p).map f := by
  rw [List.take_add_one, hx, List.filter_append]
  show List.map f (_ ++ List.filter p [x]) = _
  rw [List.filter_cons]
  split
  · rw [List.map_append]; rfl
  · rw [List.filter_nil, List.append_nil]
section
variable {K : PySem.W.Frag} {σ : St} {F H F' H' : Hp} {ta tb tc td ty tv te tl to : TE} {tt : TT} {α β γ : Type} {R : Rp α} {S : Rp β} {U : Rp γ} {x : α} {y : β} {xs : List α} {ys : List β} {D : Ends} {ts : TS}
theorem et_yes : EvT tYes σ F H true := fun F1 H1 g Q q => q F1 H1 (.refl g.fh)
/-- [elt for x in list if test] -/
theorem ev_lcF (p : α → Bool) (f : α → γ) {n : Nat} {vs : List Nat} (h : Ev (rLst R) tl σ F H xs) (hz : xs.length ≤ 1000000) (hw : ∀ v, wipe ((wipe σ vs).set n (some v)) vs = wipe σ vs)
    (ht : ∀ (i : Nat) x v F1 H1, xs[i]? = some x → Gr M0 F H F1 H1 → R F1 v x → EvT tt ((wipe σ vs).set n (some v)) F1 H1 (p x))
    (he : ∀ (i : Nat) x v F1 H1, xs[i]? = some x → p x = true → Gr M0 F H F1 H1 → R F1 v x → Ev U te ((wipe σ vs).set n (some v)) F1 H1 (f x)) (m : Mn R := by infer_instance) (m' : Mn U := by infer_instance) : Ev (rLst U) (tLc (iList K tl) (gName n) tt te vs) σ F H ((xs.filter p).map f) := by
  intro F1 H1 g1 Q q
  refine h F1 H1 g1 _ fun v F2 H2 g2 ⟨a, ws, ea, hl, pr⟩ => ⟨a, ea, ⟨ws, SqL.of (g2.fh _ _ hl)⟩, fun D hD => ?_⟩
  refine lc_list (xs := ws) (fun i H' => ∃ F' us, Gr M0 F2 H2 F' H' ∧ F' D = none ∧ H' D = some (.lst us) ∧ Paired (U F') us (((xs.take i).filter p).map f)) ⟨F2, [], .loc g2.fh hD, g2.fh.free hD, upd_same, .nil⟩ (fun i H' _ ⟨F', us, g, _⟩ => SqL.of (g.fh _ _ (g.ff _ _ hl))) ?_ ?_
  · rintro i w H' hi ⟨F', us, g, fD, hD', pu⟩
    obtain ⟨x, hx, rx⟩ := Paired.getL pr hi
    have rx' := m.mono g.ff rx
    refine ⟨hw w, ?_⟩
    refine ht i x w F' H' hx ((g1.trans g2).trans g) rx' F' H' (.refl g.fh) _ fun F3 H3 g3 => ?_
    have e3 := take_filter_succ (p := p) (f := f) hx
    cases hp : p x with
    | false =>
      rw [hp] at e3
      refine ⟨F3, us, g.trans g3, g3.nn hD' fD, g3.hx _ _ hD', ?_⟩
      rw [e3]
      exact Paired.up g3.ff pu
    | true =>
      rw [hp] at e3
      refine he i x w F3 H3 hx hp (((g1.trans g2).trans g).trans g3) (m.mono g3.ff rx') F3 H3 (.refl g3.fh) _ fun u F4 H4 g4 r4 => ?_
      have g34 := g3.trans g4
      refine ⟨us, g34.hx _ _ hD', ?_, F4, us ++ [u], (g.trans g34).set' (g34.nn hD' fD) (.inl hD), g34.nn hD' fD, upd_same, ?_⟩
      · rw [pu.length, List.length_map, sizeLine_eq]
        have := List.length_filter_le p (xs.take i)
        rw [List.length_take] at this
        omega
      · rw [e3]
        exact (Paired.up g34.ff pu).snoc r4
  · rintro H' ⟨F', us, g, fD, hD', pu⟩
    rw [pr.length, List.take_length] at pu
    exact q _ _ _ (g2.trans (g.frz hD' (g2.fh.free hD) (.inl hD))) ⟨D, us, rfl, upd_same, Paired.up (g.fh.frz hD' fD) pu⟩
/-- [elt for k in range(n) if test] -/
theorem ev_lcRF (p : Nat → Bool) (f : Nat → γ) {n j : Nat} {vs : List Nat} (h : Ev rInt ta σ F H (n : Int)) (hz : n ≤ 1000000) (hw : ∀ v, wipe ((wipe σ vs).set j (some v)) vs = wipe σ vs)
    (ht : ∀ (i : Nat) F1 H1, i < n → Gr M0 F H F1 H1 → EvT tt ((wipe σ vs).set j (some (.int (i : Int)))) F1 H1 (p i))
    (he : ∀ (i : Nat) F1 H1, i < n → p i = true → Gr M0 F H F1 H1 → Ev U te ((wipe σ vs).set j (some (.int (i : Int)))) F1 H1 (f i)) (m' : Mn U := by infer_instance) : Ev (rLst U) (tLc (iRng1 (tCons ta tNil)) (gName j) tt te vs) σ F H (((List.range n).filter p).map f) := by
  intro F1 H1 g1 Q q
  refine h F1 H1 g1 _ fun v F2 H2 g2 ea => ⟨(n : Int), by rw [show v = _ from ea], by omega, by omega, fun D hD => ?_⟩
  rw [Int.toNat_natCast]
  refine lc_range (lo := 0) (n := n) (fun i H' => ∃ F' us, Gr M0 F2 H2 F' H' ∧ F' D = none ∧ H' D = some (.lst us) ∧ Paired (U F') us ((((List.range n).take i).filter p).map f)) ⟨F2, [], .loc g2.fh hD, g2.fh.free hD, upd_same, .nil⟩ ?_ ?_
  · rintro i H' hi ⟨F', us, g, fD, hD', pu⟩
    have hx : (List.range n)[i]? = some i := List.getElem?_range hi
    have e0 : (0 : Int) + (i : Int) = (i : Int) := Int.zero_add _
    rw [e0]
    refine ⟨hw _, ?_⟩
    refine ht i F' H' hi ((g1.trans g2).trans g) F' H' (.refl g.fh) _ fun F3 H3 g3 => ?_
    have e3 := take_filter_succ (p := p) (f := f) hx
    cases hp : p i with
    | false =>
      rw [hp] at e3
      refine ⟨F3, us, g.trans g3, g3.nn hD' fD, g3.hx _ _ hD', ?_⟩
      rw [e3]
      exact Paired.up g3.ff pu
    | true =>
      rw [hp] at e3
      refine he i F3 H3 hi hp (((g1.trans g2).trans g).trans g3) F3 H3 (.refl g3.fh) _ fun u F4 H4 g4 r4 => ?_
      have g34 := g3.trans g4
      refine ⟨us, g34.hx _ _ hD', ?_, F4, us ++ [u], (g.trans g34).set' (g34.nn hD' fD) (.inl hD), g34.nn hD' fD, upd_same, ?_⟩
      · rw [pu.length, List.length_map, sizeLine_eq]
        have := List.length_filter_le p ((List.range n).take i)
        rw [List.length_take, List.length_range] at this
        omega
      · rw [e3]
        exact (Paired.up g34.ff pu).snoc r4
  · rintro H' ⟨F', us, g, fD, hD', pu⟩
    rw [List.take_of_length_le (by rw [List.length_range]; exact Nat.le_refl _)] at pu
    exact q _ _ _ (g2.trans (g.frz hD' (g2.fh.free hD) (.inl hD))) ⟨D, us, rfl, upd_same, Paired.up (g.fh.frz hD' fD) pu⟩
/-- [elt for x, y in pairs if test] -/
theorem ev_lcPF (p : α × β → Bool) (f : α × β → γ) {ps : List (α × β)} {n j : Nat} {vs : List Nat} (h : Ev (rLst (rPr R S)) tl σ F H ps) (hz : ps.length ≤ 1000000) (hw : ∀ v w, wipe (((wipe σ vs).set n (some v)).set j (some w)) vs = wipe σ vs)
    (ht : ∀ (i : Nat) x v w F1 H1, ps[i]? = some x → Gr M0 F H F1 H1 → R F1 v x.1 → S F1 w x.2 → EvT tt (((wipe σ vs).set n (some v)).set j (some w)) F1 H1 (p x))
    (he : ∀ (i : Nat) x v w F1 H1, ps[i]? = some x → p x = true → Gr M0 F H F1 H1 → R F1 v x.1 → S F1 w x.2 → Ev U te (((wipe σ vs).set n (some v)).set j (some w)) F1 H1 (f x)) (m : Mn R := by infer_instance) (m2 : Mn S := by infer_instance) (m' : Mn U := by infer_instance) :
    Ev (rLst U) (tLc (iList K tl) (gTup K 2 (gCons (gName n) (gCons (gName j) gNil))) tt te vs) σ F H ((ps.filter p).map f) := by
  intro F1 H1 g1 Q q
  refine h F1 H1 g1 _ fun v F2 H2 g2 ⟨a, ws, ea, hl, pr⟩ => ⟨a, ea, ⟨ws, SqL.of (g2.fh _ _ hl)⟩, fun D hD => ?_⟩
  refine lc_list (xs := ws) (fun i H' => ∃ F' us, Gr M0 F2 H2 F' H' ∧ F' D = none ∧ H' D = some (.lst us) ∧ Paired (U F') us (((ps.take i).filter p).map f)) ⟨F2, [], .loc g2.fh hD, g2.fh.free hD, upd_same, .nil⟩ (fun i H' _ ⟨F', us, g, _⟩ => SqL.of (g.fh _ _ (g.ff _ _ hl))) ?_ ?_
  · rintro i w H' hi ⟨F', us, g, fD, hD', pu⟩
    obtain ⟨x, hx, rx⟩ := Paired.getL pr hi
    obtain ⟨b, u1, u2, eb, hb, r1, r2⟩ := Mn.mono g.ff rx
    subst eb
    refine ⟨b, [u1, u2], rfl, SqT.of (g.fh _ _ hb), rfl, u1, [u2], rfl, u2, [], rfl, rfl, hw _ _, ?_⟩
    refine ht i x u1 u2 F' H' hx ((g1.trans g2).trans g) r1 r2 F' H' (.refl g.fh) _ fun F3 H3 g3 => ?_
    have e3 := take_filter_succ (p := p) (f := f) hx
    cases hp : p x with
    | false =>
      rw [hp] at e3
      refine ⟨F3, us, g.trans g3, g3.nn hD' fD, g3.hx _ _ hD', ?_⟩
      rw [e3]
      exact Paired.up g3.ff pu
    | true =>
      rw [hp] at e3
      refine he i x u1 u2 F3 H3 hx hp (((g1.trans g2).trans g).trans g3) (m.mono g3.ff r1) (m2.mono g3.ff r2) F3 H3 (.refl g3.fh) _ fun u F4 H4 g4 r4 => ?_
      have g34 := g3.trans g4
      refine ⟨us, g34.hx _ _ hD', ?_, F4, us ++ [u], (g.trans g34).set' (g34.nn hD' fD) (.inl hD), g34.nn hD' fD, upd_same, ?_⟩
      · rw [pu.length, List.length_map, sizeLine_eq]
        have := List.length_filter_le p (ps.take i)
        rw [List.length_take] at this
        omega
      · rw [e3]
        exact (Paired.up g34.ff pu).snoc r4
  · rintro H' ⟨F', us, g, fD, hD', pu⟩
    rw [pr.length, List.take_length] at pu
    exact q _ _ _ (g2.trans (g.frz hD' (g2.fh.free hD) (.inl hD))) ⟨D, us, rfl, upd_same, Paired.up (g.fh.frz hD' fD) pu⟩
/-- x = [[] for k in range(n)]: n lists that may change -/
theorem x_lists {i j n : Nat} {vs : List Nat} (e : Ex F H) (h : Ev rInt ta σ F H (n : Int)) (hz : n ≤ 1000000) (hw : ∀ v, wipe ((wipe σ vs).set j (some v)) vs = wipe σ vs)
    (k : ∀ (l : Addr) (as : List Addr) F' H', Gr M0 F H F' H' → as.length = n → H l = none → F' l = none → H' l = some (.lst (as.map V.ref)) → as.Nodup → (∀ b ∈ as, H b = none ∧ F' b = none ∧ H' b = some (.lst []) ∧ b ≠ l) → D.nx (σ.set i (some (.ref l))) H') : tAsg (tLc (iRng1 (tCons ta tNil)) (gName j) tYes (tLst tNil) vs) (gName i) D σ H := by
  refine h F H (.refl e) _ fun v F2 H2 g2 ea => ⟨(n : Int), by rw [show v = _ from ea], by omega, by omega, fun B hB => ?_⟩
  rw [Int.toNat_natCast]
  have hB0 : H B = none := Ex.free g2.hx hB
  refine lc_range (lo := 0) (n := n) (fun i H' => ∃ as : List Addr, Gr M0 F H F2 H' ∧ as.length = i ∧ F2 B = none ∧ H' B = some (.lst (as.map V.ref)) ∧ as.Nodup ∧ ∀ b ∈ as, H b = none ∧ F2 b = none ∧ H' b = some (.lst []) ∧ b ≠ B)
    ⟨[], g2.trans (.loc g2.fh hB), rfl, g2.fh.free hB, upd_same, List.nodup_nil, fun _ h => nomatch h⟩ ?_ ?_
  · rintro i H' hi ⟨as, g, hl, fB, hB', nd, hb⟩
    refine ⟨hw _, Nat.zero_le _, fun c hc => ?_⟩
    have hcB : c ≠ B := fun z => by subst z; rw [hB'] at hc; cases hc
    have hcn : c ∉ as := fun z => by rw [(hb c z).2.2.1] at hc; cases hc
    have g3 := g.trans (Gr.loc g.fh hc (o := .lst []))
    have fc : F2 c = none := g.fh.free hc
    have hc0 : H c = none := Ex.free g.hx hc
    refine ⟨as.map V.ref, by rw [upd_ne hcB.symm]; exact hB', by rw [List.length_map, hl, sizeLine_eq]; omega, as ++ [c], g3.set' fB (.inl hB0), by rw [List.length_append, hl]; rfl, fB, by rw [upd_same, List.map_append]; rfl, ?_, fun b hbm => ?_⟩
    · refine List.nodup_append.mpr ⟨nd, by simp, fun x hx y hy => ?_⟩
      rw [List.mem_singleton.mp hy]
      intro z
      rw [z] at hx
      exact hcn hx
    · rcases List.mem_append.mp hbm with h | h
      · obtain ⟨h1, h2, h3, h4⟩ := hb b h
        refine ⟨h1, h2, ?_, h4⟩
        rw [upd_ne h4, upd_ne (fun z : b = c => hcn (by rw [← z]; exact h))]
        exact h3
      · rw [List.mem_singleton.mp h]
        exact ⟨hc0, fc, by rw [upd_ne hcB, upd_same], hcB⟩
  · rintro H' ⟨as, g, hl, fB, hB', nd, hb⟩
    exact k B as F2 H' g hl hB0 fB hB' nd hb
end
/-- things that may change are frozen, all of them -/
theorem Gr.frzs {M : Addr → Prop} {F0 H0 H : Hp} (e : Ex F0 H0) : ∀ {as : List Addr} {F : Hp}, Gr M F0 H0 F H → (∀ b ∈ as, H b ≠ none ∧ H0 b = none) → ∃ F', Gr M F0 H0 F' H ∧ Ex F F' ∧ ∀ b ∈ as, F' b = H b
  | [], F, g, _ => ⟨F, g, Ex.refl F, fun _ h => nomatch h⟩
  | a :: as, F, g, h => by
    obtain ⟨h1, h2⟩ := h a List.mem_cons_self
    obtain ⟨o, ho⟩ : ∃ o, H a = some o := by
      cases q : H a with
      | none => exact absurd q h1
      | some o => exact ⟨o, rfl⟩
    obtain ⟨F1, g1, e1, k1⟩ : ∃ F1, Gr M F0 H0 F1 H ∧ Ex F F1 ∧ F1 a = H a := by
      cases q : F a with
      | none => exact ⟨_, g.frz ho (e.free h2) (.inl h2), Ex.new q, by rw [upd_same, ho]⟩
      | some o' => exact ⟨F, g, Ex.refl F, by rw [q, g.fh _ _ q]⟩
    obtain ⟨F', g', e', k'⟩ := Gr.frzs e g1 fun b hb => h b (List.mem_cons_of_mem _ hb)
    refine ⟨F', g', e1.trans e', fun b hb => ?_⟩
    rcases List.mem_cons.mp hb with rfl | hb
    · rw [ho]
      exact e' _ _ (by rw [k1, ho])
    · exact k' b hb
end El

set_option Elab.async false
set_option linter.all false
set_option maxRecDepth 100000
set_option maxHeartbeats 4000000
namespace El
open PySem PySem.Spec L2
def onM (n : Nat) (ps : List (Nat × Nat)) : List (List Nat) := (List.range n).map fun x => (ps.filter fun p => p.1 == x).map (·.2)
def dfs (on : List (List Nat)) : Nat → List Nat → List Nat → List Nat
  | 0, _, r => r
  | m + 1, w, r => match w.getLast? with
    | none => r
    | some one => if one ∈ r then dfs on m w.dropLast r else dfs on m (w.dropLast ++ on.getD one []) (r ++ [one])
def fuelM (n : Nat) (ps : List (Nat × Nat)) : Nat := n * (ps.length + 1) + ps.length
def aboveM (n : Nat) (ps : List (Nat × Nat)) : List (List Nat) := (List.range n).map fun p => dfs (onM n ps) (fuelM n ps) ((onM n ps).getD p []) []
def measM (n L : Nat) (w r : List Nat) : Nat := (n - r.length) * (L + 1) + w.length
theorem dfs_nil (on : List (List Nat)) (m : Nat) (r : List Nat) : dfs on m [] r = r := by cases m <;> rfl
theorem dfs_old {on : List (List Nat)} {m : Nat} {w r : List Nat} {one : Nat} (h : one ∈ r) : dfs on (m + 1) (w ++ [one]) r = dfs on m w r := by
  unfold dfs
  simp [h]
  cases m <;> rfl
theorem dfs_new {on : List (List Nat)} {m : Nat} {w r : List Nat} {one : Nat} (h : one ∉ r) : dfs on (m + 1) (w ++ [one]) r = dfs on m (w ++ on.getD one []) (r ++ [one]) := by
  rw [show dfs on (m + 1) (w ++ [one]) r = dfs on (Nat.succ m) (w ++ [one]) r from rfl, dfs]
  rw [List.getLast?_concat, List.dropLast_concat]
  show (if one ∈ r then _ else _) = _
  rw [if_neg h]
theorem on_len {n : Nat} {ps : List (Nat × Nat)} : (onM n ps).length = n := by unfold onM; rw [List.length_map, List.length_range]
theorem on_get {n : Nat} {ps : List (Nat × Nat)} {x : Nat} (h : x < n) : (onM n ps).getD x [] = (ps.filter fun p => p.1 == x).map (·.2) := by
  unfold onM
  rw [List.getD_eq_getElem?_getD, List.getElem?_map, List.getElem?_range h]
  rfl
theorem on_at {n : Nat} {ps : List (Nat × Nat)} {x : Nat} (h : x < n) : (onM n ps)[x]? = some ((onM n ps).getD x []) := getD_at (by rw [on_len]; exact h)
theorem on_le {n : Nat} {ps : List (Nat × Nat)} {x : Nat} : ((onM n ps).getD x []).length ≤ ps.length := by
  by_cases h : x < n
  · rw [on_get h, List.length_map]
    exact List.length_filter_le _ _
  · rw [List.getD_eq_getElem?_getD, List.getElem?_eq_none (by rw [on_len]; omega)]
    exact Nat.zero_le _
theorem on_mem {n : Nat} {ps : List (Nat × Nat)} {x y : Nat} (hp : ∀ p ∈ ps, p.1 < n ∧ p.2 < n) (h : y ∈ (onM n ps).getD x []) : y < n := by
  by_cases hx : x < n
  · rw [on_get hx] at h
    obtain ⟨p, hp1, rfl⟩ := List.mem_map.mp h
    exact (hp p (List.mem_filter.mp hp1).1).2
  · rw [List.getD_eq_getElem?_getD, List.getElem?_eq_none (by rw [on_len]; omega)] at h
    cases h
theorem on_step {n : Nat} {ps : List (Nat × Nat)} {k i : Nat} {p : Nat × Nat} (hp : ps[k]? = some p) (hi : i < n) : (onM n (ps.take (k + 1))).getD i [] = if p.1 = i then (onM n (ps.take k)).getD i [] ++ [p.2] else (onM n (ps.take k)).getD i [] := by
  rw [on_get hi, on_get hi, take_filter_succ (f := (·.2)) hp]
  by_cases h : p.1 = i
  · rw [if_pos h, if_pos (by simp [h])]
  · rw [if_neg h, if_neg (by simp [h])]
theorem nodup_lt {n : Nat} {r : List Nat} (nd : r.Nodup) (h : ∀ y ∈ r, y < n) : r.length ≤ n := by
  have := L2.nat_nodup_len r (List.range n) nd fun x hx => List.mem_range.mpr (h x hx)
  rw [List.length_range] at this
  exact this
theorem above_len {n : Nat} {ps : List (Nat × Nat)} : (aboveM n ps).length = n := by unfold aboveM; rw [List.length_map, List.length_range]
theorem above_get {n : Nat} {ps : List (Nat × Nat)} {x : Nat} (h : x < n) : (aboveM n ps)[x]? = some (dfs (onM n ps) (fuelM n ps) ((onM n ps).getD x []) []) := by
  unfold aboveM
  rw [List.getElem?_map, List.getElem?_range h]
  rfl
theorem meas_old {n L : Nat} {w r : List Nat} {one : Nat} : measM n L w r < measM n L (w ++ [one]) r := by
  unfold measM
  rw [List.length_append]
  show _ < _ + (_ + 1)
  omega
theorem meas_new {n L : Nat} {w r more : List Nat} {one : Nat} (hm : more.length ≤ L) (hr : r.length < n) : measM n L (w ++ more) (r ++ [one]) < measM n L (w ++ [one]) r := by
  unfold measM
  rw [List.length_append, List.length_append, List.length_append]
  have e : n - r.length = (n - (r.length + [one].length)) + 1 := by show _ = n - (r.length + 1) + 1; omega
  rw [e, Nat.succ_mul]
  show _ < _ + (_ + 1)
  omega
theorem paired_of {α β : Type} {F : α → β → Prop} : ∀ {as : List α} {bs : List β}, as.length = bs.length → (∀ (i : Nat) a b, as[i]? = some a → bs[i]? = some b → F a b) → Paired F as bs
  | [], [], _, _ => .nil
  | a :: as, b :: bs, hl, h => .cons (h 0 a b rfl rfl) (paired_of (by simpa using hl) fun i x y hx hy => h (i + 1) x y (by simpa using hx) (by simpa using hy))
theorem nats_P (HH : Hp) : ∀ ks : List Nat, Paired (rNat HH) (ks.map fun k : Nat => V.int (k : Int)) ks
  | [] => .nil
  | _ :: l => .cons rfl (nats_P HH l)
theorem nats_eq {H : Hp} {vs : List V} {ns : List Nat} (p : Paired (rNat H) vs ns) : vs = ns.map fun n : Nat => V.int (n : Int) := by rw [nats_paired p, List.map_map]; rfl
end El

set_option Elab.async false
set_option linter.all false
set_option maxRecDepth 100000
set_option maxHeartbeats 4000000
namespace El
open PySem PySem.Spec L2
/-! ### orders -/
def rOrder (C : Addr) : Rp (List (List Nat)) := fun H v hs => ∃ a dx l, v = .ref a ∧ H a = some (.ins C dx [("higher", l)]) ∧ rLst rDct H l hs
instance {C : Addr} : Mn (rOrder C) := ⟨fun e ⟨a, dx, l, h1, h2, h3⟩ => ⟨a, dx, l, h1, e _ _ h2, Mn.mono e h3⟩⟩
instance {C : Addr} : NotN (rOrder C) := ⟨fun ⟨_, _, _, h, _⟩ e => by rw [h] at e; cases e⟩
instance {C : Addr} : IsI (rOrder C) C "__len__" := ⟨fun ⟨a, dx, l, h1, h2, h3⟩ => ⟨a, dx, _, h1, h2, rfl⟩⟩
instance {C : Addr} : IsI (rOrder C) C "at_most" := ⟨fun ⟨a, dx, l, h1, h2, h3⟩ => ⟨a, dx, _, h1, h2, rfl⟩⟩
instance {C : Addr} : IsI (rOrder C) C "least" := ⟨fun ⟨a, dx, l, h1, h2, h3⟩ => ⟨a, dx, _, h1, h2, rfl⟩⟩
instance {C : Addr} : IsI (rOrder C) C "greatest" := ⟨fun ⟨a, dx, l, h1, h2, h3⟩ => ⟨a, dx, _, h1, h2, rfl⟩⟩
theorem fld_higher {K : PySem.W.Frag} {C : Addr} (c : Cls K C) (n : NoAttr K C "higher") : IsF (rOrder C) K "higher" (rLst rDct) id := ⟨fun ⟨a, dx, l, h1, h2, h3⟩ => ⟨a, C, dx, _, _, h1, h2, c, n, rfl, h3⟩⟩
def GoodO (n : Nat) (ps : List (Nat × Nat)) : Prop := 1 ≤ n ∧ n ≤ 32 ∧ ps.length ≤ 100 ∧ (∀ p ∈ ps, p.1 < n ∧ p.2 < n ∧ p.1 ≠ p.2) ∧ ∀ p, p < n → p ∉ (aboveM n ps).getD p []
def SpOrder (C : Addr) : Sp := fun vs H Q _ => ∃ (F : Hp) (a dx : Addr) (l : V) (n : Nat) (ps : List (Nat × Nat)), vs = [.ref a, .int (n : Int), l] ∧ Ex F H ∧ F a = none ∧ H a = some (.ins C dx []) ∧ rLst (rPr rNat rNat) F l ps ∧ GoodO n ps ∧
  ∀ F' H', Gr (M1 a) F H F' H' → rOrder C F' (.ref a) (aboveM n ps) → Q .non H'
instance {C : Addr} : SpLen (SpOrder C) 3 := ⟨fun ⟨_, _, _, _, _, _, h, _⟩ => by rw [h]; rfl⟩
/-- what C(..) makes, in general -/
theorem Gr.made {M : Addr → Prop} {F H F' H' : Hp} {x dx : Addr} {u w : HO} (nx : H x = none) (ndx : H dx = none) (nex : x ≠ dx) (g : Gr (M1 x) F (upd (upd H dx w) x u) F' H') : Gr M0 F H F' H' := ⟨g.ff, g.fh, fun b o _ h => by
    have b1 : b ≠ x := fun z => by subst z; rw [nx] at h; cases h
    have b2 : b ≠ dx := fun z => by subst z; rw [ndx] at h; cases h
    exact g.hh b o b1 (by rw [upd_ne b1, upd_ne b2]; exact h), fun b _ h n => by
    have b1 : b ≠ x := fun z => h (z ▸ nx)
    have b2 : b ≠ dx := fun z => h (z ▸ ndx)
    exact g.nw b b1 (by rw [upd_ne b1, upd_ne b2]; exact h) n, fun b h => by
    have b1 : b ≠ x := fun z => h (z ▸ nx)
    have b2 : b ≠ dx := fun z => h (z ▸ ndx)
    exact g.dm b (by rw [upd_ne b1, upd_ne b2]; exact h)⟩
theorem ev_Order {σ : St} {F H : Hp} {ta tb : TE} {C : Addr} {n : Nat} {ps : List (Nat × Nat)} {E : XK} (ha : Ev rInt ta σ F H (n : Int)) (hb : Ev (rLst (rPr rNat rNat)) tb σ F H ps) (hg : GoodO n ps) : Ev (rOrder C) (tMake C (SpOrder C) [] E (tCons ta (tCons tb tNil))) σ F H (aboveM n ps) := fun F1 H1 g1 Q q =>
  ha F1 H1 g1 _ fun v F2 H2 g2 r => hb F2 H2 (g1.trans g2) _ fun w F3 H3 g3 r3 => fun x dx nx ndx nex => by
    cases (show v = _ from r)
    have e1 : Ex F3 (upd (upd H3 dx (.own x)) x (.ins C dx [])) := (g3.fh.mut (g3.fh.free ndx)).mut (g3.fh.free nx)
    exact ⟨F3, x, dx, w, n, ps, rfl, e1, g3.fh.free nx, upd_same, r3, hg, fun F' H' g k => ⟨rfl, q _ F' H' ((g2.trans g3).trans (.made (M := M0) nx ndx nex.symm g)) k⟩⟩
def atMostM (hs : List (List Nat)) (x y : Nat) : Bool := decide (x = y) || decide (y ∈ hs.getD x [])
def leastM (hs : List (List Nat)) : Option Nat := (List.range hs.length).find? fun p => decide (((hs.getD p []).length : Int) = (hs.length : Int) - 1)
def greatestM (hs : List (List Nat)) : Option Nat := (List.range hs.length).find? fun p => (List.range hs.length).all fun one => atMostM hs one p
end El

set_option Elab.async false
set_option linter.all false
set_option maxRecDepth 100000
set_option maxHeartbeats 4000000
namespace El
open PySem PySem.Spec L2
/-! ### len(set(pairs)) -/
def tLenSetP (K : PySem.W.Frag) (ta : TE) : TE := fun σ H Q => ta σ H fun x H1 => ∃ (l : Addr) (ks : List (Addr × List Int)), x = .ref l ∧ SqL K H1 l (ks.map fun p => V.ref p.1) ∧ (∀ p ∈ ks, SqT K H1 p.1 (p.2.map V.int)) ∧ ks.length < 64 ∧
  ∀ L : List (Addr × List Int), (∀ p ∈ L, p ∈ ks) → (∀ p ∈ ks, p.2 ∈ L.map (·.2)) → (L.map (·.2)).Nodup → Q (.int (L.length : Nat)) H1
open PyProof.Rows in
theorem klensetP {K : PySem.W.Frag} {X : Cx} {a : Expr} {ta : TE} {p p2 q pos : Pos} (hu : X.A.units + 64 < cLine) (hg : Gl X "len") (hm : X.mg "len" = none) (hg2 : Gl X "set") (hm2 : X.mg "set" = none) (ha : PE X a ta) (hc : X.calm = true := by rfl)
    (na : starEach [a] X.env = (false, eval a X.env) :: starEach [] X.env := by rfl) (hK : X.K = K := by rfl) : PE X (.Call (.Name "len" p) [.Call (.Name "set" p2) [a] [] q] [] pos) (tLenSetP K ta) := by
  subst hK
  refine ⟨fun pins s σ H Q I h => ?_⟩
  refine Call_ (ld_blt I hg hm boot_len ?_)
  refine PyProof.Rows.callWith_builtin1 (PyProof.Rows.args_cons ?_ rfl) rfl rfl
  refine Call_ (ld_blt I hg2 hm2 boot_set ?_)
  refine PyProof.Rows.callWith_type1 (PyProof.Rows.args_cons (thn (ha.run pins s σ H _ I h) fun v s1 ⟨x, H1, I1, r1, q1⟩ => PyProof.Rows.args_nil ?_) na) na rfl
  obtain ⟨l, ks, rfl, hq, hk, hf, q1⟩ := q1
  cases r1
  obtain ⟨its, rv, pl, hz⟩ := I1.list hq
  refine L2.call_set_tups (P := X.prog) (w := X.w) ks (I1.ok.hd hc) pl.isList (by simpa using L2.refs_of_vals rv) (fun p hp => I1.isT (hk p hp)) hf (by omega) fun h' tk L es ep t R g k => ?_
  refine PyProof.Rows.args_nil ?_
  obtain ⟨o, ho, hex, hd⟩ := R.ob
  have hs : es.size = L.length := by
    have h := congrArg List.length R.rows
    unfold L2.rowsOf at h
    rw [Array.length_toList, List.length_map] at h
    exact h
  have hfit : t.fits es.size = true := L2.SetTR.fits (s := { s1 with heap := h' }) R
  have I2 : Inv X pins σ H1 { s1 with heap := h', toks := tk } := I1.kept fun b o e => k b o e
  refine call_len_set ho hex hd hfit (by rw [hs]; have := R.few; omega) ⟨.int es.size, H1, I2.tok _, ⟨_, rfl⟩, ?_⟩
  have := q1 L (fun p hp => List.mem_of_mem_take (g.sub p hp)) (fun p hp => g.all p (by rw [List.take_length]; exact hp)) R.nd
  rw [hs]
  exact this
theorem ints_pr {H : Hp} {a : Addr} {x y : V} {p : Nat × Nat} (h : H a = some (.tup [x, y])) (r1 : rNat H x p.1) (r2 : rNat H y p.2) : H a = some (.tup ([(p.1 : Int), (p.2 : Int)].map V.int)) := by
  rw [h, show x = _ from r1, show y = _ from r2]
  rfl
theorem keys_pr {H : Hp} : ∀ {vs : List V} {ps : List (Nat × Nat)}, Paired (rPr rNat rNat H) vs ps → ∃ ks : List (Addr × List Int), vs = ks.map (fun p => V.ref p.1) ∧ ks.map (·.2) = ps.map (fun p => [(p.1 : Int), (p.2 : Int)]) ∧ ∀ p ∈ ks, H p.1 = some (.tup (p.2.map V.int))
  | _, _, .nil => ⟨[], rfl, rfl, fun _ h => nomatch h⟩
  | v :: vs, b :: bs, .cons ⟨a, x, y, e, h, r1, r2⟩ t => by
    obtain ⟨ks, h1, h2, h3⟩ := keys_pr t
    refine ⟨(a, [(b.1 : Int), (b.2 : Int)]) :: ks, by rw [List.map_cons, ← h1, e], by rw [List.map_cons, List.map_cons, h2], fun p hp => ?_⟩
    rcases List.mem_cons.mp hp with rfl | hp
    · exact ints_pr h r1 r2
    · exact h3 p hp
section
variable {K : PySem.W.Frag} {σ : St} {F H F' H' : Hp} {ta tb tc te : TE}
theorem ev_lenSetP {ps : List (Nat × Nat)} (ha : Ev (rLst (rPr rNat rNat)) ta σ F H ps) (hz : ps.length < 64) (nd : ps.Nodup) : Ev rInt (tLenSetP K ta) σ F H (ps.length : Int) := fun F1 H1 g1 Q q =>
  ha F1 H1 g1 _ fun v F2 H2 g2 ⟨a, vs, e, hl, p⟩ => by
    obtain ⟨ks, h1, h2, h3⟩ := keys_pr p
    have hlen : ks.length = ps.length := by
      have := congrArg List.length h2
      rw [List.length_map, List.length_map] at this
      exact this
    refine ⟨a, ks, e, by rw [← h1]; exact SqL.of (g2.fh _ _ hl), fun p hp => SqT.of (g2.fh _ _ (h3 p hp)), by omega, fun L hL1 hL2 hnd => ?_⟩
    have hks : (ks.map (·.2)).Nodup := by
      rw [h2]
      refine List.Pairwise.map _ (fun x y hxy => ?_) nd
      intro z
      apply hxy
      injection z with z1 z2
      injection z2 with z2 _
      exact Prod.ext (by omega) (by omega)
    have : (L.map (·.2)).length = (ks.map (·.2)).length := nodup_len_of_mem hnd hks fun k => ⟨fun h => by
      obtain ⟨p, hp, rfl⟩ := List.mem_map.mp h
      exact List.mem_map.mpr ⟨p, hL1 p hp, rfl⟩, fun h => by
      obtain ⟨p, hp, rfl⟩ := List.mem_map.mp h
      exact hL2 p hp⟩
    rw [List.length_map, List.length_map, hlen] at this
    rw [this]
    exact q _ F2 H2 g2 rfl
/-! ### tuples of the written part -/
def KTup (K : PySem.W.Frag) (q : Addr) (ns : List Int) : Prop := ∃ (o : Obj) (its : Array Value) (n : Nat), K.lookup q = some o ∧ o.cls = .type "tuple" ∧ o.data = .seq its n ∧ its.size ≤ sizeLine ∧ Vals (ns.map V.int) its.toList
theorem ev_ixK {q : Addr} {ns : List Int} {i x : Int} (h : KTup K q ns) (hb : Ev rInt tb σ F H i) (hx : atI ns i = some x) : Ev rInt (tOp (rIxT K) (tC (.ref q)) tb) σ F H x := fun F1 H1 g1 Q k =>
  hb F1 H1 g1 _ fun w F3 H3 g3 r2 => by
    obtain ⟨y, hy, ry⟩ := atI_paired (paired_ints (H := F3) ns) hx
    exact ⟨q, _, i, y, rfl, r2, .inr h, hy, k y F3 H3 g3 ry⟩
/-- x in (a, b) -/
theorem ev_inPr {k a b : Nat} (hk : Ev rNat ta σ F H k) (ha : Ev (rTup rNat) tb σ F H [a, b]) : Ev rBl (tOp (rIn K false) ta tb) σ F H (decide (k = a) || decide (k = b)) := fun F1 H1 g1 Q q =>
  hk F1 H1 g1 _ fun v F2 H2 g2 r => ha F2 H2 (g1.trans g2) _ fun w F3 H3 g3 ⟨p, vs, e, hp, pr⟩ => by
    cases (show v = _ from r)
    have evs := nats_eq pr
    subst evs
    refine ⟨p, _, e, .inr (SqT.of (g3.fh _ _ hp)), rfl, rfl, ?_⟩
    have : inV (V.int (k : Int)) ([a, b].map fun n : Nat => V.int (n : Int)) = (decide (k = a) || decide (k = b)) := by
      have h1 : ∀ c : Nat, ((c : Int) == (k : Int)) = decide (k = c) := fun c => by
        by_cases h : k = c
        · rw [decide_eq_true h, h]; exact beq_self_eq_true _
        · rw [decide_eq_false h]; exact beq_eq_false_iff_ne.mpr (by omega)
      show (((a : Int) == (k : Int)) || (((b : Int) == (k : Int)) || false)) = _
      rw [h1, h1, Bool.or_false]
    show Q (.bl (inV (V.int (k : Int)) ([a, b].map fun n : Nat => V.int (n : Int)))) H3
    rw [this]
    exact q _ F3 H3 (g2.trans g3) rfl
theorem ev_intB {b : Bool} (ha : Ev rBl ta σ F H b) : Ev rInt (tCB (fun xs H Q => (∃ i, xs = [.int i] ∧ Q (.int i) H) ∨ ∃ k, xs = [.bl k] ∧ Q (.int (if k then 1 else 0)) H) (tCons ta tNil)) σ F H (if b then 1 else 0) := fun F1 H1 g1 Q q =>
  ha F1 H1 g1 _ fun v F2 H2 g2 r => .inr ⟨b, by rw [show v = _ from r], q _ F2 H2 g2 rfl⟩
end
/-! ### webs -/
structure Wb where
  spots : Nat
  ties : List (Nat × Nat)
  whole : Nat
  levels : List Nat
  h0 : 1 ≤ spots
  h1 : spots ≤ 5
  h2 : ∀ p ∈ ties, p.1 < p.2 ∧ p.2 < spots
  h3 : ties.Nodup
  h4 : 1 ≤ whole
  h5 : whole ≤ 40
  h6 : levels.length = spots
  h7 : ∀ l ∈ levels, l ≤ whole
def rWeb (C : Addr) : Rp Wb := fun H v W => ∃ a dx l m, v = .ref a ∧ H a = some (.ins C dx [("spots", .int (W.spots : Int)), ("ties", l), ("whole", .int (W.whole : Int)), ("levels", m)]) ∧ rLst (rPr rNat rNat) H l W.ties ∧ rLst rNat H m W.levels
instance {C : Addr} : Mn (rWeb C) := ⟨fun e ⟨a, dx, l, m, h1, h2, h3, h4⟩ => ⟨a, dx, l, m, h1, e _ _ h2, Mn.mono e h3, Mn.mono e h4⟩⟩
instance {C : Addr} : NotN (rWeb C) := ⟨fun ⟨_, _, _, _, h, _⟩ e => by rw [h] at e; cases e⟩
theorem fld_spots {K : PySem.W.Frag} {C : Addr} (c : Cls K C) (n : NoAttr K C "spots") : IsF (rWeb C) K "spots" rNat Wb.spots := ⟨fun ⟨a, dx, l, m, h1, h2, h3, h4⟩ => ⟨a, C, dx, _, _, h1, h2, c, n, rfl, rfl⟩⟩
theorem fld_ties {K : PySem.W.Frag} {C : Addr} (c : Cls K C) (n : NoAttr K C "ties") : IsF (rWeb C) K "ties" (rLst (rPr rNat rNat)) Wb.ties := ⟨fun ⟨a, dx, l, m, h1, h2, h3, h4⟩ => ⟨a, C, dx, _, _, h1, h2, c, n, rfl, h3⟩⟩
theorem fld_whole {K : PySem.W.Frag} {C : Addr} (c : Cls K C) (n : NoAttr K C "whole") : IsF (rWeb C) K "whole" rNat Wb.whole := ⟨fun ⟨a, dx, l, m, h1, h2, h3, h4⟩ => ⟨a, C, dx, _, _, h1, h2, c, n, rfl, rfl⟩⟩
theorem fld_levels {K : PySem.W.Frag} {C : Addr} (c : Cls K C) (n : NoAttr K C "levels") : IsF (rWeb C) K "levels" (rLst rNat) Wb.levels := ⟨fun ⟨a, dx, l, m, h1, h2, h3, h4⟩ => ⟨a, C, dx, _, _, h1, h2, c, n, rfl, h4⟩⟩
def SpWeb (C : Addr) : Sp := fun vs H Q _ => ∃ (F : Hp) (a dx : Addr) (l m : V) (W : Wb), vs = [.ref a, .int (W.spots : Int), l, .int (W.whole : Int), m] ∧ Ex F H ∧ F a = none ∧ H a = some (.ins C dx []) ∧ rLst (rPr rNat rNat) F l W.ties ∧ rLst rNat F m W.levels ∧
  ∀ F' H', Gr (M1 a) F H F' H' → rWeb C F' (.ref a) W → Q .non H'
instance {C : Addr} : SpLen (SpWeb C) 5 := ⟨fun ⟨_, _, _, _, _, _, h, _⟩ => by rw [h]; rfl⟩
theorem ev_Web {σ : St} {F H : Hp} {ta tb tc td : TE} {C : Addr} {W : Wb} {E : XK} (ha : Ev rInt ta σ F H (W.spots : Int)) (hb : Ev (rLst (rPr rNat rNat)) tb σ F H W.ties) (hc : Ev rInt tc σ F H (W.whole : Int)) (hd : Ev (rLst rNat) td σ F H W.levels) :
    Ev (rWeb C) (tMake C (SpWeb C) [] E (tCons ta (tCons tb (tCons tc (tCons td tNil))))) σ F H W := fun F1 H1 g1 Q q =>
  ha F1 H1 g1 _ fun v F2 H2 g2 r => hb F2 H2 (g1.trans g2) _ fun w F3 H3 g3 r3 => hc F3 H3 ((g1.trans g2).trans g3) _ fun u F4 H4 g4 r4 => hd F4 H4 (((g1.trans g2).trans g3).trans g4) _ fun z F5 H5 g5 r5 => fun x dx nx ndx nex => by
    cases (show v = _ from r)
    cases (show u = _ from r4)
    have e1 : Ex F5 (upd (upd H5 dx (.own x)) x (.ins C dx [])) := (g5.fh.mut (g5.fh.free ndx)).mut (g5.fh.free nx)
    exact ⟨F5, x, dx, w, z, W, rfl, e1, g5.fh.free nx, upd_same, Mn.mono (g4.ff.trans g5.ff) r3, r5, fun F' H' g k => ⟨rfl, q _ F' H' ((((g2.trans g3).trans g4).trans g5).trans (.made (M := M0) nx ndx nex.symm g)) k⟩⟩
end El

set_option Elab.async false
set_option linter.all false
set_option maxRecDepth 100000
set_option maxHeartbeats 4000000
namespace El
open PySem PySem.Spec L2
def upB (p s : Nat) : Bool := decide (p / 2 ^ s % 2 = 1)
def pairsM (n : Nat) : List (Nat × Nat) := ((List.range (2 ^ n)).map fun p => ((List.range n).filter fun s => !upB p s).map fun s => (p, p + 2 ^ s)).flatten
def hsM (n : Nat) : List (List Nat) := aboveM (2 ^ n) (pairsM n)
def subB (n x y : Nat) : Bool := (List.range n).all fun s => upB y s || !upB x s
def factsB (n : Nat) (hs : List (List Nat)) : Bool :=
  (leastM hs == some 0) && (greatestM hs == some (2 ^ n - 1)) && ((List.range (2 ^ n)).all fun x => !decide (x ∈ hs.getD x [])) && ((List.range (2 ^ n)).all fun x => (List.range (2 ^ n)).all fun y => atMostM hs x y == subB n x y)
def pairsB (n : Nat) : Bool := decide ((pairsM n).length ≤ 100) && (pairsM n).all fun p => decide (p.1 < 2 ^ n) && decide (p.2 < 2 ^ n) && !decide (p.1 = p.2)
def hs1 : List (List Nat) := [[1], []]
theorem hs1_eq : hsM 1 = hs1 := by decide +kernel
theorem facts1 : factsB 1 hs1 = true := by decide +kernel
theorem pairs1 : pairsB 1 = true := by decide +kernel
def hs2 : List (List Nat) := [[2, 3, 1], [3], [3], []]
theorem hs2_eq : hsM 2 = hs2 := by decide +kernel
theorem facts2 : factsB 2 hs2 = true := by decide +kernel
theorem pairs2 : pairsB 2 = true := by decide +kernel
def hs3 : List (List Nat) := [[4, 6, 7, 5, 2, 3, 1], [5, 7, 3], [6, 7, 3], [7], [6, 7, 5], [7], [7], []]
theorem hs3_eq : hsM 3 = hs3 := by decide +kernel
theorem facts3 : factsB 3 hs3 = true := by decide +kernel
theorem pairs3 : pairsB 3 = true := by decide +kernel
def hs4 : List (List Nat) := [[8, 12, 14, 15, 13, 10, 11, 9, 4, 6, 7, 5, 2, 3, 1], [9, 13, 15, 11, 5, 7, 3], [10, 14, 15, 11, 6, 7, 3], [11, 15, 7], [12, 14, 15, 13, 6, 7, 5], [13, 15, 7], [14, 15, 7], [15], [12, 14, 15, 13, 10, 11, 9], [13, 15, 11], [14, 15, 11], [15], [14, 15, 13], [15], [15], []]
theorem hs4_eq : hsM 4 = hs4 := by decide +kernel
theorem facts4 : factsB 4 hs4 = true := by decide +kernel
theorem pairs4 : pairsB 4 = true := by decide +kernel
def hs5 : List (List Nat) := [[16, 24, 28, 30, 31, 29, 26, 27, 25, 20, 22, 23, 21, 18, 19, 17, 8, 12, 14, 15, 13, 10, 11, 9, 4, 6, 7, 5, 2, 3, 1], [17, 25, 29, 31, 27, 21, 23, 19, 9, 13, 15, 11, 5, 7, 3], [18, 26, 30, 31, 27, 22, 23, 19, 10, 14, 15, 11, 6, 7, 3], [19, 27, 31, 23, 11, 15, 7], [20, 28, 30, 31, 29, 22, 23, 21, 12, 14, 15, 13, 6, 7, 5], [21, 29, 31, 23, 13, 15, 7], [22, 30, 31, 23, 14, 15, 7], [23, 31, 15], [24, 28, 30, 31, 29, 26, 27, 25, 12, 14, 15, 13, 10, 11, 9], [25, 29, 31, 27, 13, 15, 11], [26, 30, 31, 27, 14, 15, 11], [27, 31, 15], [28, 30, 31, 29, 14, 15, 13], [29, 31, 15], [30, 31, 15], [31], [24, 28, 30, 31, 29, 26, 27, 25, 20, 22, 23, 21, 18, 19, 17], [25, 29, 31, 27, 21, 23, 19], [26, 30, 31, 27, 22, 23, 19], [27, 31, 23], [28, 30, 31, 29, 22, 23, 21], [29, 31, 23], [30, 31, 23], [31], [28, 30, 31, 29, 26, 27, 25], [29, 31, 27], [30, 31, 27], [31], [30, 31, 29], [31], [31], []]
theorem hs5_eq : hsM 5 = hs5 := by decide +kernel
theorem facts5 : factsB 5 hs5 = true := by decide +kernel
theorem pairs5 : pairsB 5 = true := by decide +kernel
theorem facts {n : Nat} (h0 : 1 ≤ n) (h1 : n ≤ 5) : factsB n (hsM n) = true := by
  match n, h0, h1 with
  | 1, _, _ => rw [hs1_eq]; exact facts1
  | 2, _, _ => rw [hs2_eq]; exact facts2
  | 3, _, _ => rw [hs3_eq]; exact facts3
  | 4, _, _ => rw [hs4_eq]; exact facts4
  | 5, _, _ => rw [hs5_eq]; exact facts5
theorem pairs_ok {n : Nat} (h0 : 1 ≤ n) (h1 : n ≤ 5) : pairsB n = true := by
  match n, h0, h1 with
  | 1, _, _ => exact pairs1
  | 2, _, _ => exact pairs2
  | 3, _, _ => exact pairs3
  | 4, _, _ => exact pairs4
  | 5, _, _ => exact pairs5
theorem pow_le {n : Nat} (h1 : n ≤ 5) : 2 ^ n ≤ 32 := by
  have : 2 ^ n ≤ 2 ^ 5 := Nat.pow_le_pow_right (by decide) h1
  exact this
theorem hs_least {n : Nat} (h0 : 1 ≤ n) (h1 : n ≤ 5) : leastM (hsM n) = some 0 := by
  have := facts h0 h1
  unfold factsB at this
  simp only [Bool.and_eq_true, beq_iff_eq] at this
  exact this.1.1.1
theorem hs_greatest {n : Nat} (h0 : 1 ≤ n) (h1 : n ≤ 5) : greatestM (hsM n) = some (2 ^ n - 1) := by
  have := facts h0 h1
  unfold factsB at this
  simp only [Bool.and_eq_true, beq_iff_eq] at this
  exact this.1.1.2
theorem hs_irr {n : Nat} (h0 : 1 ≤ n) (h1 : n ≤ 5) : ∀ x, x < 2 ^ n → x ∉ (hsM n).getD x [] := fun x hx hm => by
  have := facts h0 h1
  unfold factsB at this
  simp only [Bool.and_eq_true] at this
  have h2 := List.all_eq_true.mp this.1.2 x (List.mem_range.mpr hx)
  rw [decide_eq_true hm] at h2
  cases h2
theorem hs_sub {n : Nat} (h0 : 1 ≤ n) (h1 : n ≤ 5) {x y : Nat} (hx : x < 2 ^ n) (hy : y < 2 ^ n) : atMostM (hsM n) x y = subB n x y := by
  have := facts h0 h1
  unfold factsB at this
  simp only [Bool.and_eq_true] at this
  have h2 := List.all_eq_true.mp this.2 x (List.mem_range.mpr hx)
  have h3 := List.all_eq_true.mp h2 y (List.mem_range.mpr hy)
  exact beq_iff_eq.mp h3
theorem good_pairs {n : Nat} (h0 : 1 ≤ n) (h1 : n ≤ 5) : GoodO (2 ^ n) (pairsM n) := by
  have hp := pairs_ok h0 h1
  unfold pairsB at hp
  rw [Bool.and_eq_true] at hp
  refine ⟨Nat.one_le_two_pow, pow_le h1, of_decide_eq_true hp.1, fun p h => ?_, hs_irr h0 h1⟩
  have := List.all_eq_true.mp hp.2 p h
  simp only [Bool.and_eq_true, Bool.not_eq_true', decide_eq_true_eq, decide_eq_false_iff_not] at this
  exact ⟨this.1.1, this.1.2, this.2⟩
/-! ### moving -/
def tiedM (ties : List (Nat × Nat)) (s : Nat) : List Nat := (ties.filter fun x => decide (s = x.1) || decide (s = x.2)).map fun x => x.1 + x.2 - s
def countM (ties : List (Nat × Nat)) (p s : Nat) : Nat := ((tiedM ties s).filter fun y => upB p y).length
def standB (W : Wb) (p s k : Nat) : Bool := decide (k < W.levels.getD (countM W.ties p s) 0)
def movedM (W : Wb) (p s k : Nat) : Nat := p + (if standB W p s k then 2 ^ s else 0) - (if upB p s then 2 ^ s else 0)
theorem up_le {p s : Nat} (h : upB p s = true) : 2 ^ s ≤ p := by
  have h1 : p / 2 ^ s % 2 = 1 := of_decide_eq_true h
  have h2 : 1 ≤ p / 2 ^ s := by
    rcases Nat.eq_zero_or_pos (p / 2 ^ s) with h | h
    · rw [h] at h1; cases h1
    · exact h
  have h3 := (Nat.le_div_iff_mul_le (Nat.two_pow_pos s)).mp h2
  omega
theorem moved_int {W : Wb} {p s k : Nat} : (p : Int) + ((if standB W p s k then 1 else 0) - (if upB p s then 1 else 0)) * ((2 ^ s : Nat) : Int) = (movedM W p s k : Int) := by
  unfold movedM
  have hu := fun h : upB p s = true => up_le h
  revert hu
  generalize 2 ^ s = q
  intro hu
  cases h1 : standB W p s k <;> cases h2 : upB p s
  · simp
  · have := hu h2
    simp only [Bool.false_eq_true, if_false, if_true]
    omega
  · simp
  · have := hu h2
    simp only [if_true]
    omega
theorem add_lt : ((List.range 6).all fun n => (List.range n).all fun s => (List.range (2 ^ n)).all fun p => upB p s || decide (p + 2 ^ s < 2 ^ n)) = true := by decide +kernel
theorem moved_lt {W : Wb} {p s k : Nat} (hp : p < 2 ^ W.spots) (hs : s < W.spots) : movedM W p s k < 2 ^ W.spots := by
  have h1 := W.h1
  have h := List.all_eq_true.mp (List.all_eq_true.mp (List.all_eq_true.mp add_lt W.spots (List.mem_range.mpr (by omega))) s (List.mem_range.mpr hs)) p (List.mem_range.mpr hp)
  unfold movedM
  have hu := fun h : upB p s = true => up_le h
  have hq : upB p s = false → p + 2 ^ s < 2 ^ W.spots := fun h2 => by
    rw [h2] at h
    exact of_decide_eq_true h
  revert hu hq hp
  generalize 2 ^ s = q
  generalize 2 ^ W.spots = N
  intro hp hu hq
  cases h1 : standB W p s k <;> cases h2 : upB p s
  · simpa using hp
  · simp only [Bool.false_eq_true, if_false, if_true]
    omega
  · simpa using hq h2
  · simp only [if_true]
    omega
theorem tied_mem {W : Wb} {s y : Nat} (h : y ∈ tiedM W.ties s) : y < W.spots ∧ y ≠ s := by
  unfold tiedM at h
  obtain ⟨x, hx, rfl⟩ := List.mem_map.mp h
  obtain ⟨h1, h2⟩ := List.mem_filter.mp hx
  obtain ⟨h3, h4⟩ := W.h2 x h1
  rw [Bool.or_eq_true, decide_eq_true_eq, decide_eq_true_eq] at h2
  omega
theorem tied_nodup {W : Wb} {s : Nat} : (tiedM W.ties s).Nodup := by
  unfold tiedM
  have nd : (W.ties.filter fun x => decide (s = x.1) || decide (s = x.2)).Nodup := W.h3.filter _
  have hm : ∀ x ∈ (W.ties.filter fun x => decide (s = x.1) || decide (s = x.2)), (s = x.1 ∨ s = x.2) ∧ x.1 < x.2 := fun x hx => by
    obtain ⟨h1, h2⟩ := List.mem_filter.mp hx
    rw [Bool.or_eq_true, decide_eq_true_eq, decide_eq_true_eq] at h2
    exact ⟨h2, (W.h2 x h1).1⟩
  revert nd hm
  generalize (W.ties.filter fun x => decide (s = x.1) || decide (s = x.2)) = l
  intro nd hm
  rw [List.Nodup, List.pairwise_map]
  refine List.Pairwise.imp_of_mem (fun {x y} hx hy hne => ?_) nd
  intro z
  apply hne
  obtain ⟨a1, a2⟩ := hm x hx
  obtain ⟨b1, b2⟩ := hm y hy
  exact Prod.ext (by omega) (by omega)
theorem tied_len {W : Wb} {s : Nat} (hs : s < W.spots) : (tiedM W.ties s).length < W.spots := by
  have nd : (s :: tiedM W.ties s).Nodup := List.nodup_cons.mpr ⟨fun h => (tied_mem h).2 rfl, tied_nodup⟩
  have := nodup_lt nd fun y hy => by
    rcases List.mem_cons.mp hy with rfl | h
    · exact hs
    · exact (tied_mem h).1
  rw [List.length_cons] at this
  omega
theorem count_lt {W : Wb} {p s : Nat} (hs : s < W.spots) : countM W.ties p s < W.spots := by
  unfold countM
  have := List.length_filter_le (fun y => upB p y) (tiedM W.ties s)
  have := tied_len hs
  omega
def turnsML (W : Wb) : List (List Nat) := ((List.range W.spots).map fun s => (List.range W.whole).map fun k => (List.range (2 ^ W.spots)).map fun p => movedM W p s k).flatten
theorem flat_const {α : Type} {c : Nat} : ∀ {ls : List (List α)}, (∀ l ∈ ls, l.length = c) → ls.flatten.length = ls.length * c
  | [], _ => by simp
  | l :: ls, h => by
    rw [List.flatten_cons, List.length_append, flat_const fun m hm => h m (List.mem_cons_of_mem _ hm), h l List.mem_cons_self, List.length_cons, Nat.succ_mul]
    omega
theorem turns_len {W : Wb} : (turnsML W).length = W.spots * W.whole := by
  unfold turnsML
  rw [flat_const (c := W.whole) fun l hl => by obtain ⟨s, _, rfl⟩ := List.mem_map.mp hl; rw [List.length_map, List.length_range], List.length_map, List.length_range]
def turnsM (W : Wb) : Tn where
  many := 2 ^ W.spots
  maps := turnsML W
  h0 := Nat.one_le_two_pow
  h1 := pow_le W.h1
  h2 := by rw [turns_len]; exact Nat.mul_pos W.h0 W.h4
  h3 := by rw [turns_len]; exact Nat.mul_le_mul W.h1 W.h5
  h4 := fun m hm => by
    obtain ⟨l, hl, hm⟩ := List.mem_flatten.mp hm
    obtain ⟨s, hs, rfl⟩ := List.mem_map.mp hl
    obtain ⟨k, hk, rfl⟩ := List.mem_map.mp hm
    refine ⟨by rw [List.length_map, List.length_range], fun x hx => ?_⟩
    obtain ⟨p, hp, rfl⟩ := List.mem_map.mp hx
    exact moved_lt (List.mem_range.mp hp) (List.mem_range.mp hs)
theorem ties_len (W : Wb) : W.ties.length ≤ 25 := by
  have h1 := W.h1
  have nd : (W.ties.map fun p => p.1 * 5 + p.2).Nodup := by
    rw [List.Nodup, List.pairwise_map]
    refine List.Pairwise.imp_of_mem (fun {x y} hx hy hne => ?_) W.h3
    intro z
    apply hne
    have a := W.h2 x hx
    have b := W.h2 y hy
    exact Prod.ext (by omega) (by omega)
  have := nodup_lt (n := 25) nd fun y hy => by
    obtain ⟨p, hp, rfl⟩ := List.mem_map.mp hy
    have := W.h2 p hp
    omega
  rw [List.length_map] at this
  exact this
theorem worth {s : Nat} (h : s < 6) : atI ([1, 2, 4, 8, 16, 32] : List Int) (s : Int) = some ((2 ^ s : Nat) : Int) := by
  match s, h with
  | 0, _ => rfl
  | 1, _ => rfl
  | 2, _ => rfl
  | 3, _ => rfl
  | 4, _ => rfl
  | 5, _ => rfl
end El

set_option Elab.async false
set_option linter.all false
set_option maxRecDepth 100000
set_option maxHeartbeats 4000000
namespace El
open PySem PySem.Spec PySem.W L2
section
variable {prog : Program} {w : World} {A : Around} {E : Value → Shared → Prop} {s : Shared} {K : Frag} {x C L f : Addr} {h₀ : Heap} {m : Str → Option Value} {ox : Obj} {od : Option Obj} {b : Value}
/-- object.__ne__ of an instance whose class has its own __eq__ -/
theorem objNe_K (X : K.In s.heap) (I : InstAt s.heap x ox C od) (hs : findIn K (.ref C) "__eq__" = some (some (.ref f))) (hf : isFn K (.ref f) = true) (hu : A.units < cLine) {Q : Fin → Shared → Prop}
    (hcall : wpAny (model prog w) A (call (.ref f) [.ref x, b]) (fun v s' => ∃ c, v = .bool c ∧ Q (.done (.ret (.bool (!c)))) s') E s) : wpAny (model prog w) A (Builtin.«object.__ne__» ⟨[.ref x, b], []⟩) Q E s := by
  unfold Builtin.«object.__ne__»
  obtain ⟨hp, g, d, t, os⟩ := s
  repeat (first
    | with_reducible refine wpAny_cRoomFor hu ?_
    | (refine wpAny_bind (m := callSpecialIfBound? (.ref x) (Str.ofString "__eq__") [b])
        (ifBound_K X I hs hf (wpAny_mono hcall (fun v s' hr => by
          obtain ⟨c, rfl, hq⟩ := hr
          repeat (first | exact hq | exact wpAny_pure hq | exact wpAny_truthy_bool hq | (refine wpAny_bind (m := truthy (.bool _)) (wpAny_truthy_bool ?_)) | wp_step)) fun _ _ e => e)))
    | wp_step)
theorem tryNe_K (X : K.In s.heap) (I : InstAt s.heap x ox C od) (hne : findIn K (.ref C) "__ne__" = some (some (.builtin "object.__ne__"))) (hm : mroIn K C (.type "object") = some true)
    (hs : findIn K (.ref C) "__eq__" = some (some (.ref f))) (hf : isFn K (.ref f) = true) (hu : A.in1.units < cLine) {Q : Option Value → Shared → Prop}
    (hcall : wpAny (model prog w) A.in1 (call (.ref f) [.ref x, b]) (fun v s' => ∃ c, v = .bool c ∧ Q (some (.bool (!c))) s') E s) : wpAny (model prog w) A (tryCompare (.ref x) "__ne__" b) Q E s := by
  have FB := PySem.F.cmp_object
  have sub : Looks (model prog w) s.heap (isInstance (.ref x) (.type "object")) true := I.type.andThen (looks_mroIn X hm)
  have one : wpAny (model prog w) A (call (.builtin "object.__ne__") [.ref x, b]) (fun v s' => ∃ c, v = .bool c ∧ Q (some (.bool c)) s') E s :=
    wpAny_call (codeAny_call_builtin FB.ne.plain PySem.F.cmpEntry_ne (@check_slot (model prog w) _ _ s "object.__ne__" "object" "__ne__" (.ref x) [b] [] _ PySem.F.cmpKind_ne PySem.F.cmpSplit_ne sub (PySem.F.cmpArgs_ne (.ref x) b)
      (objNe_K X I hs hf hu (wpAny_mono hcall (fun v s' hv => by
        obtain ⟨c, rfl, hq⟩ := hv
        exact ⟨c, rfl, ⟨!c, rfl, hq⟩⟩) fun _ _ e => e))))
  unfold tryCompare
  refine wpAny_bind ?_
  simp only [callSpecialIfBound?, bindSpecialIfBound?]
  refine wpAny_holding (wpAny_bind (wpAny_bind (wpAny_bind (I.type.here ((looks_findIn X hne).here ?_)))))
  simp only [FB.ne.bind]
  refine wpAny_bind (wpAny_askSetting (wpAny_ite ?_))
  have fin : wpAny (model prog w) A (call (.builtin "object.__ne__") ([.ref x] ++ [b]) >>= fun v => pure (some v)) (fun v s' => ∃ c, v = some (.bool c) ∧ Q (some (.bool c)) s') E s :=
    wpAny_bind (wpAny_mono one (fun v s' h' => by obtain ⟨c, rfl, hq⟩ := h'; exact wpAny_pure ⟨c, rfl, hq⟩) fun _ _ h' => h')
  have back : ∀ (v : Option Value) s', (∃ c, v = some (Value.bool c) ∧ Q (some (.bool c)) s') → wpAny (model prog w) A (match v with | some .notImplemented => pure none | v => pure v) Q E s' := fun v s' ⟨c, e, hq⟩ => by
    subst e
    exact wpAny_pure hq
  split
  · exact wpAny_bind (wpAny_pure (wpAny_pure (wpAny_mono fin (fun v s' h' => by obtain ⟨c, rfl, hq⟩ := h'; exact wpAny_pure hq) fun _ _ e => e)))
  · exact wpAny_tryCatch (wpAny_bind (wpAny_pure (wpAny_pure (wpAny_mono fin (fun v s' h' => by obtain ⟨c, rfl, hq⟩ := h'; exact wpAny_pure hq) fun _ _ e => e))))
theorem richNe_K (F : PyProof.Rows.Fr h₀ L s.heap m) (X₀ : K.In h₀) (I : InstAt s.heap x ox C od) (hb : Looks (model prog w) s.heap (typeOf b) (.ref C)) (hne : findIn K (.ref C) "__ne__" = some (some (.builtin "object.__ne__"))) (hm : mroIn K C (.type "object") = some true)
    (hs : findIn K (.ref C) "__eq__" = some (some (.ref f))) (hf : isFn K (.ref f) = true) (hu : A.units < cLine) (hu1 : A.in1.units < cLine) {Q : Value → Shared → Prop}
    (hcall : wpAny (model prog w) A.in1 (call (.ref f) [.ref x, b]) (fun v s' => ∃ c, v = .bool c ∧ Q (.bool (!c)) s') E s) : wpAny (model prog w) A (richCompare .NotEq (.ref x) b) Q E s := by
  have X := X₀.keeps F.keep
  have one : wpAny (model prog w) A (tryCompare (.ref x) "__ne__" b) (fun r s' => ∃ v, r = some v ∧ Q v s') E s := tryNe_K X I hne hm hs hf hu1 (wpAny_mono hcall (fun v s' hv => by
    obtain ⟨c, rfl, hq⟩ := hv
    exact ⟨c, rfl, _, rfl, hq⟩) fun _ _ e => e)
  unfold richCompare
  simp only [oneThing_ref]
  refine wpAny_holding (wpAny_bind (wpAny_cRoomFor hu ?_))
  rw [cmpInfo_NotEq]
  dsimp only
  refine wpAny_bind (I.type.here (wpAny_bind (hb.here ?_)))
  rw [show (Value.ref C != Value.ref C) = false from by simp]
  simp only [Bool.false_eq_true, if_false]
  refine wpAny_bind (wpAny_pure ?_)
  simp only [Bool.false_eq_true, if_false]
  refine wpAny_bind (wpAny_mono one (fun r s' z => ?_) fun _ _ e => e)
  obtain ⟨v, rfl, hq⟩ := z
  exact wpAny_pure hq
end
/-- x != y, by the class's own ==, which says they are equal -/
def rNeG (D : Eqv) : R2 := fun x y H Q => D x y H ∧ ∀ H', Ext H H' → Q (.bl false) H'
theorem op_neG {X : Cx} {CX : CXT} {n : Nat} {C f : Addr} {fd : FuncData} {ps : List Str} {R : Addr → Addr → Hp → Prop} {E : XK} (F : FnOk X.prog X.w X.K X.mg X.base CX n f fd ps (spEq R))
    (hs : findIn X.K (.ref C) "__eq__" = some (some (.ref f))) (hf : isFn X.K (.ref f) = true) (hne : findIn X.K (.ref C) "__ne__" = some (some (.builtin "object.__ne__"))) (hm : mroIn X.K C (.type "object") = some true) (hb : Binds X.K fd ps []) (hx : Passes CX X E) (hr : Room (n + 1) X.A) : OpR X (compareOp .NotEq) (rNeG (DIns C R)) := by
  intro pins s σ H x y v u Q I rx ry hq
  obtain ⟨d, q⟩ := hq
  show wpAny (model X.prog X.w) X.A (richCompare .NotEq v u) (EP X pins σ Q) X.xe s
  obtain ⟨a, b, dx, dy, fs, gs, rfl, rfl, ha, hb', hr'⟩ := d
  cases rx
  cases ry
  obtain ⟨mA, J, _⟩ := ins_get I.hok ha
  obtain ⟨mB, J', _⟩ := ins_get I.hok hb'
  obtain ⟨od, J, _⟩ := J.look
  obtain ⟨od', J', _⟩ := J'.look
  obtain ⟨m, hF⟩ := I.fr
  have hu1 := hr.in1.units
  have hu2 := hr.units
  refine richNe_K hF I.ok.mod.kin J J'.type hne hm hs hf (by omega) (by omega) ?_
  have hsp : spEq R [.ref a, .ref b] H (fun v H' => v = .bl true ∧ Ext H H') E := ⟨a, b, rfl, hr', fun H' e => ⟨rfl, e⟩⟩
  have e0 : Env0 X.prog X.w X.K X.mg X.base X.A.in1 X.stack s H := by
    have e := I.env0
    exact ⟨e.frames, e.mod, e.bs, e.bsz, e.funs, e.frf, e.hok, e.bare⟩
  have hl := F.len _ _ _ _ hsp
  have r2 : Vals [V.ref a, V.ref b] [Value.ref a, Value.ref b] := .cons rfl (.cons rfl .nil)
  refine wpAny_call (codeAny_mono (F.run X.A.in1 X.stack s H ⟨[.ref a, .ref b], []⟩ [.ref a, .ref b] [.ref a, .ref b] _ E hr.in1 e0 (by
    have := hb s [.ref a, .ref b] I.kIn (by simpa using hl)
    simpa using this) r2 hsp) fun r s' hq => ?_)
  cases r with
  | error e => exact hx pins σ H s e s' I hq
  | ok fl =>
    cases fl with
    | ret w =>
      obtain ⟨z, H', I', rz, ez, ex⟩ := I.after hq
      subst ez
      cases rz
      exact ⟨true, rfl, .bl false, H', I', rfl, q H' ex⟩
    | next => exact False.elim hq
    | brk => exact False.elim hq
    | cont => exact False.elim hq
theorem ev_neTurns {σ : St} {F H : Hp} {ta tb : TE} {C : Addr} {t : Tn} (ha : Ev (rTurns C) ta σ F H t) (hb : Ev (rTurns C) tb σ F H t) : Ev rBl (tOp (rNeG (DIns C (REq C))) ta tb) σ F H false := fun F1 H1 g1 Q q =>
  ha F1 H1 g1 _ fun v F2 H2 g2 r => hb F2 H2 (g1.trans g2) _ fun w F3 H3 g3 r2 => by
    have r' := Mn.mono g3.ff r
    have r3 := r'
    have r4 := r2
    obtain ⟨a, dx, l, rfl, h1, h2⟩ := r3
    obtain ⟨b, dy, l', rfl, h3, h4⟩ := r4
    exact ⟨⟨a, b, dx, dy, _, _, rfl, rfl, g3.fh _ _ h1, g3.fh _ _ h3, F3, t, g3.fh, r', r2⟩, fun H' x => q _ F3 H' ((g2.trans g3).trans (.ext g3.fh x)) rfl⟩
end El

set_option Elab.async false
set_option linter.all false
set_option maxRecDepth 100000
set_option maxHeartbeats 4000000
namespace El
open PySem PySem.Spec L2
/-! ### tuples of four -/
def r4 {α β γ δ : Type} (R : Rp α) (S : Rp β) (T : Rp γ) (U : Rp δ) : Rp (α × β × γ × δ) := fun H v p => ∃ a x y z u, v = .ref a ∧ H a = some (.tup [x, y, z, u]) ∧ R H x p.1 ∧ S H y p.2.1 ∧ T H z p.2.2.1 ∧ U H u p.2.2.2
instance {α β γ δ : Type} {R : Rp α} {S : Rp β} {T : Rp γ} {U : Rp δ} [m : Mn R] [n : Mn S] [o : Mn T] [q : Mn U] : Mn (r4 R S T U) := ⟨fun e ⟨a, x, y, z, u, h1, h2, h3, h4, h5, h6⟩ => ⟨a, x, y, z, u, h1, e _ _ h2, m.mono e h3, n.mono e h4, o.mono e h5, q.mono e h6⟩⟩
instance {α β γ δ : Type} {R : Rp α} {S : Rp β} {T : Rp γ} {U : Rp δ} [d1 : Dt R] [d2 : Dt S] [d3 : Dt T] [d4 : Dt U] : Dt (r4 R S T U) where
  data := fun p => .tuple [d1.data p.1, d2.data p.2.1, d3.data p.2.2.1, d4.data p.2.2.2]
  rep := fun e ⟨a, x, y, z, u, h1, h2, h3, h4, h5, h6⟩ => by
    subst h1
    exact .tup (SqT.of (e _ _ h2)) (.cons (d1.rep e h3) (.cons (d2.rep e h4) (.cons (d3.rep e h5) (.cons (d4.rep e h6) .nil))))
  lay := fun p => by
    show (PyData.canLay0 (d1.data p.1) && (PyData.canLay0 (d2.data p.2.1) && (PyData.canLay0 (d3.data p.2.2.1) && (PyData.canLay0 (d4.data p.2.2.2) && true)))) = true
    rw [d1.lay, d2.lay, d3.lay, d4.lay]
    rfl
  dep := 1 + max d1.dep (max d2.dep (max d3.dep d4.dep))
  depth := fun p => by
    have h1 := d1.depth p.1
    have h2 := d2.depth p.2.1
    have h3 := d3.depth p.2.2.1
    have h4 := d4.depth p.2.2.2
    show max (PyData.depth (d1.data p.1)) (max (PyData.depth (d2.data p.2.1)) (max (PyData.depth (d3.data p.2.2.1)) (max (PyData.depth (d4.data p.2.2.2)) 0))) + 1 ≤ _
    omega
  eqv := fun x y => by
    show (PyData.eqv (d1.data x.1) (d1.data y.1) && (PyData.eqv (d2.data x.2.1) (d2.data y.2.1) && (PyData.eqv (d3.data x.2.2.1) (d3.data y.2.2.1) && (PyData.eqv (d4.data x.2.2.2) (d4.data y.2.2.2) && true)))) = true ↔ _
    rw [Bool.and_eq_true, Bool.and_eq_true, Bool.and_eq_true, Bool.and_true, d1.eqv, d2.eqv, d3.eqv, d4.eqv]
    obtain ⟨a, b, c, d⟩ := x
    obtain ⟨a', b', c', d'⟩ := y
    simp
theorem Paired.erase {α β : Type} {F : α → β → Prop} : ∀ {as : List α} {bs : List β} (n : Nat), Paired F as bs → Paired F (as.eraseIdx n) (bs.eraseIdx n)
  | _, _, _, .nil => .nil
  | _, _, 0, .cons _ t => t
  | _, _, n + 1, .cons r t => .cons r (Paired.erase n t)
theorem erase_perm {α : Type} : ∀ {l : List α} {i : Nat} {x : α}, l[i]? = some x → (x :: l.eraseIdx i).Perm l
  | [], i, x, h => by simp at h
  | a :: l, 0, x, h => by simp at h; subst h; exact .refl _
  | a :: l, i + 1, x, h => (List.Perm.swap a x _).trans (.cons a (erase_perm (by simpa using h)))
theorem seqIx {d len : Nat} (h : d < len) : seqIndex? (d : Int) len = some d := by
  unfold seqIndex?
  simp
  omega
def Sp5 {α β γ δ ε ζ : Type} (R : Rp α) (S : Rp β) (T : Rp γ) (U : Rp δ) (X : Rp ζ) (Pre : α → β → γ → δ → ζ → Prop) (W : Rp ε) (f : α → β → γ → δ → ζ → ε) : Sp := fun vs H Q _ => ∃ F v w u u' u'' x y z z' z'', vs = [v, w, u, u', u''] ∧ Ex F H ∧ R F v x ∧ S F w y ∧ T F u z ∧ U F u' z' ∧ X F u'' z'' ∧ Pre x y z z' z'' ∧ ∀ r F' H', Gr M0 F H F' H' → W F' r (f x y z z' z'') → Q r H'
instance {α β γ δ ε ζ : Type} {R : Rp α} {S : Rp β} {T : Rp γ} {U : Rp δ} {X : Rp ζ} {W : Rp ε} {p : α → β → γ → δ → ζ → Prop} {f : α → β → γ → δ → ζ → ε} : SpLen (Sp5 R S T U X p W f) 5 := ⟨fun ⟨_, _, _, _, _, _, _, _, _, _, _, h, _⟩ => by rw [h]; rfl⟩
section
variable {K : PySem.W.Frag} {σ : St} {F H F' H' : Hp} {ta tb tc td te tl tx : TE} {tt : TT} {α β γ δ ε ζ : Type} {R : Rp α} {S : Rp β} {T : Rp γ} {U : Rp δ} {X : Rp ζ} {W : Rp ε} {x : α} {y : β} {z : γ} {u : δ} {o : ζ} {xs : List α} {ys : List β} {a : Addr} {c N : Nat} {D : Ends} {ts : TS} {E : XK}
theorem ev_call5 {Pre : α → β → γ → δ → ζ → Prop} {f : α → β → γ → δ → ζ → ε} (ha : Ev R ta σ F H x) (hb : Ev S tb σ F H y) (hc : Ev T tc σ F H z) (hd : Ev U td σ F H u) (hx : Ev X tx σ F H o) (p : Pre x y z u o) (m : Mn R := by infer_instance) (n : Mn S := by infer_instance) (m2 : Mn T := by infer_instance) (m3 : Mn U := by infer_instance) :
    Ev W (tCall (Sp5 R S T U X Pre W f) [] E (tCons ta (tCons tb (tCons tc (tCons td (tCons tx tNil)))))) σ F H (f x y z u o) := fun F1 H1 g1 Q q =>
  ha F1 H1 g1 _ fun v F2 H2 g2 r1 => hb F2 H2 (g1.trans g2) _ fun w F3 H3 g3 r2 => hc F3 H3 ((g1.trans g2).trans g3) _ fun v3 F4 H4 g4 r3 => hd F4 H4 (((g1.trans g2).trans g3).trans g4) _ fun v4 F5 H5 g5 r4 => hx F5 H5 ((((g1.trans g2).trans g3).trans g4).trans g5) _ fun v5 F6 H6 g6 r5 =>
    ⟨F6, v, w, v3, v4, v5, x, y, z, u, o, rfl, g6.fh, m.mono (g3.ff.trans (g4.ff.trans (g5.ff.trans g6.ff))) r1, n.mono (g4.ff.trans (g5.ff.trans g6.ff)) r2, m2.mono (g5.ff.trans g6.ff) r3, m3.mono g6.ff r4, r5, p, fun r F' H' g k => q r F' H' (g2.trans (g3.trans (g4.trans (g5.trans (g6.trans g))))) k⟩
/-- a tuple of four, as an expression -/
theorem ev_r4 (ha : Ev R ta σ F H x) (hb : Ev S tb σ F H y) (hc : Ev T tc σ F H z) (hd : Ev U td σ F H u) (m : Mn R := by infer_instance) (n : Mn S := by infer_instance) (m2 : Mn T := by infer_instance) (m3 : Mn U := by infer_instance) :
    Ev (r4 R S T U) (tTup (tCons ta (tCons tb (tCons tc (tCons td tNil))))) σ F H (x, y, z, u) := fun F1 H1 g1 Q q =>
  ha F1 H1 g1 _ fun v F2 H2 g2 r1 => hb F2 H2 (g1.trans g2) _ fun w F3 H3 g3 r2 => hc F3 H3 ((g1.trans g2).trans g3) _ fun v3 F4 H4 g4 r3 => hd F4 H4 (((g1.trans g2).trans g3).trans g4) _ fun v4 F5 H5 g5 r4 =>
    ⟨by show 4 ≤ sizeLine; decide, fun B hB => by
      have g6 : Gr M0 F5 H5 (upd F5 B (.tup [v, w, v3, v4])) (upd H5 B (.tup [v, w, v3, v4])) := .new g5.fh hB
      exact q _ _ _ (g2.trans (g3.trans (g4.trans (g5.trans g6)))) ⟨B, v, w, v3, v4, rfl, upd_same, m.mono (g3.ff.trans (g4.ff.trans (g5.ff.trans g6.ff))) r1, n.mono (g4.ff.trans (g5.ff.trans g6.ff)) r2, m2.mono (g5.ff.trans g6.ff) r3, m3.mono g6.ff r4⟩⟩
theorem es_r4 {P1 : α → Prop} {P2 : β → Prop} {P3 : γ → Prop} {P4 : δ → Prop} {c1 c2 c3 c4 : Nat} (ha : EvS a c1 R ta σ F H P1) (hb : EvS a c2 S tb σ F H P2) (hc : EvS a c3 T tc σ F H P3) (hd : EvS a c4 U td σ F H P4) (m : Mn R := by infer_instance) (n : Mn S := by infer_instance) (m2 : Mn T := by infer_instance) (m3 : Mn U := by infer_instance) :
    EvS a (c1 + c2 + c3 + c4) (r4 R S T U) (tTup (tCons ta (tCons tb (tCons tc (tCons td tNil))))) σ F H (fun p => P1 p.1 ∧ P2 p.2.1 ∧ P3 p.2.2.1 ∧ P4 p.2.2.2) := fun F1 H1 N g fa s Q q =>
  ha F1 H1 (N + c4 + c3 + c2) g fa (s.le (by omega)) _ fun v x F2 H2 g2 fa2 s2 p1 r1 => hb F2 H2 (N + c4 + c3) (g.trans g2) fa2 s2 _ fun w y F3 H3 g3 fa3 s3 p2 r2 => hc F3 H3 (N + c4) ((g.trans g2).trans g3) fa3 s3 _ fun v3 z F4 H4 g4 fa4 s4 p3 r3 => hd F4 H4 N (((g.trans g2).trans g3).trans g4) fa4 s4 _ fun v4 u F5 H5 g5 fa5 s5 p4 r4 =>
    ⟨by show 4 ≤ sizeLine; decide, fun B hB => by
      have g6 : Gr M0 F5 H5 (upd F5 B (.tup [v, w, v3, v4])) (upd H5 B (.tup [v, w, v3, v4])) := .new g5.fh hB
      obtain ⟨o, ho⟩ := s5.someO
      exact q _ (x, y, z, u) _ _ (g2.trans (g3.trans (g4.trans (g5.trans g6.up)))) (g6.nn ho fa5) (s5.gr g6) ⟨p1, p2, p3, p4⟩ ⟨B, v, w, v3, v4, rfl, upd_same, m.mono (g3.ff.trans (g4.ff.trans (g5.ff.trans g6.ff))) r1, n.mono (g4.ff.trans (g5.ff.trans g6.ff)) r2, m2.mono (g5.ff.trans g6.ff) r3, m3.mono g6.ff r4⟩⟩
/-- x, y, z, u = e, e a tuple of four -/
theorem x_quadS {i j k l : Nat} {P : α × β × γ × δ → Prop} (h : EvS a c (r4 R S T U) te σ F H P) (e : Ex F H) (fa : F a = none) (s : Src H a N) (hc : c ≤ N)
    (kk : ∀ v w v3 v4 x F' H', Gr (M1 a) F H F' H' → F' a = none → Src H' a (N - c) → P x → R F' v x.1 → S F' w x.2.1 → T F' v3 x.2.2.1 → U F' v4 x.2.2.2 → D.nx ((((σ.set i (some v)).set j (some w)).set k (some v3)).set l (some v4)) H') : tAsg te (gTup K 4 (gCons (gName i) (gCons (gName j) (gCons (gName k) (gCons (gName l) gNil))))) D σ H :=
  h F H (N - c) (.refl e) fa (s.le (by omega)) _ fun v x F' H' g fa' s' p ⟨b, u1, u2, u3, u4, eb, hb, r1, r2, r3, r4⟩ => by
    subst eb
    exact ⟨b, [u1, u2, u3, u4], rfl, SqT.of (g.fh _ _ hb), rfl, u1, [u2, u3, u4], rfl, u2, [u3, u4], rfl, u3, [u4], rfl, u4, [], rfl, rfl, kk u1 u2 u3 u4 x F' H' g fa' s' p r1 r2 r3 r4⟩
/-- xs.extend(e), e a draw -/
theorem x_extS {l : Addr} {i : Nat} {P : List α → Prop} {vs : List V} (hne : l ≠ a) (h : EvS a c (rLst R) te σ F H P) (e : Ex F H) (fa : F a = none) (s : Src H a N) (hc : c ≤ N) (hv : σ[i]? = some (some (.ref l))) (hl : H l = some (.lst vs)) (hz : ∀ zs, P zs → vs.length + zs.length ≤ sizeLine)
    (k : ∀ ws zs F' H', Gr (M1 a) F H F' H' → F' a = none → Src H' a (N - c) → P zs → Paired (R F') ws zs → H' l = some (.lst vs) → D.nx σ (upd H' l (.lst (vs ++ ws)))) : tDrop (tBM K "list" rExtend (tVar i) (tCons te tNil)) D σ H :=
  ⟨.ref l, hv, .inl ⟨rfl, vs, SqL.of hl⟩, h F H (N - c) (.refl e) fa (s.le (by omega)) _ fun w zs F' H' g fa' s' p ⟨b, ws, eb, hb, pr⟩ => by
    subst eb
    exact ⟨l, b, vs, ws, rfl, rfl, g.hh _ _ hne hl, g.fh _ _ hb, by rw [pr.length]; exact hz zs p, k ws zs F' H' g fa' s' p pr (g.hh _ _ hne hl)⟩⟩
/-- [elt for k in range(m, n) if test], the test a draw -/
theorem es_lcR2F {j B m n c2 : Nat} {vs : List Nat} (f : Nat → β) (ha : ∀ F1 H1, Gr (M1 a) F H F1 H1 → F1 a = none → Ev rInt ta σ F1 H1 (m : Int)) (hb : ∀ F1 H1, Gr (M1 a) F H F1 H1 → F1 a = none → Ev rInt tb σ F1 H1 (n : Int)) (hB : n - m ≤ B) (hB2 : B ≤ 1000000) (hm : m ≤ 1000000) (hn : n ≤ 1000000) (hw : ∀ v, wipe ((wipe σ vs).set j (some v)) vs = wipe σ vs)
    (ht : ∀ i : Nat, m + i < n → ∀ F1 H1, Gr (M1 a) F H F1 H1 → F1 a = none → EvTS a c2 tt ((wipe σ vs).set j (some (.int ((m + i : Nat) : Int)))) F1 H1 (fun _ => True))
    (he : ∀ i : Nat, m + i < n → ∀ F1 H1, Gr (M1 a) F H F1 H1 → F1 a = none → Ev S te ((wipe σ vs).set j (some (.int ((m + i : Nat) : Int)))) F1 H1 (f (m + i))) (m' : Mn S := by infer_instance) :
    EvS a (B * c2) (rLst S) (tLc (iRng2 (tCons ta (tCons tb tNil))) (gName j) tt te vs) σ F H (fun l => ∃ is : List Nat, l = is.map f ∧ is.Nodup ∧ is.length ≤ n - m ∧ ∀ i ∈ is, m ≤ i ∧ i < n) := by
  intro F1 H1 N g1 fa s Q q
  obtain ⟨o1, ho1⟩ := s.someO
  refine ha F1 H1 g1 fa F1 H1 (.refl g1.fh) _ fun v F2 H2 g2 ea => ?_
  have fa2 := g2.nn ho1 fa
  have s2 := s.gr g2
  obtain ⟨o2, ho2⟩ := s2.someO
  refine hb F2 H2 (g1.trans g2.up) fa2 F2 H2 (.refl g2.fh) _ fun w F3 H3 g3 eb => ?_
  have fa3 := g3.nn ho2 fa2
  have s3 := s2.gr g3
  have g123 := g1.trans (g2.trans g3).up
  refine ⟨(m : Int), (n : Int), by rw [show v = _ from ea, show w = _ from eb], ⟨by omega, by omega, by omega, by omega⟩, fun B' hD => ?_⟩
  rw [show ((n : Int) - (m : Int)).toNat = n - m by omega]
  have hne : B' ≠ a := fun z => by
    subst z
    exact s3.hn hD
  refine lc_range (lo := (m : Int)) (n := n - m) (fun i H' => ∃ F' us is, Gr (M1 a) F3 H3 F' H' ∧ F' a = none ∧ Src H' a (N + (B - i) * c2) ∧ F' B' = none ∧ H' B' = some (.lst us) ∧ is.length ≤ i ∧ Paired (S F') us (is.map f) ∧ is.Nodup ∧ ∀ t ∈ is, m ≤ t ∧ t < m + i)
    ⟨F3, [], [], .loc g3.fh hD, fa3, (by rw [Nat.sub_zero]; exact s3.ex (upd_ne hne.symm)), g3.fh.free hD, upd_same, Nat.le_refl _, .nil, List.nodup_nil, fun t h => nomatch h⟩ ?_ ?_
  · rintro i H' hi ⟨F', us, is, g, fa', s', fD, hD', hl, pu, nd, hP⟩
    have e0 : (m : Int) + (i : Int) = ((m + i : Nat) : Int) := by omega
    rw [e0]
    refine ⟨hw _, ?_⟩
    have hbb : (B - i) * c2 = (B - (i + 1)) * c2 + c2 := by
      rw [show B - i = (B - (i + 1)) + 1 by omega, Nat.succ_mul]
    refine ht i (by omega) F' H' (g123.trans g) fa' F' H' (N + (B - (i + 1)) * c2) (.refl g.fh) fa' (s'.le (by omega)) _ fun b F4 H4 g4 fa4 s4 _ => ?_
    have hD4 : H4 B' = some (.lst us) := g4.hh _ _ hne hD'
    have fD4 : F4 B' = none := g4.nw B' hne (by rw [hD']; exact fun z => nomatch z) fD
    cases b with
    | false => exact ⟨F4, us, is, g.trans g4, fa4, s4, fD4, hD4, by omega, Paired.up g4.ff pu, nd, fun t ht => by have := hP t ht; omega⟩
    | true =>
      refine he i (by omega) F4 H4 (g123.trans (g.trans g4)) fa4 F4 H4 (.refl g4.fh) _ fun u5 F5 H5 g5 r5 => ?_
      obtain ⟨o4, ho4⟩ := s4.someO
      have hD5 := g5.hx _ _ hD4
      have fD5 := g5.nn hD4 fD4
      refine ⟨us, hD5, ?_, F5, us ++ [u5], is ++ [m + i], ((g.trans g4).trans g5.up).set' fD5 (.inl hD), g5.nn ho4 fa4, (s4.gr g5).ex (upd_ne hne.symm), fD5, upd_same, by rw [List.length_append]; show _ + 1 ≤ _; omega, ?_, ?_, fun t ht => ?_⟩
      · rw [pu.length, List.length_map, sizeLine_eq]
        omega
      · rw [List.map_append]
        exact (Paired.up (g4.ff.trans g5.ff) pu).snoc r5
      · refine List.nodup_append.mpr ⟨nd, by simp, fun x hx y hy => ?_⟩
        rw [List.mem_singleton.mp hy]
        have := hP x hx
        omega
      · rcases List.mem_append.mp ht with h | h
        · have := hP t h; omega
        · rw [List.mem_singleton.mp h]; omega
  · rintro H' ⟨F', us, is, g, fa', s', fD, hD', hl, pu, nd, hP⟩
    exact q _ (is.map f) _ _ ((g2.trans g3).up.trans (g.frz hD' (g3.fh.free hD) (.inl hD))) (by rw [upd_ne hne.symm]; exact fa') (s'.le (Nat.le_add_right _ _)) ⟨is, rfl, nd, hl, fun t ht => by have := hP t ht; omega⟩ ⟨B', us, rfl, upd_same, Paired.up (g.fh.frz hD' fD) pu⟩
/-- [elt for x, y in zip(xs, ys)] -/
theorem ev_lcZ {zs : List γ} {i j : Nat} {vs : List Nat} (ha : Ev (rLst R) ta σ F H xs) (hb : Ev (rLst S) tb σ F H ys) (hlen : zs.length = min xs.length ys.length) (hz : zs.length ≤ 1000000) (hw : ∀ v w, wipe (((wipe σ vs).set i (some v)).set j (some w)) vs = wipe σ vs)
    (he : ∀ (n : Nat) x y z v w F1 H1, xs[n]? = some x → ys[n]? = some y → zs[n]? = some z → Gr M0 F H F1 H1 → R F1 v x → S F1 w y → Ev T te (((wipe σ vs).set i (some v)).set j (some w)) F1 H1 z) (m : Mn R := by infer_instance) (m2 : Mn S := by infer_instance) (m' : Mn T := by infer_instance) :
    Ev (rLst T) (tLc (iZip K (tCons ta (tCons tb tNil))) (gTup K 2 (gCons (gName i) (gCons (gName j) gNil))) tYes te vs) σ F H zs := by
  intro F1 H1 g1 Q q
  refine ha F1 H1 g1 _ fun v F2 H2 g2 ⟨a, ws, ea, hl, pr⟩ => hb F2 H2 (g1.trans g2) _ fun v2 F3 H3 g3 ⟨b, us2, eb, hl2, pr2⟩ => ⟨a, b, ws, us2, by rw [ea, eb], SqL.of (g3.fh _ _ (g3.ff _ _ hl)), SqL.of (g3.fh _ _ hl2), fun D hD => ?_⟩
  refine lc_it (walk_zip (n := zs.length) (by rw [pr.length, pr2.length]; exact hlen)) (fun i H' => ∃ F' us, Gr M0 F3 H3 F' H' ∧ F' D = none ∧ H' D = some (.lst us) ∧ Paired (T F') us (zs.take i)) ⟨F3, [], .loc g3.fh hD, g3.fh.free hD, upd_same, .nil⟩ (fun i H' _ ⟨F', us, g, _⟩ => ⟨SqL.of (g.fh _ _ (g.ff _ _ (g3.ff _ _ hl))), SqL.of (g.fh _ _ (g.ff _ _ hl2))⟩) ?_ ?_
  · rintro n w H' H4 hi ⟨F', us, g, fD, hD', pu⟩ ⟨B, u1, u2, rfl, hT, rfl, h1, h2⟩
    obtain ⟨x, hx, rx⟩ := Paired.getL pr h1
    obtain ⟨y, hy, ry⟩ := Paired.getL pr2 h2
    have hzn : zs[n]? = some zs[n] := List.getElem?_eq_getElem hi
    have gB : Gr M0 F' H' F' (upd H' B (.tup [u1, u2])) := .loc g.fh hT
    have hBD : B ≠ D := fun z => by subst z; rw [hD'] at hT; cases hT
    refine ⟨B, [u1, u2], rfl, SqT.of upd_same, rfl, u1, [u2], rfl, u2, [], rfl, rfl, hw _ _, ?_⟩
    refine he n x y zs[n] u1 u2 F' _ hx hy hzn ((((g1.trans g2).trans g3).trans g).trans gB) (m.mono (g3.ff.trans g.ff) rx) (m2.mono g.ff ry) F' _ (.refl gB.fh) _ fun u F5 H5 g5 r5 => ?_
    have hD2 := gB.hx _ _ hD'
    have g45 := gB.trans g5
    refine ⟨us, g45.hx _ _ hD', ?_, F5, us ++ [u], (g.trans g45).set' (g45.nn hD' fD) (.inl hD), g45.nn hD' fD, upd_same, ?_⟩
    · rw [pu.length, List.length_take, sizeLine_eq]
      omega
    · rw [List.take_add_one, hzn]
      exact (Paired.up g45.ff pu).snoc r5
  · rintro H' ⟨F', us, g, fD, hD', pu⟩
    rw [List.take_length] at pu
    exact q _ _ _ ((g2.trans g3).trans (g.frz hD' (g3.fh.free hD) (.inl hD))) ⟨D, us, rfl, upd_same, Paired.up (g.fh.frz hD' fD) pu⟩
theorem kzip {e e2 : Expr} {ta : TA} {p pos tpos : Pos} {elts : List Expr} {kk : Nat} {X : Cx} (hg : Gl X "zip") (hm : X.mg "zip" = none) (ha : PA X [e, e2] ta)
    (hs : starEach [e, e2] X.env = (false, eval e X.env) :: starEach [e2] X.env := by rfl) (hpl : (backTo pos (starEach [e2] X.env)).any (·.1) = false := by rfl) (hK : X.K = K := by rfl) :
    PI X (.Tuple elts kk tpos) (.Call (.Name "zip" p) [e, e2] [] pos) (iZip K ta) := by
  subst hK
  exact pi_zip hg hm ha hs hpl
end
end El

set_option Elab.async false
set_option linter.all false
set_option maxRecDepth 100000
set_option maxHeartbeats 4000000
namespace El
open PySem PySem.Spec L2
def upsM (p n : Nat) : List Bool := (List.range n).map (upB p)
def placeM (us : List Bool) : Nat := us.foldr (fun b a => 2 * a + (if b = true then 1 else 0)) 0
def besideM (ties : List (Nat × Nat)) (s : Nat) : List Nat := ((ties.filter fun x => decide (x.1 = s)).map (·.2)) ++ ((ties.filter fun x => decide (x.2 = s)).map (·.1))
def lcntM (ups : List Bool) (ties : List (Nat × Nat)) (s : Nat) : Nat := ((besideM ties s).filter fun o => ups.getD o false).length
def lmovedM (ups : List Bool) (ties : List (Nat × Nat)) (levels : List Nat) (s k : Nat) : List Bool := ups.set s (decide (k < levels.getD (lcntM ups ties s) 0))
def mvM (ties : List (Nat × Nat)) (levels : List Nat) (p s k : Nat) : Nat := p + (if decide (k < levels.getD (countM ties p s) 0) = true then 2 ^ s else 0) - (if upB p s = true then 2 ^ s else 0)
def lmapsM (spots : Nat) (ties : List (Nat × Nat)) (whole : Nat) (levels : List Nat) (many : Nat) : List (List Nat) := ((List.range spots).map fun s => (List.range whole).map fun k => (List.range many).map fun p => mvM ties levels p s k).flatten
theorem lmaps_eq (W : Wb) : lmapsM W.spots W.ties W.whole W.levels (2 ^ W.spots) = turnsML W := rfl
theorem beside_len (g : Nat → Bool) (s : Nat) : ∀ ties : List (Nat × Nat), (∀ x ∈ ties, x.1 < x.2) → ((besideM ties s).filter g).length = ((tiedM ties s).filter g).length
  | [], _ => rfl
  | x :: l, h => by
    have ih := beside_len g s l fun y hy => h y (List.mem_cons_of_mem _ hy)
    have hx := h x List.mem_cons_self
    unfold besideM tiedM at ih ⊢
    rw [List.filter_append, List.length_append] at ih ⊢
    rw [List.filter_cons, List.filter_cons, List.filter_cons]
    by_cases h1 : x.1 = s
    · have h2 : x.2 ≠ s := by omega
      rw [if_pos (decide_eq_true h1), if_neg (by rw [decide_eq_false h2]; exact Bool.false_ne_true), if_pos (by rw [decide_eq_true h1.symm]; rfl), List.map_cons, List.map_cons, List.filter_cons, List.filter_cons, show x.1 + x.2 - s = x.2 by omega]
      split
      · rw [List.length_cons, List.length_cons]; omega
      · exact ih
    · by_cases h2 : x.2 = s
      · rw [if_neg (by rw [decide_eq_false h1]; exact Bool.false_ne_true), if_pos (decide_eq_true h2), if_pos (by rw [decide_eq_true h2.symm]; exact Bool.or_true _), List.map_cons, List.map_cons, List.filter_cons, List.filter_cons, show x.1 + x.2 - s = x.1 by omega]
        split
        · rw [List.length_cons, List.length_cons]; omega
        · exact ih
      · rw [if_neg (by rw [decide_eq_false h1]; exact Bool.false_ne_true), if_neg (by rw [decide_eq_false h2]; exact Bool.false_ne_true), if_neg (by rw [decide_eq_false (fun z => h1 z.symm), decide_eq_false (fun z => h2 z.symm)]; exact Bool.false_ne_true)]
        exact ih
theorem ups_len {p n : Nat} : (upsM p n).length = n := by unfold upsM; rw [List.length_map, List.length_range]
theorem ups_get {p n s : Nat} (h : s < n) : (upsM p n).getD s false = upB p s := by
  unfold upsM
  rw [List.getD_eq_getElem?_getD, List.getElem?_map, List.getElem?_range h]
  rfl
theorem ups_at {p n s : Nat} (h : s < n) : (upsM p n)[s]? = some (upB p s) := by
  unfold upsM
  rw [List.getElem?_map, List.getElem?_range h]
  rfl
theorem beside_mem {W : Wb} {s y : Nat} (h : y ∈ besideM W.ties s) : y < W.spots := by
  unfold besideM at h
  rcases List.mem_append.mp h with h | h
  · obtain ⟨x, hx, rfl⟩ := List.mem_map.mp h
    exact (W.h2 x (List.mem_filter.mp hx).1).2
  · obtain ⟨x, hx, rfl⟩ := List.mem_map.mp h
    have := W.h2 x (List.mem_filter.mp hx).1
    omega
theorem beside_le {W : Wb} {s : Nat} : (besideM W.ties s).length ≤ 50 := by
  unfold besideM
  have := ties_len W
  have h1 := List.length_filter_le (fun x : Nat × Nat => decide (x.1 = s)) W.ties
  have h2 := List.length_filter_le (fun x : Nat × Nat => decide (x.2 = s)) W.ties
  rw [List.length_append, List.length_map, List.length_map]
  omega
theorem lcnt_eq {W : Wb} {p s : Nat} : lcntM (upsM p W.spots) W.ties s = countM W.ties p s := by
  unfold lcntM countM
  rw [beside_len (fun o => (upsM p W.spots).getD o false) s W.ties fun x hx => (W.h2 x hx).1]
  congr 1
  refine List.filter_congr fun y hy => ?_
  exact ups_get (tied_mem hy).1
theorem set_all : ((List.range 6).all fun n => (List.range n).all fun s => (List.range (2 ^ n)).all fun p => [true, false].all fun b => placeM ((upsM p n).set s b) == p + (if b = true then 2 ^ s else 0) - (if upB p s = true then 2 ^ s else 0)) = true := by decide +kernel
theorem lmoved_eq {W : Wb} {p s k : Nat} (hp : p < 2 ^ W.spots) (hs : s < W.spots) : placeM (lmovedM (upsM p W.spots) W.ties W.levels s k) = mvM W.ties W.levels p s k := by
  have h1 := W.h1
  have h := List.all_eq_true.mp (List.all_eq_true.mp (List.all_eq_true.mp set_all W.spots (List.mem_range.mpr (by omega))) s (List.mem_range.mpr hs)) p (List.mem_range.mpr hp)
  have h2 := List.all_eq_true.mp h (decide (k < W.levels.getD (countM W.ties p s) 0)) (by cases decide (k < W.levels.getD (countM W.ties p s) 0) <;> simp)
  unfold lmovedM mvM
  rw [lcnt_eq]
  exact beq_iff_eq.mp h2
theorem full_all : ((List.range 6).all fun n => placeM (List.replicate n true) + 1 == 2 ^ n) = true := by decide +kernel
theorem full_eq {n : Nat} (h : n ≤ 5) : placeM (List.replicate n true) + 1 = 2 ^ n := beq_iff_eq.mp (List.all_eq_true.mp full_all n (List.mem_range.mpr (by omega)))
theorem place_le {us : List Bool} : placeM us < 2 ^ us.length := by
  induction us with
  | nil => decide
  | cons b us ih =>
    show 2 * placeM us + (if b = true then 1 else 0) < 2 ^ (us.length + 1)
    rw [Nat.pow_succ]
    split <;> omega
end El

set_option Elab.async false
set_option linter.all false
set_option maxRecDepth 100000
set_option maxHeartbeats 4000000
namespace El
open PySem PySem.Spec L2
/-! ### Base.__init__(self, ..), Base an own class that has ValueError's -/
structure BaseC (K : PySem.W.Frag) (B : Addr) : Prop where
  ga : PySem.W.specialIn K (.ref B) "__getattribute__" = some (some (.builtin "type.__getattribute__"))
  rd : PySem.W.readsIn K B (.type "type") = true
  ty : PySem.W.typeIn K (.ref B) = some (.type "type")
  ini : PySem.W.findCls K (.ref B) (.type "type") "__init__" = some (.val (.builtin "ValueError.__init__"))
section
variable {X : Cx} {e : Expr} {es : List Expr} {ta : TA} {p1 p2 pos : Pos}
theorem pe_dinit {pl : Sem Bool} {x : Str} {B : Addr} (T : BaseC X.K B) (hg : Gl X x) (hm : X.mg x = some (.ref B)) (ha : PA X (e :: es) ta)
    (hc : eval (.Call (.Attribute (.Name x p1) "__init__" p2) (e :: es) [] pos) X.env = (do
      let ov ← eval (.Name x p1) X.env
      standAt p2.atName
      let (f, first) ← holding [ov] (getMethod ov "__init__" pl)
      callWith pos f first (backTo pos (starEach (e :: es) X.env)) (backToKw pos (keywordEach [] X.env))) := by rfl)
    (he : starEach (e :: es) X.env = (false, eval e X.env) :: starEach es X.env := by rfl) (hpl : (backTo pos (starEach es X.env)).any (·.1) = false := by rfl) (hdb : (x == ("__debug__" : Str)) = false := by decide) :
    PE X (.Call (.Attribute (.Name x p1) "__init__" p2) (e :: es) [] pos) (tVeI X.K ta) := by
  refine ⟨fun pins s σ H Q I h => ?_⟩
  refine PySem.W.methodCall_KW (ld_glob I hg hm ?_ hdb) hc
  obtain ⟨m, fr⟩ := I.fr
  refine PySem.W.method_of_cls fr I.ok.mod.kin T.ga (PySem.W.cls_val fr I.ok.mod.kin T.ty T.rd T.ini (by decide +kernel) ?_)
  show wpAny _ _ (callWith pos (Value.builtin "ValueError.__init__") [] (backTo pos (starEach (e :: es) X.env)) []) _ _ _
  refine PyProof.Rows.callWith_method1 (thn (ha.run pos pins _ σ H _ (I.tok _) h) fun us s1 ⟨vs, H1, I1, r1, a, C, ws, ev, hl, T, ea, q⟩ => ?_) he hpl
  subst ev
  cases r1 with
  | @cons _ u0 _ ur ra rw' =>
    obtain rfl : u0 = Value.ref a := ra
    have hlen : ur.length ≤ sizeLine := by
      rw [← Paired.length rw', sizeLine_eq]
      omega
    exact oinit_ok T I1 ea hlen fun s' J => ⟨.non, H1, J, rfl, q⟩
end
end El

set_option Elab.async false
set_option linter.all false
set_option maxRecDepth 100000
set_option maxHeartbeats 4000000
namespace El
open PySem PySem.Spec L2
/-! ### sorted -/
def insN (a : Nat) : List Nat → List Nat
  | [] => [a]
  | b :: l => if a ≤ b then a :: b :: l else b :: insN a l
def sortN (l : List Nat) : List Nat := l.foldr insN []
theorem ins_perm (a : Nat) : ∀ l : List Nat, (insN a l).Perm (a :: l)
  | [] => .refl _
  | b :: l => by
    show (if a ≤ b then a :: b :: l else b :: insN a l).Perm _
    split
    · exact .refl _
    · exact ((ins_perm a l).cons b).trans (.swap a b l)
theorem sort_perm : ∀ l : List Nat, (sortN l).Perm l
  | [] => .refl _
  | a :: l => (ins_perm a (sortN l)).trans ((sort_perm l).cons a)
theorem ins_sorted {a : Nat} : ∀ {l : List Nat}, l.Pairwise (· ≤ ·) → (insN a l).Pairwise (· ≤ ·)
  | [], _ => List.pairwise_singleton _ _
  | b :: l, h => by
    obtain ⟨h1, h2⟩ := List.pairwise_cons.mp h
    show (if a ≤ b then a :: b :: l else b :: insN a l).Pairwise _
    split
    · rename_i hab
      refine List.pairwise_cons.mpr ⟨fun c hc => ?_, h⟩
      rcases List.mem_cons.mp hc with rfl | hc
      · exact hab
      · exact Nat.le_trans hab (h1 c hc)
    · rename_i hab
      refine List.pairwise_cons.mpr ⟨fun c hc => ?_, ins_sorted h2⟩
      rcases List.mem_cons.mp ((ins_perm a l).mem_iff.mp hc) with rfl | hc
      · omega
      · exact h1 c hc
theorem sort_sorted : ∀ l : List Nat, (sortN l).Pairwise (· ≤ ·)
  | [] => .nil
  | _ :: l => ins_sorted (sort_sorted l)
theorem sorted_eq : ∀ {l m : List Nat}, l.Perm m → l.Pairwise (· ≤ ·) → m.Pairwise (· ≤ ·) → l = m
  | [], m, p, _, _ => by rw [p.nil_eq]
  | a :: l, [], p, _, _ => by have := p.length_eq; cases this
  | a :: l, b :: m, p, h1, h2 => by
    obtain ⟨a1, a2⟩ := List.pairwise_cons.mp h1
    obtain ⟨b1, b2⟩ := List.pairwise_cons.mp h2
    have e : a = b := by
      have ha : a ∈ b :: m := p.mem_iff.mp List.mem_cons_self
      have hb : b ∈ a :: l := p.mem_iff.mpr List.mem_cons_self
      rcases List.mem_cons.mp ha with h | h
      · exact h
      · rcases List.mem_cons.mp hb with h' | h'
        · exact h'.symm
        · have := b1 a h; have := a1 b h'; omega
    subst e
    rw [sorted_eq (List.Perm.cons_inv p) a2 b2]
theorem sort_mem {l : List Nat} {x : Nat} : x ∈ sortN l ↔ x ∈ l := (sort_perm l).mem_iff
theorem ints_nats : ∀ {ks : List Int} {ns : List Nat}, ks.Perm (ns.map fun n : Nat => (n : Int)) → ∃ ms : List Nat, ks = ms.map fun n : Nat => (n : Int) := fun {ks ns} p => by
  have : ∀ k ∈ ks, ∃ n : Nat, k = (n : Int) := fun k hk => by
    obtain ⟨n, _, rfl⟩ := List.mem_map.mp (p.mem_iff.mp hk)
    exact ⟨n, rfl⟩
  clear p
  induction ks with
  | nil => exact ⟨[], rfl⟩
  | cons k ks ih =>
    obtain ⟨n, rfl⟩ := this k List.mem_cons_self
    obtain ⟨ms, rfl⟩ := ih fun j hj => this j (List.mem_cons_of_mem _ hj)
    exact ⟨n :: ms, rfl⟩
theorem perm_nats : ∀ {ms ns : List Nat}, (ms.map fun n : Nat => (n : Int)).Perm (ns.map fun n : Nat => (n : Int)) → ms.Perm ns := fun {ms ns} p => by
  have h := p.map Int.toNat
  rw [List.map_map, List.map_map] at h
  have e : ∀ l : List Nat, l.map (Int.toNat ∘ fun n : Nat => (n : Int)) = l := fun l => by
    have : l.map (Int.toNat ∘ fun n : Nat => (n : Int)) = l.map id := List.map_congr_left fun n _ => Int.toNat_natCast n
    rw [this, List.map_id]
  rw [e, e] at h
  exact h
theorem sorted_ints {ys : List Int} {ks : List Nat} (p : ys.Perm (ks.map fun n : Nat => (n : Int))) (h : ys.Pairwise (· ≤ ·)) : ys = (sortN ks).map fun n : Nat => (n : Int) := by
  obtain ⟨ms, rfl⟩ := ints_nats p
  have p2 := perm_nats p
  rw [List.pairwise_map] at h
  rw [sorted_eq (p2.trans (sort_perm ks).symm) (h.imp fun {a b} hab => by omega) (sort_sorted ks)]
section
variable {K : PySem.W.Frag} {σ : St} {F H F' H' : Hp} {ta td te tl : TE} {ks : List Nat}
theorem ev_sortD (hd : Ev rDct td σ F H ks) (hz : ks.length < 64) : Ev (rLst rNat) (tCB (fun xs H Q => ∃ (a : Addr) (kvs : List (Key × V)) (ks : List Int), xs = [.ref a] ∧ Rd H a (.dK kvs) ∧ kvs.map (·.1) = ks.map Sum.inl ∧ ks.length < 64 ∧
    ∀ (ys : List Int) (p : Addr), ys.Perm ks → ys.Pairwise (· ≤ ·) → H p = none → Q (.ref p) (upd H p (.lst (ys.map V.int)))) (tCons td tNil)) σ F H (sortN ks) := fun F1 H1 g1 Q q =>
  hd F1 H1 g1 _ fun v F2 H2 g2 ⟨a, e, h⟩ => ⟨a, kvsOf ks, ks.map fun n : Nat => (n : Int), by rw [e], .inl (g2.fh _ _ h), by unfold kvsOf; rw [List.map_map, List.map_map]; rfl, by rw [List.length_map]; exact hz, fun ys p hp hs hn => by
    rw [sorted_ints hp hs, List.map_map]
    exact q _ _ _ (g2.trans (.new g2.fh hn)) ⟨p, _, rfl, upd_same, nats_P _ _⟩⟩
theorem ev_sortL (hd : Ev (rLst rNat) td σ F H ks) (hz : ks.length < 64) : Ev (rLst rNat) (tCB (rSorted K) (tCons td tNil)) σ F H (sortN ks) := fun F1 H1 g1 Q q =>
  hd F1 H1 g1 _ fun v F2 H2 g2 ⟨a, vs, e, h, p⟩ => ⟨a, ks.map fun n : Nat => (n : Int), by rw [e], by rw [← nats_paired p]; exact SqL.of (g2.fh _ _ h), by rw [List.length_map]; exact hz, fun ys p hp hs hn => by
    rw [sorted_ints hp hs, List.map_map]
    exact q _ _ _ (g2.trans (.new g2.fh hn)) ⟨p, _, rfl, upd_same, nats_P _ _⟩⟩
end
end El

set_option Elab.async false
set_option linter.all false
set_option maxRecDepth 100000
set_option maxHeartbeats 4000000
namespace El
open PySem PySem.Spec L2
/-! ### tuples of three -/
def r3 {α β γ : Type} (R : Rp α) (S : Rp β) (T : Rp γ) : Rp (α × β × γ) := fun H v p => ∃ a x y z, v = .ref a ∧ H a = some (.tup [x, y, z]) ∧ R H x p.1 ∧ S H y p.2.1 ∧ T H z p.2.2
instance {α β γ : Type} {R : Rp α} {S : Rp β} {T : Rp γ} [m : Mn R] [n : Mn S] [o : Mn T] : Mn (r3 R S T) := ⟨fun e ⟨a, x, y, z, h1, h2, h3, h4, h5⟩ => ⟨a, x, y, z, h1, e _ _ h2, m.mono e h3, n.mono e h4, o.mono e h5⟩⟩
instance {α β γ : Type} {R : Rp α} {S : Rp β} {T : Rp γ} : NotN (r3 R S T) := ⟨fun ⟨_, _, _, _, h, _⟩ e => by rw [h] at e; cases e⟩
instance {α β γ : Type} {R : Rp α} {S : Rp β} {T : Rp γ} [d1 : Dt R] [d2 : Dt S] [d3 : Dt T] : Dt (r3 R S T) where
  data := fun p => .tuple [d1.data p.1, d2.data p.2.1, d3.data p.2.2]
  rep := fun e ⟨a, x, y, z, h1, h2, h3, h4, h5⟩ => by
    subst h1
    exact .tup (SqT.of (e _ _ h2)) (.cons (d1.rep e h3) (.cons (d2.rep e h4) (.cons (d3.rep e h5) .nil)))
  lay := fun p => by
    show (PyData.canLay0 (d1.data p.1) && (PyData.canLay0 (d2.data p.2.1) && (PyData.canLay0 (d3.data p.2.2) && true))) = true
    rw [d1.lay, d2.lay, d3.lay]
    rfl
  dep := 1 + max d1.dep (max d2.dep d3.dep)
  depth := fun p => by
    have h1 := d1.depth p.1
    have h2 := d2.depth p.2.1
    have h3 := d3.depth p.2.2
    show max (PyData.depth (d1.data p.1)) (max (PyData.depth (d2.data p.2.1)) (max (PyData.depth (d3.data p.2.2)) 0)) + 1 ≤ _
    omega
  eqv := fun x y => by
    show (PyData.eqv (d1.data x.1) (d1.data y.1) && (PyData.eqv (d2.data x.2.1) (d2.data y.2.1) && (PyData.eqv (d3.data x.2.2) (d3.data y.2.2) && true))) = true ↔ _
    rw [Bool.and_eq_true, Bool.and_eq_true, Bool.and_true, d1.eqv, d2.eqv, d3.eqv]
    obtain ⟨a, b, c⟩ := x
    obtain ⟨a', b', c'⟩ := y
    simp
instance {α β γ : Type} {R : Rp α} {S : Rp β} {T : Rp γ} [d1 : Dt R] [d2 : Dt S] [d3 : Dt T] : NotNoneD (r3 R S T) := ⟨fun _ => fun z => nomatch z⟩
theorem ev_r3 {σ : St} {F H : Hp} {ta tb tc : TE} {α β γ : Type} {R : Rp α} {S : Rp β} {T : Rp γ} {x : α} {y : β} {z : γ} (ha : Ev R ta σ F H x) (hb : Ev S tb σ F H y) (hc : Ev T tc σ F H z) (m : Mn R := by infer_instance) (n : Mn S := by infer_instance) (m2 : Mn T := by infer_instance) :
    Ev (r3 R S T) (tTup (tCons ta (tCons tb (tCons tc tNil)))) σ F H (x, y, z) := fun F1 H1 g1 Q q =>
  ha F1 H1 g1 _ fun v F2 H2 g2 r1 => hb F2 H2 (g1.trans g2) _ fun w F3 H3 g3 r2 => hc F3 H3 ((g1.trans g2).trans g3) _ fun v3 F4 H4 g4 r3 =>
    ⟨by show 3 ≤ sizeLine; decide, fun B hB => by
      have g6 : Gr M0 F4 H4 (upd F4 B (.tup [v, w, v3])) (upd H4 B (.tup [v, w, v3])) := .new g4.fh hB
      exact q _ _ _ (g2.trans (g3.trans (g4.trans g6))) ⟨B, v, w, v3, rfl, upd_same, m.mono (g3.ff.trans (g4.ff.trans g6.ff)) r1, n.mono (g4.ff.trans g6.ff) r2, m2.mono g6.ff r3⟩⟩
/-! ### not kept -/
def trisG (hs : List (List Nat)) (s x : Nat) : List (Nat × Nat × Nat) := (sortN (hs.getD x [])).map fun y => (s, x, y)
def trisS (n : Nat) (hs : List (List Nat)) (s : Nat) : List (Nat × Nat × Nat) := ((List.range n).map (trisG hs s)).flatten
def trisM (t : Tn) (hs : List (List Nat)) : List (Nat × Nat × Nat) := ((List.range t.maps.length).map (trisS t.many hs)).flatten
def badB (t : Tn) (hs : List (List Nat)) (p : Nat × Nat × Nat) : Bool := !atMostM hs ((t.maps.getD p.1 []).getD p.2.1 0) ((t.maps.getD p.1 []).getD p.2.2 0)
def notKeptM (t : Tn) (hs : List (List Nat)) : Option (Nat × Nat × Nat) := (trisM t hs).find? (badB t hs)
theorem range_split {n : Nat} : ∀ {s : Nat}, s < n → ∃ post, List.range n = List.range s ++ s :: post := fun {s} h => by
  refine ⟨(List.range n).drop (s + 1), ?_⟩
  have h1 : (List.range n).take s = List.range s := by rw [List.take_range, Nat.min_eq_left (Nat.le_of_lt h)]
  have h2 : (List.range n).drop s = s :: (List.range n).drop (s + 1) := by
    rw [List.drop_eq_getElem_cons (by rw [List.length_range]; exact h), List.getElem_range]
  rw [← h1, ← h2, List.take_append_drop]
theorem flat_split {α : Type} (f : Nat → List α) {n s : Nat} (h : s < n) : ∃ post, ((List.range n).map f).flatten = ((List.range s).map f).flatten ++ (f s ++ post) := by
  obtain ⟨post, hp⟩ := range_split h
  exact ⟨(post.map f).flatten, by rw [hp, List.map_append, List.flatten_append, List.map_cons, List.flatten_cons]⟩
theorem flat_succ {α : Type} (f : Nat → List α) (s : Nat) : ((List.range (s + 1)).map f).flatten = ((List.range s).map f).flatten ++ f s := by
  rw [List.range_succ, List.map_append, List.flatten_append]
  show _ ++ List.flatten [f s] = _
  rw [List.flatten_cons, List.flatten_nil, List.append_nil]
theorem find_none_app {α : Type} {p : α → Bool} {xs ys : List α} (h1 : xs.find? p = none) (h2 : ys.find? p = none) : (xs ++ ys).find? p = none := by
  rw [List.find?_append, h1, h2]
  rfl
theorem find_hit {α : Type} {p : α → Bool} {pre post : List α} {a : α} (h1 : pre.find? p = none) (h2 : p a = true) : (pre ++ a :: post).find? p = some a := by
  rw [List.find?_append, h1, List.find?_cons, h2]
  rfl
theorem tri_hit {t : Tn} {hs : List (List Nat)} {s x k y : Nat} (hs1 : s < t.maps.length) (hx : x < t.many) (hy : (sortN (hs.getD x []))[k]? = some y)
    (h1 : (((List.range s).map (trisS t.many hs)).flatten).find? (badB t hs) = none) (h2 : (((List.range x).map (trisG hs s)).flatten).find? (badB t hs) = none) (h3 : ((trisG hs s x).take k).find? (badB t hs) = none) (hb : badB t hs (s, x, y) = true) : notKeptM t hs = some (s, x, y) := by
  unfold notKeptM trisM
  obtain ⟨p1, e1⟩ := flat_split (trisS t.many hs) hs1
  obtain ⟨p2, e2⟩ := flat_split (trisG hs s) hx
  rw [e1, show trisS t.many hs s = ((List.range t.many).map (trisG hs s)).flatten from rfl, e2]
  have e3 : trisG hs s x = (trisG hs s x).take k ++ (s, x, y) :: (trisG hs s x).drop (k + 1) := by
    have hk : (trisG hs s x)[k]? = some (s, x, y) := by
      unfold trisG
      rw [List.getElem?_map, hy]
      rfl
    obtain ⟨hl, he⟩ := List.getElem?_eq_some_iff.mp hk
    have : (trisG hs s x).drop k = (s, x, y) :: (trisG hs s x).drop (k + 1) := by rw [List.drop_eq_getElem_cons hl, he]
    rw [← this, List.take_append_drop]
  rw [e3]
  rw [show ((List.range s).map (trisS t.many hs)).flatten ++ (((List.range x).map (trisG hs s)).flatten ++ (((trisG hs s x).take k ++ (s, x, y) :: (trisG hs s x).drop (k + 1)) ++ p2) ++ p1) = (((List.range s).map (trisS t.many hs)).flatten ++ (((List.range x).map (trisG hs s)).flatten ++ (trisG hs s x).take k)) ++ (s, x, y) :: ((trisG hs s x).drop (k + 1) ++ p2 ++ p1) by simp [List.append_assoc]]
  exact find_hit (find_none_app h1 (find_none_app h2 h3)) hb
theorem not_none {t : Tn} {hs : List (List Nat)} (h : notKeptM t hs = none) {s x y : Nat} (h1 : s < t.maps.length) (hx : x < t.many) (hy : y ∈ hs.getD x []) : atMostM hs ((t.maps.getD s []).getD x 0) ((t.maps.getD s []).getD y 0) = true := by
  unfold notKeptM at h
  have := List.find?_eq_none.mp h (s, x, y) (List.mem_flatten.mpr ⟨trisS t.many hs s, List.mem_map.mpr ⟨s, List.mem_range.mpr h1, rfl⟩, List.mem_flatten.mpr ⟨trisG hs s x, List.mem_map.mpr ⟨x, List.mem_range.mpr hx, rfl⟩, List.mem_map.mpr ⟨y, sort_mem.mpr hy, rfl⟩⟩⟩)
  unfold badB at this
  simpa using this
theorem not_some {t : Tn} {hs : List (List Nat)} {s x y : Nat} (h : notKeptM t hs = some (s, x, y)) : s < t.maps.length ∧ x < t.many ∧ y ∈ hs.getD x [] ∧ atMostM hs ((t.maps.getD s []).getD x 0) ((t.maps.getD s []).getD y 0) = false := by
  unfold notKeptM at h
  have hb := List.find?_some h
  have hm := List.mem_of_find?_eq_some h
  obtain ⟨l, hl, hm⟩ := List.mem_flatten.mp hm
  obtain ⟨s', hs', rfl⟩ := List.mem_map.mp hl
  obtain ⟨l2, hl2, hm⟩ := List.mem_flatten.mp hm
  obtain ⟨x', hx', rfl⟩ := List.mem_map.mp hl2
  obtain ⟨y', hy', e⟩ := List.mem_map.mp hm
  cases e
  refine ⟨List.mem_range.mp hs', List.mem_range.mp hx', sort_mem.mp hy', ?_⟩
  unfold badB at hb
  simpa using hb
theorem sort_len (l : List Nat) : (sortN l).length = l.length := (sort_perm l).length_eq
end El

set_option Elab.async false
set_option linter.all false
set_option maxRecDepth 100000
set_option maxHeartbeats 4000000
namespace El
open PySem PySem.Spec L2
/-! ### own exceptions that keep a value -/
/-- C.__init__(self, v): Base.__init__(self, text); self.f = v -/
def spKeep (C : Addr) (f : Str) : Sp := fun vs H Q _ => ∃ a v, vs = [.ref a, v] ∧ H a = some (exo a C none) ∧ ∀ dx, H dx = none → dx ≠ a → Q .non (upd (upd H dx (exd dx [(f, v)])) a (exo a C (some dx)))
instance {C : Addr} {f : Str} : SpLen (spKeep C f) 2 := ⟨fun ⟨_, _, h, _⟩ => by rw [h]; rfl⟩
section
variable {K : PySem.W.Frag} {σ : St} {F H F' H' : Hp} {ta te : TE} {α : Type} {R : Rp α} {x : α} {D : Ends} {C : Addr} {f : Str} {W : WX}
theorem x_raise (e : Ex F H) (h : Ev R te σ F H x) (k : ∀ v d F' H', Gr M0 F H F' H' → R F' v x → H' d = none → W (.ref C) (some d) σ (upd H' d (.xd [(f, v)]))) :
    tMkO C (spKeep C f) [] (tCons te tNil) σ H (fun cls d H' => W cls d σ H') :=
  h F H (.refl e) _ fun v F1 H1 g r => ⟨by show 1 ≤ 1000; decide, fun a ha => ⟨a, v, rfl, upd_same, fun dx hdx hne => ⟨rfl, dx, [(f, v)], by rw [upd_same], by rw [upd_ne hne, upd_same], by rw [upd_ne hne] at hdx; exact hdx, by
    have hdx1 : H1 dx = none := by rw [upd_ne hne] at hdx; exact hdx
    have eq : upd (del (upd (upd (upd H1 a (exo a C none)) dx (exd dx [(f, v)])) a (exo a C (some dx))) a) dx (.xd [(f, v)]) = upd H1 dx (.xd [(f, v)]) := by
      funext b
      by_cases hb : b = dx
      · rw [hb, upd_same, upd_same]
      · rw [upd_ne hb, upd_ne hb]
        by_cases hb2 : b = a
        · rw [hb2, del_same, ha]
        · rw [del_ne hb2, upd_ne hb2, upd_ne hb, upd_ne hb2]
    rw [eq]
    exact k v dx F1 H1 g r hdx1⟩⟩⟩
end
end El

set_option Elab.async false
set_option linter.all false
set_option maxRecDepth 100000
set_option maxHeartbeats 4000000
namespace El
open PySem PySem.Spec L2
def loopB (t : Tn) (lo hi : Nat) : List Nat → Nat → List Nat → Option (Nat × Nat)
  | f, k, [] => if f.getD lo 0 = f.getD hi 0 then some (f.getD lo 0, k) else none
  | f, k, s :: xs => if f.getD lo 0 = f.getD hi 0 then some (f.getD lo 0, k) else loopB t lo hi (thenM (t.maps.getD s []) f) (k + 1) xs
theorem loopB_hit {t : Tn} {lo hi k : Nat} {f xs : List Nat} (h : f.getD lo 0 = f.getD hi 0) : loopB t lo hi f k xs = some (f.getD lo 0, k) := by
  cases xs <;> (unfold loopB; rw [if_pos h])
theorem loopB_go {t : Tn} {lo hi k s : Nat} {f xs : List Nat} (h : ¬ f.getD lo 0 = f.getD hi 0) : loopB t lo hi f k (s :: xs) = loopB t lo hi (thenM (t.maps.getD s []) f) (k + 1) xs := by
  rw [loopB, if_neg h]
def GoodK (t : Tn) (hs : List (List Nat)) : Prop := hs.length = t.many ∧ (∀ x, x < t.many → ∀ y ∈ hs.getD x [], y < t.many) ∧ ∀ x, x < t.many → (hs.getD x []).length < 64
def SpBetween (CT CO CX : Addr) : Sp := fun vs H Q E => ∃ (F : Hp) (v w u : V) (t : Tn) (hs : List (List Nat)) (xs : List Nat) (lo hi : Nat), vs = [v, w, u] ∧ Ex F H ∧ rTurns CT F v t ∧ rOrder CO F w hs ∧ rLst rNat F u xs ∧
  GoodK t hs ∧ leastM hs = some lo ∧ greatestM hs = some hi ∧ lo < t.many ∧ hi < t.many ∧ (∀ s ∈ xs, s < t.maps.length) ∧ xs.length ≤ 1000000 ∧
  (notKeptM t hs = none → ∀ r F' H', Gr M0 F H F' H' → rOpt (rPr rNat rNat) F' r (loopB t lo hi (idMap t.many) 0 xs) → Q r H') ∧
  ∀ p, notKeptM t hs = some p → ∀ v d F' H', Gr M0 F H F' H' → r3 rNat rNat rNat F' v p → H' d = none → E (.ref CX) (some d) (upd H' d (.xd [(("kept" : Str), v)]))
instance {a b c : Addr} : SpLen (SpBetween a b c) 3 := ⟨fun ⟨_, _, _, _, _, _, _, _, _, h, _⟩ => by rw [h]; rfl⟩
end El

set_option Elab.async false
set_option linter.all false
set_option maxRecDepth 100000
set_option maxHeartbeats 4000000
namespace El
open PySem PySem.Spec L2
/-! ### what _law_told tells -/
abbrev Told := Sum (Option (Nat × Nat)) (Nat × Nat × Nat)
def rTold : Rp Told := fun F v x => match x with
  | .inl o => ∃ a w, v = .ref a ∧ F a = some (.tup [.str ("told" : Str), w]) ∧ rOpt (rPr rNat rNat) F w o
  | .inr p => ∃ a w, v = .ref a ∧ F a = some (.tup [.str ("not kept" : Str), w]) ∧ r3 rNat rNat rNat F w p
instance : Mn rTold := ⟨fun {H H' v x} e h => by
  cases x with
  | inl o => obtain ⟨a, w, h1, h2, h3⟩ := h; exact ⟨a, w, h1, e _ _ h2, Mn.mono e h3⟩
  | inr p => obtain ⟨a, w, h1, h2, h3⟩ := h; exact ⟨a, w, h1, e _ _ h2, Mn.mono e h3⟩⟩
abbrev dO : Dt (rOpt (rPr rNat rNat)) := inferInstance
abbrev d3 : Dt (r3 rNat rNat rNat) := inferInstance
def toldData : Told → PyData
  | .inl o => .tuple [.str ("told" : Str), dO.data o]
  | .inr p => .tuple [.str ("not kept" : Str), d3.data p]
instance : Dt rTold where
  data := toldData
  rep := fun {K F H v x} e h => by
    cases x with
    | inl o => obtain ⟨a, w, h1, h2, h3⟩ := h; subst h1; exact .tup (SqT.of (e _ _ h2)) (.cons (.str _) (.cons (dO.rep e h3) .nil))
    | inr p => obtain ⟨a, w, h1, h2, h3⟩ := h; subst h1; exact .tup (SqT.of (e _ _ h2)) (.cons (.str _) (.cons (d3.rep e h3) .nil))
  lay := fun x => by
    cases x with
    | inl o =>
      show (PyData.strOk ("told" : Str) && (PyData.canLay0 (dO.data o) && true)) = true
      rw [dO.lay, show PyData.strOk ("told" : Str) = true by decide +kernel]
      rfl
    | inr p =>
      show (PyData.strOk ("not kept" : Str) && (PyData.canLay0 (d3.data p) && true)) = true
      rw [d3.lay, show PyData.strOk ("not kept" : Str) = true by decide +kernel]
      rfl
  dep := 10
  depth := fun x => by
    cases x with
    | inl o =>
      have h1 := dO.depth o
      have h2 : dO.dep ≤ 5 := by decide
      show max 0 (max (PyData.depth (dO.data o)) 0) + 1 ≤ 10
      omega
    | inr p =>
      have h1 := d3.depth p
      have h2 : d3.dep ≤ 5 := by decide
      show max 0 (max (PyData.depth (d3.data p)) 0) + 1 ≤ 10
      omega
  eqv := fun x y => by
    have n1 : (("told" : Str) == ("not kept" : Str)) = false := by decide +kernel
    have n2 : (("not kept" : Str) == ("told" : Str)) = false := by decide +kernel
    cases x with
    | inl o =>
      cases y with
      | inl o' =>
        show ((("told" : Str) == ("told" : Str)) && (PyData.eqv (dO.data o) (dO.data o') && true)) = true ↔ _
        rw [beq_self_eq_true, Bool.true_and, Bool.and_true, dO.eqv]
        exact ⟨fun h => by rw [h], fun h => Sum.inl.inj h⟩
      | inr p =>
        show ((("told" : Str) == ("not kept" : Str)) && (PyData.eqv (dO.data o) (d3.data p) && true)) = true ↔ _
        rw [n1, Bool.false_and]
        exact ⟨(fun h => nomatch h), (fun h => nomatch h)⟩
    | inr p =>
      cases y with
      | inl o =>
        show ((("not kept" : Str) == ("told" : Str)) && (PyData.eqv (d3.data p) (dO.data o) && true)) = true ↔ _
        rw [n2, Bool.false_and]
        exact ⟨(fun h => nomatch h), (fun h => nomatch h)⟩
      | inr p' =>
        show ((("not kept" : Str) == ("not kept" : Str)) && (PyData.eqv (d3.data p) (d3.data p') && true)) = true ↔ _
        rw [beq_self_eq_true, Bool.true_and, Bool.and_true, d3.eqv]
        exact ⟨fun h => by rw [h], fun h => Sum.inr.inj h⟩
def toldM (t : Tn) (hs : List (List Nat)) (lo hi : Nat) (xs : List Nat) : Told := match notKeptM t hs with
  | none => .inl (loopB t lo hi (idMap t.many) 0 xs)
  | some p => .inr p
end El

set_option Elab.async false
set_option linter.all false
set_option maxRecDepth 100000
set_option maxHeartbeats 4000000
namespace El
open PySem PySem.Spec L2
/-- the order's law, in plain words -/
structure OrdOk (n : Nat) (hs : List (List Nat)) (lo hi : Nat) : Prop where
  lo_lt : lo < n
  hi_lt : hi < n
  low : ∀ x, x < n → atMostM hs lo x = true
  high : ∀ x, x < n → atMostM hs x hi = true
  anti : ∀ x y, x < n → y < n → atMostM hs x y = true → atMostM hs y x = true → x = y
theorem atMost_refl (hs : List (List Nat)) (x : Nat) : atMostM hs x x = true := by
  unfold atMostM
  rw [decide_eq_true rfl]
  rfl
def MonoM (n : Nat) (hs : List (List Nat)) (f : List Nat) : Prop := ∀ x y, x < n → y < n → atMostM hs x y = true → atMostM hs (f.getD x 0) (f.getD y 0) = true
theorem mono_map {t : Tn} {hs : List (List Nat)} (h : notKeptM t hs = none) {s : Nat} (h1 : s < t.maps.length) : MonoM t.many hs (t.maps.getD s []) := fun x y hx hy hxy => by
  unfold atMostM at hxy
  rcases Bool.or_eq_true_iff.mp hxy with h2 | h2
  · have := of_decide_eq_true h2
    subst this
    exact atMost_refl _ _
  · exact not_none h h1 hx (of_decide_eq_true h2)
theorem then_getM {n : Nat} {a b : List Nat} (ha : IsMap n a) {x : Nat} (hx : x < n) : (thenM a b).getD x 0 = b.getD (a.getD x 0) 0 := by
  unfold thenM
  have hl : x < a.length := by rw [ha.1]; exact hx
  rw [List.getD_eq_getElem?_getD, List.getElem?_map, List.getElem?_eq_getElem hl]
  show b.getD a[x] 0 = _
  rw [List.getD_eq_getElem?_getD (l := a), List.getElem?_eq_getElem hl]
  rfl
theorem map_lt {n : Nat} {a : List Nat} (ha : IsMap n a) {x : Nat} (hx : x < n) : a.getD x 0 < n := by
  have hl : x < a.length := by rw [ha.1]; exact hx
  rw [List.getD_eq_getElem?_getD, List.getElem?_eq_getElem hl]
  exact ha.2 _ (List.getElem_mem hl)
theorem mono_then {n : Nat} {hs : List (List Nat)} {a b : List Nat} (ha : IsMap n a) (ma : MonoM n hs a) (mb : MonoM n hs b) : MonoM n hs (thenM a b) := fun x y hx hy h => by
  rw [then_getM ha hx, then_getM ha hy]
  exact mb _ _ (map_lt ha hx) (map_lt ha hy) (ma x y hx hy h)
theorem mono_id (n : Nat) (hs : List (List Nat)) : MonoM n hs (idMap n) := fun x y hx hy h => by
  have e : ∀ z, z < n → (idMap n).getD z 0 = z := fun z hz => by
    unfold idMap
    rw [List.getD_eq_getElem?_getD, List.getElem?_range hz]
    rfl
  rw [e x hx, e y hy]
  exact h
/-- the two ends agree: all places have met -/
theorem ends_meet {n lo hi : Nat} {hs : List (List Nat)} {f : List Nat} (o : OrdOk n hs lo hi) (hf : IsMap n f) (mf : MonoM n hs f) (h : f.getD lo 0 = f.getD hi 0) : ∀ x ∈ f, x = f.getD lo 0 := fun x hx => by
  obtain ⟨i, hi'⟩ := List.mem_iff_getElem?.mp hx
  have hin : i < n := by rw [← hf.1]; exact (List.getElem?_eq_some_iff.mp hi').1
  have ex : f.getD i 0 = x := by rw [List.getD_eq_getElem?_getD, hi']; rfl
  have h1 := mf lo i o.lo_lt hin (o.low i hin)
  have h2 := mf i hi hin o.hi_lt (o.high i hin)
  rw [ex] at h1 h2
  rw [← h] at h2
  exact o.anti x _ (hf.2 x hx) (map_lt hf o.lo_lt) h2 h1
theorem meet_iff {n lo hi : Nat} {hs : List (List Nat)} {f : List Nat} (o : OrdOk n hs lo hi) (hf : IsMap n f) (mf : MonoM n hs f) : metB f = true ↔ f.getD lo 0 = f.getD hi 0 := by
  have hl : lo < f.length := by rw [hf.1]; exact o.lo_lt
  have hh : hi < f.length := by rw [hf.1]; exact o.hi_lt
  constructor
  · intro h
    exact metB_eq h (List.mem_of_getElem? (getD_at hl)) (List.mem_of_getElem? (getD_at hh))
  · intro h
    refine metB_iff.mpr ⟨fun z => ?_, _, ends_meet o hf mf h⟩
    subst z
    exact absurd hl (Nat.not_lt_zero _)
theorem fold_met {t : Tn} {f : List Nat} {k : Nat} (h : metB f = true) : ∀ xs : List Nat, xs.foldl (drStep t) (f, k) = (f, k)
  | [] => rfl
  | s :: xs => by
    have e : drStep t (f, k) s = (f, k) := by
      unfold drStep
      rw [if_pos h]
    rw [List.foldl_cons, e]
    exact fold_met h xs
def endD (p : List Nat × Nat) : Option (Nat × Nat) := match plc p.1 with
  | none => none
  | some q => some (q, p.2)
theorem between_drawn {t : Tn} {hs : List (List Nat)} {lo hi : Nat} (o : OrdOk t.many hs lo hi) (hn : notKeptM t hs = none) : ∀ (xs f : List Nat) (k : Nat), (∀ s ∈ xs, s < t.maps.length) → IsMap t.many f → MonoM t.many hs f → loopB t lo hi f k xs = endD (xs.foldl (drStep t) (f, k)) := by
  have hit : ∀ (xs f : List Nat) (k : Nat), IsMap t.many f → MonoM t.many hs f → f.getD lo 0 = f.getD hi 0 → loopB t lo hi f k xs = endD (xs.foldl (drStep t) (f, k)) := fun xs f k hf mf h => by
    have hm := (meet_iff o hf mf).mpr h
    have hl : lo < f.length := by rw [hf.1]; exact o.lo_lt
    rw [loopB_hit h, fold_met hm]
    unfold endD plc
    rw [if_pos hm]
    have : f.headD 0 = f.getD lo 0 := by
      cases f with
      | nil => exact absurd hl (Nat.not_lt_zero _)
      | cons a f => exact metB_eq hm List.mem_cons_self (List.mem_of_getElem? (getD_at hl))
    show some (f.getD lo 0, k) = some (f.headD 0, k)
    rw [this]
  intro xs
  induction xs with
  | nil =>
    intro f k _ hf mf
    by_cases h : f.getD lo 0 = f.getD hi 0
    · exact hit [] f k hf mf h
    · have hm : metB f = false := by
        cases q : metB f with
        | false => rfl
        | true => exact absurd ((meet_iff o hf mf).mp q) h
      unfold loopB
      rw [if_neg h]
      show none = endD (f, k)
      unfold endD plc
      rw [if_neg (by rw [hm]; exact Bool.false_ne_true)]
  | cons s xs ih =>
    intro f k hsg hf mf
    by_cases h : f.getD lo 0 = f.getD hi 0
    · exact hit (s :: xs) f k hf mf h
    · have hm : metB f = false := by
        cases q : metB f with
        | false => rfl
        | true => exact absurd ((meet_iff o hf mf).mp q) h
      have hs1 := hsg s List.mem_cons_self
      have e : drStep t (f, k) s = (thenM (t.maps.getD s []) f, k + 1) := by
        unfold drStep
        rw [if_neg (by rw [hm]; exact Bool.false_ne_true)]
      rw [loopB_go h, List.foldl_cons, e]
      exact ih _ _ (fun s' h' => hsg s' (List.mem_cons_of_mem _ h')) (isMap_then (t.isMap hs1) hf) (mono_then (t.isMap hs1) (mono_map hn hs1) mf)
theorem between_eq {t : Tn} {hs : List (List Nat)} {lo hi : Nat} (o : OrdOk t.many hs lo hi) (hn : notKeptM t hs = none) {xs : List Nat} (hsg : ∀ s ∈ xs, s < t.maps.length) : loopB t lo hi (idMap t.many) 0 xs = drawnM t xs :=
  between_drawn o hn xs (idMap t.many) 0 hsg (isMap_id _) (mono_id _ _)
end El

set_option Elab.async false
set_option linter.all false
set_option maxRecDepth 100000
set_option maxHeartbeats 4000000
namespace El
open PySem PySem.Spec L2
def setM (p s : Nat) (b : Bool) : Nat := p + (if b = true then 2 ^ s else 0) - (if upB p s = true then 2 ^ s else 0)
theorem ends_all : ((List.range 6).all fun n => (List.range (2 ^ n)).all fun x => subB n 0 x && subB n x (2 ^ n - 1)) = true := by decide +kernel
theorem anti_all : ((List.range 6).all fun n => (List.range (2 ^ n)).all fun x => (List.range (2 ^ n)).all fun y => !(subB n x y && subB n y x) || (x == y)) = true := by decide +kernel
def goodB (n : Nat) (hs : List (List Nat)) : Bool := (List.range (2 ^ n)).all fun x => ((hs.getD x []).all fun y => decide (y < 2 ^ n)) && decide ((hs.getD x []).length < 64)
theorem good1 : goodB 1 hs1 = true := by decide +kernel
theorem good2 : goodB 2 hs2 = true := by decide +kernel
theorem good3 : goodB 3 hs3 = true := by decide +kernel
theorem good4 : goodB 4 hs4 = true := by decide +kernel
theorem good5 : goodB 5 hs5 = true := by decide +kernel
theorem good_hs {n : Nat} (h0 : 1 ≤ n) (h1 : n ≤ 5) : goodB n (hsM n) = true := by
  match n, h0, h1 with
  | 1, _, _ => rw [hs1_eq]; exact good1
  | 2, _, _ => rw [hs2_eq]; exact good2
  | 3, _, _ => rw [hs3_eq]; exact good3
  | 4, _, _ => rw [hs4_eq]; exact good4
  | 5, _, _ => rw [hs5_eq]; exact good5
theorem goodK_hs {t : Tn} {n : Nat} (h0 : 1 ≤ n) (h1 : n ≤ 5) (ht : t.many = 2 ^ n) : GoodK t (hsM n) := by
  have h := good_hs h0 h1
  refine ⟨by rw [ht]; exact above_len, fun x hx y hy => ?_, fun x hx => ?_⟩
  · rw [ht] at hx ⊢
    have h2 := List.all_eq_true.mp h x (List.mem_range.mpr hx)
    exact of_decide_eq_true (List.all_eq_true.mp (Bool.and_eq_true_iff.mp h2).1 y hy)
  · rw [ht] at hx
    have h2 := List.all_eq_true.mp h x (List.mem_range.mpr hx)
    exact of_decide_eq_true (Bool.and_eq_true_iff.mp h2).2
theorem ord_hs {n : Nat} (h0 : 1 ≤ n) (h1 : n ≤ 5) : OrdOk (2 ^ n) (hsM n) 0 (2 ^ n - 1) := by
  have hp := Nat.two_pow_pos n
  have he := List.all_eq_true.mp ends_all n (List.mem_range.mpr (by omega))
  have ha := List.all_eq_true.mp anti_all n (List.mem_range.mpr (by omega))
  refine ⟨hp, by omega, fun x hx => ?_, fun x hx => ?_, fun x y hx hy hxy hyx => ?_⟩
  · rw [hs_sub h0 h1 hp hx]
    exact (Bool.and_eq_true_iff.mp (List.all_eq_true.mp he x (List.mem_range.mpr hx))).1
  · rw [hs_sub h0 h1 hx (by omega)]
    exact (Bool.and_eq_true_iff.mp (List.all_eq_true.mp he x (List.mem_range.mpr hx))).2
  · rw [hs_sub h0 h1 hx hy] at hxy
    rw [hs_sub h0 h1 hy hx] at hyx
    have := List.all_eq_true.mp (List.all_eq_true.mp ha x (List.mem_range.mpr hx)) y (List.mem_range.mpr hy)
    rw [hxy, hyx] at this
    exact beq_iff_eq.mp this
theorem set_mono : ((List.range 6).all fun n => (List.range n).all fun s => (List.range (2 ^ n)).all fun x => (List.range (2 ^ n)).all fun y => !subB n x y || (subB n (setM x s false) (setM y s false) && subB n (setM x s false) (setM y s true) && subB n (setM x s true) (setM y s true))) = true := by decide +kernel
theorem filter_mono {α : Type} {p q : α → Bool} : ∀ {l : List α}, (∀ x ∈ l, p x = true → q x = true) → (l.filter p).length ≤ (l.filter q).length
  | [], _ => Nat.le_refl _
  | a :: l, h => by
    have ih := filter_mono (p := p) (q := q) fun x hx => h x (List.mem_cons_of_mem a hx)
    rw [List.filter_cons, List.filter_cons]
    by_cases hp : p a = true
    · rw [if_pos hp, if_pos (h a List.mem_cons_self hp), List.length_cons, List.length_cons]
      omega
    · rw [if_neg hp]
      split
      · rw [List.length_cons]; omega
      · exact ih
theorem sub_up {n x y : Nat} (h : subB n x y = true) {o : Nat} (ho : o < n) (hx : upB x o = true) : upB y o = true := by
  have := List.all_eq_true.mp h o (List.mem_range.mpr ho)
  rw [hx] at this
  simpa using this
theorem stand_mono {W : Wb} (hl : W.levels.Pairwise (· ≤ ·)) {x y s k : Nat} (hs : s < W.spots) (h : subB W.spots x y = true) (hk : standB W x s k = true) : standB W y s k = true := by
  unfold standB at hk ⊢
  have hk := of_decide_eq_true hk
  have hc : countM W.ties x s ≤ countM W.ties y s := filter_mono fun o ho hx => sub_up h (tied_mem ho).1 hx
  have c1 := count_lt (W := W) (p := x) hs
  have c2 := count_lt (W := W) (p := y) hs
  have h6 := W.h6
  have hle : W.levels.getD (countM W.ties x s) 0 ≤ W.levels.getD (countM W.ties y s) 0 := by
    have l1 : countM W.ties x s < W.levels.length := by omega
    have l2 : countM W.ties y s < W.levels.length := by omega
    rw [List.getD_eq_getElem?_getD, List.getD_eq_getElem?_getD, List.getElem?_eq_getElem l1, List.getElem?_eq_getElem l2]
    show W.levels[countM W.ties x s] ≤ W.levels[countM W.ties y s]
    by_cases e : countM W.ties x s = countM W.ties y s
    · have : W.levels[countM W.ties x s] = W.levels[countM W.ties y s] := by congr 1
      omega
    · exact (List.pairwise_iff_getElem.mp hl) _ _ l1 l2 (by omega)
  exact decide_eq_true (by omega)
theorem moved_mono {W : Wb} (hl : W.levels.Pairwise (· ≤ ·)) {x y s k : Nat} (hs : s < W.spots) (hx : x < 2 ^ W.spots) (hy : y < 2 ^ W.spots) (h : subB W.spots x y = true) : subB W.spots (movedM W x s k) (movedM W y s k) = true := by
  have h1 := W.h1
  have a := List.all_eq_true.mp (List.all_eq_true.mp (List.all_eq_true.mp (List.all_eq_true.mp set_mono W.spots (List.mem_range.mpr (by omega))) s (List.mem_range.mpr hs)) x (List.mem_range.mpr hx)) y (List.mem_range.mpr hy)
  rw [h] at a
  have a2 : (subB W.spots (setM x s false) (setM y s false) && subB W.spots (setM x s false) (setM y s true) && subB W.spots (setM x s true) (setM y s true)) = true := by simpa using a
  rw [Bool.and_eq_true, Bool.and_eq_true] at a2
  obtain ⟨⟨b1, b2⟩, b3⟩ := a2
  have sm := stand_mono hl (k := k) hs h
  show subB W.spots (setM x s (standB W x s k)) (setM y s (standB W y s k)) = true
  cases q1 : standB W x s k with
  | true => rw [sm q1]; exact b3
  | false =>
    cases q2 : standB W y s k with
    | true => exact b2
    | false => exact b1
theorem kept_web {W : Wb} (hl : W.levels.Pairwise (· ≤ ·)) : notKeptM (turnsM W) (hsM W.spots) = none := by
  have w0 := W.h0
  have w1 := W.h1
  cases q : notKeptM (turnsM W) (hsM W.spots) with
  | none => rfl
  | some p =>
    obtain ⟨s, x, y⟩ := p
    obtain ⟨h1, h2, h3, h4⟩ := not_some q
    have hx : x < 2 ^ W.spots := h2
    have gk := goodK_hs (t := turnsM W) w0 w1 rfl
    have hy : y < 2 ^ W.spots := gk.2.1 x h2 y h3
    have hsub : subB W.spots x y = true := by
      rw [← hs_sub w0 w1 hx hy]
      unfold atMostM
      rw [decide_eq_true h3, Bool.or_true]
    have hm : (turnsM W).maps.getD s [] ∈ turnsML W := by
      have := getD_at (xs := (turnsM W).maps) (d := []) h1
      exact List.mem_of_getElem? this
    unfold turnsML at hm
    obtain ⟨l, hl1, hm⟩ := List.mem_flatten.mp hm
    obtain ⟨sp, hsp, rfl⟩ := List.mem_map.mp hl1
    obtain ⟨k, hk, e⟩ := List.mem_map.mp hm
    have hsp := List.mem_range.mp hsp
    have eg : ∀ z, z < 2 ^ W.spots → ((turnsM W).maps.getD s []).getD z 0 = movedM W z sp k := fun z hz => by
      rw [← e, List.getD_eq_getElem?_getD, List.getElem?_map, List.getElem?_range hz]
      rfl
    rw [eg x hx, eg y hy, hs_sub w0 w1 (moved_lt hx hsp) (moved_lt hy hsp), moved_mono hl hsp hx hy hsub] at h4
    cases h4
end El

set_option Elab.async false
set_option linter.all false
set_option maxRecDepth 100000
set_option maxHeartbeats 4000000
namespace El
open PySem PySem.Spec L2
section
variable {K : PySem.W.Frag} {σ : St} {F H F' H' : Hp} {ta tb tc td te : TE} {α β γ δ : Type} {R : Rp α} {S : Rp β} {T : Rp γ} {U : Rp δ} {D : Ends} {E : XK}
/-- x, y = e -/
theorem x_pair {i j : Nat} {p : α × β} (e : Ex F H) (h : Ev (rPr R S) te σ F H p)
    (k : ∀ v w F' H', Gr M0 F H F' H' → R F' v p.1 → S F' w p.2 → D.nx ((σ.set i (some v)).set j (some w)) H') : tAsg te (gTup K 2 (gCons (gName i) (gCons (gName j) gNil))) D σ H :=
  h F H (.refl e) _ fun v F' H' g ⟨b, u, w, eb, hb, r1, r2⟩ => by
    subst eb
    exact ⟨b, [u, w], rfl, SqT.of (g.fh _ _ hb), rfl, u, [w], rfl, w, [], rfl, rfl, k u w F' H' g r1 r2⟩
/-- x, y, z = e -/
theorem x_tri {i j l : Nat} {p : α × β × γ} (e : Ex F H) (h : Ev (r3 R S T) te σ F H p)
    (k : ∀ v w u F' H', Gr M0 F H F' H' → R F' v p.1 → S F' w p.2.1 → T F' u p.2.2 → D.nx (((σ.set i (some v)).set j (some w)).set l (some u)) H') : tAsg te (gTup K 3 (gCons (gName i) (gCons (gName j) (gCons (gName l) gNil)))) D σ H :=
  h F H (.refl e) _ fun v F' H' g ⟨b, u, w, z, eb, hb, r1, r2, r3⟩ => by
    subst eb
    exact ⟨b, [u, w, z], rfl, SqT.of (g.fh _ _ hb), rfl, u, [w, z], rfl, w, [z], rfl, z, [], rfl, rfl, k u w z F' H' g r1 r2 r3⟩
theorem x_quad {i j l m : Nat} {p : α × β × γ × δ} (e : Ex F H) (h : Ev (r4 R S T U) te σ F H p)
    (k : ∀ v w u z F' H', Gr M0 F H F' H' → R F' v p.1 → S F' w p.2.1 → T F' u p.2.2.1 → U F' z p.2.2.2 → D.nx ((((σ.set i (some v)).set j (some w)).set l (some u)).set m (some z)) H') : tAsg te (gTup K 4 (gCons (gName i) (gCons (gName j) (gCons (gName l) (gCons (gName m) gNil))))) D σ H :=
  h F H (.refl e) _ fun v F' H' g ⟨b, u, w, z, y, eb, hb, r1, r2, r3, r4⟩ => by
    subst eb
    exact ⟨b, [u, w, z, y], rfl, SqT.of (g.fh _ _ hb), rfl, u, [w, z, y], rfl, w, [z, y], rfl, z, [y], rfl, y, [], rfl, rfl, k u w z y F' H' g r1 r2 r3 r4⟩
theorem ev_told1 {o : Option (Nat × Nat)} (h : Ev (rOpt (rPr rNat rNat)) ta σ F H o) : Ev rTold (tTup (tCons (tC (.str "told")) (tCons ta tNil))) σ F H (.inl o) := fun F1 H1 g1 Q q =>
  h F1 H1 g1 _ fun v F2 H2 g2 r => ⟨by show 2 ≤ sizeLine; decide, fun B hB => by
    have g3 : Gr M0 F2 H2 (upd F2 B (.tup [.str ("told" : Str), v])) (upd H2 B (.tup [.str ("told" : Str), v])) := .new g2.fh hB
    exact q _ _ _ (g2.trans g3) ⟨B, v, rfl, upd_same, Mn.mono g3.ff r⟩⟩
theorem ev_told2 {p : Nat × Nat × Nat} (h : Ev (r3 rNat rNat rNat) ta σ F H p) : Ev rTold (tTup (tCons (tC (.str "not kept")) (tCons ta tNil))) σ F H (.inr p) := fun F1 H1 g1 Q q =>
  h F1 H1 g1 _ fun v F2 H2 g2 r => ⟨by show 2 ≤ sizeLine; decide, fun B hB => by
    have g3 : Gr M0 F2 H2 (upd F2 B (.tup [.str ("not kept" : Str), v])) (upd H2 B (.tup [.str ("not kept" : Str), v])) := .new g2.fh hB
    exact q _ _ _ (g2.trans g3) ⟨B, v, rfl, upd_same, Mn.mono g3.ff r⟩⟩
end
/-- `except C` names errors of C's own class -/
theorem exm_self {K : PySem.W.Frag} {C : Addr} (xec : PySem.W.subIn K (.ref C) (.type "BaseException") = some true) (xic : PySem.W.isClsIn K C = true) (xty : PySem.W.typeIn K (.ref C) = some (.type "type")) (xsc : PySem.W.subIn K (.ref C) (.ref C) = some true) :
    PySem.W.exmOne K (.ref C) (.ref C) = some true := by
  have xic2 : (PySem.W.clsIn K C).isSome = true := xic
  unfold PySem.W.exmOne PySem.W.kitCls
  simp [xec, xic2, xty, xsc]
end El

set_option Elab.async false
set_option linter.all false
set_option maxRecDepth 100000
set_option maxHeartbeats 4000000
namespace K86
open PySem PySem.Spec L2 El
def topS (i : Nat) : Stmt := PySem.Challenge.pw_elderdraw_k86_whole_webs_between_their_e.main.body.getD i (.Pass ⟨0, 0, 0, 0⟩)
abbrev s_is_whole : Stmt := topS 9
abbrev N_is_whole : List Str := ["thing"]
theorem sc_is_whole : FnScope N_is_whole ["thing"] (defScope s_is_whole) := ⟨rfl, rfl, rfl, by decide +kernel, rfl, by decide +kernel, by decide +kernel⟩
abbrev s_is_between : Stmt := topS 10
abbrev N_is_between : List Str := ["thing", "least", "most"]
theorem sc_is_between : FnScope N_is_between ["thing", "least", "most"] (defScope s_is_between) := ⟨rfl, rfl, rfl, by decide +kernel, rfl, by decide +kernel, by decide +kernel⟩
abbrev s_is_map : Stmt := topS 29
abbrev N_is_map : List Str := ["thing", "many", "to"]
theorem sc_is_map : FnScope N_is_map ["thing", "many"] (defScope s_is_map) := ⟨rfl, rfl, rfl, by decide +kernel, rfl, by decide +kernel, by decide +kernel⟩
abbrev s_Turns_init : Stmt := inClass (topS 30) 0
abbrev N_Turns_init : List Str := ["self", "many", "maps", "one"]
theorem sc_Turns_init : FnScope N_Turns_init ["self", "many", "maps"] (defScope s_Turns_init) := ⟨rfl, rfl, rfl, by decide +kernel, rfl, by decide +kernel, by decide +kernel⟩
abbrev s_Turns_len : Stmt := inClass (topS 30) 2
abbrev N_Turns_len : List Str := ["self"]
theorem sc_Turns_len : FnScope N_Turns_len ["self"] (defScope s_Turns_len) := ⟨rfl, rfl, rfl, by decide +kernel, rfl, by decide +kernel, by decide +kernel⟩
abbrev s_check_signs : Stmt := topS 12
abbrev N_check_signs : List Str := ["turns", "signs", "sign"]
theorem sc_check_signs : FnScope N_check_signs ["turns", "signs"] (defScope s_check_signs) := ⟨rfl, rfl, rfl, by decide +kernel, rfl, by decide +kernel, by decide +kernel⟩
abbrev s_begin_of : Stmt := topS 13
abbrev N_begin_of : List Str := ["turns"]
theorem sc_begin_of : FnScope N_begin_of ["turns"] (defScope s_begin_of) := ⟨rfl, rfl, rfl, by decide +kernel, rfl, by decide +kernel, by decide +kernel⟩
abbrev s_then : Stmt := topS 14
abbrev N_then : List Str := ["first", "second", "place"]
theorem sc_then : FnScope N_then ["first", "second"] (defScope s_then) := ⟨rfl, rfl, rfl, by decide +kernel, rfl, by decide +kernel, by decide +kernel⟩
abbrev s_has_met : Stmt := topS 15
abbrev N_has_met : List Str := ["one"]
theorem sc_has_met : FnScope N_has_met ["one"] (defScope s_has_met) := ⟨rfl, rfl, rfl, by decide +kernel, rfl, by decide +kernel, by decide +kernel⟩
abbrev s_is_pair : Stmt := topS 18
abbrev N_is_pair : List Str := ["thing", "many", "place"]
theorem sc_is_pair : FnScope N_is_pair ["thing", "many"] (defScope s_is_pair) := ⟨rfl, rfl, rfl, by decide +kernel, rfl, by decide +kernel, by decide +kernel⟩
abbrev s_above : Stmt := topS 19
abbrev N_above : List Str := ["pairs", "many", "onward", "place", "x", "y", "found", "waiting", "reached", "one"]
theorem sc_above : FnScope N_above ["pairs", "many"] (defScope s_above) := ⟨rfl, rfl, rfl, by decide +kernel, rfl, by decide +kernel, by decide +kernel⟩
abbrev s_Order_init : Stmt := inClass (topS 20) 0
abbrev N_Order_init : List Str := ["self", "many", "pairs", "pair", "place"]
theorem sc_Order_init : FnScope N_Order_init ["self", "many", "pairs"] (defScope s_Order_init) := ⟨rfl, rfl, rfl, by decide +kernel, rfl, by decide +kernel, by decide +kernel⟩
abbrev s_Order_len : Stmt := inClass (topS 20) 1
abbrev N_Order_len : List Str := ["self"]
theorem sc_Order_len : FnScope N_Order_len ["self"] (defScope s_Order_len) := ⟨rfl, rfl, rfl, by decide +kernel, rfl, by decide +kernel, by decide +kernel⟩
abbrev s_Order_at_most : Stmt := inClass (topS 20) 2
abbrev N_Order_at_most : List Str := ["self", "x", "y"]
theorem sc_Order_at_most : FnScope N_Order_at_most ["self", "x", "y"] (defScope s_Order_at_most) := ⟨rfl, rfl, rfl, by decide +kernel, rfl, by decide +kernel, by decide +kernel⟩
abbrev s_Order_least : Stmt := inClass (topS 20) 3
abbrev N_Order_least : List Str := ["self", "place", "reached"]
theorem sc_Order_least : FnScope N_Order_least ["self"] (defScope s_Order_least) := ⟨rfl, rfl, rfl, by decide +kernel, rfl, by decide +kernel, by decide +kernel⟩
abbrev s_Order_greatest : Stmt := inClass (topS 20) 4
abbrev N_Order_greatest : List Str := ["self", "place", "one"]
theorem sc_Order_greatest : FnScope N_Order_greatest ["self"] (defScope s_Order_greatest) := ⟨rfl, rfl, rfl, by decide +kernel, rfl, by decide +kernel, by decide +kernel⟩
abbrev s_not_kept : Stmt := topS 21
abbrev N_not_kept : List Str := ["turns", "order", "sign", "leads", "x", "y"]
theorem sc_not_kept : FnScope N_not_kept ["turns", "order"] (defScope s_not_kept) := ⟨rfl, rfl, rfl, by decide +kernel, rfl, by decide +kernel, by decide +kernel⟩
abbrev s_NotKept_init : Stmt := inClass (topS 5) 0
abbrev N_NotKept_init : List Str := ["self", "kept"]
theorem sc_NotKept_init : FnScope N_NotKept_init ["self", "kept"] (defScope s_NotKept_init) := ⟨rfl, rfl, rfl, by decide +kernel, rfl, by decide +kernel, by decide +kernel⟩
abbrev s_drawn_between : Stmt := topS 22
abbrev N_drawn_between : List Str := ["turns", "order", "signs", "kept", "low", "high", "found", "k", "sign", "to"]
theorem sc_drawn_between : FnScope N_drawn_between ["turns", "order", "signs"] (defScope s_drawn_between) := ⟨rfl, rfl, rfl, by decide +kernel, rfl, by decide +kernel, by decide +kernel⟩
abbrev s_is_tie : Stmt := topS 35
abbrev N_is_tie : List Str := ["thing", "spots"]
theorem sc_is_tie : FnScope N_is_tie ["thing", "spots"] (defScope s_is_tie) := ⟨rfl, rfl, rfl, by decide +kernel, rfl, by decide +kernel, by decide +kernel⟩
abbrev s_are_ties : Stmt := topS 36
abbrev N_are_ties : List Str := ["thing", "spots", "tie"]
theorem sc_are_ties : FnScope N_are_ties ["thing", "spots"] (defScope s_are_ties) := ⟨rfl, rfl, rfl, by decide +kernel, rfl, by decide +kernel, by decide +kernel⟩
abbrev s_are_levels : Stmt := topS 37
abbrev N_are_levels : List Str := ["thing", "spots", "whole", "level"]
theorem sc_are_levels : FnScope N_are_levels ["thing", "spots", "whole"] (defScope s_are_levels) := ⟨rfl, rfl, rfl, by decide +kernel, rfl, by decide +kernel, by decide +kernel⟩
abbrev s_Web_init : Stmt := inClass (topS 38) 0
abbrev N_Web_init : List Str := ["self", "spots", "ties", "whole", "levels"]
theorem sc_Web_init : FnScope N_Web_init ["self", "spots", "ties", "whole", "levels"] (defScope s_Web_init) := ⟨rfl, rfl, rfl, by decide +kernel, rfl, by decide +kernel, by decide +kernel⟩
abbrev s_is_up : Stmt := topS 39
abbrev N_is_up : List Str := ["place", "spot"]
theorem sc_is_up : FnScope N_is_up ["place", "spot"] (defScope s_is_up) := ⟨rfl, rfl, rfl, by decide +kernel, rfl, by decide +kernel, by decide +kernel⟩
abbrev s_tied_to : Stmt := topS 40
abbrev N_tied_to : List Str := ["web", "spot", "one", "other"]
theorem sc_tied_to : FnScope N_tied_to ["web", "spot"] (defScope s_tied_to) := ⟨rfl, rfl, rfl, by decide +kernel, rfl, by decide +kernel, by decide +kernel⟩
abbrev s_moved : Stmt := topS 41
abbrev N_moved : List Str := ["web", "place", "spot", "number", "many", "one", "stand"]
theorem sc_moved : FnScope N_moved ["web", "place", "spot", "number"] (defScope s_moved) := ⟨rfl, rfl, rfl, by decide +kernel, rfl, by decide +kernel, by decide +kernel⟩
abbrev s_turns_of : Stmt := topS 42
abbrev N_turns_of : List Str := ["web", "many", "maps", "spot", "number", "place"]
theorem sc_turns_of : FnScope N_turns_of ["web"] (defScope s_turns_of) := ⟨rfl, rfl, rfl, by decide +kernel, rfl, by decide +kernel, by decide +kernel⟩
abbrev s_order_of : Stmt := topS 43
abbrev N_order_of : List Str := ["web", "many", "pairs", "place", "spot"]
theorem sc_order_of : FnScope N_order_of ["web"] (defScope s_order_of) := ⟨rfl, rfl, rfl, by decide +kernel, rfl, by decide +kernel, by decide +kernel⟩
abbrev s_Draw_init : Stmt := inClass (topS 24) 0
abbrev N_Draw_init : List Str := ["self", "turns"]
theorem sc_Draw_init : FnScope N_Draw_init ["self", "turns"] (defScope s_Draw_init) := ⟨rfl, rfl, rfl, by decide +kernel, rfl, by decide +kernel, by decide +kernel⟩
abbrev s_Draw_place : Stmt := inClass (topS 24) 3
abbrev N_Draw_place : List Str := ["self"]
theorem sc_Draw_place : FnScope N_Draw_place ["self"] (defScope s_Draw_place) := ⟨rfl, rfl, rfl, by decide +kernel, rfl, by decide +kernel, by decide +kernel⟩
abbrev s_Draw_used : Stmt := inClass (topS 24) 4
abbrev N_Draw_used : List Str := ["self"]
theorem sc_Draw_used : FnScope N_Draw_used ["self"] (defScope s_Draw_used) := ⟨rfl, rfl, rfl, by decide +kernel, rfl, by decide +kernel, by decide +kernel⟩
abbrev s_Draw_elder : Stmt := inClass (topS 24) 2
abbrev N_Draw_elder : List Str := ["self", "sign"]
theorem sc_Draw_elder : FnScope N_Draw_elder ["self", "sign"] (defScope s_Draw_elder) := ⟨rfl, rfl, rfl, by decide +kernel, rfl, by decide +kernel, by decide +kernel⟩
abbrev s_drawn : Stmt := topS 25
abbrev N_drawn : List Str := ["turns", "signs", "draw", "sign"]
theorem sc_drawn : FnScope N_drawn ["turns", "signs"] (defScope s_drawn) := ⟨rfl, rfl, rfl, by decide +kernel, rfl, by decide +kernel, by decide +kernel⟩
abbrev s__law_well : Stmt := topS 45
abbrev N__law_well : List Str := ["_law_cell"]
theorem sc__law_well : FnScope N__law_well ["_law_cell"] (defScope s__law_well) := ⟨rfl, rfl, rfl, by decide +kernel, rfl, by decide +kernel, by decide +kernel⟩
abbrev s__law_draw : Stmt := topS 46
abbrev N__law_draw : List Str := ["_law_well_here", "_law_many", "_law_digit", "_law_prime", "_law_number"]
theorem sc__law_draw : FnScope N__law_draw ["_law_well_here", "_law_many"] (defScope s__law_draw) := ⟨rfl, rfl, rfl, by decide +kernel, rfl, by decide +kernel, by decide +kernel⟩
abbrev s__law_one : Stmt := topS 47
abbrev N__law_one : List Str := ["_law_well_here", "_law_some"]
theorem sc__law_one : FnScope N__law_one ["_law_well_here", "_law_some"] (defScope s__law_one) := ⟨rfl, rfl, rfl, by decide +kernel, rfl, by decide +kernel, by decide +kernel⟩
abbrev s__law_web : Stmt := topS 48
abbrev N__law_web : List Str := ["_law_well_here", "_law_spots", "_law_ties", "_law_one_here", "_law_other", "_law_whole", "_law_levels", "_law_spot"]
theorem sc__law_web : FnScope N__law_web ["_law_well_here"] (defScope s__law_web) := ⟨rfl, rfl, rfl, by decide +kernel, rfl, by decide +kernel, by decide +kernel⟩
abbrev s__law_told : Stmt := topS 49
abbrev N__law_told : List Str := ["_law_turns", "_law_order", "_law_signs", "e"]
theorem sc__law_told : FnScope N__law_told ["_law_turns", "_law_order", "_law_signs"] (defScope s__law_told) := ⟨rfl, rfl, rfl, by decide +kernel, rfl, by decide +kernel, by decide +kernel⟩
abbrev s__law_right : Stmt := topS 50
abbrev N__law_right : List Str := ["_law_turns", "_law_order", "_law_signs", "_law_rises", "_law_kept", "_law_sign", "_law_x", "_law_y", "_law_leads"]
theorem sc__law_right : FnScope N__law_right ["_law_turns", "_law_order", "_law_signs", "_law_rises"] (defScope s__law_right) := ⟨rfl, rfl, rfl, by decide +kernel, rfl, by decide +kernel, by decide +kernel⟩
abbrev s_law : Stmt := topS 51
abbrev N_law : List Str := ["_law_script", "_law_cell", "_law_well_here", "_law_web_here", "_law_rises", "_law_turns", "_law_order", "_law_signs", "_law_k"]
theorem sc_law : FnScope N_law ["_law_script"] (defScope s_law) := ⟨rfl, rfl, rfl, by decide +kernel, rfl, by decide +kernel, by decide +kernel⟩
structure Tx (K : PySem.W.Frag) (mg : Str → Option Value) where
  a_is_whole : Addr
  d_is_whole : FuncData
  F_is_whole : Fun K "is_whole" "is_whole" s_is_whole a_is_whole d_is_whole
  b_is_whole : Binds K d_is_whole ["thing"] []
  g_is_whole : mg "is_whole" = some (.ref a_is_whole)
  a_is_between : Addr
  d_is_between : FuncData
  F_is_between : Fun K "is_between" "is_between" s_is_between a_is_between d_is_between
  b_is_between : Binds K d_is_between ["thing", "least", "most"] []
  g_is_between : mg "is_between" = some (.ref a_is_between)
  a_is_map : Addr
  d_is_map : FuncData
  F_is_map : Fun K "is_map" "is_map" s_is_map a_is_map d_is_map
  b_is_map : Binds K d_is_map ["thing", "many"] []
  g_is_map : mg "is_map" = some (.ref a_is_map)
  a_Turns_init : Addr
  d_Turns_init : FuncData
  F_Turns_init : Fun K "__init__" "Turns.__init__" s_Turns_init a_Turns_init d_Turns_init
  b_Turns_init : Binds K d_Turns_init ["self", "many", "maps"] []
  a_Turns_len : Addr
  d_Turns_len : FuncData
  F_Turns_len : Fun K "__len__" "Turns.__len__" s_Turns_len a_Turns_len d_Turns_len
  b_Turns_len : Binds K d_Turns_len ["self"] []
  a_check_signs : Addr
  d_check_signs : FuncData
  F_check_signs : Fun K "check_signs" "check_signs" s_check_signs a_check_signs d_check_signs
  b_check_signs : Binds K d_check_signs ["turns", "signs"] []
  g_check_signs : mg "check_signs" = some (.ref a_check_signs)
  a_begin_of : Addr
  d_begin_of : FuncData
  F_begin_of : Fun K "begin_of" "begin_of" s_begin_of a_begin_of d_begin_of
  b_begin_of : Binds K d_begin_of ["turns"] []
  g_begin_of : mg "begin_of" = some (.ref a_begin_of)
  a_then : Addr
  d_then : FuncData
  F_then : Fun K "then" "then" s_then a_then d_then
  b_then : Binds K d_then ["first", "second"] []
  g_then : mg "then" = some (.ref a_then)
  a_has_met : Addr
  d_has_met : FuncData
  F_has_met : Fun K "has_met" "has_met" s_has_met a_has_met d_has_met
  b_has_met : Binds K d_has_met ["one"] []
  g_has_met : mg "has_met" = some (.ref a_has_met)
  a_is_pair : Addr
  d_is_pair : FuncData
  F_is_pair : Fun K "is_pair" "is_pair" s_is_pair a_is_pair d_is_pair
  b_is_pair : Binds K d_is_pair ["thing", "many"] []
  g_is_pair : mg "is_pair" = some (.ref a_is_pair)
  a_above : Addr
  d_above : FuncData
  F_above : Fun K "above" "above" s_above a_above d_above
  b_above : Binds K d_above ["pairs", "many"] []
  g_above : mg "above" = some (.ref a_above)
  a_Order_init : Addr
  d_Order_init : FuncData
  F_Order_init : Fun K "__init__" "Order.__init__" s_Order_init a_Order_init d_Order_init
  b_Order_init : Binds K d_Order_init ["self", "many", "pairs"] []
  a_Order_len : Addr
  d_Order_len : FuncData
  F_Order_len : Fun K "__len__" "Order.__len__" s_Order_len a_Order_len d_Order_len
  b_Order_len : Binds K d_Order_len ["self"] []
  a_Order_at_most : Addr
  d_Order_at_most : FuncData
  F_Order_at_most : Fun K "at_most" "Order.at_most" s_Order_at_most a_Order_at_most d_Order_at_most
  b_Order_at_most : Binds K d_Order_at_most ["self", "x", "y"] []
  a_Order_least : Addr
  d_Order_least : FuncData
  F_Order_least : Fun K "least" "Order.least" s_Order_least a_Order_least d_Order_least
  b_Order_least : Binds K d_Order_least ["self"] []
  a_Order_greatest : Addr
  d_Order_greatest : FuncData
  F_Order_greatest : Fun K "greatest" "Order.greatest" s_Order_greatest a_Order_greatest d_Order_greatest
  b_Order_greatest : Binds K d_Order_greatest ["self"] []
  a_not_kept : Addr
  d_not_kept : FuncData
  F_not_kept : Fun K "not_kept" "not_kept" s_not_kept a_not_kept d_not_kept
  b_not_kept : Binds K d_not_kept ["turns", "order"] []
  g_not_kept : mg "not_kept" = some (.ref a_not_kept)
  a_NotKept_init : Addr
  d_NotKept_init : FuncData
  F_NotKept_init : Fun K "__init__" "NotKept.__init__" s_NotKept_init a_NotKept_init d_NotKept_init
  b_NotKept_init : Binds K d_NotKept_init ["self", "kept"] []
  a_drawn_between : Addr
  d_drawn_between : FuncData
  F_drawn_between : Fun K "drawn_between" "drawn_between" s_drawn_between a_drawn_between d_drawn_between
  b_drawn_between : Binds K d_drawn_between ["turns", "order", "signs"] []
  g_drawn_between : mg "drawn_between" = some (.ref a_drawn_between)
  a_is_tie : Addr
  d_is_tie : FuncData
  F_is_tie : Fun K "is_tie" "is_tie" s_is_tie a_is_tie d_is_tie
  b_is_tie : Binds K d_is_tie ["thing", "spots"] []
  g_is_tie : mg "is_tie" = some (.ref a_is_tie)
  a_are_ties : Addr
  d_are_ties : FuncData
  F_are_ties : Fun K "are_ties" "are_ties" s_are_ties a_are_ties d_are_ties
  b_are_ties : Binds K d_are_ties ["thing", "spots"] []
  g_are_ties : mg "are_ties" = some (.ref a_are_ties)
  a_are_levels : Addr
  d_are_levels : FuncData
  F_are_levels : Fun K "are_levels" "are_levels" s_are_levels a_are_levels d_are_levels
  b_are_levels : Binds K d_are_levels ["thing", "spots", "whole"] []
  g_are_levels : mg "are_levels" = some (.ref a_are_levels)
  a_Web_init : Addr
  d_Web_init : FuncData
  F_Web_init : Fun K "__init__" "Web.__init__" s_Web_init a_Web_init d_Web_init
  b_Web_init : Binds K d_Web_init ["self", "spots", "ties", "whole", "levels"] []
  a_is_up : Addr
  d_is_up : FuncData
  F_is_up : Fun K "is_up" "is_up" s_is_up a_is_up d_is_up
  b_is_up : Binds K d_is_up ["place", "spot"] []
  g_is_up : mg "is_up" = some (.ref a_is_up)
  a_tied_to : Addr
  d_tied_to : FuncData
  F_tied_to : Fun K "tied_to" "tied_to" s_tied_to a_tied_to d_tied_to
  b_tied_to : Binds K d_tied_to ["web", "spot"] []
  g_tied_to : mg "tied_to" = some (.ref a_tied_to)
  a_moved : Addr
  d_moved : FuncData
  F_moved : Fun K "moved" "moved" s_moved a_moved d_moved
  b_moved : Binds K d_moved ["web", "place", "spot", "number"] []
  g_moved : mg "moved" = some (.ref a_moved)
  a_turns_of : Addr
  d_turns_of : FuncData
  F_turns_of : Fun K "turns_of" "turns_of" s_turns_of a_turns_of d_turns_of
  b_turns_of : Binds K d_turns_of ["web"] []
  g_turns_of : mg "turns_of" = some (.ref a_turns_of)
  a_order_of : Addr
  d_order_of : FuncData
  F_order_of : Fun K "order_of" "order_of" s_order_of a_order_of d_order_of
  b_order_of : Binds K d_order_of ["web"] []
  g_order_of : mg "order_of" = some (.ref a_order_of)
  a_Draw_init : Addr
  d_Draw_init : FuncData
  F_Draw_init : Fun K "__init__" "Draw.__init__" s_Draw_init a_Draw_init d_Draw_init
  b_Draw_init : Binds K d_Draw_init ["self", "turns"] []
  a_Draw_place : Addr
  d_Draw_place : FuncData
  F_Draw_place : Fun K "place" "Draw.place" s_Draw_place a_Draw_place d_Draw_place
  b_Draw_place : Binds K d_Draw_place ["self"] []
  a_Draw_used : Addr
  d_Draw_used : FuncData
  F_Draw_used : Fun K "used" "Draw.used" s_Draw_used a_Draw_used d_Draw_used
  b_Draw_used : Binds K d_Draw_used ["self"] []
  a_Draw_elder : Addr
  d_Draw_elder : FuncData
  F_Draw_elder : Fun K "elder" "Draw.elder" s_Draw_elder a_Draw_elder d_Draw_elder
  b_Draw_elder : Binds K d_Draw_elder ["self", "sign"] []
  a_drawn : Addr
  d_drawn : FuncData
  F_drawn : Fun K "drawn" "drawn" s_drawn a_drawn d_drawn
  b_drawn : Binds K d_drawn ["turns", "signs"] []
  g_drawn : mg "drawn" = some (.ref a_drawn)
  a__law_well : Addr
  d__law_well : FuncData
  F__law_well : Fun K "_law_well" "_law_well" s__law_well a__law_well d__law_well
  b__law_well : Binds K d__law_well ["_law_cell"] []
  g__law_well : mg "_law_well" = some (.ref a__law_well)
  a__law_draw : Addr
  d__law_draw : FuncData
  F__law_draw : Fun K "_law_draw" "_law_draw" s__law_draw a__law_draw d__law_draw
  b__law_draw : Binds K d__law_draw ["_law_well_here", "_law_many"] []
  g__law_draw : mg "_law_draw" = some (.ref a__law_draw)
  a__law_one : Addr
  d__law_one : FuncData
  F__law_one : Fun K "_law_one" "_law_one" s__law_one a__law_one d__law_one
  b__law_one : Binds K d__law_one ["_law_well_here", "_law_some"] []
  g__law_one : mg "_law_one" = some (.ref a__law_one)
  a__law_web : Addr
  d__law_web : FuncData
  F__law_web : Fun K "_law_web" "_law_web" s__law_web a__law_web d__law_web
  b__law_web : Binds K d__law_web ["_law_well_here"] []
  g__law_web : mg "_law_web" = some (.ref a__law_web)
  a__law_told : Addr
  d__law_told : FuncData
  F__law_told : Fun K "_law_told" "_law_told" s__law_told a__law_told d__law_told
  b__law_told : Binds K d__law_told ["_law_turns", "_law_order", "_law_signs"] []
  g__law_told : mg "_law_told" = some (.ref a__law_told)
  a__law_right : Addr
  d__law_right : FuncData
  F__law_right : Fun K "_law_right" "_law_right" s__law_right a__law_right d__law_right
  b__law_right : Binds K d__law_right ["_law_turns", "_law_order", "_law_signs", "_law_rises"] []
  g__law_right : mg "_law_right" = some (.ref a__law_right)
  a_law : Addr
  d_law : FuncData
  F_law : Fun K "law" "law" s_law a_law d_law
  b_law : Binds K d_law ["_law_script"] []
  g_law : mg "law" = some (.ref a_law)
  C_Draw : Addr
  cl_Draw : Cls K C_Draw
  g_Draw : mg "Draw" = some (.ref C_Draw)
  mk_Draw : Mk K C_Draw a_Draw_init
  C_Order : Addr
  cl_Order : Cls K C_Order
  g_Order : mg "Order" = some (.ref C_Order)
  mk_Order : Mk K C_Order a_Order_init
  C_Turns : Addr
  cl_Turns : Cls K C_Turns
  g_Turns : mg "Turns" = some (.ref C_Turns)
  mk_Turns : Mk K C_Turns a_Turns_init
  C_Web : Addr
  cl_Web : Cls K C_Web
  g_Web : mg "Web" = some (.ref C_Web)
  mk_Web : Mk K C_Web a_Web_init
  C_DrawError : Addr
  g_DrawError : mg "DrawError" = some (.ref C_DrawError)
  base_DrawError : BaseC K C_DrawError
  C_NotKept : Addr
  g_NotKept : mg "NotKept" = some (.ref C_NotKept)
  oex_NotKept : OexC K C_NotKept
  ii_NotKept : PySem.W.findIn K (.ref C_NotKept) "__init__" = some (some (.ref a_NotKept_init))
  tf_NotKept : PySem.W.typeIn K (.ref a_NotKept_init) = some (.type "function")
  xf_NotKept : XfC K C_NotKept
  nf_NotKept : PySem.W.findIn K (.ref C_NotKept) "kept" = some none
  te_NotKept : PySem.W.exmOne K (.ref C_NotKept) (.ref C_NotKept) = some true
  m_Draw_elder : Meth K C_Draw "elder" a_Draw_elder
  m_Draw_place : Meth K C_Draw "place" a_Draw_place
  m_Draw_used : Meth K C_Draw "used" a_Draw_used
  m_Order_len : Meth K C_Order "__len__" a_Order_len
  m_Order_at_most : Meth K C_Order "at_most" a_Order_at_most
  m_Order_greatest : Meth K C_Order "greatest" a_Order_greatest
  m_Order_least : Meth K C_Order "least" a_Order_least
  m_Turns_len : Meth K C_Turns "__len__" a_Turns_len
  na_Draw_found : NoAttr K C_Draw "found"
  na_Draw_many : NoAttr K C_Draw "many"
  na_Draw_told : NoAttr K C_Draw "told"
  na_Draw_turns : NoAttr K C_Draw "turns"
  na_Order_higher : NoAttr K C_Order "higher"
  na_Turns_many : NoAttr K C_Turns "many"
  na_Turns_maps : NoAttr K C_Turns "maps"
  na_Web_levels : NoAttr K C_Web "levels"
  na_Web_spots : NoAttr K C_Web "spots"
  na_Web_ties : NoAttr K C_Web "ties"
  na_Web_whole : NoAttr K C_Web "whole"
  z_all : mg "all" = none
  z_any : mg "any" = none
  z_bool : mg "bool" = none
  z_enumerate : mg "enumerate" = none
  z_int : mg "int" = none
  z_isinstance : mg "isinstance" = none
  z_len : mg "len" = none
  z_list : mg "list" = none
  z_range : mg "range" = none
  z_set : mg "set" = none
  z_sorted : mg "sorted" = none
  z_tuple : mg "tuple" = none
  t_MOST_PLACES_orders : Tok
  c_MOST_PLACES_orders : mg "MOST_PLACES_orders" = some (.int 32 t_MOST_PLACES_orders)
  t_MOST_PLACES_turns : Tok
  c_MOST_PLACES_turns : mg "MOST_PLACES_turns" = some (.int 32 t_MOST_PLACES_turns)
  t_MOST_SIGNS : Tok
  c_MOST_SIGNS : mg "MOST_SIGNS" = some (.int 200 t_MOST_SIGNS)
  t_MOST_SPOTS : Tok
  c_MOST_SPOTS : mg "MOST_SPOTS" = some (.int 5 t_MOST_SPOTS)
  t_MOST_WHOLE : Tok
  c_MOST_WHOLE : mg "MOST_WHOLE" = some (.int 40 t_MOST_WHOLE)
  q_WORTHS : Addr
  c_WORTHS : mg "WORTHS" = some (.ref q_WORTHS)
  w_WORTHS : KTup K q_WORTHS [1, 2, 4, 8, 16, 32]
section
variable {P : Program} {w : World} {K : PySem.W.Frag} {mg : Str → Option Value} {base : Heap}
local macro_rules | `(tactic| walk_at "rp") => `(tactic| first
  | assumption
  | exact (show _ = _ from rfl)
  | (apply rpm (Gr.ff (by assumption)); (case r => walk_at "rp"); (case m => infer_instance))
  | (apply rpm (by assumption); (case r => walk_at "rp"); (case m => infer_instance)))
local macro_rules | `(tactic| walk_at "ex") => `(tactic| first
  | assumption
  | exact Ex.refl _
  | exact Gr.fh (by assumption)
  | exact Gr.ff (by assumption)
  | (refine' Ex.trans ?_ (Gr.ff (by assumption)); walk_at "ex")
  | (refine' Ex.trans ?_ (by assumption); walk_at "ex"))
local macro_rules | `(tactic| walk_at "sd") => `(tactic| first | trivial | assumption | omega | exact atI_natL (by assumption) | exact ⟨by omega, by omega⟩)
local macro_rules | `(tactic| walk_at "n") => `(tactic| (repeat (first | with_reducible apply sn | with_reducible apply sq | (dsimp only))))
local macro_rules | `(tactic| walk_at "eo") => `(tactic| first
  | with_reducible exact eo_none
  | ((with_reducible apply eo_some); walk_at "ev"))
local macro_rules | `(tactic| walk_at "el") => `(tactic| first
  | with_reducible exact el_nil
  | ((with_reducible apply el_cons); (case h => walk_at "ev"); (case hr => walk_at "el"); (case m => infer_instance)))
local macro_rules | `(tactic| walk_at "et") => `(tactic| first
  | ((with_reducible apply et_test); walk_at "ev")
  | ((with_reducible apply et_B); walk_at "ev")
  | ((with_reducible apply et_not); walk_at "et")
  | ((with_reducible apply et_and); (case h1 => walk_at "et"); (case h2 => intro hh; clear hh; walk_at "et"))
  | ((with_reducible apply et_or); (case h1 => walk_at "et"); (case h2 => intro hh; clear hh; walk_at "et")))
local macro_rules | `(tactic| walk_at "ev") => `(tactic| first
  | with_reducible exact ev_int
  | with_reducible exact ev_bl
  | with_reducible exact ev_str
  | with_reducible exact ev_noneO
  | with_reducible exact ev_non
  | with_reducible exact ev_ty
  | with_reducible exact ev_ref
  | ((with_reducible apply ev_var); (case h => rfl); (case r => walk_at "rp"); (case m => infer_instance))
  | ((with_reducible apply ev_add); (case ha => walk_at "ev"); (case hb => walk_at "ev"))
  | ((with_reducible apply ev_sub); (case ha => walk_at "ev"); (case hb => walk_at "ev"))
  | ((with_reducible apply ev_mul); (case ha => walk_at "ev"); (case hb => walk_at "ev"); (try (case hc => walk_at "sd")))
  | ((with_reducible apply ev_mod); (case ha => walk_at "ev"); (case hb => walk_at "ev"); (try (case hc => walk_at "sd")))
  | ((with_reducible apply ev_fdiv); (case ha => walk_at "ev"); (case hb => walk_at "ev"); (try (case hc => walk_at "sd")))
  | ((with_reducible apply ev_pow); (case ha => walk_at "ev"); (case hb => walk_at "ev"); (try (case hc => walk_at "sd")))
  | ((with_reducible apply ev_lt); (case ha => walk_at "ev"); (case hb => walk_at "ev"))
  | ((with_reducible apply ev_le); (case ha => walk_at "ev"); (case hb => walk_at "ev"))
  | ((with_reducible apply ev_gt); (case ha => walk_at "ev"); (case hb => walk_at "ev"))
  | ((with_reducible apply ev_ge); (case ha => walk_at "ev"); (case hb => walk_at "ev"))
  | ((with_reducible apply ev_chain); (case ha => walk_at "ev"); (case hb => walk_at "ev"); (case hc => walk_at "ev"))
  | ((with_reducible apply ev_eqI); (case ha => walk_at "ev"); (case hb => walk_at "ev"))
  | ((with_reducible apply ev_neI); (case ha => walk_at "ev"); (case hb => walk_at "ev"))
  | ((with_reducible apply ev_eqS); (case ha => walk_at "ev"); (case hb => walk_at "ev"))
  | ((with_reducible apply ev_neS); (case ha => walk_at "ev"); (case hb => walk_at "ev"))
  | ((with_reducible apply ev_isN); (case ha => walk_at "ev"); (case n => infer_instance))
  | ((with_reducible apply ev_notN); (case ha => walk_at "ev"); (case n => infer_instance))
  | ((with_reducible apply ev_neg); walk_at "ev")
  | ((with_reducible apply ev_fld); (case ha => walk_at "ev"); (case c => infer_instance))
  | ((with_reducible apply ev_lenL); walk_at "ev")
  | ((with_reducible apply ev_lenT); walk_at "ev")
  | ((with_reducible apply ev_lenOwn); (case ha => walk_at "ev"); (try (case hz => walk_at "sd")))
  | ((with_reducible apply ev_lenSet); (case ha => walk_at "ev"); (try (case hz => walk_at "sd")))
  | ((with_reducible apply ev_call1); (case ha => walk_at "ev"); (try (case p => walk_at "sd")))
  | ((with_reducible apply ev_call2); (case ha => walk_at "ev"); (case hb => walk_at "ev"); (try (case p => walk_at "sd")); (case m => infer_instance))
  | ((with_reducible apply ev_call3); (case ha => walk_at "ev"); (case hb => walk_at "ev"); (case hc => walk_at "ev"); (try (case p => walk_at "sd")); (case m => infer_instance); (case n => infer_instance))
  | ((with_reducible apply ev_call4); (case ha => walk_at "ev"); (case hb => walk_at "ev"); (case hc => walk_at "ev"); (case hd => walk_at "ev"); (try (case p => walk_at "sd")); (case m => infer_instance); (case n => infer_instance); (case o => infer_instance))
  | ((with_reducible apply ev_meth0); (case ha => walk_at "ev"); (try (case p => walk_at "sd")))
  | ((with_reducible apply ev_meth1); (case ha => walk_at "ev"); (case hb => walk_at "ev"); (try (case p => walk_at "sd")); (case m' => infer_instance))
  | ((with_reducible apply ev_meth2); (case ha => walk_at "ev"); (case hb => walk_at "ev"); (case hc => walk_at "ev"); (try (case p => walk_at "sd")); (case m' => infer_instance); (case n' => infer_instance))
  | ((with_reducible apply ev_fst); (case ha => walk_at "ev"); (case m => infer_instance))
  | ((with_reducible apply ev_snd); (case ha => walk_at "ev"); (case m => infer_instance))
  | ((with_reducible apply ev_ixL); (case ha => walk_at "ev"); (case hb => walk_at "ev"); (try (case h => walk_at "sd")); (case m => infer_instance))
  | ((with_reducible apply ev_ixT); (case ha => walk_at "ev"); (case hb => walk_at "ev"); (try (case h => walk_at "sd")); (case m => infer_instance))
  | ((with_reducible apply ev_isIntInt); walk_at "ev")
  | ((with_reducible apply ev_isIntBool); walk_at "ev")
  | ((with_reducible apply ev_isTup); walk_at "ev")
  | ((with_reducible apply ev_isLst); walk_at "ev")
  | ((with_reducible apply ev_isStr); walk_at "ev")
  | ((with_reducible apply ev_tupL); (case ha => walk_at "ev"); (case m => infer_instance))
  | ((with_reducible apply ev_listL); (case ha => walk_at "ev"); (case m => infer_instance))
  | ((with_reducible apply ev_listT); (case ha => walk_at "ev"); (case m => infer_instance))
  | ((with_reducible apply ev_tupRg); (case ha => walk_at "ev"); (try (case hn => walk_at "sd")))
  | ((with_reducible apply ev_lstRg); (case ha => walk_at "ev"); (try (case hn => walk_at "sd")))
  | ((with_reducible apply ev_all); walk_at "ev")
  | ((with_reducible apply ev_any); walk_at "ev")
  | ((with_reducible apply ev_sum); walk_at "ev")
  | ((with_reducible apply ev_notV); walk_at "ev")
  | ((with_reducible apply ev_andV); (case h1 => walk_at "ev"); (case h2 => intro hh; clear hh; walk_at "ev"))
  | ((with_reducible apply ev_orV); (case h1 => walk_at "ev"); (case h2 => intro hh; clear hh; walk_at "ev"))
  | ((with_reducible apply ev_cat); (case ha => walk_at "ev"); (case hb => walk_at "ev"); (try (case hz => walk_at "sd")); (case m => infer_instance))
  | ((with_reducible apply ev_lst); (case h => walk_at "el"); (try (case hz => simp only [List.length_cons, List.length_nil, sizeLine_eq]; omega)); (case m => infer_instance))
  | ((with_reducible apply ev_tup); (case h => walk_at "el"); (try (case hz => simp only [List.length_cons, List.length_nil, sizeLine_eq]; omega)); (case m => infer_instance))
  | ((with_reducible apply ev_pr); (case ha => walk_at "ev"); (case hb => walk_at "ev"); (case m => infer_instance); (case n => infer_instance))
  | ((with_reducible apply ev_slL); (case h => walk_at "ev"); (case h1 => walk_at "eo"); (case h2 => walk_at "eo"); (case m => infer_instance))
  | ((with_reducible apply ev_rep1); (case ha => walk_at "ev"); (case hb => walk_at "ev"); (try (case hn => walk_at "sd")); (try (case h0 => walk_at "sd")); (case m => infer_instance))
  | ((with_reducible apply Ev.nat); walk_at "ev"))

abbrev sp_is_whole (T : Tx K mg) : Sp := Sp1 rInt (fun _ => True) rBl (fun _ => true)
theorem ok_is_whole (T : Tx K mg) : FnOk P w K mg base CX0 1 T.a_is_whole T.d_is_whole ["thing"] (sp_is_whole T) := by
  refine T.F_is_whole.ok sc_is_whole (fun vs H Q E h => SpLen.len h) (fun cdv A outer s H vs Q E hr h => ?_)
  obtain ⟨F, v, x, rfl, e, r, -, k⟩ := h
  refine ⟨_, (by exact (pss_one (ps_ret (pe_and (pe_callB (r := rIsi K) call_isi (by rfl) T.z_isinstance (by decide +kernel) (pa_cons (pv 0) (pa_cons (pe_bltn (v := .ty "int") (by rfl) T.z_int (by decide +kernel) rfl) pa_nil))) (pe_one (pe_not (pe_callB (r := rIsi K) call_isi (by rfl) T.z_isinstance (by decide +kernel) (pa_cons (pv 0) (pa_cons (pe_bltn (v := .ty "bool") (by rfl) T.z_bool (by decide +kernel) rfl) pa_nil))))))))), ?_⟩
  try dsimp only [cxOf]
  apply x_ret e
  case h => walk_at "ev"
  exact k

abbrev sp_is_between (T : Tx K mg) : Sp := Sp3 rInt rInt rInt (fun _ _ _ => True) rBl (fun x y z => decide (y ≤ x) && decide (x ≤ z))
theorem ok_is_between (T : Tx K mg) : FnOk P w K mg base CX0 2 T.a_is_between T.d_is_between ["thing", "least", "most"] (sp_is_between T) := by
  refine T.F_is_between.ok sc_is_between (fun vs H Q E h => SpLen.len h) (fun cdv A outer s H vs Q E hr h => ?_)
  obtain ⟨F, v, w, u, x, y, z, rfl, e, r1, r2, r3, -, k⟩ := h
  refine ⟨_, (by exact (pss_one (ps_ret (pe_and (pe_call (ok_is_whole T) (hr.mono (by decide)) rfl T.g_is_whole T.F_is_whole.kp T.b_is_whole .nil pass0 (pa_cons (pv 0) pa_nil)) (pe_one (pe_chain op_le op_le (pv 1) (pv 0) (pv 2))))))), ?_⟩
  try dsimp only [cxOf]
  apply x_ret e
  case h => walk_at "ev"
  intro v F' H' g r
  rw [Bool.true_and] at r
  exact k v F' H' g r

instance {T : Tx K mg} : IsF (rTurns T.C_Turns) K "many" rNat Tn.many := fld_many T.cl_Turns T.na_Turns_many
instance {T : Tx K mg} : IsF (rTurns T.C_Turns) K "maps" (rLst (rTup rNat)) Tn.maps := fld_maps T.cl_Turns T.na_Turns_maps
abbrev sp_is_map (T : Tx K mg) : Sp := Sp2 (rTup rNat) rNat (fun m n => IsMap n m ∧ n ≤ 1000) rBl (fun _ _ => true)
theorem ok_is_map (T : Tx K mg) : FnOk P w K mg base CX0 3 T.a_is_map T.d_is_map ["thing", "many"] (sp_is_map T) := by
  refine T.F_is_map.ok sc_is_map (fun vs H Q E h => SpLen.len h) (fun cdv A outer s H vs Q E hr h => ?_)
  obtain ⟨F, v, w, m, n, rfl, e, r1, r2, ⟨p, pn⟩, k⟩ := h
  cases (show w = _ from r2)
  refine ⟨_, (by exact (pss_one (ps_ret (pe_and (pe_callB (r := rIsi K) call_isi (by rfl) T.z_isinstance (by decide +kernel) (pa_cons (pv 0) (pa_cons (pe_bltn (v := .ty "tuple") (by rfl) T.z_tuple (by decide +kernel) rfl) pa_nil))) (pe_and (pe_cmpR op_eq (pe_callB (r := rLenS K) call_len_seq (by rfl) T.z_len PySem.boot_len (pa_cons (pv 0) pa_nil)) (pv 1) (nomark _)) (pe_one (pe_callB (r := rAll K) (cr_all rfl) (by rfl) T.z_all (by decide +kernel) (pa_cons (pe_lc (own := [("to", 2)]) (g := gName 2) (tt := tYes) rfl sc_is_map.nd (ktup K (pv 0)) (blkOk_by (own := [("to", 2)]) (N := N_is_map) (sc := defScope s_is_map) (by decide +kernel)) (fun _ _ _ _ _ => (pg_name (i := 2) sc_is_map.nd rfl (by first | exact Or.inl rfl | exact Or.inr rfl))) (fun _ _ _ _ _ => pts_nil) (fun _ _ _ _ _ => (pe_call (ok_is_between T) (hr.mono (by decide)) rfl T.g_is_between T.F_is_between.kp T.b_is_between .nil pass0 (pa_cons (pv 2) (pa_cons pe_int (pa_cons (pe_op op_sub (pv 1) pe_int) pa_nil)))))) pa_nil)))))))), ?_⟩
  try dsimp only [cxOf]
  apply x_ret e
  case h =>
    refine ev_andV (a := true) (b := true) ?_ fun _ => ev_andV (a := true) (b := true) ?_ fun _ => ?_
    · walk_at "ev"
    · exact (Ev.is (ev_eqI (ev_lenT (ev_var rfl r1)) (ev_var rfl rfl)) (by rw [p.1]; simp))
    · refine (ev_all (ev_lcTm (R := rNat) (fun _ => true) (ev_var rfl r1) (by rw [p.1]; omega) (fun v => rfl) ?_)).is (List.all_eq_true.mpr fun b hb => ?_)
      · intro i x v F1 H1 hx g r
        cases (show v = _ from r)
        have := p.2 x (mem_of_at hx)
        apply Ev.is
        · walk_at "ev"
        · rw [decide_eq_true (by omega), decide_eq_true (by omega)] <;> rfl
      · obtain ⟨x, hx, rfl⟩ := List.mem_map.mp hb
        rfl
  exact k
abbrev sp_Turns_init (T : Tx K mg) : Sp := SpTurns T.C_Turns
theorem ok_Turns_init (T : Tx K mg) : FnOk P w K mg base CX0 4 T.a_Turns_init T.d_Turns_init ["self", "many", "maps"] (sp_Turns_init T) := by
  refine T.F_Turns_init.ok sc_Turns_init (fun vs H Q E h => SpLen.len h) (fun cdv A outer s H vs Q E hr h => ?_)
  obtain ⟨F, a, dx, l, t, rfl, e, fa, ha, rl, k⟩ := h
  have t0 := t.h0
  have t1 := t.h1
  have t2 := t.h2
  have t3 := t.h3
  refine ⟨_, (by exact (pss_cons (ps_if (pt_not (pt_val (pe_call (ok_is_between T) (hr.mono (by decide)) rfl T.g_is_between T.F_is_between.kp T.b_is_between .nil pass0 (pa_cons (pv 1) (pa_cons pe_int (pa_cons (pe_glob (v := .int 32) rfl T.c_MOST_PLACES_turns ⟨_, rfl⟩) pa_nil)))))) (pss_one ps_never) pss_nil)
      (pss_cons (ps_if (PW.pt (pw_or (pt_not (pt_val (pe_callB (r := rIsi K) call_isi (by rfl) T.z_isinstance (by decide +kernel) (pa_cons (pv 2) (pa_cons (pe_bltn (v := .ty "list") (by rfl) T.z_list (by decide +kernel) rfl) pa_nil))))) (pw_or1 (pt_not (pt_chain op_le op_le pe_int (pe_callB (r := rLenS K) call_len_seq (by rfl) T.z_len PySem.boot_len (pa_cons (pv 2) pa_nil)) (pe_glob (v := .int 200) rfl T.c_MOST_SIGNS ⟨_, rfl⟩)))))) (pss_one ps_never) pss_nil)
      (pss_cons (ps_if (pt_not (pt_val (pe_callB (r := rAll K) (cr_all rfl) (by rfl) T.z_all (by decide +kernel) (pa_cons (pe_lc (own := [("one", 3)]) (g := gName 3) (tt := tYes) rfl sc_Turns_init.nd (klist K (pv 2)) (blkOk_by (own := [("one", 3)]) (N := N_Turns_init) (sc := defScope s_Turns_init) (by decide +kernel)) (fun _ _ _ _ _ => (pg_name (i := 3) sc_Turns_init.nd rfl (by first | exact Or.inl rfl | exact Or.inr rfl))) (fun _ _ _ _ _ => pts_nil) (fun _ _ _ _ _ => (pe_call (ok_is_map T) (hr.mono (by decide)) rfl T.g_is_map T.F_is_map.kp T.b_is_map .nil pass0 (pa_cons (pv 3) (pa_cons (pv 1) pa_nil))))) pa_nil)))) (pss_one ps_never) pss_nil)
      (pss_cons (kset K (pv 0) (pv 1) rfl)
      (pss_one (kset K (pv 0) (pe_callTy (r := rListS K) call_list_of (by rfl) T.z_list (by decide +kernel) (pa_cons (pv 2) pa_nil)) rfl))))))), ?_⟩
  try dsimp only [cxOf]
  refine x_if (b := false) e (EvT.is (b := !true) ?_ rfl) (fun z => nomatch z) fun _ F1 H1 g1 => ?_
  · apply et_not
    apply et_B
    apply Ev.is
    · walk_at "ev"
    · rw [decide_eq_true (by omega), decide_eq_true (by omega)] <;> rfl
  walk_at "n"
  refine x_if (b := false) g1.fh (EvT.is (b := false || false) ?_ rfl) (fun z => nomatch z) fun _ F2 H2 g2 => ?_
  · refine et_or (EvT.is (b := !true) (et_not (et_B ?_)) rfl) fun _ => EvT.is (b := !true) (et_not (et_test ?_)) rfl
    · walk_at "ev"
    · apply Ev.is
      · walk_at "ev"
      · rw [decide_eq_true (by omega), decide_eq_true (by omega)] <;> rfl
  walk_at "n"
  refine x_if (b := false) g2.fh (EvT.is (b := !true) (et_not (et_B ?_)) rfl) (fun z => nomatch z) fun _ F3 H3 g3 => ?_
  · refine (ev_all (ev_lcm (R := rTup rNat) (fun _ => true) (ev_var rfl (by walk_at "rp")) (by omega) (fun v => rfl) ?_)).is (List.all_eq_true.mpr fun b hb => ?_)
    · intro i x v F1 H1 hx g r
      have := t.h4 x (mem_of_at hx)
      refine ev_call2 (ev_var rfl r) (ev_var rfl rfl) ⟨this, by omega⟩
    · obtain ⟨x, hx, rfl⟩ := List.mem_map.mp hb
      rfl
  walk_at "n"
  refine x_fld g3.fh (ev_var rfl (show rInt _ _ (t.many : Int) from rfl)) (ev_var rfl (show rRef _ _ a from rfl)) (g3.hx _ _ (g2.hx _ _ (g1.hx _ _ ha))) T.cl_Turns T.na_Turns_many (by decide) fun v F4 H4 g4 r4 h4 => ?_
  cases (show v = _ from r4)
  have g := (g1.trans g2).trans (g3.trans g4)
  have f4 : F4 a = none := g.nn ha fa
  have gg : Gr (El.M1 a) F H F4 (upd H4 a (.ins T.C_Turns dx (putF "many" (V.int t.many) []))) := g.up.set' f4 (.inr rfl)
  walk_at "n"
  refine x_fld gg.fh (ev_listL (ev_var rfl (by walk_at "rp"))) (ev_var rfl (show rRef _ _ a from rfl)) upd_same T.cl_Turns T.na_Turns_maps (by show 1 < 1000; decide) fun v F5 H5 g5 r5 h5 => ?_
  have g6 := (gg.trans g5.up).set' (o := .ins T.C_Turns dx (putF "maps" v (putF "many" (V.int t.many) []))) (g5.nn upd_same f4) (.inr rfl)
  exact k _ _ (g6.frz upd_same fa (.inr rfl)) ⟨a, dx, v, rfl, upd_same, Mn.mono (Ex.frz g6.fh upd_same (g5.nn upd_same f4)) r5⟩

abbrev sp_Turns_len (T : Tx K mg) : Sp := Sp1 (rTurns T.C_Turns) (fun _ => True) rNat (fun t => t.maps.length)
theorem ok_Turns_len (T : Tx K mg) : FnOk P w K mg base CX0 1 T.a_Turns_len T.d_Turns_len ["self"] (sp_Turns_len T) := by
  refine T.F_Turns_len.ok sc_Turns_len (fun vs H Q E h => SpLen.len h) (fun cdv A outer s H vs Q E hr h => ?_)
  obtain ⟨F, v, t, rfl, e, r, -, k⟩ := h
  refine ⟨_, (by exact (pss_one (ps_ret (pe_callB (r := rLenS K) call_len_seq (by rfl) T.z_len PySem.boot_len (pa_cons (kfld K (pv 0) rfl) pa_nil))))), ?_⟩
  try dsimp only [cxOf]
  apply x_ret e
  case h => walk_at "ev"
  exact k

abbrev sp_check_signs (T : Tx K mg) : Sp := Sp2 (rTurns T.C_Turns) (rLst rNat) (fun t w => ∀ s ∈ w, s < t.maps.length) rNon (fun _ _ => ())
theorem ok_check_signs (T : Tx K mg) : FnOk P w K mg base CX0 3 T.a_check_signs T.d_check_signs ["turns", "signs"] (sp_check_signs T) := by
  refine T.F_check_signs.ok sc_check_signs (fun vs H Q E h => SpLen.len h) (fun cdv A outer s H vs Q E hr h => ?_)
  obtain ⟨F, v, w, t, xs, rfl, e, r1, r2, p, k⟩ := h
  have t3 := t.h3
  refine ⟨_, (by exact (pss_one (ps_for PassesOwn.never rfl (klist K (pv 1)) (pg_name (i := 2) sc_check_signs.nd rfl (by first | exact Or.inl rfl | exact Or.inr rfl)) (pss_one (ps_if (pt_not (pt_val (pe_call (ok_is_between T) (hr.mono (by decide)) rfl T.g_is_between T.F_is_between.kp T.b_is_between .nil pass0 (pa_cons (pv 2) (pa_cons pe_int (pa_cons (pe_op op_sub (pe_callB (call_lenOwn (ok_Turns_len T) (hr.mono (by decide)) T.m_Turns_len.at_ T.m_Turns_len.fn T.b_Turns_len pass0) (by rfl) T.z_len PySem.boot_len (pa_cons (pv 0) pa_nil)) pe_int) pa_nil)))))) (pss_one ps_never) pss_nil))))), ?_⟩
  try dsimp only [cxOf]
  refine x_forL e (ev_var rfl r2) (fun i σ' F' H' => Gr M0 F H F' H' ∧ ∃ y, σ' = [some v, some w, y]) (fun F1 H1 g => ⟨g, none, rfl⟩) ?_ ?_
  · rintro F1 e1 i x u σ' F' H' hx e2 e3 r ⟨g, y, rfl⟩
    cases (show u = _ from r)
    have hs := p x (mem_of_at hx)
    refine x_if (b := false) g.fh (EvT.is (b := !true) (et_not (et_B ?_)) rfl) (fun z => nomatch z) fun _ F3 H3 g3 => ?_
    · apply Ev.is
      · walk_at "ev"
      · rw [decide_eq_true (by omega), decide_eq_true (by omega)] <;> rfl
    walk_at "n"
    exact ⟨F3, e2.trans g3.ff, g3.fh, g.trans g3, _, rfl⟩
  · rintro σ' F' H' e1 e2 ⟨g, y, rfl⟩
    exact k _ F' H' g rfl
abbrev sp_begin_of (T : Tx K mg) : Sp := Sp1 (rTurns T.C_Turns) (fun _ => True) (rTup rNat) (fun t => idMap t.many)
theorem ok_begin_of (T : Tx K mg) : FnOk P w K mg base CX0 1 T.a_begin_of T.d_begin_of ["turns"] (sp_begin_of T) := by
  refine T.F_begin_of.ok sc_begin_of (fun vs H Q E h => SpLen.len h) (fun cdv A outer s H vs Q E hr h => ?_)
  obtain ⟨F, v, t, rfl, e, r, -, k⟩ := h
  have t1 := t.h1
  refine ⟨_, (by exact (pss_one (ps_ret (pe_tupRg rfl (by rfl) T.z_tuple (prg_1 (by rfl) T.z_range (kfld K (pv 0) rfl)))))), ?_⟩
  try dsimp only [cxOf]
  apply x_ret e
  case h => walk_at "ev"
  exact k
abbrev sp_then (T : Tx K mg) : Sp := Sp2 (rTup rNat) (rTup rNat) (fun a b => a.length ≤ 1000 ∧ ∀ x ∈ a, x < b.length) (rTup rNat) thenM
theorem ok_then (T : Tx K mg) : FnOk P w K mg base CX0 1 T.a_then T.d_then ["first", "second"] (sp_then T) := by
  refine T.F_then.ok sc_then (fun vs H Q E h => SpLen.len h) (fun cdv A outer s H vs Q E hr h => ?_)
  obtain ⟨F, v, w, a, b, rfl, e, r1, r2, ⟨p1, p2⟩, k⟩ := h
  refine ⟨_, (by exact (pss_one (ps_ret (pe_callTy (r := rTupS K) call_tuple_of (by rfl) T.z_tuple (by decide +kernel) (pa_cons (pe_lc (own := [("place", 2)]) (g := gName 2) (tt := tYes) rfl sc_then.nd (ktup K (pv 0)) (blkOk_by (own := [("place", 2)]) (N := N_then) (sc := defScope s_then) (by decide +kernel)) (fun _ _ _ _ _ => (pg_name (i := 2) sc_then.nd rfl (by first | exact Or.inl rfl | exact Or.inr rfl))) (fun _ _ _ _ _ => pts_nil) (fun _ _ _ _ _ => (pe_ix (r := rIxT K) ix_tup (pv 1) (pv 2) (fun _ _ => rfl)))) pa_nil))))), ?_⟩
  try dsimp only [cxOf]
  refine x_ret (x := thenM a b) e (ev_tupL (ev_lcTm (R := rNat) (fun x => b.getD x 0) (ev_var rfl r1) (by omega) (fun v => rfl) ?_)) k
  intro i x v F1 H1 hx g r
  cases (show v = _ from r)
  exact ev_ixT (ev_var rfl (Mn.mono g.ff r2)) (ev_var rfl rfl) (atI_natL (getD_at (p2 x (mem_of_at hx))))
abbrev sp_has_met (T : Tx K mg) : Sp := Sp1 (rTup rNat) (fun a => a.length ≤ 1000) rBl metB
theorem decide_nat1 {n : Nat} : decide ((n : Int) = 1) = decide (n = 1) := by
  by_cases h : n = 1
  · rw [decide_eq_true h, decide_eq_true (by omega)]
  · rw [decide_eq_false h, decide_eq_false (by omega)]
theorem ok_has_met (T : Tx K mg) : FnOk P w K mg base CX0 1 T.a_has_met T.d_has_met ["one"] (sp_has_met T) := by
  refine T.F_has_met.ok sc_has_met (fun vs H Q E h => SpLen.len h) (fun cdv A outer s H vs Q E hr h => ?_)
  obtain ⟨F, v, a, rfl, e, r, p, k⟩ := h
  refine ⟨_, (by exact (pss_one (ps_ret (pe_cmpR op_eq (klenset K (by rfl) T.z_len (by rfl) T.z_set (pv 0)) pe_int (nomark _))))), ?_⟩
  try dsimp only [cxOf]
  apply x_ret e
  case h => walk_at "ev"
  intro w F' H' g r
  exact k w F' H' g (by rw [decide_nat1] at r; exact r)

theorem ev_pt {σ : St} {F H : Hp} {te : TE} {α : Type} {R : Rp α} {p : α × α} (h : Ev (rPr R R) te σ F H p) : Ev (rTup R) te σ F H [p.1, p.2] := h.as fun F v ⟨a, x, y, e, h1, r1, r2⟩ => ⟨a, [x, y], e, h1, .cons r1 (.cons r2 .nil)⟩
abbrev sp_is_pair (T : Tx K mg) : Sp := Sp2 (rPr rNat rNat) rNat (fun p n => p.1 < n ∧ p.2 < n ∧ p.1 ≠ p.2 ∧ n ≤ 1000) rBl (fun _ _ => true)
theorem ok_is_pair (T : Tx K mg) : FnOk P w K mg base CX0 3 T.a_is_pair T.d_is_pair ["thing", "many"] (sp_is_pair T) := by
  refine T.F_is_pair.ok sc_is_pair (fun vs H Q E h => SpLen.len h) (fun cdv A outer s H vs Q E hr h => ?_)
  obtain ⟨F, v, w, p, n, rfl, e, r1, r2, ⟨h1, h2, h3, h4⟩, k⟩ := h
  cases (show w = _ from r2)
  have ri : ∀ F (i : Int), rInt F (.int i) i := fun F i => rfl
  have ep := fun F1 H1 (g : Gr M0 F H F1 H1) => ev_pt (σ := [some v, some (.int (n : Int)), none]) (ev_var (F := F1) (H := H1) (i := 0) (v := v) rfl (Mn.mono g.ff r1))
  refine ⟨_, (by exact (pss_cons (ps_if (PW.pt (pw_or (pt_not (pt_val (pe_callB (r := rIsi K) call_isi (by rfl) T.z_isinstance (by decide +kernel) (pa_cons (pv 0) (pa_cons (pe_bltn (v := .ty "tuple") (by rfl) T.z_tuple (by decide +kernel) rfl) pa_nil))))) (pw_or1 (pt_cmpR op_ne (pe_callB (r := rLenS K) call_len_seq (by rfl) T.z_len PySem.boot_len (pa_cons (pv 0) pa_nil)) pe_int (nomark _))))) (pss_one (ps_ret pe_bl)) pss_nil)
      (pss_one (ps_ret (pe_and (pe_callB (r := rAll K) (cr_all rfl) (by rfl) T.z_all (by decide +kernel) (pa_cons (pe_lc (own := [("place", 2)]) (g := gName 2) (tt := tYes) rfl sc_is_pair.nd (ktup K (pv 0)) (blkOk_by (own := [("place", 2)]) (N := N_is_pair) (sc := defScope s_is_pair) (by decide +kernel)) (fun _ _ _ _ _ => (pg_name (i := 2) sc_is_pair.nd rfl (by first | exact Or.inl rfl | exact Or.inr rfl))) (fun _ _ _ _ _ => pts_nil) (fun _ _ _ _ _ => (pe_call (ok_is_between T) (hr.mono (by decide)) rfl T.g_is_between T.F_is_between.kp T.b_is_between .nil pass0 (pa_cons (pv 2) (pa_cons pe_int (pa_cons (pe_op op_sub (pv 1) pe_int) pa_nil)))))) pa_nil)) (pe_one (pe_cmpR op_ne (pe_ix (r := rIxT K) ix_tup (pv 0) pe_int (fun _ _ => rfl)) (pe_ix (r := rIxT K) ix_tup (pv 0) pe_int (fun _ _ => rfl)) (nomark _)))))))), ?_⟩
  walk_at "n"
  refine x_if (b := false) e (EvT.is (et_or (et_not (et_B (ev_isTup (ep F H (.refl e))))) fun _ => et_test (ev_neI (ev_lenT (ep F H (.refl e))) ev_int)) (by simp)) (fun z => nomatch z) fun _ F1 H1 g1 => ?_
  walk_at "n"
  have ep1 := ep F1 H1 g1
  refine x_ret g1.fh (Ev.is (x' := true) (ev_andV (ev_all (ev_lcTm (R := rNat) (S := rBl) (fun _ => true) ep1 (by show 2 ≤ 1000000; omega) (fun v => rfl) fun i x v F2 H2 hx g r => ?_)) fun _ => ev_neI (ev_ixT (x := p.1) ep1 ev_int (atI_natL (n := 0) rfl)).nat (ev_ixT (x := p.2) ep1 ev_int (atI_natL (n := 1) rfl)).nat) ?_) fun v' F2 H2 g2 r => k v' F2 H2 (g1.trans g2) r
  · have hxn : x < n := by
      rcases List.mem_cons.mp (mem_of_at hx) with rfl | h
      · exact h1
      · rw [List.mem_singleton.mp h]; exact h2
    refine Ev.is (ev_call3 (ev_var rfl (show rInt _ _ (x : Int) from r)) ev_int (ev_sub (ev_var rfl (ri _ (n : Int))) ev_int) trivial) ?_
    rw [decide_eq_true (by omega), decide_eq_true (by omega)]; rfl
  · rw [decide_eq_false (by omega)]
    rfl
abbrev sp_above (T : Tx K mg) : Sp := Sp2 (rLst (rPr rNat rNat)) rNat (fun ps n => n ≤ 1000 ∧ ps.length ≤ 100 ∧ ∀ p ∈ ps, p.1 < n ∧ p.2 < n) (rLst rDct) (fun ps n => aboveM n ps)
theorem ok_above (T : Tx K mg) : FnOk P w K mg base CX0 1 T.a_above T.d_above ["pairs", "many"] (sp_above T) := by
  refine T.F_above.ok sc_above (fun vs H Q E h => SpLen.len h) (fun cdv A outer s H vs Q E hr h => ?_)
  obtain ⟨F, v, w, ps, n, rfl, e, r1, r2, ⟨hn, hps, hp⟩, k⟩ := h
  cases (show w = _ from r2)
  have ri : ∀ F (i : Int), rInt F (.int i) i := fun F i => rfl
  have rn : ∀ F (i : Nat), rNat F (.int (i : Int)) i := fun F i => rfl
  have hfu : fuelM n ps ≤ 101100 := by
    unfold fuelM
    have : n * (ps.length + 1) ≤ 1000 * 101 := Nat.mul_le_mul hn (by omega)
    omega
  refine ⟨_, (by exact (pss_cons (ps_setLc (i := 2) (own := [("place", 3)]) (g := gName 3) (tt := tYes) rfl sc_above.nd rfl rfl (sw_true rfl rfl rfl (by decide +kernel)) (pi_range1 rfl T.z_range (pa_cons (pv 1) pa_nil)) (blkOk_by (own := [("place", 3)]) (N := N_above) (sc := defScope s_above) (by decide +kernel)) (fun _ _ _ _ _ => (pg_name (i := 3) sc_above.nd rfl (by first | exact Or.inl rfl | exact Or.inr rfl))) (fun _ _ _ _ _ => pts_nil) (fun _ _ _ _ _ => (pe_lst pa_nil)))
      (pss_cons (ps_for PassesOwn.never rfl (klist K (pv 0)) (kptup K (n := 2) rfl (pgs_cons (pg_name (i := 4) sc_above.nd rfl (by first | exact Or.inl rfl | exact Or.inr rfl)) (pgs_cons (pg_name (i := 5) sc_above.nd rfl (by first | exact Or.inl rfl | exact Or.inr rfl)) pgs_nil))) (pss_one (ps_expr (kbm K PySem.F.plainAttrs_list PySem.F.slot_list_append PySem.F.type_list_append mt_append (pe_ix (r := rIxL K) ix_list (pv 2) (pv 4) (fun _ _ => rfl)) (pa_cons (pv 5) pa_nil)))))
      (pss_cons (ps_set (i := 6) sc_above.nd rfl (Or.inl rfl) (pe_lst pa_nil))
      (pss_cons (ps_for PassesOwn.never rfl (pi_range1 rfl T.z_range (pa_cons (pv 1) pa_nil)) (pg_name (i := 3) sc_above.nd rfl (by first | exact Or.inl rfl | exact Or.inr rfl)) (pss_cons (ps_set (i := 7) sc_above.nd rfl (Or.inl rfl) (pe_callTy (r := rListS K) call_list_of (by rfl) T.z_list (by decide +kernel) (pa_cons (pe_ix (r := rIxL K) ix_list (pv 2) (pv 3) (fun _ _ => rfl)) pa_nil)))
      (pss_cons (ps_set (i := 8) sc_above.nd rfl (Or.inl rfl) pe_dnewK)
      (pss_cons (ps_while PassesOwn.never (pt_cmpR (r := rNeD K) (op_neD hr.units) (pv 7) (pe_lst pa_nil) (nomark _)) (pss_cons (ps_set (i := 9) sc_above.nd rfl (Or.inl rfl) (kbm0 K PySem.F.plainAttrs_list PySem.F.slot_list_pop PySem.F.type_list_pop mt_pop (pv 7)))
      (pss_one (ps_if (pt_cmp (pc_dnotin (hu_of hr) (pv 9) (pv 8))) (pss_cons (ps_dput (hu_of hr) (pv 8) (pv 9) pe_bl rfl)
      (pss_one (ps_expr (kbm K PySem.F.plainAttrs_list PySem.F.slot_list_extend PySem.F.type_list_extend mt_extend (pv 7) (pa_cons (pe_ix (r := rIxL K) ix_list (pv 2) (pv 9) (fun _ _ => rfl)) pa_nil))))) pss_nil))))
      (pss_one (ps_expr (kbm K PySem.F.plainAttrs_list PySem.F.slot_list_append PySem.F.type_list_append mt_append (pv 6) (pa_cons (pv 8) pa_nil))))))))
      (pss_one (ps_ret (pv 6)))))))), ?_⟩
  walk_at "n"
  refine x_lists (n := n) e (ev_var rfl (ri _ (n : Int))) (by omega) (fun v => rfl) fun o as F1 H1 g1 hal ho0 fo1 ho1 nd hb => ?_
  walk_at "n"
  refine x_forLP g1.fh (ev_var rfl (Mn.mono g1.ff r1))
    (fun i σ' F' H' => Gr M0 F H F' H' ∧ F' o = none ∧ (∀ b ∈ as, F' b = none) ∧ H' o = some (.lst (as.map V.ref)) ∧ (∀ (j : Nat) b, as[j]? = some b → H' b = some (.lst (((onM n (ps.take i)).getD j []).map fun x : Nat => V.int (x : Int)))) ∧ ∃ y1 y2 y3 y4 y5 y6 y7, σ' = [some v, some (.int (n : Int)), some (.ref o), y1, y2, y3, y4, y5, y6, y7])
    (fun F2 H2 g2 => ⟨g1.trans g2, g2.nn ho1 fo1, fun b h => g2.nn (hb b h).2.2.1 (hb b h).2.1, g2.hx _ _ ho1, fun j b hj => ?_, _, _, _, _, _, _, _, rfl⟩) ?_ ?_
  · have hj2 : j < n := by rw [← hal]; exact (List.getElem?_eq_some_iff.mp hj).1
    rw [g2.hx _ _ (hb b (mem_of_at hj)).2.2.1, on_get hj2]
    rfl
  · rintro F2 e2 i p u1 u2 σ' F' H' hx e3 e4 rx ry ⟨g, fo, fas, hO, hA, y1, y2, y3, y4, y5, y6, y7, rfl⟩
    cases (show u1 = _ from rx)
    cases (show u2 = _ from ry)
    obtain ⟨p1, p2⟩ := hp p (mem_of_at hx)
    obtain ⟨b, hb1⟩ : ∃ b, as[p.1]? = some b := ⟨_, List.getElem?_eq_getElem (by rw [hal]; exact p1)⟩
    have hbm := mem_of_at hb1
    obtain ⟨hb0, _, _, hbo⟩ := hb b hbm
    have hcur := hA p.1 b hb1
    have hle := on_le (n := n) (ps := ps.take i) (x := p.1)
    have htl : (ps.take i).length ≤ ps.length := by rw [List.length_take]; omega
    walk_at "n"
    refine x_app (R := rNat) (x := p.2) (l := b) e4 (ev_ixM (R := rRef) (x := b) (ev_var rfl (show rRef _ _ o from rfl)) (ev_var rfl (ri _ (p.1 : Int))) hO (atI_natL (n := p.1) (by rw [List.getElem?_map, hb1]; rfl)) rfl) hcur (ev_var rfl (rn _ p.2)) (by rw [List.length_map, sizeLine_eq]; omega) fun v5 F5 H5 g5 r5 h5 => ?_
    cases (show v5 = _ from r5)
    have fb5 := g5.nn hcur (fas b hbm)
    have G5 := (g.trans g5).set' (o := .lst ((((onM n (ps.take i)).getD p.1 []).map fun x : Nat => V.int (x : Int)) ++ [.int (p.2 : Int)])) fb5 (.inl hb0)
    refine ⟨F5, e3.trans g5.ff, G5.fh, G5, g5.nn hO fo, fun b' h' => ?_, by rw [upd_ne hbo.symm]; exact g5.hx _ _ hO, fun j b' hj => ?_, _, _, _, _, _, _, _, rfl⟩
    · obtain ⟨q, hq⟩ := List.mem_iff_getElem?.mp h'
      exact g5.nn (hA q b' hq) (fas b' h')
    · have hj2 : j < n := by rw [← hal]; exact (List.getElem?_eq_some_iff.mp hj).1
      rw [on_step hx hj2]
      by_cases hjp : p.1 = j
      · subst hjp
        rw [hb1] at hj
        cases hj
        rw [if_pos rfl, upd_same, List.map_append]
        rfl
      · have hbb : b' ≠ b := fun z => by
          subst z
          exact hjp ((List.getElem?_inj (List.getElem?_eq_some_iff.mp hb1).1 nd).mp (hb1.trans hj.symm))
        rw [if_neg hjp, upd_ne hbb]
        exact g5.hx _ _ (hA j b' hj)
  · rintro σ' F' H' e1 e2 ⟨g, fo, fas, hO, hA, y1, y2, y3, y4, y5, y6, y7, rfl⟩
    rw [List.take_length] at hA
    obtain ⟨Fz, gz, ez, kz⟩ := Gr.frzs e (as := o :: as) g fun b hb' => by
      rcases List.mem_cons.mp hb' with rfl | hb'
      · exact ⟨by rw [hO]; exact (fun z => nomatch z), ho0⟩
      · obtain ⟨q, hq⟩ := List.mem_iff_getElem?.mp hb'
        exact ⟨by rw [hA q b hq]; exact (fun z => nomatch z), (hb b hb').1⟩
    have ron : rLst (rLst rNat) Fz (.ref o) (onM n ps) := ⟨o, _, rfl, by rw [kz o List.mem_cons_self, hO], paired_of (by rw [List.length_map, hal, on_len]) fun i a b ha hb' => by
      rw [List.getElem?_map] at ha
      cases q : as[i]? with
      | none => rw [q] at ha; cases ha
      | some c =>
        rw [q] at ha
        cases ha
        have hi : i < n := by rw [← hal]; exact (List.getElem?_eq_some_iff.mp q).1
        rw [on_at hi] at hb'
        cases hb'
        exact ⟨c, _, rfl, by rw [kz c (List.mem_cons_of_mem _ (mem_of_at q)), hA i c q], nats_P _ _⟩⟩
    walk_at "n"
    refine x_nil gz.fh fun f hf => ?_
    have ff0 : Fz f = none := gz.fh.free hf
    have hf0 : H f = none := Ex.free gz.hx hf
    have G0 : Gr M0 F H Fz (upd H' f (.lst [])) := gz.trans (.loc gz.fh hf)
    walk_at "n"
    refine x_forR (n := n) G0.fh (ev_var rfl (ri _ (n : Int))) (by omega)
      (fun i σ' F' H' => Gr M0 F H F' H' ∧ F' f = none ∧ (∃ vs, H' f = some (.lst vs) ∧ Paired (rDct F') vs ((aboveM n ps).take i)) ∧ ∃ y1 y2 y3 y4 y5 y6, σ' = [some v, some (.int (n : Int)), some (.ref o), y1, y2, y3, some (.ref f), y4, y5, y6])
      (fun F2 H2 g2 => ⟨G0.trans g2, g2.nn upd_same ff0, ⟨[], g2.hx _ _ upd_same, .nil⟩, _, _, _, _, _, _, rfl⟩) ?_ ?_
    · rintro F2 e2 i σ' F' H' hi e3 e4 ⟨g, ff, ⟨vs, hF, pv⟩, y1, y2, y3, y4, y5, y6, rfl⟩
      have hlv : vs.length = i := by rw [pv.length, List.length_take, above_len]; omega
      walk_at "n"
      refine x_listM (R := rNat) (xs := (onM n ps).getD i []) e4 (ev_ixL (ev_var rfl (Mn.mono (e2.trans e3) ron)) (ev_var rfl (ri _ (i : Int))) (atI_natL (on_at hi))) fun ws l F5 H5 g5 p5 hl5 => ?_
      have ews := nats_eq p5
      subst ews
      have fl5 : F5 l = none := g5.fh.free hl5
      have hl0 : H l = none := Ex.free (g.trans g5).hx hl5
      have hfl : f ≠ l := fun z => by subst z; rw [g5.hx _ _ hF] at hl5; cases hl5
      have G5 : Gr M0 F H F5 (upd H5 l (.lst (((onM n ps).getD i []).map fun x : Nat => V.int (x : Int)))) := (g.trans g5).trans (.loc g5.fh hl5)
      walk_at "n"
      refine x_dict fun d hd => ?_
      have hdl : d ≠ l := fun z => by subst z; rw [upd_same] at hd; cases hd
      have hdf : d ≠ f := fun z => by subst z; rw [upd_ne hfl, g5.hx _ _ hF] at hd; cases hd
      have fd5 : F5 d = none := G5.fh.free hd
      have hd0 : H d = none := Ex.free G5.hx hd
      have G6 := G5.trans (.loc G5.fh hd (o := .dK (kvsOf [])))
      walk_at "n"
      refine x_while G6.fh (fun m σ' F' H' => ∃ ws r, dfs (onM n ps) m ws r = dfs (onM n ps) (fuelM n ps) ((onM n ps).getD i []) [] ∧ (measM n ps.length ws r ≤ m ∧ m ≤ fuelM n ps) ∧ r.Nodup ∧ (∀ y ∈ r, y < n) ∧ (∀ y ∈ ws, y < n) ∧ Gr M0 F H F' H' ∧ F' l = none ∧ H' l = some (.lst (ws.map fun x : Nat => V.int (x : Int))) ∧ F' d = none ∧ H' d = some (.dK (kvsOf r)) ∧
          F' f = none ∧ H' f = some (.lst vs) ∧ Paired (rDct F') vs ((aboveM n ps).take i) ∧ rLst (rLst rNat) F' (.ref o) (onM n ps) ∧ ∃ y1 y2 y3, σ' = [some v, some (.int (n : Int)), some (.ref o), some (.int (i : Int)), y1, y2, some (.ref f), some (.ref l), some (.ref d), y3]) (fuelM n ps) ?_
        (fun m σ' F' H' => match H' l with | some (.lst []) => false | _ => true) ?_ ?_ ?_ ?_
      · refine ⟨(onM n ps).getD i [], [], rfl, ⟨?_, Nat.le_refl _⟩, List.nodup_nil, (fun _ h => nomatch h), fun y hy => on_mem hp hy, G6, fl5, by rw [upd_ne hdl.symm, upd_same], fd5, upd_same, g5.nn hF ff, by rw [upd_ne hdf.symm, upd_ne hfl]; exact g5.hx _ _ hF, Paired.up g5.ff pv, Mn.mono (e2.trans (e3.trans g5.ff)) ron, _, _, _, rfl⟩
        unfold measM fuelM
        have := on_le (n := n) (ps := ps) (x := i)
        show (n - 0) * _ + _ ≤ _
        rw [Nat.sub_zero]
        omega
      · rintro m σ' F' H' e1 e2 ⟨ws, r, h1, h2, h3, h4, h5, g, fl, hL, fd, hD, ff, hF, pv, ro, y1, y2, y3, rfl⟩
        refine EvT.is (et_test (ev_neNilM (ev_var rfl (show rRef _ _ l from rfl)) hL)) ?_
        rw [hL]
        cases ws with
        | nil => rfl
        | cons a ws => rfl
      · rintro m σ' F' H' F2' H2' g2 ⟨ws, r, h1, h2, h3, h4, h5, g, fl, hL, fd, hD, ff, hF, pv, ro, y1, y2, y3, rfl⟩
        exact ⟨ws, r, h1, h2, h3, h4, h5, g.trans g2, g2.nn hL fl, g2.hx _ _ hL, g2.nn hD fd, g2.hx _ _ hD, g2.nn hF ff, g2.hx _ _ hF, Paired.up g2.ff pv, Mn.mono g2.ff ro, _, _, _, rfl⟩
      · rintro m σ' F' H' F8 H8 ef g2 hb ⟨ws, r, h1, ⟨h2, h2'⟩, h3, h4, h5, g, fl, hL, fd, hD, ff, hF, pv, ro, y1, y2, y3, rfl⟩ _
        have hne : ws ≠ [] := fun z => by
          subst z
          rw [hL] at hb
          cases hb
        obtain ⟨w0, one, rfl⟩ : ∃ w0 one, ws = w0 ++ [one] := by
          rcases List.eq_nil_or_concat ws with h | ⟨w0, one, h⟩
          · exact absurd h hne
          · exact ⟨w0, one, by rw [h, List.concat_eq_append]⟩
        obtain ⟨m', rfl⟩ : ∃ m', m = m' + 1 := ⟨m - 1, by
          have : 1 ≤ measM n ps.length (w0 ++ [one]) r := by unfold measM; rw [List.length_append]; show 1 ≤ _ + (_ + 1); omega
          omega⟩
        have hone : one < n := h5 one (List.mem_append_right _ List.mem_cons_self)
        have hw0 : ∀ y ∈ w0, y < n := fun y hy => h5 y (List.mem_append_left _ hy)
        have hL8 := g2.hx _ _ hL
        have hD8 := g2.hx _ _ hD
        have hF8 := g2.hx _ _ hF
        have fl8 := g2.nn hL fl
        have fd8 := g2.nn hD fd
        have ff8 := g2.nn hF ff
        have ro8 := Mn.mono g2.ff ro
        have pv8 := Paired.up g2.ff pv
        have G8 := (g.trans g2).set' (o := .lst (w0.map fun x : Nat => V.int (x : Int))) fl8 (.inl hl0)
        have hrl := nodup_lt h3 h4
        walk_at "n"
        refine x_pop (l := l) (y := .int (one : Int)) rfl hL8 ?_ ?_
        · rw [List.map_append, List.length_append]
          show (_ ++ [V.int (one : Int)])[_ + 1 - 1]? = _
          rw [Nat.add_sub_cancel, List.getElem?_append_right (Nat.le_refl _), Nat.sub_self]
          rfl
        rw [show ((w0 ++ [one]).map fun x : Nat => V.int (x : Int)).dropLast = w0.map fun x : Nat => V.int (x : Int) by rw [List.map_append]; exact List.dropLast_concat]
        have hD8' : upd H8 l (.lst (w0.map fun x : Nat => V.int (x : Int))) d = some (.dK (kvsOf r)) := by rw [upd_ne hdl]; exact hD8
        have hF8' : upd H8 l (.lst (w0.map fun x : Nat => V.int (x : Int))) f = some (.lst vs) := by rw [upd_ne hfl]; exact hF8
        walk_at "n"
        refine x_if G8.fh (et_B (ev_dnotM (k := one) (ev_var rfl (rn _ one)) (ev_var rfl (show rRef _ _ d from rfl)) hD8')) (fun hbb F9 H9 g9 => ?_) (fun hbb F9 H9 g9 => ?_)
        · have hnew : one ∉ r := fun z => by rw [decide_eq_true z] at hbb; cases hbb
          have hnd : (r ++ [one]).Nodup := List.nodup_append.mpr ⟨h3, by simp, fun x hx y hy => by
            rw [List.mem_singleton.mp hy]
            intro z
            rw [z] at hx
            exact hnew hx⟩
          have hall : ∀ y ∈ r ++ [one], y < n := fun y hy => by
            rcases List.mem_append.mp hy with h | h
            · exact h4 y h
            · rw [List.mem_singleton.mp h]; exact hone
          have hr1 := nodup_lt hnd hall
          rw [List.length_append] at hr1
          have hr2 : r.length < n := hr1
          have hL9 := g9.hx _ _ (upd_same (H := H8) (a := l) (o := .lst (w0.map fun x : Nat => V.int (x : Int))))
          have hD9 := g9.hx _ _ hD8'
          have hF9 := g9.hx _ _ hF8'
          have fl9 := g9.nn upd_same fl8
          have fd9 := g9.nn hD8' fd8
          have ff9 := g9.nn hF8' ff8
          walk_at "n"
          refine x_dput (d := d) (ks := r) (k := one) g9.fh ev_bl (ev_var rfl (show rRef _ _ d from rfl)) (ev_var rfl (rn _ one)) hD9 hnew (by rw [sizeLine_eq]; omega) fun F10 H10 g10 h10 => ?_
          have fd10 := g10.nn hD9 fd9
          have fl10 := g10.nn hL9 fl9
          have ff10 := g10.nn hF9 ff9
          have G10 := ((G8.trans g9).trans g10).set' (o := .dK (kvsOf (r ++ [one]))) fd10 (.inl hd0)
          have hL10 : upd H10 d (.dK (kvsOf (r ++ [one]))) l = some (.lst (w0.map fun x : Nat => V.int (x : Int))) := by rw [upd_ne hdl.symm]; exact g10.hx _ _ hL9
          have hF10 : upd H10 d (.dK (kvsOf (r ++ [one]))) f = some (.lst vs) := by rw [upd_ne hdf.symm]; exact g10.hx _ _ hF9
          have g910 := g9.ff.trans g10.ff
          have hmore := on_le (n := n) (ps := ps) (x := one)
          have hmeas := meas_new (n := n) (L := ps.length) (w := w0) (one := one) hmore hr2
          have hwz : w0.length ≤ measM n ps.length (w0 ++ [one]) r := by unfold measM; rw [List.length_append]; show _ ≤ _ + (_ + 1); omega
          walk_at "n"
          refine x_ext (R := rNat) (zs := (onM n ps).getD one []) G10.fh (ev_var rfl (show rRef _ _ l from rfl)) hL10 (ev_ixL (ev_var rfl (Mn.mono g910 ro8)) (ev_var rfl (ri _ (one : Int))) (atI_natL (on_at hone))) ?_ fun zs F11 H11 g11 p11 h11 => ?_
          · rw [List.length_map, sizeLine_eq]; omega
          have ezs := nats_eq p11
          subst ezs
          have fl11 := g11.nn hL10 fl10
          have G11 := (G10.trans g11).set' (o := .lst ((w0.map fun x : Nat => V.int (x : Int)) ++ ((onM n ps).getD one []).map fun x : Nat => V.int (x : Int))) fl11 (.inl hl0)
          refine ⟨F11, m', ef.trans (g2.ff.trans (g910.trans g11.ff)), G11.fh, by omega, w0 ++ (onM n ps).getD one [], r ++ [one], ?_, ⟨by omega, by omega⟩, hnd, hall, fun y hy => ?_, G11, fl11, by rw [upd_same, List.map_append], g11.nn upd_same fd10, by rw [upd_ne hdl]; exact g11.hx _ _ upd_same, g11.nn hF10 ff10, by rw [upd_ne hfl]; exact g11.hx _ _ hF10, Paired.up (g910.trans g11.ff) pv8, Mn.mono (g910.trans g11.ff) ro8, _, _, _, rfl⟩
          · rw [← dfs_new hnew]; exact h1
          · rcases List.mem_append.mp hy with h | h
            · exact hw0 y h
            · exact on_mem hp h
        · have hold : one ∈ r := by
            cases q : decide (one ∈ r) with
            | true => exact of_decide_eq_true q
            | false => rw [q] at hbb; cases hbb
          have hmeas := meas_old (n := n) (L := ps.length) (w := w0) (r := r) (one := one)
          walk_at "n"
          refine ⟨F9, m', ef.trans (g2.ff.trans g9.ff), g9.fh, by omega, w0, r, by rw [← dfs_old hold]; exact h1, ⟨by omega, by omega⟩, h3, h4, hw0, G8.trans g9, g9.nn upd_same fl8, g9.hx _ _ upd_same, g9.nn hD8' fd8, g9.hx _ _ hD8', g9.nn hF8' ff8, g9.hx _ _ hF8', Paired.up g9.ff pv8, Mn.mono g9.ff ro8, _, _, _, rfl⟩
      · rintro m σ' F' H' F8 H8 ef g2 hb ⟨ws, r, h1, ⟨h2, h2'⟩, h3, h4, h5, g, fl, hL, fd, hD, ff, hF, pv, ro, y1, y2, y3, rfl⟩ _
        have hnil : ws = [] := by
          cases ws with
          | nil => rfl
          | cons a ws => rw [hL] at hb; cases hb
        subst hnil
        rw [dfs_nil] at h1
        have hD8 := g2.hx _ _ hD
        have hF8 := g2.hx _ _ hF
        have fd8 := g2.nn hD fd
        have ff8 := g2.nn hF ff
        have gf := (g.trans g2).frz hD8 (e.free hd0) (.inl hd0)
        have ffz : upd F8 d (.dK (kvsOf r)) f = none := by rw [upd_ne hdf.symm]; exact ff8
        have exz : Ex F8 (upd F8 d (.dK (kvsOf r))) := Ex.new fd8
        walk_at "n"
        refine x_app (R := rDct) (x := r) gf.fh (ev_var rfl (show rRef _ _ f from rfl)) hF8 (ev_var rfl (show rDct _ _ r from ⟨d, rfl, upd_same⟩)) (by rw [hlv, sizeLine_eq]; omega) fun v9 F9 H9 g9 r9 h9 => ?_
        have ff9 := g9.nn hF8 ffz
        have G9 := (gf.trans g9).set' (o := .lst (vs ++ [v9])) ff9 (.inl hf0)
        refine ⟨F9, e3.trans (g5.ff.trans (ef.trans (g2.ff.trans (exz.trans g9.ff)))), G9.fh, G9, ff9, ⟨_, upd_same, ?_⟩, _, _, _, _, _, _, rfl⟩
        rw [List.take_add_one, above_get hi, ← h1]
        exact (Paired.up (g2.ff.trans (exz.trans g9.ff)) pv).snoc r9
    · rintro σ' F' H' e1 e2 ⟨g, ff, ⟨vs, hF, pv⟩, y1, y2, y3, y4, y5, y6, rfl⟩
      rw [List.take_of_length_le (by rw [above_len]; exact Nat.le_refl _)] at pv
      have gf := g.frz hF (Ex.free g.ff ff) (.inl hf0)
      walk_at "n"
      exact x_ret gf.fh (ev_var rfl (show rLst rDct _ _ _ from ⟨f, vs, rfl, upd_same, Paired.up (Ex.new ff) pv⟩)) fun v' F2 H2 g2 r2 => k v' F2 H2 (gf.trans g2) r2

instance {T : Tx K mg} : IsF (rOrder T.C_Order) K "higher" (rLst rDct) id := fld_higher T.cl_Order T.na_Order_higher
abbrev sp_Order_init (T : Tx K mg) : Sp := SpOrder T.C_Order
theorem ok_Order_init (T : Tx K mg) : FnOk P w K mg base CX0 4 T.a_Order_init T.d_Order_init ["self", "many", "pairs"] (sp_Order_init T) := by
  refine T.F_Order_init.ok sc_Order_init (fun vs H Q E h => SpLen.len h) (fun cdv A outer s H vs Q E hr h => ?_)
  obtain ⟨F, a, dx, l, n, ps, rfl, e, fa, ha, rl, ⟨h0, h1, h2, h3, h4⟩, k⟩ := h
  have ri : ∀ F (i : Int), rInt F (.int i) i := fun F i => rfl
  have rn : ∀ F (i : Nat), rNat F (.int (i : Int)) i := fun F i => rfl
  have va : ∀ F, rRef F (.ref a) a := fun F => rfl
  refine ⟨_, (by exact (pss_cons (ps_if (pt_not (pt_val (pe_call (ok_is_between T) (hr.mono (by decide)) rfl T.g_is_between T.F_is_between.kp T.b_is_between .nil pass0 (pa_cons (pv 1) (pa_cons pe_int (pa_cons (pe_glob (v := .int 32) rfl T.c_MOST_PLACES_orders ⟨_, rfl⟩) pa_nil)))))) (pss_one ps_never) pss_nil)
      (pss_cons (ps_if (PW.pt (pw_or (pt_not (pt_val (pe_callB (r := rIsi K) call_isi (by rfl) T.z_isinstance (by decide +kernel) (pa_cons (pv 2) (pa_cons (pe_bltn (v := .ty "list") (by rfl) T.z_list (by decide +kernel) rfl) pa_nil))))) (pw_or1 (pt_not (pt_val (pe_callB (r := rAll K) (cr_all rfl) (by rfl) T.z_all (by decide +kernel) (pa_cons (pe_lc (own := [("pair", 3)]) (g := gName 3) (tt := tYes) rfl sc_Order_init.nd (klist K (pv 2)) (blkOk_by (own := [("pair", 3)]) (N := N_Order_init) (sc := defScope s_Order_init) (by decide +kernel)) (fun _ _ _ _ _ => (pg_name (i := 3) sc_Order_init.nd rfl (by first | exact Or.inl rfl | exact Or.inr rfl))) (fun _ _ _ _ _ => pts_nil) (fun _ _ _ _ _ => (pe_call (ok_is_pair T) (hr.mono (by decide)) rfl T.g_is_pair T.F_is_pair.kp T.b_is_pair .nil pass0 (pa_cons (pv 3) (pa_cons (pv 1) pa_nil))))) pa_nil))))))) (pss_one ps_never) pss_nil)
      (pss_cons (kset K (pv 0) (pe_call (ok_above T) (hr.mono (by decide)) rfl T.g_above T.F_above.kp T.b_above .nil pass0 (pa_cons (pv 2) (pa_cons (pv 1) pa_nil))) rfl)
      (pss_one (ps_if (pt_val (pe_callB (r := rAny K) (cr_any rfl) (by rfl) T.z_any (by decide +kernel) (pa_cons (pe_lc (own := [("place", 4)]) (g := gName 4) (tt := tYes) rfl sc_Order_init.nd (pi_range1 rfl T.z_range (pa_cons (pv 1) pa_nil)) (blkOk_by (own := [("place", 4)]) (N := N_Order_init) (sc := defScope s_Order_init) (by decide +kernel)) (fun _ _ _ _ _ => (pg_name (i := 4) sc_Order_init.nd rfl (by first | exact Or.inl rfl | exact Or.inr rfl))) (fun _ _ _ _ _ => pts_nil) (fun _ _ _ _ _ => (pe_cmp (pc_din (hu_of hr) (pv 4) (pe_ix (r := rIxL K) ix_list (kfld K (pv 0) rfl) (pv 4) (fun _ _ => rfl)))))) pa_nil))) (pss_one ps_never) pss_nil)))))), ?_⟩
  walk_at "n"
  refine x_if (b := false) e (EvT.is (b := !true) (et_not (et_B (Ev.is (ev_call3 (ev_var rfl (ri _ (n : Int))) ev_int ev_int trivial) ?_))) rfl) (fun z => nomatch z) fun _ F1 H1 g1 => ?_
  · rw [decide_eq_true (by omega), decide_eq_true (by omega)]; rfl
  walk_at "n"
  refine x_if (b := false) g1.fh (EvT.is (et_or (et_not (et_B (ev_isLst (ev_var rfl (Mn.mono g1.ff rl))))) fun _ => et_not (et_B (ev_all (ev_lcm (R := rPr rNat rNat) (S := rBl) (fun _ => true) (ev_var rfl (Mn.mono g1.ff rl)) (by omega) (fun v => rfl) fun i p v F2 H2 hx g r => ev_call2 (ev_var rfl r) (ev_var rfl (rn _ n)) ?_)))) ?_) (fun z => nomatch z) fun _ F2 H2 g2 => ?_
  · obtain ⟨q1, q2, q3⟩ := h3 p (mem_of_at hx)
    exact ⟨q1, q2, q3, by omega⟩
  · have : ((ps.map fun _ => true).all id) = true := List.all_eq_true.mpr fun b hb => by obtain ⟨_, _, rfl⟩ := List.mem_map.mp hb; rfl
    rw [this]; rfl
  have g12 := g1.trans g2
  walk_at "n"
  refine x_fld g2.fh (ev_call2 (x := ps) (y := n) (ev_var rfl (Mn.mono g12.ff rl)) (ev_var rfl (rn _ n)) ⟨by omega, h2, fun p hp => ⟨(h3 p hp).1, (h3 p hp).2.1⟩⟩) (ev_var rfl (va _)) (g12.hx _ _ ha) T.cl_Order T.na_Order_higher (by decide) fun v F4 H4 g4 r4 h4' => ?_
  have g := g12.trans g4
  have f4 : F4 a = none := g.nn ha fa
  have gg : Gr (El.M1 a) F H F4 (upd H4 a (.ins T.C_Order dx (putF "higher" v []))) := g.up.set' f4 (.inr rfl)
  walk_at "n"
  refine x_if (b := false) gg.fh (EvT.is (et_B (ev_any (ev_lcRm (S := rBl) (fun p => decide (p ∈ (aboveM n ps).getD p [])) (ev_var rfl (ri _ (n : Int))) (by omega) (fun v => rfl) fun i F5 H5 hi g5 => ev_din (ev_var rfl (rn _ i)) (ev_ixL (ev_fldM (S := rLst rDct) (ev_var rfl (va _)) (g5.hx _ _ upd_same) T.cl_Order T.na_Order_higher rfl (Mn.mono g5.ff r4)) (ev_var rfl (ri _ (i : Int))) (atI_natL (getD_at (by rw [above_len]; exact hi))))))) ?_) (fun z => nomatch z) fun _ F6 H6 g6 => ?_
  · refine List.any_eq_false.mpr fun b hb => ?_
    obtain ⟨p, hp, rfl⟩ := List.mem_map.mp hb
    have := h4 p (List.mem_range.mp hp)
    rw [decide_eq_false this]
    exact Bool.false_ne_true
  · have ga := g6.hx _ _ (upd_same (H := H4) (a := a) (o := .ins T.C_Order dx (putF "higher" v [])))
    have f6 := g6.nn upd_same f4
    have gf := (gg.trans g6.up).frz ga fa (.inr rfl)
    walk_at "n"
    exact k _ _ gf ⟨a, dx, v, rfl, upd_same, Mn.mono (g6.ff.trans (Ex.new f6)) r4⟩
abbrev sp_Order_len (T : Tx K mg) : Sp := Sp1 (rOrder T.C_Order) (fun _ => True) rNat (fun hs => hs.length)
theorem ok_Order_len (T : Tx K mg) : FnOk P w K mg base CX0 1 T.a_Order_len T.d_Order_len ["self"] (sp_Order_len T) := by
  refine T.F_Order_len.ok sc_Order_len (fun vs H Q E h => SpLen.len h) (fun cdv A outer s H vs Q E hr h => ?_)
  obtain ⟨F, v, hs, rfl, e, r, -, k⟩ := h
  refine ⟨_, (by exact (pss_one (ps_ret (pe_callB (r := rLenS K) call_len_seq (by rfl) T.z_len PySem.boot_len (pa_cons (kfld K (pv 0) rfl) pa_nil))))), ?_⟩
  walk_at "n"
  exact x_ret e (ev_lenL (ev_fld (ev_var rfl r))).toNat k
abbrev sp_Order_at_most (T : Tx K mg) : Sp := Sp3 (rOrder T.C_Order) rNat rNat (fun hs x _ => x < hs.length) rBl (fun hs x y => atMostM hs x y)
theorem ok_Order_at_most (T : Tx K mg) : FnOk P w K mg base CX0 1 T.a_Order_at_most T.d_Order_at_most ["self", "x", "y"] (sp_Order_at_most T) := by
  refine T.F_Order_at_most.ok sc_Order_at_most (fun vs H Q E h => SpLen.len h) (fun cdv A outer s H vs Q E hr h => ?_)
  obtain ⟨F, v, w, u, hs, x, y, rfl, e, r1, r2, r3, hx, k⟩ := h
  cases (show w = _ from r2)
  cases (show u = _ from r3)
  have ri : ∀ F (i : Int), rInt F (.int i) i := fun F i => rfl
  have rn : ∀ F (i : Nat), rNat F (.int (i : Int)) i := fun F i => rfl
  refine ⟨_, (by exact (pss_one (ps_ret (pe_or (pe_cmpR op_eq (pv 1) (pv 2) (nomark _)) (pe_one (pe_cmp (pc_din (hu_of hr) (pv 2) (pe_ix (r := rIxL K) ix_list (kfld K (pv 0) rfl) (pv 1) (fun _ _ => rfl))))))))), ?_⟩
  walk_at "n"
  refine x_ret e (Ev.is (ev_orV (ev_eqI (ev_var rfl (ri _ (x : Int))) (ev_var rfl (ri _ (y : Int)))) fun _ => ev_din (ev_var rfl (rn _ y)) (ev_ixL (ev_fld (ev_var rfl r1)) (ev_var rfl (ri _ (x : Int))) (atI_natL (getD_at (xs := hs) (d := []) hx)))) ?_) k
  unfold atMostM
  rw [show decide ((x : Int) = (y : Int)) = decide (x = y) from decide_eq_decide.mpr (by omega)]
abbrev sp_Order_least (T : Tx K mg) : Sp := Sp1 (rOrder T.C_Order) (fun hs => hs.length ≤ 1000) (rOpt rNat) leastM
theorem ok_Order_least (T : Tx K mg) : FnOk P w K mg base CX0 3 T.a_Order_least T.d_Order_least ["self"] (sp_Order_least T) := by
  refine T.F_Order_least.ok sc_Order_least (fun vs H Q E h => SpLen.len h) (fun cdv A outer s H vs Q E hr h => ?_)
  obtain ⟨F, v, hs, rfl, e, r, hz, k⟩ := h
  have ri : ∀ F (i : Int), rInt F (.int i) i := fun F i => rfl
  have rn : ∀ F (i : Nat), rNat F (.int (i : Int)) i := fun F i => rfl
  refine ⟨_, (by exact (pss_cons (ps_for PassesOwn.never rfl (kenum K rfl T.z_enumerate (pa_cons (kfld K (pv 0) rfl) pa_nil)) (kptup K (n := 2) rfl (pgs_cons (pg_name (i := 1) sc_Order_least.nd rfl (by first | exact Or.inl rfl | exact Or.inr rfl)) (pgs_cons (pg_name (i := 2) sc_Order_least.nd rfl (by first | exact Or.inl rfl | exact Or.inr rfl)) pgs_nil))) (pss_one (ps_if (pt_cmpR op_eq (pe_callB call_lenD (by rfl) T.z_len PySem.boot_len (pa_cons (pv 2) pa_nil)) (pe_op op_sub (pe_callB (call_lenOwn (ok_Order_len T) (hr.mono (by decide)) T.m_Order_len.at_ T.m_Order_len.fn T.b_Order_len pass0) (by rfl) T.z_len PySem.boot_len (pa_cons (pv 0) pa_nil)) pe_int) (nomark _)) (pss_one (ps_ret (pv 1))) pss_nil)))
      (pss_one (ps_ret pe_non)))), ?_⟩
  walk_at "n"
  refine x_forE e (ev_fld (ev_var rfl r)) (fun i σ' F' H' => Gr M0 F H F' H' ∧ (∀ j, j < i → decide (((hs.getD j []).length : Int) = (hs.length : Int) - 1) = false) ∧ ∃ y1 y2, σ' = [some v, y1, y2]) (fun F1 H1 g => ⟨g, fun j h => absurd h (Nat.not_lt_zero j), _, _, rfl⟩) ?_ ?_ ?_
  · rintro n σ' F' H' F2 H2 g2 ⟨g, hb, y1, y2, rfl⟩
    exact ⟨g.trans g2, hb, _, _, rfl⟩
  · rintro F1 e1 i x u σ' F' H' hx e2 e3 rx ⟨g, hb, y1, y2, rfl⟩
    have hx : hs[i]? = some x := hx
    have hi : i < hs.length := (List.getElem?_eq_some_iff.mp hx).1
    have ex : hs.getD i [] = x := by rw [List.getD_eq_getElem?_getD, hx]; rfl
    walk_at "n"
    refine x_if e3 (et_test (ev_eqI (ev_lenD (ev_var rfl rx)) (ev_sub (ev_lenOwn (ev_var rfl (Mn.mono g.ff r)) (by omega)) ev_int))) (fun hbb F4 H4 g4 => ?_) (fun hbb F4 H4 g4 => ?_)
    · have hfind : leastM hs = some i := L2.find_range _ hi (by rw [ex]; exact hbb) hb
      walk_at "n"
      exact x_ret (R := rOpt rNat) (x := some i) g4.fh (ev_someO (R := rNat) (ev_var rfl (rn F4 i))) fun v' F5 H5 g5 r5 => k v' F5 H5 (g.trans (g4.trans g5)) (by rw [hfind]; exact r5)
    · walk_at "n"
      refine ⟨F4, e2.trans g4.ff, g4.fh, g.trans g4, fun j hj => ?_, _, _, rfl⟩
      by_cases h : j = i
      · rw [h, ex]; exact hbb
      · exact hb j (by omega)
  · rintro σ' F' H' e1 e2 ⟨g, hb, y1, y2, rfl⟩
    have hfind : leastM hs = none := L2.find_range_none _ fun j hj => hb j hj
    walk_at "n"
    exact x_ret (R := rOpt rNat) (x := none) e2 ev_noneO fun v' F5 H5 g5 r5 => k v' F5 H5 (g.trans g5) (by rw [hfind]; exact r5)
abbrev sp_Order_greatest (T : Tx K mg) : Sp := Sp1 (rOrder T.C_Order) (fun hs => hs.length ≤ 1000) (rOpt rNat) greatestM
theorem ok_Order_greatest (T : Tx K mg) : FnOk P w K mg base CX0 3 T.a_Order_greatest T.d_Order_greatest ["self"] (sp_Order_greatest T) := by
  refine T.F_Order_greatest.ok sc_Order_greatest (fun vs H Q E h => SpLen.len h) (fun cdv A outer s H vs Q E hr h => ?_)
  obtain ⟨F, v, hs, rfl, e, r, hz, k⟩ := h
  have ri : ∀ F (i : Int), rInt F (.int i) i := fun F i => rfl
  have rn : ∀ F (i : Nat), rNat F (.int (i : Int)) i := fun F i => rfl
  refine ⟨_, (by exact (pss_cons (ps_for PassesOwn.never rfl (pi_range1 rfl T.z_range (pa_cons (pe_callB (call_lenOwn (ok_Order_len T) (hr.mono (by decide)) T.m_Order_len.at_ T.m_Order_len.fn T.b_Order_len pass0) (by rfl) T.z_len PySem.boot_len (pa_cons (pv 0) pa_nil)) pa_nil)) (pg_name (i := 1) sc_Order_greatest.nd rfl (by first | exact Or.inl rfl | exact Or.inr rfl)) (pss_one (ps_if (pt_val (pe_callB (r := rAll K) (cr_all rfl) (by rfl) T.z_all (by decide +kernel) (pa_cons (pe_lc (own := [("one", 2)]) (g := gName 2) (tt := tYes) rfl sc_Order_greatest.nd (pi_range1 rfl T.z_range (pa_cons (pe_callB (call_lenOwn (ok_Order_len T) (hr.mono (by decide)) T.m_Order_len.at_ T.m_Order_len.fn T.b_Order_len pass0) (by rfl) T.z_len PySem.boot_len (pa_cons (pv 0) pa_nil)) pa_nil)) (blkOk_by (own := [("one", 2)]) (N := N_Order_greatest) (sc := defScope s_Order_greatest) (by decide +kernel)) (fun _ _ _ _ _ => (pg_name (i := 2) sc_Order_greatest.nd rfl (by first | exact Or.inl rfl | exact Or.inr rfl))) (fun _ _ _ _ _ => pts_nil) (fun _ _ _ _ _ => (pe_meth (pv 0) T.cl_Order T.m_Order_at_most (ok_Order_at_most T) (hr.mono (by decide)) T.b_Order_at_most .nil pass0 (pa_cons (pv 2) (pa_cons (pv 1) pa_nil))))) pa_nil))) (pss_one (ps_ret (pv 1))) pss_nil)))
      (pss_one (ps_ret pe_non)))), ?_⟩
  walk_at "n"
  refine x_forR (n := hs.length) e (ev_lenOwn (ev_var rfl r) (by omega)) (by omega) (fun i σ' F' H' => Gr M0 F H F' H' ∧ (∀ j, j < i → ((List.range hs.length).all fun one => atMostM hs one j) = false) ∧ ∃ y1 y2, σ' = [some v, y1, y2]) (fun F1 H1 g => ⟨g, fun j h => absurd h (Nat.not_lt_zero j), _, _, rfl⟩) ?_ ?_
  · rintro F1 e1 i σ' F' H' hi e2 e3 ⟨g, hb, y1, y2, rfl⟩
    walk_at "n"
    refine x_if e3 (et_B (ev_all (ev_lcRm (S := rBl) (n := hs.length) (fun one => atMostM hs one i) (ev_lenOwn (ev_var rfl (Mn.mono g.ff r)) (by omega)) (by omega) (fun v => rfl) fun one F5 H5 ho g5 => ev_meth2 (ev_var rfl (Mn.mono (g.ff.trans g5.ff) r)) (ev_var rfl (rn _ one)) (ev_var rfl (rn _ i)) ho))) (fun hbb F4 H4 g4 => ?_) (fun hbb F4 H4 g4 => ?_)
    · have hfind : greatestM hs = some i := L2.find_range _ hi (by rw [← hbb, List.all_map]; rfl) hb
      walk_at "n"
      exact x_ret (R := rOpt rNat) (x := some i) g4.fh (ev_someO (R := rNat) (ev_var rfl (rn F4 i))) fun v' F5 H5 g5 r5 => k v' F5 H5 (g.trans (g4.trans g5)) (by rw [hfind]; exact r5)
    · walk_at "n"
      refine ⟨F4, e2.trans g4.ff, g4.fh, g.trans g4, fun j hj => ?_, _, _, rfl⟩
      by_cases h : j = i
      · rw [h, ← hbb, List.all_map]; rfl
      · exact hb j (by omega)
  · rintro σ' F' H' e1 e2 ⟨g, hb, y1, y2, rfl⟩
    have hfind : greatestM hs = none := L2.find_range_none _ fun j hj => hb j hj
    walk_at "n"
    exact x_ret (R := rOpt rNat) (x := none) e2 ev_noneO fun v' F5 H5 g5 r5 => k v' F5 H5 (g.trans g5) (by rw [hfind]; exact r5)

abbrev rTri : Rp (Nat × Nat × Nat) := r3 rNat rNat rNat
abbrev sp_not_kept (T : Tx K mg) : Sp := Sp2 (rTurns T.C_Turns) (rOrder T.C_Order) GoodK (rOpt rTri) notKeptM
theorem ok_not_kept (T : Tx K mg) : FnOk P w K mg base CX0 3 T.a_not_kept T.d_not_kept ["turns", "order"] (sp_not_kept T) := by
  refine T.F_not_kept.ok sc_not_kept (fun vs H Q E h => SpLen.len h) (fun cdv A outer s H vs Q E hr h => ?_)
  obtain ⟨F, v, w, t, hs, rfl, e, r1, r2, ⟨h1, h2, h3⟩, k⟩ := h
  have t1 := t.h1
  have t3 := t.h3
  have ri : ∀ F (i : Int), rInt F (.int i) i := fun F i => rfl
  have rn : ∀ F (i : Nat), rNat F (.int (i : Int)) i := fun F i => rfl
  refine ⟨_, (by exact (pss_cons (ps_if (pt_cmpR op_ne (pe_callB (call_lenOwn (ok_Order_len T) (hr.mono (by decide)) T.m_Order_len.at_ T.m_Order_len.fn T.b_Order_len pass0) (by rfl) T.z_len PySem.boot_len (pa_cons (pv 1) pa_nil)) (kfld K (pv 0) rfl) (nomark _)) (pss_one ps_never) pss_nil)
      (pss_cons (ps_for PassesOwn.never rfl (kenum K rfl T.z_enumerate (pa_cons (kfld K (pv 0) rfl) pa_nil)) (kptup K (n := 2) rfl (pgs_cons (pg_name (i := 2) sc_not_kept.nd rfl (by first | exact Or.inl rfl | exact Or.inr rfl)) (pgs_cons (pg_name (i := 3) sc_not_kept.nd rfl (by first | exact Or.inl rfl | exact Or.inr rfl)) pgs_nil))) (pss_one (ps_for PassesOwn.never rfl (pi_range1 rfl T.z_range (pa_cons (kfld K (pv 0) rfl) pa_nil)) (pg_name (i := 4) sc_not_kept.nd rfl (by first | exact Or.inl rfl | exact Or.inr rfl)) (pss_one (ps_for PassesOwn.never rfl (klist K (pe_callB (call_sortedDI rfl) (by rfl) T.z_sorted (by decide +kernel) (pa_cons (pe_ix (r := rIxL K) ix_list (kfld K (pv 1) rfl) (pv 4) (fun _ _ => rfl)) pa_nil))) (pg_name (i := 5) sc_not_kept.nd rfl (by first | exact Or.inl rfl | exact Or.inr rfl)) (pss_one (ps_if (pt_not (pt_val (pe_meth (pv 1) T.cl_Order T.m_Order_at_most (ok_Order_at_most T) (hr.mono (by decide)) T.b_Order_at_most .nil pass0 (pa_cons (pe_ix (r := rIxT K) ix_tup (pv 3) (pv 4) (fun _ _ => rfl)) (pa_cons (pe_ix (r := rIxT K) ix_tup (pv 3) (pv 5) (fun _ _ => rfl)) pa_nil))))) (pss_one (ps_ret (pe_tup (pa_cons (pv 2) (pa_cons (pv 4) (pa_cons (pv 5) pa_nil)))))) pss_nil)))))))
      (pss_one (ps_ret pe_non))))), ?_⟩
  walk_at "n"
  refine x_if (b := false) e (EvT.is (et_test (ev_neI (ev_lenOwn (ev_var rfl r2) (by omega)) (ev_fld (ev_var rfl r1)).nat)) (by rw [h1]; simp)) (fun z => nomatch z) fun _ F1 H1 g1 => ?_
  walk_at "n"
  refine x_forE g1.fh (ev_fld (ev_var rfl (Mn.mono g1.ff r1))) (fun i σ' F' H' => Gr M0 F H F' H' ∧ (((List.range i).map (trisS t.many hs)).flatten).find? (badB t hs) = none ∧ ∃ y1 y2 y3 y4, σ' = [some v, some w, y1, y2, y3, y4]) (fun F2 H2 g2 => ⟨g1.trans g2, rfl, _, _, _, _, rfl⟩) ?_ ?_ ?_
  · rintro n σ' F' H' F2 H2 g2 ⟨g, hb, y1, y2, y3, y4, rfl⟩
    exact ⟨g.trans g2, hb, _, _, _, _, rfl⟩
  · rintro F2 e2 i m u σ' F' H' hx e3 e4 rx ⟨g, hb, y1, y2, y3, y4, rfl⟩
    have hx : t.maps[i]? = some m := hx
    have hi : i < t.maps.length := (List.getElem?_eq_some_iff.mp hx).1
    have em : t.maps.getD i [] = m := by rw [List.getD_eq_getElem?_getD, hx]; rfl
    have hm := t.h4 m (mem_of_at hx)
    walk_at "n"
    refine x_forR (n := t.many) e4 (ev_fld (ev_var rfl (Mn.mono g.ff r1))).nat (by omega) (fun j σ' F6 H6 => Gr M0 F H F6 H6 ∧ (((List.range j).map (trisG hs i)).flatten).find? (badB t hs) = none ∧ ∃ y3 y4, σ' = [some v, some w, some (.int (i : Int)), some u, y3, y4]) (fun F5 H5 g5 => ⟨g.trans g5, rfl, _, _, rfl⟩) ?_ ?_
    · rintro F5 e5 x σ' F6 H6 hx6 e6 e7 ⟨g6, hb6, y3, y4, rfl⟩
      have rx6 := Mn.mono (e5.trans e6) rx
      have hxl : x < hs.length := by omega
      walk_at "n"
      refine x_forL e7 (ev_sortD (ev_ixL (ev_fld (ev_var rfl (Mn.mono g6.ff r2))) (ev_var rfl (ri _ (x : Int))) (atI_natL (getD_at (xs := hs) (d := []) hxl))) (h3 x hx6)) (fun q σ' F8 H8 => Gr M0 F H F8 H8 ∧ ((trisG hs i x).take q).find? (badB t hs) = none ∧ ∃ y4, σ' = [some v, some w, some (.int (i : Int)), some u, some (.int (x : Int)), y4]) (fun F7 H7 g7 => ⟨g6.trans g7, rfl, _, rfl⟩) ?_ ?_
      · rintro F7 e8 q y u2 σ' F8 H8 hy e9 e10 ry ⟨g8, hb8, y4, rfl⟩
        cases (show u2 = _ from ry)
        have hyn : y < t.many := h2 x hx6 y (sort_mem.mp (mem_of_at hy))
        have ru := Mn.mono (e8.trans e9) rx6
        have hax : m[x]? = some (m.getD x 0) := getD_at (by rw [hm.1]; exact hx6)
        have hay : m[y]? = some (m.getD y 0) := getD_at (by rw [hm.1]; exact hyn)
        have hmx : m.getD x 0 < hs.length := by rw [h1]; exact hm.2 _ (List.mem_of_getElem? hax)
        walk_at "n"
        refine x_if (b := badB t hs (i, x, y)) e10 (EvT.is (et_not (et_B (ev_meth2 (x := hs) (y := m.getD x 0) (z := m.getD y 0) (ev_var rfl (Mn.mono g8.ff r2)) (ev_ixT (ev_var rfl ru) (ev_var rfl (ri _ (x : Int))) (atI_natL hax)) (ev_ixT (ev_var rfl ru) (ev_var rfl (ri _ (y : Int))) (atI_natL hay)) hmx))) ?_) (fun hbb F9 H9 g9 => ?_) (fun hbb F9 H9 g9 => ?_)
        · unfold badB
          rw [em]
        · have hit := tri_hit hi hx6 hy hb hb6 hb8 hbb
          walk_at "n"
          exact x_ret (R := rOpt rTri) (x := some (i, x, y)) g9.fh (ev_someO (R := rTri) (ev_r3 (ev_var rfl (rn _ i)) (ev_var rfl (rn _ x)) (ev_var rfl (rn _ y)))) fun v' F10 H10 g10 r10 => k v' F10 H10 (g8.trans (g9.trans g10)) (by rw [hit]; exact r10)
        · walk_at "n"
          refine ⟨F9, e9.trans g9.ff, g9.fh, g8.trans g9, ?_, _, rfl⟩
          have hk : (trisG hs i x)[q]? = some (i, x, y) := by
            unfold trisG
            rw [List.getElem?_map, hy]
            rfl
          rw [List.take_add_one, hk]
          refine find_none_app hb8 ?_
          show List.find? _ [(i, x, y)] = none
          rw [List.find?_cons, hbb]
          rfl
      · rintro σ' F8 H8 e8 e9 ⟨g8, hb8, y4, rfl⟩
        rw [List.take_of_length_le (by unfold trisG; rw [List.length_map]; exact Nat.le_refl _)] at hb8
        walk_at "n"
        refine ⟨F8, e6.trans e8, e9, g8, ?_, _, _, rfl⟩
        rw [flat_succ]
        exact find_none_app hb6 hb8
    · rintro σ' F6 H6 e5 e6 ⟨g6, hb6, y3, y4, rfl⟩
      walk_at "n"
      refine ⟨F6, e3.trans e5, e6, g6, ?_, _, _, _, _, rfl⟩
      rw [flat_succ]
      exact find_none_app hb hb6
  · rintro σ' F' H' e1 e2 ⟨g, hb, y1, y2, y3, y4, rfl⟩
    have hnone : notKeptM t hs = none := hb
    walk_at "n"
    exact x_ret (R := rOpt rTri) (x := none) e2 ev_noneO fun v' F5 H5 g5 r5 => k v' F5 H5 (g.trans g5) (by rw [hnone]; exact r5)

abbrev sp_NotKept_init (T : Tx K mg) : Sp := spKeep T.C_NotKept "kept"
theorem ok_NotKept_init (T : Tx K mg) : FnOk P w K mg base CX0 1 T.a_NotKept_init T.d_NotKept_init ["self", "kept"] (sp_NotKept_init T) := by
  refine T.F_NotKept_init.ok sc_NotKept_init (fun vs H Q E h => SpLen.len h) (fun cdv A outer s H vs Q E hr h => ?_)
  obtain ⟨a, v, rfl, ha, k⟩ := h
  refine ⟨_, (by exact (pss_cons (ps_expr (pe_dinit T.base_DrawError rfl T.g_DrawError (pa_cons (pv 0) (pa_cons pe_str pa_nil))))
      (pss_one (ps_ost (pv 0) (pv 1))))), ?_⟩
  walk_at "n"
  refine ⟨.ref a, rfl, a, T.C_NotKept, [_], rfl, by show 1 ≤ 1000; decide, T.oex_NotKept, ha, ?_⟩
  walk_at "n"
  refine ⟨v, rfl, .ref a, rfl, a, T.C_NotKept, rfl, T.oex_NotKept, T.nf_NotKept, .inl ⟨ha, fun dx hdx hne => ?_⟩⟩
  exact k dx hdx hne

abbrev sp_drawn_between (T : Tx K mg) : Sp := SpBetween T.C_Turns T.C_Order T.C_NotKept
theorem ok_drawn_between (T : Tx K mg) : FnOk P w K mg base (L2.CX P w) 4 T.a_drawn_between T.d_drawn_between ["turns", "order", "signs"] (sp_drawn_between T) := by
  refine T.F_drawn_between.okX sc_drawn_between (fun vs H Q E h => SpLen.len h) (fun cdv A outer s H vs Q E hr h => ?_)
  obtain ⟨F, v, w, u, t, hs, xs, lo, hi, rfl, e, r1, r2, r3, hk, hlo, hhi, l1, l2, hsg, hz, kn, ks⟩ := h
  have t1 := t.h1
  have h1 := hk.1
  have ri : ∀ F (i : Int), rInt F (.int i) i := fun F i => rfl
  have rn : ∀ F (i : Nat), rNat F (.int (i : Int)) i := fun F i => rfl
  refine ⟨_, (by exact (pss_cons (ps_set (i := 3) sc_drawn_between.nd rfl (Or.inl rfl) (pe_call (ok_not_kept T) (hr.mono (by decide)) rfl T.g_not_kept T.F_not_kept.kp T.b_not_kept .nil pass0 (pa_cons (pv 0) (pa_cons (pv 1) pa_nil))))
      (pss_cons (ps_if (pt_cmpR op_notN1 (pv 3) pe_non (nomark _)) (pss_one (ps_raise rfl (takes_of rfl rfl rfl rfl) (pmk_oex T.oex_NotKept T.ii_NotKept T.tf_NotKept (ok_NotKept_init T) (hr.mono (by decide)) T.b_NotKept_init .nil pass0 rfl T.g_NotKept (pa_cons (pv 3) pa_nil)))) pss_nil)
      (PSs.nox (pss_cons (ps_set (i := 4) sc_drawn_between.nd rfl (Or.inl rfl) (pe_meth0 (pv 1) T.cl_Order T.m_Order_least (ok_Order_least T) (hr.mono (by decide)) T.b_Order_least .nil pass0))
      (pss_cons (ps_set (i := 5) sc_drawn_between.nd rfl (Or.inl rfl) (pe_meth0 (pv 1) T.cl_Order T.m_Order_greatest (ok_Order_greatest T) (hr.mono (by decide)) T.b_Order_greatest .nil pass0))
      (pss_cons (ps_if (PW.pt (pw_or (pt_cmpR op_isN1 (pv 4) pe_non (nomark _)) (pw_or1 (pt_cmpR op_isN1 (pv 5) pe_non (nomark _))))) (pss_one ps_never) pss_nil)
      (pss_cons (ps_expr (pe_call (ok_check_signs T) (hr.mono (by decide)) rfl T.g_check_signs T.F_check_signs.kp T.b_check_signs .nil pass0 (pa_cons (pv 0) (pa_cons (pv 2) pa_nil))))
      (pss_cons (ps_set (i := 6) sc_drawn_between.nd rfl (Or.inr rfl) (pe_listRg rfl (by rfl) T.z_list (prg_1 (by rfl) T.z_range (kfld K (pv 0) rfl))))
      (pss_cons (ps_for PassesOwn.never rfl (kenum K rfl T.z_enumerate (pa_cons (pv 2) pa_nil)) (kptup K (n := 2) rfl (pgs_cons (pg_name (i := 7) sc_drawn_between.nd rfl (by first | exact Or.inl rfl | exact Or.inr rfl)) (pgs_cons (pg_name (i := 8) sc_drawn_between.nd rfl (by first | exact Or.inl rfl | exact Or.inr rfl)) pgs_nil))) (pss_cons (ps_if (pt_cmpR op_eq (pe_ix (r := rIxL K) ix_list (pv 6) (pv 4) (fun _ _ => rfl)) (pe_ix (r := rIxL K) ix_list (pv 6) (pv 5) (fun _ _ => rfl)) (nomark _)) (pss_one (ps_ret (pe_tup (pa_cons (pe_ix (r := rIxL K) ix_list (pv 6) (pv 4) (fun _ _ => rfl)) (pa_cons (pv 7) pa_nil))))) pss_nil)
      (pss_one (ps_set (i := 6) sc_drawn_between.nd rfl (Or.inr rfl) (pe_lc (own := [("to", 9)]) (g := gName 9) (tt := tYes) rfl sc_drawn_between.nd (ktup K (pe_ix (r := rIxL K) ix_list (kfld K (pv 0) rfl) (pv 8) (fun _ _ => rfl))) (blkOk_by (own := [("to", 9)]) (N := N_drawn_between) (sc := defScope s_drawn_between) (by decide +kernel)) (fun _ _ _ _ _ => (pg_name (i := 9) sc_drawn_between.nd rfl (by first | exact Or.inl rfl | exact Or.inr rfl))) (fun _ _ _ _ _ => pts_nil) (fun _ _ _ _ _ => (pe_ix (r := rIxL K) ix_list (pv 6) (pv 9) (fun _ _ => rfl))))))))
      (pss_one (ps_ret (pe_ifExp (pt_cmpR op_eq (pe_ix (r := rIxL K) ix_list (pv 6) (pv 4) (fun _ _ => rfl)) (pe_ix (r := rIxL K) ix_list (pv 6) (pv 5) (fun _ _ => rfl)) (nomark _)) (pe_tup (pa_cons (pe_ix (r := rIxL K) ix_list (pv 6) (pv 4) (fun _ _ => rfl)) (pa_cons (pe_callB (r := rLenS K) call_len_seq (by rfl) T.z_len PySem.boot_len (pa_cons (pv 2) pa_nil)) pa_nil))) pe_non))))))))))))), ?_⟩
  walk_at "n"
  refine x_set (R := rOpt rTri) (x := notKeptM t hs) e (ev_call2 (ev_var rfl r1) (ev_var rfl r2) hk) fun v3 F1 H1 g1 r4 => ?_
  walk_at "n"
  refine x_if (b := (notKeptM t hs).isSome) g1.fh (et_test (ev_notN (ev_var rfl r4))) (fun hb F2 H2 g2 => ?_) (fun hb F2 H2 g2 => ?_)
  · obtain ⟨p, hp⟩ := Option.isSome_iff_exists.mp hb
    rw [hp] at r4
    have r4' : rTri F2 v3 p := Mn.mono g2.ff (show rTri F1 v3 p from r4)
    exact x_raise (C := T.C_NotKept) (f := ("kept" : Str)) (W := fun cls d _ H => E cls d H) (R := rTri) (x := p) g2.fh (ev_var rfl r4') fun v d F' H' g r hd => ks p hp v d F' H' (g1.trans (g2.trans g)) r hd
  have hnone : notKeptM t hs = none := by
    cases q : notKeptM t hs with
    | none => rfl
    | some p => rw [q] at hb; cases hb
  have kn := kn hnone
  have g12 := g1.trans g2
  walk_at "n"
  refine x_set (R := rOpt rNat) (x := some lo) g2.fh (Ev.is (ev_meth0 (ev_var rfl (Mn.mono g12.ff r2)) (by omega)) hlo) fun v4 F3 H3 g3 r5 => ?_
  have r5' : rNat F3 v4 lo := r5
  cases (show v4 = _ from r5')
  walk_at "n"
  refine x_set (R := rOpt rNat) (x := some hi) g3.fh (Ev.is (ev_meth0 (ev_var rfl (Mn.mono (g12.ff.trans g3.ff) r2)) (by omega)) hhi) fun v5 F4 H4 g4 r6 => ?_
  have r6' : rNat F4 v5 hi := r6
  cases (show v5 = _ from r6')
  walk_at "n"
  refine x_if (b := false) g4.fh (EvT.is (et_or (et_test (ev_isN (R := rNat) (x := some lo) (ev_var rfl (rn F4 lo)))) fun _ => et_test (ev_isN (R := rNat) (x := some hi) (ev_var rfl (rn F4 hi)))) rfl) (fun z => nomatch z) fun _ F5 H5 g5 => ?_
  have g15 := g12.trans (g3.trans (g4.trans g5))
  walk_at "n"
  refine x_drop g5.fh (ev_call2 (ev_var rfl (Mn.mono g15.ff r1)) (ev_var rfl (Mn.mono g15.ff r3)) hsg) fun F6 H6 g6 => ?_
  have g16 := g15.trans g6
  walk_at "n"
  refine x_set (R := rLst rNat) (x := idMap t.many) g6.fh (ev_lstRg (ev_fld (ev_var rfl (Mn.mono g16.ff r1))).nat (by omega)) fun v7 F7 H7 g7 r7 => ?_
  have g17 := g16.trans g7
  walk_at "n"
  refine x_forE g7.fh (ev_var rfl (Mn.mono g17.ff r3)) (fun i σ' F' H' => Gr M0 F H F' H' ∧ ∃ f fv y1 y2 y3, rLst rNat F' fv f ∧ IsMap t.many f ∧ loopB t lo hi (idMap t.many) 0 xs = loopB t lo hi f i (xs.drop i) ∧ σ' = [some v, some w, some u, some v3, some (.int (lo : Int)), some (.int (hi : Int)), some fv, y1, y2, y3])
    (fun F8 H8 g8 => ⟨g17.trans g8, idMap t.many, v7, _, _, _, Mn.mono g8.ff r7, isMap_id _, rfl, rfl⟩) ?_ ?_ ?_
  · rintro n σ' F' H' F2 H2 g2 ⟨g, f, fv, y1, y2, y3, rf, hf, hl, rfl⟩
    exact ⟨g.trans g2, f, fv, _, _, _, Mn.mono g2.ff rf, hf, hl, rfl⟩
  · rintro F8 e8 i s u2 σ' F' H' hx e3 e4 rx ⟨g, f, fv, y1, y2, y3, rf, hf, hl, rfl⟩
    cases (show u2 = _ from rx)
    have hs1 := hsg s (mem_of_at hx)
    have hfl : f[lo]? = some (f.getD lo 0) := getD_at (by rw [hf.1]; exact l1)
    have hfh : f[hi]? = some (f.getD hi 0) := getD_at (by rw [hf.1]; exact l2)
    have hdrop : xs.drop i = s :: xs.drop (i + 1) := by
      obtain ⟨hl', he'⟩ := List.getElem?_eq_some_iff.mp hx
      rw [List.drop_eq_getElem_cons hl', he']
    walk_at "n"
    refine x_if e4 (et_test (ev_eqI (ev_ixL (ev_var rfl rf) (ev_var rfl (ri _ (lo : Int))) (atI_natL hfl)).nat (ev_ixL (ev_var rfl rf) (ev_var rfl (ri _ (hi : Int))) (atI_natL hfh)).nat)) (fun hbb F9 H9 g9 => ?_) (fun hbb F9 H9 g9 => ?_)
    · have heq : f.getD lo 0 = f.getD hi 0 := by have := of_decide_eq_true hbb; omega
      walk_at "n"
      refine x_ret (R := rOpt (rPr rNat rNat)) (x := some (f.getD lo 0, i)) g9.fh (ev_someO (R := rPr rNat rNat) (ev_pr (R := rNat) (S := rNat) (ev_ixL (ev_var rfl (Mn.mono g9.ff rf)) (ev_var rfl (ri _ (lo : Int))) (atI_natL hfl)) (ev_var rfl (rn _ i)))) fun v' F10 H10 g10 r10 => kn v' F10 H10 (g.trans (g9.trans g10)) ?_
      rw [hl, loopB_hit heq]
      exact r10
    · have hne : ¬ f.getD lo 0 = f.getD hi 0 := by have := of_decide_eq_false hbb; omega
      have hmm := t.isMap hs1
      have rf9 := Mn.mono g9.ff rf
      walk_at "n"
      refine x_set (R := rLst rNat) (x := thenM (t.maps.getD s []) f) g9.fh (ev_lcTm (R := rNat) (S := rNat) (fun to => f.getD to 0) (ev_ixL (x := t.maps.getD s []) (ev_fld (ev_var rfl (Mn.mono (g.ff.trans g9.ff) r1))) (ev_var rfl (ri _ (s : Int))) (atI_natL (getD_at hs1))) (by rw [hmm.1]; omega) (fun v => rfl) fun j to v' F10 H10 hto g10 rto => ?_) fun v10 F10 H10 g10 r10 => ?_
      · cases (show v' = _ from rto)
        exact ev_ixL (ev_var rfl (Mn.mono g10.ff rf9)) (ev_var rfl (ri _ (to : Int))) (atI_natL (getD_at (by rw [hf.1]; exact hmm.2 to (mem_of_at hto))))
      refine ⟨F10, e3.trans (g9.ff.trans g10.ff), g10.fh, g.trans (g9.trans g10), _, v10, _, _, _, r10, isMap_then hmm hf, ?_, rfl⟩
      rw [hl, hdrop, loopB_go hne]
  · rintro σ' F' H' e1 e2 ⟨g, f, fv, y1, y2, y3, rf, hf, hl, rfl⟩
    rw [List.drop_length] at hl
    have hfl : f[lo]? = some (f.getD lo 0) := getD_at (by rw [hf.1]; exact l1)
    have hfh : f[hi]? = some (f.getD hi 0) := getD_at (by rw [hf.1]; exact l2)
    walk_at "n"
    refine x_ret (R := rOpt (rPr rNat rNat)) e2 (ev_if (x1 := some (f.getD lo 0, xs.length)) (x2 := none) (et_test (ev_eqI (ev_ixL (ev_var rfl rf) (ev_var rfl (ri _ (lo : Int))) (atI_natL hfl)).nat (ev_ixL (ev_var rfl rf) (ev_var rfl (ri _ (hi : Int))) (atI_natL hfh)).nat)) (fun _ => ev_someO (R := rPr rNat rNat) (ev_pr (R := rNat) (S := rNat) (ev_ixL (ev_var rfl rf) (ev_var rfl (ri _ (lo : Int))) (atI_natL hfl)) (Ev.toNat (ev_lenL (ev_var rfl (Mn.mono g.ff r3)))))) fun _ => ev_noneO) fun v' F10 H10 g10 r10 => kn v' F10 H10 (g.trans g10) ?_
    rw [hl]
    unfold loopB
    by_cases hq : f.getD lo 0 = f.getD hi 0
    · rw [if_pos hq]
      rw [if_pos (decide_eq_true (by omega))] at r10
      exact r10
    · rw [if_neg hq]
      rw [if_neg (by rw [decide_eq_false (by omega)]; exact Bool.false_ne_true)] at r10
      exact r10

def SpTold (CT CO : Addr) : Sp := fun vs H Q _ => ∃ (F : Hp) (v w u : V) (t : Tn) (hs : List (List Nat)) (xs : List Nat) (lo hi : Nat), vs = [v, w, u] ∧ Ex F H ∧ rTurns CT F v t ∧ rOrder CO F w hs ∧ rLst rNat F u xs ∧
  GoodK t hs ∧ leastM hs = some lo ∧ greatestM hs = some hi ∧ lo < t.many ∧ hi < t.many ∧ (∀ s ∈ xs, s < t.maps.length) ∧ xs.length ≤ 1000000 ∧
  ∀ r F' H', Gr M0 F H F' H' → rTold F' r (toldM t hs lo hi xs) → Q r H'
instance {a b : Addr} : SpLen (SpTold a b) 3 := ⟨fun ⟨_, _, _, _, _, _, _, _, _, h, _⟩ => by rw [h]; rfl⟩
abbrev sp__law_told (T : Tx K mg) : Sp := SpTold T.C_Turns T.C_Order
theorem ok__law_told (T : Tx K mg) : FnOk P w K mg base CX0 5 T.a__law_told T.d__law_told ["_law_turns", "_law_order", "_law_signs"] (sp__law_told T) := by
  refine T.F__law_told.ok sc__law_told (fun vs H Q E h => SpLen.len h) (fun cdv A outer s H vs Q E hr h => ?_)
  obtain ⟨F, v, w, u, t, hs, xs, lo, hi, rfl, e, r1, r2, r3, hk, hlo, hhi, l1, l2, hsg, hz, k⟩ := h
  refine ⟨_, (by exact (pss_one (ps_try_as (i := 3) (Wout := fun _ _ _ _ => False) rfl rfl sc__law_told.nd rfl rfl ⟨rfl, by decide, Or.inl T.g_NotKept⟩ takes0 (fun W pn xe tk _ => (pss_one (ps_ret (pe_tup (pa_cons pe_str (pa_cons (pe_callS (ok_drawn_between T) (hr.mono (by decide)) rfl T.g_drawn_between T.F_drawn_between.kp T.b_drawn_between (fun σ => passAt tk σ) (pa_cons (pv 0) (pa_cons (pv 1) (pa_cons (pv 2) pa_nil)))) pa_nil)))))) (fun a oe cls d pn hz hf => (pss_one (ps_ret (pe_tup (pa_cons pe_str (pa_cons (pe_xf T.xf_NotKept T.nf_NotKept hz hf (pv 3)) pa_nil))))))))), ?_⟩
  walk_at "n"
  refine ⟨v, rfl, w, rfl, u, rfl, F, v, w, u, t, hs, xs, lo, hi, rfl, e, r1, r2, r3, hk, hlo, hhi, l1, l2, hsg, hz, fun hn r F' H' g rr => ?_, fun p hp v' d F' H' g rr hd => ?_⟩
  · refine ⟨by show 2 ≤ sizeLine; decide, fun B hB => ?_⟩
    have g2 : Gr M0 F' H' (upd F' B (.tup [.str ("told" : Str), r])) (upd H' B (.tup [.str ("told" : Str), r])) := .new g.fh hB
    refine k _ _ _ (g.trans g2) ?_
    unfold toldM
    rw [hn]
    exact ⟨B, r, rfl, upd_same, Mn.mono g2.ff rr⟩
  · refine ⟨true, T.te_NotKept, fun _ a ha => ?_, fun q => Bool.noConfusion q⟩
    have g1 : Gr M0 F' H' F' (upd H' d (.xd [(("kept" : Str), v')])) := .loc g.fh hd
    refine ⟨.ref a, rfl, rfl, rfl, d, _, v', rfl, upd_same, rfl, by show 2 ≤ sizeLine; decide, fun B hB => ?_⟩
    have g2 : Gr M0 F' (upd H' d (.xd [(("kept" : Str), v')])) (upd F' B (.tup [.str ("not kept" : Str), v'])) (upd (upd H' d (.xd [(("kept" : Str), v')])) B (.tup [.str ("not kept" : Str), v'])) := .new g1.fh hB
    refine k _ _ _ ((g.trans g1).trans g2) ?_
    unfold toldM
    rw [hp]
    exact ⟨B, v', rfl, upd_same, Mn.mono g2.ff rr⟩

instance {T : Tx K mg} : IsF (rWeb T.C_Web) K "spots" rNat Wb.spots := fld_spots T.cl_Web T.na_Web_spots
instance {T : Tx K mg} : IsF (rWeb T.C_Web) K "ties" (rLst (rPr rNat rNat)) Wb.ties := fld_ties T.cl_Web T.na_Web_ties
instance {T : Tx K mg} : IsF (rWeb T.C_Web) K "whole" rNat Wb.whole := fld_whole T.cl_Web T.na_Web_whole
instance {T : Tx K mg} : IsF (rWeb T.C_Web) K "levels" (rLst rNat) Wb.levels := fld_levels T.cl_Web T.na_Web_levels
abbrev sp_is_tie (T : Tx K mg) : Sp := Sp2 (rPr rNat rNat) rNat (fun p n => p.1 < p.2 ∧ p.2 < n ∧ n ≤ 1000) rBl (fun _ _ => true)
theorem ok_is_tie (T : Tx K mg) : FnOk P w K mg base CX0 3 T.a_is_tie T.d_is_tie ["thing", "spots"] (sp_is_tie T) := by
  refine T.F_is_tie.ok sc_is_tie (fun vs H Q E h => SpLen.len h) (fun cdv A outer s H vs Q E hr h => ?_)
  obtain ⟨F, v, w, p, n, rfl, e, r1, r2, ⟨h1, h2, h4⟩, k⟩ := h
  cases (show w = _ from r2)
  have ri : ∀ F (i : Int), rInt F (.int i) i := fun F i => rfl
  have ep := fun F1 H1 (g : Gr M0 F H F1 H1) => ev_pt (σ := [some v, some (.int (n : Int))]) (ev_var (F := F1) (H := H1) (i := 0) (v := v) rfl (Mn.mono g.ff r1))
  refine ⟨_, (by exact (pss_cons (ps_if (PW.pt (pw_or (pt_not (pt_val (pe_callB (r := rIsi K) call_isi (by rfl) T.z_isinstance (by decide +kernel) (pa_cons (pv 0) (pa_cons (pe_bltn (v := .ty "tuple") (by rfl) T.z_tuple (by decide +kernel) rfl) pa_nil))))) (pw_or1 (pt_cmpR op_ne (pe_callB (r := rLenS K) call_len_seq (by rfl) T.z_len PySem.boot_len (pa_cons (pv 0) pa_nil)) pe_int (nomark _))))) (pss_one (ps_ret pe_bl)) pss_nil)
      (pss_one (ps_ret (pe_and (pe_call (ok_is_between T) (hr.mono (by decide)) rfl T.g_is_between T.F_is_between.kp T.b_is_between .nil pass0 (pa_cons (pe_ix (r := rIxT K) ix_tup (pv 0) pe_int (fun _ _ => rfl)) (pa_cons pe_int (pa_cons (pe_op op_sub (pv 1) pe_int) pa_nil)))) (pe_one (pe_call (ok_is_between T) (hr.mono (by decide)) rfl T.g_is_between T.F_is_between.kp T.b_is_between .nil pass0 (pa_cons (pe_ix (r := rIxT K) ix_tup (pv 0) pe_int (fun _ _ => rfl)) (pa_cons pe_int (pa_cons (pe_op op_sub (pe_ix (r := rIxT K) ix_tup (pv 0) pe_int (fun _ _ => rfl)) pe_int) pa_nil)))))))))), ?_⟩
  walk_at "n"
  refine x_if (b := false) e (EvT.is (et_or (et_not (et_B (ev_isTup (ep F H (.refl e))))) fun _ => et_test (ev_neI (ev_lenT (ep F H (.refl e))) ev_int)) (by simp)) (fun z => nomatch z) fun _ F1 H1 g1 => ?_
  walk_at "n"
  have rp := Mn.mono g1.ff r1
  refine x_ret g1.fh (Ev.is (x' := true) (ev_andV (Ev.is (x' := true) (ev_call3 (ev_snd (ev_var rfl rp)).nat ev_int (ev_sub (ev_var rfl (ri _ (n : Int))) ev_int) trivial) ?_) fun _ => Ev.is (x' := true) (ev_call3 (ev_fst (ev_var rfl rp)).nat ev_int (ev_sub (ev_snd (ev_var rfl rp)).nat ev_int) trivial) ?_) rfl) fun v' F2 H2 g2 r => k v' F2 H2 (g1.trans g2) r
  · rw [decide_eq_true (by omega), decide_eq_true (by omega)]; rfl
  · rw [decide_eq_true (by omega), decide_eq_true (by omega)]; rfl
abbrev sp_are_ties (T : Tx K mg) : Sp := Sp2 (rLst (rPr rNat rNat)) rNat (fun ps n => n ≤ 1000 ∧ ps.length < 64 ∧ ps.Nodup ∧ ∀ p ∈ ps, p.1 < p.2 ∧ p.2 < n) rBl (fun _ _ => true)
theorem ok_are_ties (T : Tx K mg) : FnOk P w K mg base CX0 4 T.a_are_ties T.d_are_ties ["thing", "spots"] (sp_are_ties T) := by
  refine T.F_are_ties.ok sc_are_ties (fun vs H Q E h => SpLen.len h) (fun cdv A outer s H vs Q E hr h => ?_)
  obtain ⟨F, v, w, ps, n, rfl, e, r1, r2, ⟨h1, h2, h3, h4⟩, k⟩ := h
  cases (show w = _ from r2)
  have rn : ∀ F (i : Nat), rNat F (.int (i : Int)) i := fun F i => rfl
  refine ⟨_, (by exact (pss_cons (ps_if (PW.pt (pw_or (pt_not (pt_val (pe_callB (r := rIsi K) call_isi (by rfl) T.z_isinstance (by decide +kernel) (pa_cons (pv 0) (pa_cons (pe_bltn (v := .ty "list") (by rfl) T.z_list (by decide +kernel) rfl) pa_nil))))) (pw_or1 (pt_not (pt_val (pe_callB (r := rAll K) (cr_all rfl) (by rfl) T.z_all (by decide +kernel) (pa_cons (pe_lc (own := [("tie", 2)]) (g := gName 2) (tt := tYes) rfl sc_are_ties.nd (klist K (pv 0)) (blkOk_by (own := [("tie", 2)]) (N := N_are_ties) (sc := defScope s_are_ties) (by decide +kernel)) (fun _ _ _ _ _ => (pg_name (i := 2) sc_are_ties.nd rfl (by first | exact Or.inl rfl | exact Or.inr rfl))) (fun _ _ _ _ _ => pts_nil) (fun _ _ _ _ _ => (pe_call (ok_is_tie T) (hr.mono (by decide)) rfl T.g_is_tie T.F_is_tie.kp T.b_is_tie .nil pass0 (pa_cons (pv 2) (pa_cons (pv 1) pa_nil))))) pa_nil))))))) (pss_one (ps_ret pe_bl)) pss_nil)
      (pss_one (ps_ret (pe_cmpR op_eq (klensetP (K := K) hr.units (by rfl) T.z_len (by rfl) T.z_set (pv 0)) (pe_callB (r := rLenS K) call_len_seq (by rfl) T.z_len PySem.boot_len (pa_cons (pv 0) pa_nil)) (nomark _)))))), ?_⟩
  walk_at "n"
  refine x_if (b := false) e (EvT.is (et_or (et_not (et_B (ev_isLst (ev_var rfl r1)))) fun _ => et_not (et_B (ev_all (ev_lcm (R := rPr rNat rNat) (S := rBl) (fun _ => true) (ev_var rfl r1) (by omega) (fun v => rfl) fun i p v F2 H2 hx g r => ev_call2 (ev_var rfl r) (ev_var rfl (rn _ n)) ?_)))) ?_) (fun z => nomatch z) fun _ F1 H1 g1 => ?_
  · obtain ⟨q1, q2⟩ := h4 p (mem_of_at hx)
    exact ⟨q1, q2, h1⟩
  · have : ((ps.map fun _ => true).all id) = true := List.all_eq_true.mpr fun b hb => by obtain ⟨_, _, rfl⟩ := List.mem_map.mp hb; rfl
    rw [this]; rfl
  walk_at "n"
  exact x_ret g1.fh (Ev.is (x' := true) (ev_eqI (ev_lenSetP (ev_var rfl (Mn.mono g1.ff r1)) h2 h3) (ev_lenL (ev_var rfl (Mn.mono g1.ff r1)))) (decide_eq_true rfl)) fun v' F2 H2 g2 r => k v' F2 H2 (g1.trans g2) r
abbrev sp_are_levels (T : Tx K mg) : Sp := Sp3 (rLst rNat) rNat rNat (fun ls n w => ls.length = n ∧ n ≤ 1000 ∧ ∀ l ∈ ls, l ≤ w) rBl (fun _ _ _ => true)
theorem ok_are_levels (T : Tx K mg) : FnOk P w K mg base CX0 3 T.a_are_levels T.d_are_levels ["thing", "spots", "whole"] (sp_are_levels T) := by
  refine T.F_are_levels.ok sc_are_levels (fun vs H Q E h => SpLen.len h) (fun cdv A outer s H vs Q E hr h => ?_)
  obtain ⟨F, v, w, u, ls, n, wh, rfl, e, r1, r2, r3, ⟨h1, h2, h3⟩, k⟩ := h
  cases (show w = _ from r2)
  cases (show u = _ from r3)
  have ri : ∀ F (i : Int), rInt F (.int i) i := fun F i => rfl
  refine ⟨_, (by exact (pss_one (ps_ret (pe_and (pe_callB (r := rIsi K) call_isi (by rfl) T.z_isinstance (by decide +kernel) (pa_cons (pv 0) (pa_cons (pe_bltn (v := .ty "list") (by rfl) T.z_list (by decide +kernel) rfl) pa_nil))) (pe_and (pe_cmpR op_eq (pe_callB (r := rLenS K) call_len_seq (by rfl) T.z_len PySem.boot_len (pa_cons (pv 0) pa_nil)) (pv 1) (nomark _)) (pe_one (pe_callB (r := rAll K) (cr_all rfl) (by rfl) T.z_all (by decide +kernel) (pa_cons (pe_lc (own := [("level", 3)]) (g := gName 3) (tt := tYes) rfl sc_are_levels.nd (klist K (pv 0)) (blkOk_by (own := [("level", 3)]) (N := N_are_levels) (sc := defScope s_are_levels) (by decide +kernel)) (fun _ _ _ _ _ => (pg_name (i := 3) sc_are_levels.nd rfl (by first | exact Or.inl rfl | exact Or.inr rfl))) (fun _ _ _ _ _ => pts_nil) (fun _ _ _ _ _ => (pe_call (ok_is_between T) (hr.mono (by decide)) rfl T.g_is_between T.F_is_between.kp T.b_is_between .nil pass0 (pa_cons (pv 3) (pa_cons pe_int (pa_cons (pv 2) pa_nil)))))) pa_nil)))))))), ?_⟩
  walk_at "n"
  refine x_ret e (Ev.is (x' := true) (ev_andV (ev_isLst (ev_var rfl r1)) fun _ => ev_andV (ev_eqI (ev_lenL (ev_var rfl r1)) (ev_var rfl (ri _ (n : Int)))) fun _ => ev_all (ev_lcm (R := rNat) (S := rBl) (fun _ => true) (ev_var rfl r1) (by omega) (fun v => rfl) fun i l v F2 H2 hx g r => ?_)) ?_) k
  · have := h3 l (mem_of_at hx)
    refine Ev.is (ev_call3 (ev_var rfl (show rInt _ _ (l : Int) from r)) ev_int (ev_var rfl (ri _ (wh : Int))) trivial) ?_
    rw [decide_eq_true (by omega), decide_eq_true (by omega)]; rfl
  · have : ((ls.map fun _ => true).all id) = true := List.all_eq_true.mpr fun b hb => by obtain ⟨_, _, rfl⟩ := List.mem_map.mp hb; rfl
    rw [this, h1, decide_eq_true rfl]; rfl
abbrev sp_Web_init (T : Tx K mg) : Sp := SpWeb T.C_Web
theorem ok_Web_init (T : Tx K mg) : FnOk P w K mg base CX0 5 T.a_Web_init T.d_Web_init ["self", "spots", "ties", "whole", "levels"] (sp_Web_init T) := by
  refine T.F_Web_init.ok sc_Web_init (fun vs H Q E h => SpLen.len h) (fun cdv A outer s H vs Q E hr h => ?_)
  obtain ⟨F, a, dx, l, m, W, rfl, e, fa, ha, rl, rm, k⟩ := h
  have w0 := W.h0
  have w1 := W.h1
  have w2 := W.h2
  have w4 := W.h4
  have w5 := W.h5
  have w6 := W.h6
  have hlen : W.ties.length < 64 := Nat.lt_of_le_of_lt (ties_len W) (by decide)
  have ri : ∀ F (i : Int), rInt F (.int i) i := fun F i => rfl
  have rn : ∀ F (i : Nat), rNat F (.int (i : Int)) i := fun F i => rfl
  have va : ∀ F, rRef F (.ref a) a := fun F => rfl
  refine ⟨_, (by exact (pss_cons (ps_if (pt_not (pt_val (pe_call (ok_is_between T) (hr.mono (by decide)) rfl T.g_is_between T.F_is_between.kp T.b_is_between .nil pass0 (pa_cons (pv 1) (pa_cons pe_int (pa_cons (pe_glob (v := .int 5) rfl T.c_MOST_SPOTS ⟨_, rfl⟩) pa_nil)))))) (pss_one ps_never) pss_nil)
      (pss_cons (ps_if (pt_not (pt_val (pe_call (ok_are_ties T) (hr.mono (by decide)) rfl T.g_are_ties T.F_are_ties.kp T.b_are_ties .nil pass0 (pa_cons (pv 2) (pa_cons (pv 1) pa_nil))))) (pss_one ps_never) pss_nil)
      (pss_cons (ps_if (pt_not (pt_val (pe_call (ok_is_between T) (hr.mono (by decide)) rfl T.g_is_between T.F_is_between.kp T.b_is_between .nil pass0 (pa_cons (pv 3) (pa_cons pe_int (pa_cons (pe_glob (v := .int 40) rfl T.c_MOST_WHOLE ⟨_, rfl⟩) pa_nil)))))) (pss_one ps_never) pss_nil)
      (pss_cons (ps_if (pt_not (pt_val (pe_call (ok_are_levels T) (hr.mono (by decide)) rfl T.g_are_levels T.F_are_levels.kp T.b_are_levels .nil pass0 (pa_cons (pv 4) (pa_cons (pv 1) (pa_cons (pv 3) pa_nil)))))) (pss_one ps_never) pss_nil)
      (pss_cons (kset K (pv 0) (pv 1) rfl)
      (pss_cons (kset K (pv 0) (pe_callTy (r := rListS K) call_list_of (by rfl) T.z_list (by decide +kernel) (pa_cons (pv 2) pa_nil)) rfl)
      (pss_cons (kset K (pv 0) (pv 3) rfl)
      (pss_one (kset K (pv 0) (pe_callTy (r := rListS K) call_list_of (by rfl) T.z_list (by decide +kernel) (pa_cons (pv 4) pa_nil)) rfl)))))))))), ?_⟩
  walk_at "n"
  refine x_if (b := false) e (EvT.is (b := !true) (et_not (et_B (Ev.is (ev_call3 (ev_var rfl (ri _ (W.spots : Int))) ev_int ev_int trivial) ?_))) rfl) (fun z => nomatch z) fun _ F1 H1 g1 => ?_
  · rw [decide_eq_true (by omega), decide_eq_true (by omega)]; rfl
  walk_at "n"
  refine x_if (b := false) g1.fh (EvT.is (b := !true) (et_not (et_B (ev_call2 (ev_var rfl (Mn.mono g1.ff rl)) (ev_var rfl (rn _ W.spots)) ⟨by omega, hlen, W.h3, w2⟩))) rfl) (fun z => nomatch z) fun _ F2 H2 g2 => ?_
  walk_at "n"
  refine x_if (b := false) g2.fh (EvT.is (b := !true) (et_not (et_B (Ev.is (ev_call3 (ev_var rfl (ri _ (W.whole : Int))) ev_int ev_int trivial) ?_))) rfl) (fun z => nomatch z) fun _ F3 H3 g3 => ?_
  · rw [decide_eq_true (by omega), decide_eq_true (by omega)]; rfl
  have g123 := g1.trans (g2.trans g3)
  walk_at "n"
  refine x_if (b := false) g3.fh (EvT.is (b := !true) (et_not (et_B (ev_call3 (ev_var rfl (Mn.mono g123.ff rm)) (ev_var rfl (rn _ W.spots)) (ev_var rfl (rn _ W.whole)) ⟨w6, by omega, W.h7⟩))) rfl) (fun z => nomatch z) fun _ F4 H4 g4 => ?_
  have g14 := g123.trans g4
  walk_at "n"
  refine x_fld g4.fh (ev_var rfl (ri _ (W.spots : Int))) (ev_var rfl (va _)) (g14.hx _ _ ha) T.cl_Web T.na_Web_spots (by decide) fun v5 F5 H5 g5 r5 h5 => ?_
  cases (show v5 = _ from r5)
  have g15 := g14.trans g5
  have f5 : F5 a = none := g15.nn ha fa
  have gg5 : Gr (El.M1 a) F H F5 (upd H5 a (.ins T.C_Web dx (putF "spots" (V.int W.spots) []))) := g15.up.set' f5 (.inr rfl)
  walk_at "n"
  refine x_fld gg5.fh (ev_listL (ev_var rfl (Mn.mono g15.ff rl))) (ev_var rfl (va _)) upd_same T.cl_Web T.na_Web_ties (by show 1 < 1000; decide) fun v6 F6 H6 g6 r6 h6 => ?_
  have f6 : F6 a = none := g6.nn upd_same f5
  have gg6 := (gg5.trans g6.up).set' (o := .ins T.C_Web dx (putF "ties" v6 (putF "spots" (V.int W.spots) []))) f6 (.inr rfl)
  walk_at "n"
  refine x_fld gg6.fh (ev_var rfl (ri _ (W.whole : Int))) (ev_var rfl (va _)) upd_same T.cl_Web T.na_Web_whole (by show 2 < 1000; decide) fun v7 F7 H7 g7 r7 h7 => ?_
  cases (show v7 = _ from r7)
  have f7 : F7 a = none := g7.nn upd_same f6
  have gg7 := (gg6.trans g7.up).set' (o := .ins T.C_Web dx (putF "whole" (V.int W.whole) (putF "ties" v6 (putF "spots" (V.int W.spots) [])))) f7 (.inr rfl)
  walk_at "n"
  refine x_fld gg7.fh (ev_listL (ev_var rfl (Mn.mono (g15.ff.trans (g6.ff.trans g7.ff)) rm))) (ev_var rfl (va _)) upd_same T.cl_Web T.na_Web_levels (by show 3 < 1000; decide) fun v8 F8 H8 g8 r8 h8 => ?_
  have f8 : F8 a = none := g8.nn upd_same f7
  have gg8 := (gg7.trans g8.up).set' (o := .ins T.C_Web dx (putF "levels" v8 (putF "whole" (V.int W.whole) (putF "ties" v6 (putF "spots" (V.int W.spots) []))))) f8 (.inr rfl)
  have ex8 : Ex F8 (upd F8 a (.ins T.C_Web dx (putF "levels" v8 (putF "whole" (V.int W.whole) (putF "ties" v6 (putF "spots" (V.int W.spots) [])))))) := Ex.new f8
  exact k _ _ (gg8.frz upd_same fa (.inr rfl)) ⟨a, dx, v6, v8, rfl, upd_same, Mn.mono (g7.ff.trans (g8.ff.trans ex8)) r6, Mn.mono ex8 r8⟩
abbrev sp_is_up (T : Tx K mg) : Sp := Sp2 rNat rNat (fun _ s => s < 6) rBl upB
theorem ok_is_up (T : Tx K mg) : FnOk P w K mg base CX0 1 T.a_is_up T.d_is_up ["place", "spot"] (sp_is_up T) := by
  refine T.F_is_up.ok sc_is_up (fun vs H Q E h => SpLen.len h) (fun cdv A outer s H vs Q E hr h => ?_)
  obtain ⟨F, v, w, p, s, rfl, e, r1, r2, hs, k⟩ := h
  cases (show v = _ from r1)
  cases (show w = _ from r2)
  have ri : ∀ F (i : Int), rInt F (.int i) i := fun F i => rfl
  have hpow : 2 ^ s ≤ 32 := pow_le (by omega)
  have hpos := Nat.two_pow_pos s
  refine ⟨_, (by exact (pss_one (ps_ret (pe_cmpR op_eq (pe_op op_mod (pe_op op_fdiv (pv 0) (pe_ix (r := rIxT K) ix_tup (pe_glob (v := .ref T.q_WORTHS) rfl T.c_WORTHS rfl) (pv 1) (fun _ _ => rfl))) pe_int) pe_int (nomark _))))), ?_⟩
  walk_at "n"
  refine x_ret e (Ev.is (ev_eqI (ev_mod (ev_fdiv (ev_var rfl (ri _ (p : Int))) (ev_ixK T.w_WORTHS (ev_var rfl (ri _ (s : Int))) (worth hs)) ⟨by omega, by omega⟩) ev_int (by decide)) ev_int) ?_) k
  unfold upB
  refine decide_eq_decide.mpr ?_
  rw [← Int.natCast_ediv]
  generalize p / 2 ^ s = q
  omega
abbrev sp_tied_to (T : Tx K mg) : Sp := Sp2 (rWeb T.C_Web) rNat (fun _ _ => True) (rLst rNat) (fun W s => tiedM W.ties s)
theorem ok_tied_to (T : Tx K mg) : FnOk P w K mg base CX0 1 T.a_tied_to T.d_tied_to ["web", "spot"] (sp_tied_to T) := by
  refine T.F_tied_to.ok sc_tied_to (fun vs H Q E h => SpLen.len h) (fun cdv A outer s H vs Q E hr h => ?_)
  obtain ⟨F, v, w, W, s, rfl, e, r1, r2, -, k⟩ := h
  cases (show w = _ from r2)
  have ri : ∀ F (i : Int), rInt F (.int i) i := fun F i => rfl
  have rn : ∀ F (i : Nat), rNat F (.int (i : Int)) i := fun F i => rfl
  refine ⟨_, (by exact (pss_one (ps_ret (pe_lc (own := [("one", 2), ("other", 3)]) (g := gTup K 2 (gCons (gName 2) (gCons (gName 3) gNil))) (tt := _) rfl sc_tied_to.nd (klist K (kfld K (pv 0) rfl)) (blkOk_by (own := [("one", 2), ("other", 3)]) (N := N_tied_to) (sc := defScope s_tied_to) (by decide +kernel)) (fun _ _ _ _ _ => (kptup K (n := 2) rfl (pgs_cons (pg_name (i := 2) sc_tied_to.nd rfl (by first | exact Or.inl rfl | exact Or.inr rfl)) (pgs_cons (pg_name (i := 3) sc_tied_to.nd rfl (by first | exact Or.inl rfl | exact Or.inr rfl)) pgs_nil)))) (fun _ _ _ _ _ => (pts_one (pt_cmpR (r := rIn K false) op_in_seq (pv 1) (pe_tup (pa_cons (pv 2) (pa_cons (pv 3) pa_nil))) (by rfl)))) (fun _ _ _ _ _ => (pe_op op_sub (pe_op op_add (pv 2) (pv 3)) (pv 1))))))), ?_⟩
  walk_at "n"
  refine x_ret e (ev_lcPF (R := rNat) (S := rNat) (U := rNat) (fun x => decide (s = x.1) || decide (s = x.2)) (fun x => x.1 + x.2 - s) (ev_fld (ev_var rfl r1)) (Nat.le_trans (ties_len W) (by decide)) (fun v w => rfl) (fun i x v w F1 H1 hx g rx ry => ?_) fun i x v w F1 H1 hx hp g rx ry => ?_) k
  · cases (show v = _ from rx)
    cases (show w = _ from ry)
    exact et_test (ev_inPr (ev_var rfl (rn _ s)) (ev_tup (R := rNat) (el_cons (ev_var rfl (rn _ x.1)) (el_cons (ev_var rfl (rn _ x.2)) el_nil)) (by show 2 ≤ sizeLine; decide)))
  · cases (show v = _ from rx)
    cases (show w = _ from ry)
    rw [Bool.or_eq_true, decide_eq_true_eq, decide_eq_true_eq] at hp
    exact Ev.toNat (Ev.is (ev_sub (ev_add (ev_var rfl (ri _ (x.1 : Int))) (ev_var rfl (ri _ (x.2 : Int)))) (ev_var rfl (ri _ (s : Int)))) (by omega))
abbrev sp_moved (T : Tx K mg) : Sp := Sp4 (rWeb T.C_Web) rNat rNat rNat (fun W p s _ => s < W.spots) rNat movedM
theorem ok_moved (T : Tx K mg) : FnOk P w K mg base CX0 2 T.a_moved T.d_moved ["web", "place", "spot", "number"] (sp_moved T) := by
  refine T.F_moved.ok sc_moved (fun vs H Q E h => SpLen.len h) (fun cdv A outer s H vs Q E hr h => ?_)
  obtain ⟨F, v, w, u, z, W, p, s, j, rfl, e, r1, r2, r3, r4, hs, k⟩ := h
  cases (show w = _ from r2)
  cases (show u = _ from r3)
  cases (show z = _ from r4)
  have w1 := W.h1
  have ri : ∀ F (i : Int), rInt F (.int i) i := fun F i => rfl
  have rn : ∀ F (i : Nat), rNat F (.int (i : Int)) i := fun F i => rfl
  have hpow : 2 ^ s ≤ 32 := pow_le (by omega)
  refine ⟨_, (by exact (pss_cons (ps_set (i := 4) sc_moved.nd rfl (Or.inl rfl) (pe_callB (r := rLenS K) call_len_seq (by rfl) T.z_len PySem.boot_len (pa_cons (pe_lc (own := [("one", 5)]) (g := gName 5) (tt := _) rfl sc_moved.nd (klist K (pe_call (ok_tied_to T) (hr.mono (by decide)) rfl T.g_tied_to T.F_tied_to.kp T.b_tied_to .nil pass0 (pa_cons (pv 0) (pa_cons (pv 2) pa_nil)))) (blkOk_by (own := [("one", 5)]) (N := N_moved) (sc := defScope s_moved) (by decide +kernel)) (fun _ _ _ _ _ => (pg_name (i := 5) sc_moved.nd rfl (by first | exact Or.inl rfl | exact Or.inr rfl))) (fun _ _ _ _ _ => (pts_one (pt_val (pe_call (ok_is_up T) (hr.mono (by decide)) rfl T.g_is_up T.F_is_up.kp T.b_is_up .nil pass0 (pa_cons (pv 1) (pa_cons (pv 5) pa_nil)))))) (fun _ _ _ _ _ => (pv 5))) pa_nil)))
      (pss_cons (ps_set (i := 6) sc_moved.nd rfl (Or.inl rfl) (pe_callTy call_int1 (by rfl) T.z_int (by decide +kernel) (pa_cons (pe_cmpR op_lt (pv 3) (pe_ix (r := rIxL K) ix_list (kfld K (pv 0) rfl) (pv 4) (fun _ _ => rfl)) (nomark _)) pa_nil)))
      (pss_one (ps_ret (pe_op op_add (pv 1) (pe_op op_mul (pe_op op_sub (pv 6) (pe_callTy call_int1 (by rfl) T.z_int (by decide +kernel) (pa_cons (pe_call (ok_is_up T) (hr.mono (by decide)) rfl T.g_is_up T.F_is_up.kp T.b_is_up .nil pass0 (pa_cons (pv 1) (pa_cons (pv 2) pa_nil))) pa_nil))) (pe_ix (r := rIxT K) ix_tup (pe_glob (v := .ref T.q_WORTHS) rfl T.c_WORTHS rfl) (pv 2) (fun _ _ => rfl))))))))), ?_⟩
  walk_at "n"
  refine x_set (R := rNat) (x := countM W.ties p s) e (Ev.toNat (Ev.is (ev_lenL (ev_lcF (R := rNat) (U := rNat) (fun y => upB p y) (fun y => y) (ev_call2 (ev_var rfl r1) (ev_var rfl (rn _ s)) trivial) (Nat.le_trans (Nat.le_of_lt (tied_len hs)) (by omega)) (fun v => rfl) (fun i y v F1 H1 hx g r => ?_) fun i y v F1 H1 hx hp g r => ?_)) ?_)) fun v1 F1 H1 g1 r5 => ?_
  · cases (show v = _ from r)
    have := (tied_mem (mem_of_at hx)).1
    exact et_B (ev_call2 (ev_var rfl (rn _ p)) (ev_var rfl (rn _ y)) (by omega))
  · exact ev_var rfl r
  · rw [List.length_map]; rfl
  cases (show v1 = _ from r5)
  have hc := count_lt (W := W) (p := p) hs
  have hl := W.h6
  have r1' := Mn.mono g1.ff r1
  walk_at "n"
  refine x_set (R := rInt) (x := if standB W p s j then 1 else 0) g1.fh (Ev.is (ev_intB (ev_lt (ev_var rfl (ri _ (j : Int))) (ev_ixL (x := W.levels.getD (countM W.ties p s) 0) (ev_fld (ev_var rfl r1')) (ev_var rfl (ri _ (countM W.ties p s : Int))) (atI_natL (getD_at (by omega)))).nat)) ?_) fun v2 F2 H2 g2 r6 => ?_
  · unfold standB
    rw [show decide ((j : Int) < ((W.levels.getD (countM W.ties p s) 0 : Nat) : Int)) = decide (j < W.levels.getD (countM W.ties p s) 0) from decide_eq_decide.mpr (by omega)]
  cases (show v2 = _ from r6)
  walk_at "n"
  refine x_ret g2.fh (Ev.toNat (Ev.is (ev_add (ev_var rfl (ri _ (p : Int))) (ev_mul (ev_sub (ev_var rfl (ri _ _)) (ev_intB (ev_call2 (ev_var rfl (rn _ p)) (ev_var rfl (rn _ s)) (by omega)))) (ev_ixK T.w_WORTHS (ev_var rfl (ri _ (s : Int))) (worth (by omega))) (.inl ⟨?_, ?_⟩))) moved_int)) fun v3 F3 H3 g3 r7 => k v3 F3 H3 (g1.trans (g2.trans g3)) r7
  · split <;> split <;> decide
  · split <;> split <;> decide
abbrev sp_turns_of (T : Tx K mg) : Sp := Sp1 (rWeb T.C_Web) (fun _ => True) (rTurns T.C_Turns) turnsM
theorem flat_step {W : Wb} {i : Nat} (hi : i < W.spots) : (((List.range W.spots).map fun s => (List.range W.whole).map fun k => (List.range (2 ^ W.spots)).map fun p => movedM W p s k).take (i + 1)).flatten = (((List.range W.spots).map fun s => (List.range W.whole).map fun k => (List.range (2 ^ W.spots)).map fun p => movedM W p s k).take i).flatten ++ (List.range W.whole).map fun k => (List.range (2 ^ W.spots)).map fun p => movedM W p i k := by
  rw [List.take_add_one, List.getElem?_map, List.getElem?_range hi, List.flatten_append]
  show _ ++ List.flatten [_] = _
  rw [List.flatten_cons, List.flatten_nil, List.append_nil]
theorem ok_turns_of (T : Tx K mg) : FnOk P w K mg base CX0 6 T.a_turns_of T.d_turns_of ["web"] (sp_turns_of T) := by
  refine T.F_turns_of.ok sc_turns_of (fun vs H Q E h => SpLen.len h) (fun cdv A outer s H vs Q E hr h => ?_)
  obtain ⟨F, v, W, rfl, e, r, -, k⟩ := h
  have w1 := W.h1
  have w5 := W.h5
  have hpow := pow_le w1
  have ri : ∀ F (i : Int), rInt F (.int i) i := fun F i => rfl
  have rn : ∀ F (i : Nat), rNat F (.int (i : Int)) i := fun F i => rfl
  refine ⟨_, (by exact (pss_cons (ps_set (i := 1) sc_turns_of.nd rfl (Or.inl rfl) (pe_ix (r := rIxT K) ix_tup (pe_glob (v := .ref T.q_WORTHS) rfl T.c_WORTHS rfl) (kfld K (pv 0) rfl) (fun _ _ => rfl)))
      (pss_cons (ps_set (i := 2) sc_turns_of.nd rfl (Or.inl rfl) (pe_lst pa_nil))
      (pss_cons (ps_for PassesOwn.never rfl (pi_range1 rfl T.z_range (pa_cons (kfld K (pv 0) rfl) pa_nil)) (pg_name (i := 3) sc_turns_of.nd rfl (by first | exact Or.inl rfl | exact Or.inr rfl)) (pss_one (ps_for PassesOwn.never rfl (pi_range1 rfl T.z_range (pa_cons (kfld K (pv 0) rfl) pa_nil)) (pg_name (i := 4) sc_turns_of.nd rfl (by first | exact Or.inl rfl | exact Or.inr rfl)) (pss_one (ps_expr (kbm K PySem.F.plainAttrs_list PySem.F.slot_list_append PySem.F.type_list_append mt_append (pv 2) (pa_cons (pe_callTy (r := rTupS K) call_tuple_of (by rfl) T.z_tuple (by decide +kernel) (pa_cons (pe_lc (own := [("place", 5)]) (g := gName 5) (tt := tYes) rfl sc_turns_of.nd (pi_range1 rfl T.z_range (pa_cons (pv 1) pa_nil)) (blkOk_by (own := [("place", 5)]) (N := N_turns_of) (sc := defScope s_turns_of) (by decide +kernel)) (fun _ _ _ _ _ => (pg_name (i := 5) sc_turns_of.nd rfl (by first | exact Or.inl rfl | exact Or.inr rfl))) (fun _ _ _ _ _ => pts_nil) (fun _ _ _ _ _ => (pe_call (ok_moved T) (hr.mono (by decide)) rfl T.g_moved T.F_moved.kp T.b_moved .nil pass0 (pa_cons (pv 0) (pa_cons (pv 5) (pa_cons (pv 3) (pa_cons (pv 4) pa_nil))))))) pa_nil)) pa_nil)))))))
      (pss_one (ps_ret (pe_make T.mk_Turns (ok_Turns_init T) (hr.mono (by decide)) rfl T.g_Turns T.b_Turns_init .nil pass0 (pa_cons (pv 1) (pa_cons (pv 2) pa_nil))))))))), ?_⟩
  walk_at "n"
  refine x_set (R := rInt) (x := ((2 ^ W.spots : Nat) : Int)) e (ev_ixK T.w_WORTHS (ev_fld (ev_var rfl r)).nat (worth (by omega))) fun v1 F1 H1 g1 r1 => ?_
  cases (show v1 = _ from r1)
  walk_at "n"
  refine x_nil g1.fh fun l hl => ?_
  have fl1 : F1 l = none := g1.fh.free hl
  have hl0 : H l = none := Ex.free g1.hx hl
  have G1 : Gr M0 F H F1 (upd H1 l (.lst [])) := g1.trans (.loc g1.fh hl)
  walk_at "n"
  refine x_forR (n := W.spots) G1.fh (ev_fld (ev_var rfl (Mn.mono g1.ff r))).nat (by omega)
    (fun i σ' F' H' => Gr M0 F H F' H' ∧ F' l = none ∧ (∃ vs, H' l = some (.lst vs) ∧ Paired (rTup rNat F') vs (((List.range W.spots).map fun s => (List.range W.whole).map fun k => (List.range (2 ^ W.spots)).map fun p => movedM W p s k).take i).flatten) ∧ ∃ y1 y2 y3, σ' = [some v, some (.int ((2 ^ W.spots : Nat) : Int)), some (.ref l), y1, y2, y3])
    (fun F2 H2 g2 => ⟨G1.trans g2, g2.nn upd_same fl1, ⟨[], g2.hx _ _ upd_same, .nil⟩, _, _, _, rfl⟩) ?_ ?_
  · rintro F2 e2 i σ' F' H' hi e3 e4 ⟨g, fl, ⟨vs, hL, pv⟩, y1, y2, y3, rfl⟩
    have hvl : vs.length ≤ 200 := by
      rw [pv.length, flat_const (c := W.whole) fun m hm => by
        obtain ⟨s, _, rfl⟩ := List.mem_map.mp (List.mem_of_mem_take hm)
        rw [List.length_map, List.length_range], List.length_take, List.length_map, List.length_range]
      exact Nat.mul_le_mul (show min i W.spots ≤ 5 by omega) w5
    walk_at "n"
    refine x_forR (n := W.whole) e4 (ev_fld (ev_var rfl (Mn.mono g.ff r))).nat (by omega)
      (fun j σ' F' H' => Gr M0 F H F' H' ∧ F' l = none ∧ (∃ us, H' l = some (.lst (vs ++ us)) ∧ Paired (rTup rNat F') vs (((List.range W.spots).map fun s => (List.range W.whole).map fun k => (List.range (2 ^ W.spots)).map fun p => movedM W p s k).take i).flatten ∧ Paired (rTup rNat F') us ((List.range j).map fun k => (List.range (2 ^ W.spots)).map fun p => movedM W p i k)) ∧ ∃ y2 y3, σ' = [some v, some (.int ((2 ^ W.spots : Nat) : Int)), some (.ref l), some (.int (i : Int)), y2, y3])
      (fun F5 H5 g5 => ⟨g.trans g5, g5.nn hL fl, ⟨[], by rw [List.append_nil]; exact g5.hx _ _ hL, Paired.up g5.ff pv, .nil⟩, _, _, rfl⟩) ?_ ?_
    · rintro F5 e5 j σ' F6 H6 hj e6 e7 ⟨g6, fl6, ⟨us, hL6, pv6, pu6⟩, y2, y3, rfl⟩
      have hul : us.length ≤ 40 := by rw [pu6.length, List.length_map, List.length_range]; omega
      walk_at "n"
      refine x_app (R := rTup rNat) (x := (List.range (2 ^ W.spots)).map fun p => movedM W p i j) e7 (ev_var rfl (show rRef _ _ l from rfl)) hL6 (ev_tupL (ev_lcRm (n := 2 ^ W.spots) (S := rNat) (fun p => movedM W p i j) (ev_var rfl (ri _ _)) (by omega) (fun v => rfl) fun p F7 H7 hp g7 => ev_call4 (ev_var rfl (Mn.mono (g6.ff.trans g7.ff) r)) (ev_var rfl (rn _ p)) (ev_var rfl (rn _ i)) (ev_var rfl (rn _ j)) hi)) (by rw [List.length_append, sizeLine_eq]; omega) fun v8 F8 H8 g8 r8 h8 => ?_
      have fl8 := g8.nn hL6 fl6
      have G8 := (g6.trans g8).set' (o := .lst (vs ++ us ++ [v8])) fl8 (.inl hl0)
      refine ⟨F8, e6.trans g8.ff, G8.fh, G8, fl8, ⟨us ++ [v8], by rw [upd_same, List.append_assoc], Paired.up g8.ff pv6, ?_⟩, _, _, rfl⟩
      rw [List.range_succ, List.map_append]
      exact (Paired.up g8.ff pu6).snoc r8
    · rintro σ' F6 H6 e5 e6 ⟨g6, fl6, ⟨us, hL6, pv6, pu6⟩, y2, y3, rfl⟩
      walk_at "n"
      refine ⟨F6, e3.trans e5, e6, g6, fl6, ⟨_, hL6, ?_⟩, _, _, _, rfl⟩
      rw [flat_step hi]
      exact Paired.app pv6 pu6
  · rintro σ' F' H' e1 e2 ⟨g, fl, ⟨vs, hL, pv⟩, y1, y2, y3, rfl⟩
    rw [List.take_of_length_le (by rw [List.length_map, List.length_range]; exact Nat.le_refl _)] at pv
    have gf := g.frz hL (Ex.free g.ff fl) (.inl hl0)
    walk_at "n"
    exact x_ret gf.fh (ev_Turns (T := turnsM W) (ev_var rfl (ri _ ((2 ^ W.spots : Nat) : Int))) (ev_var rfl (show rLst (rTup rNat) _ _ (turnsML W) from ⟨l, vs, rfl, upd_same, Paired.up (Ex.new fl) pv⟩))) fun v' F2 H2 g2 r2 => k v' F2 H2 (gf.trans g2) r2
abbrev sp_order_of (T : Tx K mg) : Sp := Sp1 (rWeb T.C_Web) (fun _ => True) (rOrder T.C_Order) (fun W => hsM W.spots)
theorem ok_order_of (T : Tx K mg) : FnOk P w K mg base CX0 6 T.a_order_of T.d_order_of ["web"] (sp_order_of T) := by
  refine T.F_order_of.ok sc_order_of (fun vs H Q E h => SpLen.len h) (fun cdv A outer s H vs Q E hr h => ?_)
  obtain ⟨F, v, W, rfl, e, r, -, k⟩ := h
  have w1 := W.h1
  have hpow := pow_le w1
  have good := good_pairs W.h0 w1
  have ri : ∀ F (i : Int), rInt F (.int i) i := fun F i => rfl
  have rn : ∀ F (i : Nat), rNat F (.int (i : Int)) i := fun F i => rfl
  refine ⟨_, (by exact (pss_cons (ps_set (i := 1) sc_order_of.nd rfl (Or.inl rfl) (pe_ix (r := rIxT K) ix_tup (pe_glob (v := .ref T.q_WORTHS) rfl T.c_WORTHS rfl) (kfld K (pv 0) rfl) (fun _ _ => rfl)))
      (pss_cons (ps_set (i := 2) sc_order_of.nd rfl (Or.inl rfl) (pe_lst pa_nil))
      (pss_cons (ps_for PassesOwn.never rfl (pi_range1 rfl T.z_range (pa_cons (pv 1) pa_nil)) (pg_name (i := 3) sc_order_of.nd rfl (by first | exact Or.inl rfl | exact Or.inr rfl)) (pss_one (ps_expr (kbm K PySem.F.plainAttrs_list PySem.F.slot_list_extend PySem.F.type_list_extend mt_extend (pv 2) (pa_cons (pe_lc (own := [("spot", 4)]) (g := gName 4) (tt := _) rfl sc_order_of.nd (pi_range1 rfl T.z_range (pa_cons (kfld K (pv 0) rfl) pa_nil)) (blkOk_by (own := [("spot", 4)]) (N := N_order_of) (sc := defScope s_order_of) (by decide +kernel)) (fun _ _ _ _ _ => (pg_name (i := 4) sc_order_of.nd rfl (by first | exact Or.inl rfl | exact Or.inr rfl))) (fun _ _ _ _ _ => (pts_one (pt_not (pt_val (pe_call (ok_is_up T) (hr.mono (by decide)) rfl T.g_is_up T.F_is_up.kp T.b_is_up .nil pass0 (pa_cons (pv 3) (pa_cons (pv 4) pa_nil))))))) (fun _ _ _ _ _ => (pe_tup (pa_cons (pv 3) (pa_cons (pe_op op_add (pv 3) (pe_ix (r := rIxT K) ix_tup (pe_glob (v := .ref T.q_WORTHS) rfl T.c_WORTHS rfl) (pv 4) (fun _ _ => rfl))) pa_nil))))) pa_nil)))))
      (pss_one (ps_ret (pe_make T.mk_Order (ok_Order_init T) (hr.mono (by decide)) rfl T.g_Order T.b_Order_init .nil pass0 (pa_cons (pv 1) (pa_cons (pv 2) pa_nil))))))))), ?_⟩
  walk_at "n"
  refine x_set (R := rInt) (x := ((2 ^ W.spots : Nat) : Int)) e (ev_ixK T.w_WORTHS (ev_fld (ev_var rfl r)).nat (worth (by omega))) fun v1 F1 H1 g1 r1 => ?_
  cases (show v1 = _ from r1)
  walk_at "n"
  refine x_nil g1.fh fun l hl => ?_
  have fl1 : F1 l = none := g1.fh.free hl
  have hl0 : H l = none := Ex.free g1.hx hl
  have G1 : Gr M0 F H F1 (upd H1 l (.lst [])) := g1.trans (.loc g1.fh hl)
  walk_at "n"
  refine x_forR (n := 2 ^ W.spots) G1.fh (ev_var rfl (ri _ _)) (by omega)
    (fun i σ' F' H' => Gr M0 F H F' H' ∧ F' l = none ∧ (∃ vs, H' l = some (.lst vs) ∧ Paired (rPr rNat rNat F') vs (((List.range (2 ^ W.spots)).map fun p => ((List.range W.spots).filter fun s => !upB p s).map fun s => (p, p + 2 ^ s)).take i).flatten) ∧ ∃ y1 y2, σ' = [some v, some (.int ((2 ^ W.spots : Nat) : Int)), some (.ref l), y1, y2])
    (fun F2 H2 g2 => ⟨G1.trans g2, g2.nn upd_same fl1, ⟨[], g2.hx _ _ upd_same, .nil⟩, _, _, rfl⟩) ?_ ?_
  · rintro F2 e2 i σ' F' H' hi e3 e4 ⟨g, fl, ⟨vs, hL, pv⟩, y1, y2, rfl⟩
    have hvl : vs.length ≤ 100 := by
      rw [pv.length]
      have h1 : (((List.range (2 ^ W.spots)).map fun p => ((List.range W.spots).filter fun s => !upB p s).map fun s => (p, p + 2 ^ s)).take i).flatten.length ≤ (pairsM W.spots).length := by
        unfold pairsM
        rw [← List.take_append_drop i ((List.range (2 ^ W.spots)).map fun p => ((List.range W.spots).filter fun s => !upB p s).map fun s => (p, p + 2 ^ s)), List.flatten_append, List.length_append, List.take_append_drop]
        exact Nat.le_add_right _ _
      exact Nat.le_trans h1 good.2.2.1
    walk_at "n"
    refine x_ext (R := rPr rNat rNat) (zs := ((List.range W.spots).filter fun s => !upB i s).map fun s => (i, i + 2 ^ s)) e4 (ev_var rfl (show rRef _ _ l from rfl)) hL (ev_lcRF (U := rPr rNat rNat) (fun s => !upB i s) (fun s => (i, i + 2 ^ s)) (ev_fld (ev_var rfl (Mn.mono g.ff r))).nat (by omega) (fun v => rfl) (fun s F5 H5 hs g5 => et_not (et_B (ev_call2 (ev_var rfl (rn _ i)) (ev_var rfl (rn _ s)) (by omega)))) fun s F5 H5 hs hp g5 => ev_pr (R := rNat) (S := rNat) (ev_var rfl (rn _ i)) (Ev.toNat (Ev.is (ev_add (ev_var rfl (ri _ (i : Int))) (ev_ixK T.w_WORTHS (ev_var rfl (ri _ (s : Int))) (worth (by omega)))) (by rw [Int.natCast_add])))) ?_ fun ws F8 H8 g8 p8 h8 => ?_
    · have h1 := List.length_filter_le (fun s => !upB i s) (List.range W.spots)
      rw [List.length_range] at h1
      rw [List.length_map, sizeLine_eq]
      omega
    · have fl8 := g8.nn hL fl
      have G8 := (g.trans g8).set' (o := .lst (vs ++ ws)) fl8 (.inl hl0)
      refine ⟨F8, e3.trans g8.ff, G8.fh, G8, fl8, ⟨_, upd_same, ?_⟩, _, _, rfl⟩
      rw [List.take_add_one, List.getElem?_map, List.getElem?_range hi, List.flatten_append]
      show Paired _ _ (_ ++ List.flatten [_])
      rw [List.flatten_cons, List.flatten_nil, List.append_nil]
      exact Paired.app (Paired.up g8.ff pv) p8
  · rintro σ' F' H' e1 e2 ⟨g, fl, ⟨vs, hL, pv⟩, y1, y2, rfl⟩
    rw [List.take_of_length_le (by rw [List.length_map, List.length_range]; exact Nat.le_refl _)] at pv
    have gf := g.frz hL (Ex.free g.ff fl) (.inl hl0)
    walk_at "n"
    exact x_ret gf.fh (ev_Order (n := 2 ^ W.spots) (ps := pairsM W.spots) (ev_var rfl (ri _ ((2 ^ W.spots : Nat) : Int))) (ev_var rfl ⟨l, vs, rfl, upd_same, Paired.up (Ex.new fl) pv⟩) good) fun v' F2 H2 g2 r2 => k v' F2 H2 (gf.trans g2) r2

abbrev sp_Draw_init (T : Tx K mg) : Sp := SpDraw T.C_Draw T.C_Turns
theorem ok_Draw_init (T : Tx K mg) : FnOk P w K mg base CX0 2 T.a_Draw_init T.d_Draw_init ["self", "turns"] (sp_Draw_init T) := by
  refine T.F_Draw_init.ok sc_Draw_init (fun vs H Q E h => SpLen.len h) (fun cdv A outer s H vs Q E hr h => ?_)
  obtain ⟨F, a, dx, tv, t, rfl, e, fa, ha, rt, k⟩ := h
  refine ⟨_, (by exact (pss_cons (kset K (pv 0) (pv 1) rfl)
      (pss_cons (kset K (pv 0) (pe_call (ok_begin_of T) (hr.mono (by decide)) rfl T.g_begin_of T.F_begin_of.kp T.b_begin_of .nil pass0 (pa_cons (pv 1) pa_nil)) rfl)
      (pss_cons (kset K (pv 0) pe_int rfl)
      (pss_one (kset K (pv 0) (pe_lst pa_nil) rfl)))))), ?_⟩
  walk_at "n"
  have va : ∀ F, rRef F (.ref a) a := fun F => rfl
  refine x_fld e (ev_var rfl rt) (ev_var rfl (va _)) ha T.cl_Draw T.na_Draw_turns (by show 0 < 1000; decide) fun v1 F1 H1 g1 r1 h1 => ?_
  have G1 : Gr (El.M1 a) F H F1 (upd H1 a _) := (g1.up).set' (o := .ins T.C_Draw dx (putF "turns" v1 [])) (g1.nn ha fa) (.inr rfl)
  walk_at "n"
  refine x_fld G1.fh (ev_call1 (ev_var rfl (Mn.mono G1.ff rt)) trivial) (ev_var rfl (va _)) upd_same T.cl_Draw T.na_Draw_found (by show 1 < 1000; decide) fun v2 F2 H2 g2 r2 h2 => ?_
  have f2 : F2 a = none := g2.nn upd_same (g1.nn ha fa)
  have G2 : Gr (El.M1 a) F H F2 (upd H2 a _) := (G1.trans g2.up).set' (o := .ins T.C_Draw dx (putF "found" v2 (putF "turns" v1 []))) f2 (.inr rfl)
  walk_at "n"
  refine x_fld G2.fh ev_int (ev_var rfl (va _)) upd_same T.cl_Draw T.na_Draw_many (by show 2 < 1000; decide) fun v3 F3 H3 g3 r3 h3 => ?_
  have f3 : F3 a = none := g3.nn upd_same f2
  have G3 : Gr (El.M1 a) F H F3 (upd H3 a _) := (G2.trans g3.up).set' (o := .ins T.C_Draw dx (putF "many" v3 (putF "found" v2 (putF "turns" v1 [])))) f3 (.inr rfl)
  cases (show v3 = _ from r3)
  walk_at "n"
  refine ⟨Nat.zero_le _, fun l hl => ⟨.ref a, rfl, a, T.C_Draw, dx, putF "many" (.int 0) (putF "found" v2 (putF "turns" v1 [])), rfl, ?_, T.cl_Draw, T.na_Draw_told, by show 3 < 1000; decide, ?_⟩⟩
  · rw [upd_ne (ne_of_none upd_same hl)]
    exact upd_same
  have hal : a ≠ l := ne_of_none (o := _) upd_same hl
  have hl0 : H l = none := by
    cases q : H l with
    | none => rfl
    | some o => exact absurd hl (G3.dm l (by rw [q]; exact fun z => nomatch z))
  have fl3 : F3 l = none := G3.fh.free hl
  have G4 : Gr (El.M1 a) F H F3 (upd (upd H3 a _) l (.lst [])) := G3.trans (.loc G3.fh hl)
  have G5 := G4.set' (o := .ins T.C_Draw dx (putF "told" (.ref l) (putF "many" (.int 0) (putF "found" v2 (putF "turns" v1 []))))) f3 (.inr rfl)
  refine k l _ _ G5 hl0 ⟨hal, f3, fl3, ⟨dx, v1, v2, upd_same, Mn.mono (g2.ff.trans g3.ff) r1, Mn.mono g3.ff r2⟩, ?_⟩
  rw [upd_ne hal.symm]
  exact upd_same
abbrev sp_Draw_place (T : Tx K mg) : Sp := SpPlace T.C_Draw T.C_Turns
theorem ok_Draw_place (T : Tx K mg) : FnOk P w K mg base CX0 2 T.a_Draw_place T.d_Draw_place ["self"] (sp_Draw_place T) := by
  refine T.F_Draw_place.ok sc_Draw_place (fun vs H Q E h => SpLen.len h) (fun cdv A outer s H vs Q E hr h => ?_)
  obtain ⟨F, a, l, t, m, n, ws, rfl, e, d, hm, k⟩ := h
  have t0 := t.h0
  have t1 := t.h1
  have m1 := hm.1
  refine ⟨_, (by exact (pss_one (ps_ret (pe_ifExp (pt_val (pe_call (ok_has_met T) (hr.mono (by decide)) rfl T.g_has_met T.F_has_met.kp T.b_has_met .nil pass0 (pa_cons (kfld K (pv 0) rfl) pa_nil))) (pe_ix (r := rIxT K) ix_tup (kfld K (pv 0) rfl) pe_int (fun _ _ => rfl)) pe_non)))), ?_⟩
  have va : ∀ F, rRef F (.ref a) a := fun F => rfl
  obtain ⟨dx, tv, fv, h1, h2, h3⟩ := id d.ha
  refine x_ret (R := rOpt rNat) (x := plc m) e ?_ k
  refine ev_if (ev_call1 (ev_fldM (ev_var rfl (va _)) h1 T.cl_Draw T.na_Draw_found rfl h3) (by omega) |> et_B) (fun _ => ?_) (fun _ => ev_noneO)
  exact ev_someO (ev_ixT (ev_fldM (ev_var rfl (va _)) h1 T.cl_Draw T.na_Draw_found rfl h3) ev_int (at0 (by omega)))
abbrev sp_Draw_used (T : Tx K mg) : Sp := SpUsed T.C_Draw T.C_Turns
theorem ok_Draw_used (T : Tx K mg) : FnOk P w K mg base CX0 1 T.a_Draw_used T.d_Draw_used ["self"] (sp_Draw_used T) := by
  refine T.F_Draw_used.ok sc_Draw_used (fun vs H Q E h => SpLen.len h) (fun cdv A outer s H vs Q E hr h => ?_)
  obtain ⟨F, a, l, t, m, n, ws, rfl, e, d, k⟩ := h
  refine ⟨_, (by exact (pss_one (ps_ret (kfld K (pv 0) rfl)))), ?_⟩
  have va : ∀ F, rRef F (.ref a) a := fun F => rfl
  obtain ⟨dx, tv, fv, h1, h2, h3⟩ := id d.ha
  exact x_ret e (ev_fldM (ev_var rfl (va _)) h1 T.cl_Draw T.na_Draw_many rfl (show rNat _ _ n from rfl)) k
abbrev sp_Draw_elder (T : Tx K mg) : Sp := SpElder T.C_Draw T.C_Turns
theorem ok_Draw_elder (T : Tx K mg) : FnOk P w K mg base CX0 4 T.a_Draw_elder T.d_Draw_elder ["self", "sign"] (sp_Draw_elder T) := by
  refine T.F_Draw_elder.ok sc_Draw_elder (fun vs H Q E h => SpLen.len h) (fun cdv A outer s H vs Q E hr h => ?_)
  obtain ⟨F, a, l, t, m, n, ws, s, rfl, e, d, hm, hs, hz, k⟩ := h
  have t0 := t.h0
  have t1 := t.h1
  have m1 := hm.1
  refine ⟨_, (by exact (pss_cons (ps_expr (pe_call (ok_check_signs T) (hr.mono (by decide)) rfl T.g_check_signs T.F_check_signs.kp T.b_check_signs .nil pass0 (pa_cons (kfld K (pv 0) rfl) (pa_cons (pe_lst (pa_cons (pv 1) pa_nil)) pa_nil))))
      (pss_cons (ps_expr (kbm K PySem.F.plainAttrs_list PySem.F.slot_list_append PySem.F.type_list_append mt_append (kfld K (pv 0) rfl) (pa_cons (pv 1) pa_nil)))
      (pss_cons (ps_if (pt_not (pt_val (pe_call (ok_has_met T) (hr.mono (by decide)) rfl T.g_has_met T.F_has_met.kp T.b_has_met .nil pass0 (pa_cons (kfld K (pv 0) rfl) pa_nil)))) (pss_cons (kset K (pv 0) (pe_call (ok_then T) (hr.mono (by decide)) rfl T.g_then T.F_then.kp T.b_then .nil pass0 (pa_cons (pe_ix (r := rIxL K) ix_list (kfld K (kfld K (pv 0) rfl) rfl) (pv 1) (fun _ _ => rfl)) (pa_cons (kfld K (pv 0) rfl) pa_nil))) rfl)
      (pss_one (kaug K (pv 0) pe_int in_add))) pss_nil)
      (pss_one (ps_ret (pe_meth0 (pv 0) T.cl_Draw T.m_Draw_place (ok_Draw_place T) (hr.mono (by decide)) T.b_Draw_place .nil pass0))))))), ?_⟩
  have va : ∀ F, rRef F (.ref a) a := fun F => rfl
  obtain ⟨dx, tv, fv, h1, h2, h3⟩ := id d.ha
  walk_at "n"
  refine x_drop e (ev_call2 (x := t) (y := [s]) (ev_fldM (ev_var rfl (va _)) h1 T.cl_Draw T.na_Draw_turns rfl h2) (ev_lst (R := rNat) (el_cons (ev_var rfl rfl) el_nil) (by show 1 ≤ sizeLine; decide)) ?_) fun F1 H1 g1 => ?_
  · intro x hx
    rw [List.mem_singleton.mp hx]
    exact hs
  have d1 := d.gr g1
  obtain ⟨dx1, tv1, fv1, h11, h12, h13⟩ := id d1.ha
  walk_at "n"
  refine x_app (R := rNat) (x := s) g1.fh (ev_fldM (ev_var rfl (va _)) h11 T.cl_Draw T.na_Draw_told rfl (show rRef _ _ l from rfl)) d1.hl (ev_var rfl rfl) (by rw [sizeLine_eq]; omega) fun v F2 H2 g2 r2 hl2 => ?_
  cases (show v = _ from r2)
  have d2 := d1.gr g2
  have G2 : Gr (fun b => b = a ∨ b = l) F H F2 (upd H2 l (.lst (ws ++ [.int (s : Int)]))) := ((g1.trans g2).up).set' d2.fl (.inr (.inr rfl))
  have D2 : DrAt T.C_Draw T.C_Turns F2 (upd H2 l (.lst (ws ++ [.int (s : Int)]))) a l t m n (ws ++ [.int (s : Int)]) := by
    obtain ⟨dx2, tv2, fv2, h21, h22, h23⟩ := id d2.ha
    exact ⟨d2.ne, d2.fa, d2.fl, ⟨dx2, tv2, fv2, by rw [upd_ne d2.ne]; exact h21, h22, h23⟩, upd_same⟩
  obtain ⟨dx2, tv2, fv2, h21, h22, h23⟩ := id D2.ha
  have fin : ∀ (p : List Nat × Nat) F3 H3 σ, σ = [some (V.ref a), some (V.int (s : Int))] → Gr (fun b => b = a ∨ b = l) F H F3 H3 → DrAt T.C_Draw T.C_Turns F3 H3 a l t p.1 p.2 (ws ++ [.int (s : Int)]) → IsMap t.many p.1 → p = drStep t (m, n) s →
      tRet (tMeth T.C_Draw "place" (sp_Draw_place T) [] E0 (tVar 0) tNil) { nx := fun x H' => Q V.non H', rt := Q } σ H3 := by
    intro p F3 H3 σ hσ g3 d3 hm3 hp
    subst hσ
    subst hp
    exact x_ret g3.fh (ev_place (ev_var rfl (va _)) d3 hm3) fun v F4 H4 g4 r4 => k v F4 H4 (g3.trans g4.up) (d3.gr g4) r4
  walk_at "n"
  refine x_if (b := !metB m) G2.fh (et_not (et_B (ev_call1 (ev_fldM (ev_var rfl (va _)) h21 T.cl_Draw T.na_Draw_found rfl h23) (by omega)))) (fun hb F3 H3 g3 => ?_) (fun hb F3 H3 g3 => ?_)
  · have hb' : metB m = false := by simpa using hb
    have d3 := D2.gr g3
    obtain ⟨dx3, tv3, fv3, h31, h32, h33⟩ := id d3.ha
    have hmap := t.isMap hs
    walk_at "n"
    refine x_fld (R := rTup rNat) (x := thenM (t.maps.getD s []) m) g3.fh (ev_call2 (ev_ixL (ev_fld (ev_fldM (ev_var rfl (va _)) h31 T.cl_Draw T.na_Draw_turns rfl h32)) (ev_var rfl rfl) (atI_natL (getD_at hs))) (ev_fldM (ev_var rfl (va _)) h31 T.cl_Draw T.na_Draw_found rfl h33) ⟨by rw [hmap.1]; omega, fun x hx => by rw [m1]; exact hmap.2 x hx⟩)
      (ev_var rfl (va _)) h31 T.cl_Draw T.na_Draw_found (by show 4 < 1000; decide) fun v F4 H4 g4 r4 h4 => ?_
    have d4 := d3.gr g4
    have G4 := (G2.trans (g3.trans g4).up).set' (o := .ins T.C_Draw dx3 (putF "found" v [("turns", tv3), ("found", fv3), ("many", .int (n : Int)), ("told", .ref l)])) d4.fa (.inr (.inl rfl))
    walk_at "n"
    refine ⟨.ref a, rfl, a, T.C_Draw, dx3, _, .int (n : Int), rfl, upd_same, T.cl_Draw, T.na_Draw_many, rfl, ?_⟩
    refine ⟨n, 1, rfl, rfl, dx3, _, upd_same, by show 4 < 1000; decide, ?_⟩
    have G5 := G4.set' (o := .ins T.C_Draw dx3 (putF "many" (.int ((n : Int) + 1)) (putF "found" v [("turns", tv3), ("found", fv3), ("many", .int (n : Int)), ("told", .ref l)]))) d4.fa (.inr (.inl rfl))
    refine fin (thenM (t.maps.getD s []) m, n + 1) F4 _ _ rfl G5 ⟨d4.ne, d4.fa, d4.fl, ⟨dx3, tv3, v, ?_, Mn.mono g4.ff h32, r4⟩, ?_⟩ (isMap_then hmap hm) ?_
    · rw [upd_same]
      rfl
    · rw [upd_ne d4.ne.symm, upd_ne d4.ne.symm]
      exact d4.hl
    · unfold drStep
      rw [hb']
      rfl
  · have hb' : metB m = true := by simpa using hb
    walk_at "n"
    refine fin (m, n) F3 _ _ rfl (G2.trans g3.up) (D2.gr g3) hm ?_
    unfold drStep
    rw [hb']
    rfl

abbrev sp_drawn (T : Tx K mg) : Sp := Sp2 (rTurns T.C_Turns) (rLst rNat) (fun t w => (∀ s ∈ w, s < t.maps.length) ∧ w.length ≤ 1000000) (rOpt (rPr rNat rNat)) drawnM
theorem ok_drawn (T : Tx K mg) : FnOk P w K mg base CX0 5 T.a_drawn T.d_drawn ["turns", "signs"] (sp_drawn T) := by
  refine T.F_drawn.ok sc_drawn (fun vs H Q E h => SpLen.len h) (fun cdv A outer s H vs Q E hr h => ?_)
  obtain ⟨F, v, w, t, xs, rfl, e, r1, r2, ⟨p, hz⟩, k⟩ := h
  have t0 := t.h0
  refine ⟨_, (by exact (pss_cons (ps_expr (pe_call (ok_check_signs T) (hr.mono (by decide)) rfl T.g_check_signs T.F_check_signs.kp T.b_check_signs .nil pass0 (pa_cons (pv 0) (pa_cons (pv 1) pa_nil))))
      (pss_cons (ps_set (i := 2) sc_drawn.nd rfl (Or.inl rfl) (pe_make T.mk_Draw (ok_Draw_init T) (hr.mono (by decide)) rfl T.g_Draw T.b_Draw_init .nil pass0 (pa_cons (pv 0) pa_nil)))
      (pss_cons (ps_for PassesOwn.never rfl (klist K (pv 1)) (pg_name (i := 3) sc_drawn.nd rfl (by first | exact Or.inl rfl | exact Or.inr rfl)) (pss_one (ps_expr (pe_meth (pv 2) T.cl_Draw T.m_Draw_elder (ok_Draw_elder T) (hr.mono (by decide)) T.b_Draw_elder .nil pass0 (pa_cons (pv 3) pa_nil)))))
      (pss_one (ps_ret (pe_ifExp (pt_cmpR op_isN1 (pe_meth0 (pv 2) T.cl_Draw T.m_Draw_place (ok_Draw_place T) (hr.mono (by decide)) T.b_Draw_place .nil pass0) pe_non (nomark _)) pe_non (pe_tup (pa_cons (pe_meth0 (pv 2) T.cl_Draw T.m_Draw_place (ok_Draw_place T) (hr.mono (by decide)) T.b_Draw_place .nil pass0) (pa_cons (pe_meth0 (pv 2) T.cl_Draw T.m_Draw_used (ok_Draw_used T) (hr.mono (by decide)) T.b_Draw_used .nil pass0) pa_nil)))))))))), ?_⟩
  walk_at "n"
  refine x_drop e (ev_call2 (ev_var rfl r1) (ev_var rfl r2) p) fun F1 H1 g1 => ?_
  walk_at "n"
  refine ⟨v, rfl, fun a dx nx ndx nex => ⟨F1, a, dx, v, t, rfl, Ex.make g1.fh nx ndx, g1.fh.free nx, upd_same, Mn.mono g1.ff r1, fun l F2 H2 g2 hl d2 => ⟨rfl, ?_⟩⟩⟩
  have G2 : Gr M0 F H F2 H2 := g1.trans (.make g1.fh nx ndx nex g2)
  have na : H a = none := Ex.free g1.hx nx
  have nl : H l = none := by
    refine Ex.free g1.hx ?_
    by_cases z1 : l = a
    · rw [z1]; exact nx
    · by_cases z2 : l = dx
      · rw [z2]; exact ndx
      · rw [upd_ne z1, upd_ne z2] at hl; exact hl
  walk_at "n"
  refine x_forL g2.fh (ev_var rfl (Mn.mono G2.ff r2)) (fun i σ' F' H' => Gr M0 F H F' H' ∧ (∃ y, σ' = [some v, some w, some (.ref a), y]) ∧ DrAt T.C_Draw T.C_Turns F' H' a l t (drRun t (xs.take i)).1 (drRun t (xs.take i)).2 ((xs.take i).map fun s : Nat => V.int (s : Int))) (fun F3 H3 g => ⟨G2.trans g, ⟨none, rfl⟩, d2.gr g⟩) ?_ ?_
  · rintro F3 e3 i x u σ' F' H' hx e4 e5 r ⟨g, ⟨y, rfl⟩, d⟩
    cases (show u = _ from r)
    have hs := p x (mem_of_at hx)
    have hm : IsMap t.many (drRun t (xs.take i)).1 := isMap_run fun s h => p s (List.mem_of_mem_take h)
    obtain ⟨dx1, tv, fv, h1, h2, h3⟩ := id d.ha
    refine ⟨.ref a, rfl, a, dx1, _, rfl, h1, rfl, .int (x : Int), rfl, F', a, l, t, _, _, _, x, rfl, e5, d, hm, hs, ?_, fun z F4 H4 g4 d4 r4 => ?_⟩
    · rw [List.length_map, List.length_take]
      omega
    have e6 : xs.take (i + 1) = xs.take i ++ [x] := by rw [List.take_add_one, hx]; rfl
    have e7 : drRun t (xs.take (i + 1)) = drStep t (drRun t (xs.take i)) x := by
      rw [e6]
      unfold drRun
      rw [List.foldl_append]
      rfl
    refine ⟨F4, e4.trans g4.ff, g4.fh, g.seq0 g4 ?_, ⟨_, rfl⟩, ?_⟩
    · rintro b (rfl | rfl)
      · exact na
      · exact nl
    · rw [e7, e6, List.map_append]
      exact d4
  · rintro σ' F' H' e1 e2 ⟨g, ⟨y, rfl⟩, d⟩
    rw [List.take_length] at d
    have hm : IsMap t.many (drRun t xs).1 := isMap_run p
    have va : ∀ F, rRef F (.ref a) a := fun F => rfl
    have ep := fun F3 H3 (g3 : Gr M0 F' H' F3 H3) => ev_place (E := E0) (σ := [some v, some w, some (.ref a), y]) (ta := tVar 2) (ev_var rfl (va F3)) (d.gr g3) hm
    have ep0 := ep F' H' (.refl e2)
    walk_at "n"
    refine x_ret (x := drawnM t xs) e2 ?_ fun v' F6 H6 g6 r6 => k v' F6 H6 (g.trans g6) r6
    refine Ev.is (ev_if (x1 := none) (x2 := drawnM t xs) (et_test (ev_isN ep0)) (fun _ => ev_noneO) (fun hb => ?_)) ?_
    · unfold drawnM
      cases q : plc (drRun t xs).1 with
      | none => rw [q] at hb; cases hb
      | some z =>
        rw [q] at ep0
        exact ev_someO (R := rPr rNat rNat) (ev_pr (R := rNat) (S := rNat) (x := z) (y := (drRun t xs).2) ep0 (ev_used (ev_var rfl (va _)) d))
    · unfold drawnM
      cases q : plc (drRun t xs).1 with
      | none => rfl
      | some z => rfl

abbrev sp__law_well (T : Tx K mg) : Sp := fun vs H Q _ => ∃ F i, vs = [.int i] ∧ Ex F H ∧ ∀ a H', Gr M0 F H F H' → H a = none → F a = none → Src H' a 1099511627776 → Q (.ref a) H'
instance {T : Tx K mg} : SpLen (sp__law_well T) 1 := ⟨fun ⟨_, _, h, _⟩ => by rw [h]; rfl⟩
theorem ok__law_well (T : Tx K mg) : FnOk P w K mg base CX0 1 T.a__law_well T.d__law_well ["_law_cell"] (sp__law_well T) := by
  refine T.F__law_well.ok sc__law_well (fun vs H Q E h => SpLen.len h) (fun cdv A outer s H vs Q E hr h => ?_)
  obtain ⟨F, i, rfl, e, k⟩ := h
  refine ⟨_, (by exact (pss_one (ps_ret (pe_lst (pa_cons (pe_op op_mul (pv 0) (pe_callTy call_int1 (by rfl) T.z_int (by decide +kernel) (pa_cons (pe_cmpR op_ge (pv 0) (pe_op op_pow pe_int pe_int) (nomark _)) pa_nil))) (pa_cons (pe_op op_mod (pv 0) pe_int) (pa_cons pe_int pa_nil))))))), ?_⟩
  have mk : ∀ j : Int, 0 ≤ j → tRet (fun _ H' Q' => (3 : Nat) ≤ sizeLine ∧ ∀ p, H' p = none → Q' (.ref p) (upd H' p (.lst [.int j, .int (i % 2147483647), .int 0]))) { nx := fun x H' => Q V.non H', rt := Q } (L2.start N__law_well [.int i]) H := fun j hj => by
    refine ⟨by decide, fun p hp => k p _ (.loc e hp) hp (e.free hp) ⟨j, i % 2147483647, 0, upd_same, hj, by omega, by omega, by omega, by omega⟩⟩
  by_cases h : (10 : Int) ^ (18 : Int).toNat ≤ i
  · have h0 : (0 : Int) ≤ i * 1 := by
      have : (0 : Int) ≤ (10 : Int) ^ (18 : Int).toNat := by decide
      omega
    have := mk (i * 1) h0
    refine ⟨.int i, rfl, .int i, rfl, 10, 18, rfl, rfl, ⟨by decide, by decide, by decide⟩, i, _, rfl, rfl, .inr ⟨true, by show [V.bl (decide ((10 : Int) ^ (18 : Int).toNat ≤ i))] = _; rw [decide_eq_true h], ?_⟩⟩
    refine ⟨i, 1, rfl, rfl, .inr ⟨by omega, by omega⟩, ?_⟩
    exact ⟨.int i, rfl, i, 2147483647, rfl, rfl, (by show (0 : Int) < 2147483647; decide), this⟩
  · have := mk (i * 0) (by omega)
    refine ⟨.int i, rfl, .int i, rfl, 10, 18, rfl, rfl, ⟨by decide, by decide, by decide⟩, i, _, rfl, rfl, .inr ⟨false, by show [V.bl (decide ((10 : Int) ^ (18 : Int).toNat ≤ i))] = _; rw [decide_eq_false h], ?_⟩⟩
    refine ⟨i, 0, rfl, rfl, .inr ⟨by omega, by omega⟩, ?_⟩
    exact ⟨.int i, rfl, i, 2147483647, rfl, rfl, (by show (0 : Int) < 2147483647; decide), this⟩
abbrev sp__law_draw (T : Tx K mg) : Sp := SpS1 1 rNat (fun m => 0 < m ∧ m ≤ 1000000000) rNat (fun m d => d < m)
theorem nat_of_mod {i : Int} {m : Nat} (h : 0 < m) : ∃ d : Nat, i % (m : Int) = (d : Int) ∧ d < m := ⟨(i % (m : Int)).toNat, by have := Int.emod_nonneg i (show (m : Int) ≠ 0 by omega); omega, by have := Int.emod_lt_of_pos i (show (0 : Int) < m by omega); have := Int.emod_nonneg i (show (m : Int) ≠ 0 by omega); omega⟩
theorem prime_at (k : Int) : ∃ p : Int, atI [2147483647, 2147483629, 2147483587, 2147483579, 2147483563, 2147483549, (2147483543 : Int)] (k % 7) = some p ∧ 0 < p ∧ p < 2147483648 := by
  have h0 := Int.emod_nonneg k (show (7 : Int) ≠ 0 by decide)
  have h1 := Int.emod_lt_of_pos k (show (0 : Int) < 7 by decide)
  obtain ⟨j, hj⟩ : ∃ j : Nat, k % 7 = (j : Int) := ⟨(k % 7).toNat, by omega⟩
  rw [hj]
  have : j < 7 := by omega
  match j, this with
  | 0, _ => exact ⟨_, rfl, by decide, by decide⟩
  | 1, _ => exact ⟨_, rfl, by decide, by decide⟩
  | 2, _ => exact ⟨_, rfl, by decide, by decide⟩
  | 3, _ => exact ⟨_, rfl, by decide, by decide⟩
  | 4, _ => exact ⟨_, rfl, by decide, by decide⟩
  | 5, _ => exact ⟨_, rfl, by decide, by decide⟩
  | 6, _ => exact ⟨_, rfl, by decide, by decide⟩
theorem ok__law_draw (T : Tx K mg) : FnOk P w K mg base CX0 1 T.a__law_draw T.d__law_draw ["_law_well_here", "_law_many"] (sp__law_draw T) := by
  refine T.F__law_draw.ok sc__law_draw (fun vs H Q E h => SpLen.len h) (fun cdv A outer s H vs Q E hr h => ?_)
  obtain ⟨F, a, N, v, m, rfl, e, fa, ⟨n, c, kk, hs, n0, c0, c1, k0, kb⟩, r, ⟨m0, m1⟩, k⟩ := h
  cases (show v = _ from r)
  refine ⟨_, (by exact (pss_cons (ps_if (pt_cmpR op_gt (pe_ix (r := rIxL K) ix_list (pv 0) pe_int (fun _ _ => rfl)) pe_int (nomark _)) (pss_cons (ps_set (i := 2) sc__law_draw.nd rfl (Or.inl rfl) (pe_op op_mod (pe_ix (r := rIxL K) ix_list (pv 0) pe_int (fun _ _ => rfl)) (pv 1)))
      (pss_cons (ps_asg (pe_op op_fdiv (pe_ix (r := rIxL K) ix_list (pv 0) pe_int (fun _ _ => rfl)) (pv 1)) (pg_sub (pv 0) pe_int set_list))
      (pss_one (ps_ret (pv 2))))) pss_nil)
      (pss_cons (ps_asg (pe_op op_add (pe_ix (r := rIxL K) ix_list (pv 0) pe_int (fun _ _ => rfl)) pe_int) (pg_sub (pv 0) pe_int set_list))
      (pss_cons (ps_set (i := 3) sc__law_draw.nd rfl (Or.inl rfl) (pe_ix (r := rIxL K) ix_list (pe_lst (pa_cons pe_int (pa_cons pe_int (pa_cons pe_int (pa_cons pe_int (pa_cons pe_int (pa_cons pe_int (pa_cons pe_int pa_nil)))))))) (pe_op op_mod (pe_ix (r := rIxL K) ix_list (pv 0) pe_int (fun _ _ => rfl)) pe_int) (fun _ _ => rfl)))
      (pss_cons (ps_set (i := 4) sc__law_draw.nd rfl (Or.inl rfl) (pe_op op_mod (pe_op op_pow (pe_op op_add (pe_op op_add (pe_ix (r := rIxL K) ix_list (pv 0) pe_int (fun _ _ => rfl)) (pe_op op_mul pe_int (pe_ix (r := rIxL K) ix_list (pv 0) pe_int (fun _ _ => rfl)))) pe_int) pe_int) (pv 3)))
      (pss_cons (ps_set (i := 4) sc__law_draw.nd rfl (Or.inl rfl) (pe_op op_mod (pe_op op_mul (pe_op op_add (pv 4) (pe_ix (r := rIxL K) ix_list (pv 0) pe_int (fun _ _ => rfl))) (pe_op op_add (pe_op op_fdiv (pv 4) pe_int) pe_int)) (pv 3)))
      (pss_one (ps_ret (pe_op op_mod (pe_op op_fdiv (pv 4) pe_int) (pv 1)))))))))), ?_⟩
  have va : ∀ F, rRef F (.ref a) a := fun F => rfl
  have ri : ∀ F (i : Int), rInt F (.int i) i := fun F i => rfl
  walk_at "n"
  refine x_if e (et_test (ev_gt (ev_ixM (ev_var rfl (va _)) ev_int hs rfl (ri _ n)) ev_int)) (fun hb F1 H1 g1 => ?_) (fun hb F1 H1 g1 => ?_)
  · have hs1 := g1.hx _ _ hs
    have fa1 := g1.nn hs fa
    obtain ⟨d, hd, hdm⟩ := nat_of_mod (i := n) m0
    walk_at "n"
    refine x_set g1.fh (ev_mod (ev_ixM (ev_var rfl (va _)) ev_int hs1 rfl (ri _ n)) (ev_var rfl (ri _ m)) (by omega)) fun v2 F2 H2 g2 r2 => ?_
    cases (show v2 = _ from r2)
    walk_at "n"
    refine x_setI (n := 0) g2.fh (ev_fdiv (ev_ixM (ev_var rfl (va _)) ev_int (g2.hx _ _ hs1) rfl (ri _ n)) (ev_var rfl (ri _ m)) ⟨by omega, by omega⟩) (ev_var rfl (va _)) ev_int (g2.hx _ _ hs1) (by show 0 < 3; decide) fun v3 F3 H3 g3 r3 hl3 => ?_
    cases (show v3 = _ from r3)
    have fa3 := g3.nn (g2.hx _ _ hs1) (g2.nn hs1 fa1)
    have g4 : Gr (El.M1 a) F H F3 _ := ((g1.trans (g2.trans g3)).up).set' (o := .lst [.int (n / (m : Int)), .int c, .int kk]) fa3 (.inr rfl)
    refine x_ret g4.fh (ev_var rfl (ri _ (n % (m : Int)))) fun v5 F5 H5 g5 r5 => ?_
    refine k v5 d F5 H5 (g4.trans g5.up) (g5.nn upd_same fa3) ?_ hdm (by rw [hd] at r5; exact r5)
    exact ⟨n / m, c, kk, g5.hx _ _ upd_same, Int.ediv_nonneg n0 (by omega), c0, c1, k0, by omega⟩
  · have hs1 := g1.hx _ _ hs
    have fa1 := g1.nn hs fa
    walk_at "n"
    refine x_setI (n := 2) g1.fh (ev_add (ev_ixM (ev_var rfl (va _)) ev_int hs1 rfl (ri _ kk)) ev_int) (ev_var rfl (va _)) ev_int hs1 (by show 2 < 3; decide) fun v3 F3 H3 g3 r3 hl3 => ?_
    cases (show v3 = _ from r3)
    have fa3 := g3.nn hs1 fa1
    have g4 : Gr (El.M1 a) F H F3 _ := ((g1.trans g3).up).set' (o := .lst [.int n, .int c, .int (kk + 1)]) fa3 (.inr rfl)
    obtain ⟨p, hp, p0, p1⟩ := prime_at (kk + 1)
    walk_at "n"
    refine x_set (R := rInt) (x := p) g4.fh (ev_ixL (ev_lst (R := rInt) (el_cons ev_int (el_cons ev_int (el_cons ev_int (el_cons ev_int (el_cons ev_int (el_cons ev_int (el_cons ev_int el_nil))))))) (by show 7 ≤ sizeLine; decide)) (ev_mod (ev_ixM (ev_var rfl (va _)) ev_int upd_same rfl (ri _ (kk + 1))) ev_int (by decide)) hp) fun v5 F5 H5 g5 r5 => ?_
    cases (show v5 = _ from r5)
    have hs5 := g5.hx _ _ (upd_same (H := H3) (a := a) (o := .lst [.int n, .int c, .int (kk + 1)]))
    walk_at "n"
    refine x_set g5.fh (ev_mod (ev_pow (ev_add (ev_add (ev_ixM (ev_var rfl (va _)) ev_int hs5 rfl (ri _ c)) (ev_mul ev_int (ev_ixM (ev_var rfl (va _)) ev_int hs5 rfl (ri _ (kk + 1))) (.inl ⟨by decide, by decide⟩))) ev_int) ev_int ⟨by decide, by decide, by omega⟩) (ev_var rfl (ri _ p)) p0) fun v6 F6 H6 g6 r6 => ?_
    generalize hx : (c + 7919 * (kk + 1) + 1) ^ (5 : Int).toNat % p = x at r6
    have x0 : 0 ≤ x := by rw [← hx]; exact Int.emod_nonneg _ (by omega)
    have x1 : x < p := by rw [← hx]; exact Int.emod_lt_of_pos _ p0
    cases (show v6 = _ from r6)
    have hs6 := g6.hx _ _ hs5
    walk_at "n"
    refine x_set g6.fh (ev_mod (ev_mul (ev_add (ev_var rfl (ri _ x)) (ev_ixM (ev_var rfl (va _)) ev_int hs6 rfl (ri _ (kk + 1)))) (ev_add (ev_fdiv (ev_var rfl (ri _ x)) ev_int ⟨by decide, by decide⟩) ev_int) (.inr ⟨by omega, by omega⟩)) (ev_var rfl (ri _ p)) p0) fun v7 F7 H7 g7 r7 => ?_
    generalize hy : (x + (kk + 1)) * (x / 1009 + 69621) % p = y at r7
    cases (show v7 = _ from r7)
    obtain ⟨d, hd, hdm⟩ := nat_of_mod (i := y / 7) m0
    walk_at "n"
    refine x_ret g7.fh (ev_mod (ev_fdiv (ev_var rfl (ri _ y)) ev_int ⟨by decide, by decide⟩) (ev_var rfl (ri _ m)) (by omega)) fun v8 F8 H8 g8 r8 => ?_
    have G := g5.trans (g6.trans (g7.trans g8))
    refine k v8 d F8 H8 (g4.trans G.up) (G.nn upd_same fa3) ?_ hdm (by rw [hd] at r8; exact r8)
    exact ⟨n, c, kk + 1, G.hx _ _ upd_same, n0, c0, c1, by omega, by omega⟩

abbrev sp__law_one (T : Tx K mg) : Sp := SpS1 1 (rLst rNat) (fun xs => 1 ≤ xs.length ∧ xs.length ≤ 100000) rNat (fun xs x => x ∈ xs)
theorem atI_lt {α : Type} {xs : List α} {d : Nat} (h : d < xs.length) : ∃ x, atI xs (d : Int) = some x := ⟨xs[d], atI_natL (List.getElem?_eq_getElem h)⟩
theorem atI_mem {α : Type} {xs : List α} {i : Int} {x : α} (h : atI xs i = some x) : x ∈ xs := by
  unfold atI at h
  cases q : ixN xs.length i with
  | none => rw [q] at h; cases h
  | some j => rw [q] at h; exact List.mem_of_getElem? h
theorem ok__law_one (T : Tx K mg) : FnOk P w K mg base CX0 2 T.a__law_one T.d__law_one ["_law_well_here", "_law_some"] (sp__law_one T) := by
  refine T.F__law_one.ok sc__law_one (fun vs H Q E h => SpLen.len h) (fun cdv A outer s H vs Q E hr h => ?_)
  obtain ⟨F, a, N, v, xs, rfl, e, fa, s, r, ⟨p1, p2⟩, k⟩ := h
  refine ⟨_, (by exact (pss_one (ps_ret (pe_ix (r := rIxL K) ix_list (pv 1) (pe_call (ok__law_draw T) (hr.mono (by decide)) rfl T.g__law_draw T.F__law_draw.kp T.b__law_draw .nil pass0 (pa_cons (pv 0) (pa_cons (pe_callB (r := rLenS K) call_len_seq (by rfl) T.z_len PySem.boot_len (pa_cons (pv 1) pa_nil)) pa_nil))) (fun _ _ => rfl))))), ?_⟩
  refine x_retS (es_ixL (xs := xs) (P2 := fun i => ∃ d : Nat, i = (d : Int) ∧ d < xs.length) (fun F1 H1 g fa1 => ev_var rfl (Mn.mono g.ff r)) (EvS.mono (EvS.nat (es_call1 (P1 := fun n => n = xs.length) rfl (es_pure (R := rNat) (x := xs.length) fun F1 H1 g fa1 => ev_lenL (ev_var rfl (Mn.mono g.ff r))) ?_)) ?_ (Nat.le_refl _)) ?_) e fa s (by omega) fun v' x F' H' g fa' s' p r' => ?_
  · rintro x rfl
    exact ⟨by omega, by omega⟩
  · rintro x ⟨n, rfl, m, rfl, h⟩
    exact ⟨n, rfl, h⟩
  · rintro i ⟨d, rfl, h⟩
    exact atI_lt h
  · obtain ⟨i, _, h⟩ := p
    exact k v' x F' H' g fa' (s'.le (by omega)) (atI_mem h) r'

abbrev sp__law_web (T : Tx K mg) : Sp := SpS0 60 (rPr (rWeb T.C_Web) rBl) (fun p => p.2 = true → p.1.levels.Pairwise (· ≤ ·))
theorem ok__law_web (T : Tx K mg) : FnOk P w K mg base CX0 7 T.a__law_web T.d__law_web ["_law_well_here"] (sp__law_web T) := by
  refine T.F__law_web.ok sc__law_web (fun vs H Q E h => SpLen.len h) (fun cdv A outer s H vs Q E hr h => ?_)
  obtain ⟨F, a, N, rfl, e, fa, s, k⟩ := h
  refine ⟨_, (by exact (pss_cons (ps_set (i := 1) sc__law_web.nd rfl (Or.inl rfl) (pe_op op_add pe_int (pe_call (ok__law_draw T) (hr.mono (by decide)) rfl T.g__law_draw T.F__law_draw.kp T.b__law_draw .nil pass0 (pa_cons (pv 0) (pa_cons (pe_call (ok__law_one T) (hr.mono (by decide)) rfl T.g__law_one T.F__law_one.kp T.b__law_one .nil pass0 (pa_cons (pv 0) (pa_cons (pe_lst (pa_cons pe_int (pa_cons pe_int (pa_cons pe_int pa_nil)))) pa_nil))) pa_nil)))))
      (pss_cons (ps_set (i := 2) sc__law_web.nd rfl (Or.inl rfl) (pe_lst pa_nil))
      (pss_cons (ps_for PassesOwn.never rfl (pi_range1 rfl T.z_range (pa_cons (pv 1) pa_nil)) (pg_name (i := 3) sc__law_web.nd rfl (by first | exact Or.inl rfl | exact Or.inr rfl)) (pss_one (ps_for PassesOwn.never rfl (pi_range2 rfl T.z_range (pa_cons (pe_op op_add (pv 3) pe_int) (pa_cons (pv 1) pa_nil))) (pg_name (i := 4) sc__law_web.nd rfl (by first | exact Or.inl rfl | exact Or.inr rfl)) (pss_one (ps_if (pt_cmpR op_eq (pe_call (ok__law_draw T) (hr.mono (by decide)) rfl T.g__law_draw T.F__law_draw.kp T.b__law_draw .nil pass0 (pa_cons (pv 0) (pa_cons pe_int pa_nil))) pe_int (nomark _)) (pss_one (ps_expr (kbm K PySem.F.plainAttrs_list PySem.F.slot_list_append PySem.F.type_list_append mt_append (pv 2) (pa_cons (pe_tup (pa_cons (pv 3) (pa_cons (pv 4) pa_nil))) pa_nil)))) pss_nil)))))
      (pss_cons (ps_set (i := 5) sc__law_web.nd rfl (Or.inr rfl) (pe_op op_add pe_int (pe_call (ok__law_draw T) (hr.mono (by decide)) rfl T.g__law_draw T.F__law_draw.kp T.b__law_draw .nil pass0 (pa_cons (pv 0) (pa_cons pe_int pa_nil)))))
      (pss_cons (ps_setLc (i := 6) (own := [("_law_spot", 7)]) (g := gName 7) (tt := tYes) rfl sc__law_web.nd rfl rfl (sw_true rfl rfl rfl (by decide +kernel)) (pi_range1 rfl T.z_range (pa_cons (pv 1) pa_nil)) (blkOk_by (own := [("_law_spot", 7)]) (N := N__law_web) (sc := defScope s__law_web) (by decide +kernel)) (fun _ _ _ _ _ => (pg_name (i := 7) sc__law_web.nd rfl (by first | exact Or.inl rfl | exact Or.inr rfl))) (fun _ _ _ _ _ => pts_nil) (fun _ _ _ _ _ => (pe_call (ok__law_draw T) (hr.mono (by decide)) rfl T.g__law_draw T.F__law_draw.kp T.b__law_draw .nil pass0 (pa_cons (pv 0) (pa_cons (pe_op op_add (pv 5) pe_int) pa_nil)))))
      (pss_cons (ps_if (pt_cmpR op_gt (pe_call (ok__law_draw T) (hr.mono (by decide)) rfl T.g__law_draw T.F__law_draw.kp T.b__law_draw .nil pass0 (pa_cons (pv 0) (pa_cons pe_int pa_nil))) pe_int (nomark _)) (pss_one (ps_set (i := 6) sc__law_web.nd rfl (Or.inl rfl) (pe_callB (r := rSorted K) cr_sorted (by rfl) T.z_sorted (by decide +kernel) (pa_cons (pv 6) pa_nil)))) pss_nil)
      (pss_one (ps_ret (pe_tup (pa_cons (pe_make T.mk_Web (ok_Web_init T) (hr.mono (by decide)) rfl T.g_Web T.b_Web_init .nil pass0 (pa_cons (pv 1) (pa_cons (pv 2) (pa_cons (pv 5) (pa_cons (pv 6) pa_nil))))) (pa_cons (pe_cmpR (r := rEqD K) (op_eqD hr.units) (pv 6) (pe_callB (r := rSorted K) cr_sorted (by rfl) T.z_sorted (by decide +kernel) (pa_cons (pv 6) pa_nil)) (nomark _)) pa_nil)))))))))))), ?_⟩
  have ri : ∀ F (i : Int), rInt F (.int i) i := fun F i => rfl
  have rn : ∀ F (i : Nat), rNat F (.int (i : Int)) i := fun F i => rfl
  walk_at "n"
  refine x_setS (c := 2) ((es_add es_int (EvS.nat (es_call1 (P1 := fun m => 3 ≤ m ∧ m ≤ 5) rfl ((es_callP (x := [3, 4, 5]) rfl (fun F H _ _ => ev_lst (R := rNat) (el_cons ev_lit (el_cons ev_lit (el_cons ev_lit el_nil))) (by show 3 ≤ sizeLine; decide)) ⟨by show 1 ≤ 3; omega, by show 3 ≤ 100000; omega⟩).mono (fun x hx => by simp at hx; omega) (Nat.le_refl _)) fun _ h => ⟨by omega, by omega⟩))).mono (P' := fun z => 1 ≤ z ∧ z ≤ 5) (fun z ⟨i, j, hi, ⟨n, hn, x, hx, hnx⟩, hz⟩ => by have hnx : n < x := hnx; omega) (by omega)) e fa s (by omega) fun v1 w1 F1 H1 g1 fa1 s1 p1 r1 => ?_
  obtain ⟨n, rfl⟩ : ∃ n : Nat, w1 = (n : Int) := ⟨w1.toNat, by omega⟩
  cases (show v1 = _ from r1)
  have n0 : 1 ≤ n := by omega
  have n1 : n ≤ 5 := by omega
  walk_at "n"
  refine x_nil g1.fh fun l hl => ?_
  have hne : l ≠ a := fun z => by subst z; exact s1.hn hl
  have hl0 : H l = none := by
    cases q : H l with
    | none => rfl
    | some o => exact absurd hl (g1.dm l (by rw [q]; exact fun z => nomatch z))
  have fl1 : F1 l = none := g1.fh.free hl
  have G1 : Gr (El.M1 a) F H F1 (upd H1 l (.lst [])) := g1.trans (.loc g1.fh hl)
  have s1' := s1.ex (H' := upd H1 l (.lst [])) (upd_ne hne.symm)
  obtain ⟨o1, ho1⟩ := s1'.someO
  have nnl : ∀ {HH : Hp} {o : HO}, HH l = some o → HH l ≠ none := fun h => by rw [h]; exact fun z => nomatch z
  walk_at "n"
  refine x_forR (n := n) G1.fh (ev_var rfl (ri _ (n : Int))) (by omega)
    (fun i σ' F' H' => Gr (El.M1 a) F H F' H' ∧ F' a = none ∧ Src H' a (N + 58 - i * 5) ∧ (F' l = none ∧ ∃ vs ps, H' l = some (.lst vs) ∧ Paired (rPr rNat rNat F') vs ps ∧ ps.length ≤ i * 5 ∧ ps.Nodup ∧ ∀ p ∈ ps, p.1 < i ∧ p.1 < p.2 ∧ p.2 < n) ∧ ∃ y1 y2 y3 y4 y5, σ' = [some (.ref a), some (.int (n : Int)), some (.ref l), y1, y2, y3, y4, y5])
    (fun F2 H2 g2 => ⟨G1.trans g2.up, g2.nn ho1 fa1, (s1'.gr g2).le (by omega), ⟨g2.nn upd_same fl1, [], [], g2.hx _ _ upd_same, .nil, Nat.le_refl _, List.nodup_nil, fun _ h => nomatch h⟩, _, _, _, _, _, rfl⟩) ?_ ?_
  · rintro F2 e2 i σ' F' H' hi e3 e4 ⟨g, fa', s', ⟨fl, vs, ps, hL, pv, hlen, nd, hps⟩, y1, y2, y3, y4, y5, rfl⟩
    obtain ⟨o2, ho2⟩ := s'.someO
    have hi5 : i * 5 ≤ 20 := by omega
    walk_at "n"
    refine x_forR2 (a := i + 1) (b := n) e4 (Ev.is (ev_add (ev_var rfl (ri _ (i : Int))) ev_int) (by omega)) (ev_var rfl (ri _ (n : Int))) (by omega) (by omega)
      (fun j σ' F6 H6 => Gr (El.M1 a) F H F6 H6 ∧ F6 a = none ∧ Src H6 a (N + 58 - i * 5 - j) ∧ (F6 l = none ∧ ∃ us qs, H6 l = some (.lst us) ∧ Paired (rPr rNat rNat F6) us qs ∧ qs.length ≤ i * 5 + j ∧ qs.Nodup ∧ ∀ p ∈ qs, (p.1 < i ∨ (p.1 = i ∧ p.2 < i + 1 + j)) ∧ p.1 < p.2 ∧ p.2 < n) ∧ ∃ y2 y3 y4 y5, σ' = [some (.ref a), some (.int (n : Int)), some (.ref l), some (.int (i : Int)), y2, y3, y4, y5])
      (fun F6 H6 g6 => ⟨g.trans g6.up, g6.nn ho2 fa', (s'.gr g6).le (by omega), ⟨g6.nn hL fl, vs, ps, g6.hx _ _ hL, Paired.up g6.ff pv, by omega, nd, fun p hp => ⟨.inl (hps p hp).1, (hps p hp).2⟩⟩, _, _, _, _, rfl⟩) ?_ ?_
    · rintro F6 e6 j σ' F7 H7 hj e7 e8 ⟨g7, fa7, s7, ⟨fl7, us, qs, hL7, pu, hlq, ndq, hqs⟩, y2, y3, y4, y5, rfl⟩
      walk_at "n"
      refine x_ifS (P := fun _ => True) (c := 1) (fun F8 H8 N8 g8 fa8 s8 Q8 q8 => (ets_test (es_eqI (EvS.nat (es_callP rfl (fun _ _ _ _ => ev_lit (n := 2)) ⟨by omega, by omega⟩)) es_int)) F8 H8 N8 g8 fa8 (s8.le (by omega)) Q8 fun b F9 H9 g9 fa9 s9 _ => q8 b F9 H9 g9 fa9 s9 trivial) e8 fa7 s7 (by omega) (fun _ F8 H8 g8 fa8 s8 => ?_) (fun _ F8 H8 g8 fa8 s8 => ?_)
      · have hL8 := g8.hh _ _ hne hL7
        have fl8 := g8.nw l hne (nnl hL7) fl7
        obtain ⟨o8, ho8⟩ := s8.someO
        walk_at "n"
        refine x_app (R := rPr rNat rNat) (x := (i, i + 1 + j)) g8.fh (ev_var rfl (show rRef _ _ l from rfl)) hL8 (ev_pr (R := rNat) (S := rNat) (ev_var rfl (rn _ i)) (ev_var rfl (rn _ (i + 1 + j)))) (by rw [pu.length, sizeLine_eq]; omega) fun v9 F9 H9 g9 r9 h9 => ?_
        have fl9 := g9.nn hL8 fl8
        have G9 := (g7.trans (g8.trans g9.up)).set' (o := .lst (us ++ [v9])) fl9 (.inl hl0)
        refine ⟨F9, e7.trans (g8.ff.trans g9.ff), G9.fh, G9, g9.nn ho8 fa8, ((s8.gr g9).le (by omega)).ex (upd_ne hne.symm), ⟨fl9, _, qs ++ [(i, i + 1 + j)], upd_same, (Paired.up (g8.ff.trans g9.ff) pu).snoc r9, by rw [List.length_append]; show _ + 1 ≤ _; omega, List.nodup_append.mpr ⟨ndq, by simp, fun x hx y hy => ?_⟩, fun p hp => ?_⟩, _, _, _, _, rfl⟩
        · rw [List.mem_singleton.mp hy]
          intro z
          have := (hqs x hx).1
          rw [z] at this
          rcases this with h | ⟨_, h⟩
          · exact absurd h (Nat.lt_irrefl _)
          · exact absurd h (Nat.lt_irrefl _)
        · rcases List.mem_append.mp hp with h | h
          · have := hqs p h; omega
          · rw [List.mem_singleton.mp h]
            exact ⟨.inr ⟨rfl, by show i + 1 + j < i + 1 + (j + 1); omega⟩, by show i < i + 1 + j; omega, hj⟩
      · walk_at "n"
        exact ⟨F8, e7.trans g8.ff, g8.fh, g7.trans g8, fa8, s8.le (by omega), ⟨g8.nw l hne (nnl hL7) fl7, us, qs, g8.hh _ _ hne hL7, Paired.up g8.ff pu, by omega, ndq, fun p hp => by have := hqs p hp; omega⟩, _, _, _, _, rfl⟩
    · rintro σ' F6 H6 e6 e7 ⟨g7, fa7, s7, ⟨fl7, us, qs, hL7, pu, hlq, ndq, hqs⟩, y2, y3, y4, y5, rfl⟩
      walk_at "n"
      exact ⟨F6, e3.trans e6, e7, g7, fa7, s7.le (by omega), ⟨fl7, us, qs, hL7, pu, by omega, ndq, fun p hp => by have := hqs p hp; omega⟩, _, _, _, _, _, rfl⟩
  · rintro σ' F' H' e1 e2 ⟨g, fa', s', ⟨fl, vs, ps, hL, pv, hlen, nd, hps⟩, y1, y2, y3, y4, y5, rfl⟩
    have hn5 : n * 5 ≤ 25 := by omega
    have gf := g.frz hL (Ex.free g.ff fl) (.inl hl0)
    have faz : upd F' l (.lst vs) a = none := by rw [upd_ne hne.symm]; exact fa'
    have rps : rLst (rPr rNat rNat) (upd F' l (.lst vs)) (.ref l) ps := ⟨l, vs, rfl, upd_same, Paired.up (Ex.new fl) pv⟩
    walk_at "n"
    refine x_setS (es_add es_int (EvS.nat (es_callP rfl (fun _ _ _ _ => ev_lit (n := 6)) ⟨by omega, by omega⟩))) gf.fh faz s' (by omega) fun v5 w5 F5 H5 g5 fa5 s5 p5 r5 => ?_
    obtain ⟨_, _, rfl, ⟨d5, rfl, hd5⟩, rfl⟩ := p5
    obtain ⟨w, hw⟩ : ∃ w : Nat, (1 + (d5 : Int)) = (w : Int) := ⟨1 + d5, by omega⟩
    rw [hw] at r5
    cases (show v5 = _ from r5)
    walk_at "n"
    refine x_setS (R := rLst rNat) (c := 5) ((es_lcRP (n := n) (B := 5) (c2 := 1) (P2 := fun _ x => x < w + 1) (fun F6 H6 _ _ => ev_var rfl (ri _ (n : Int))) n1 (by omega) (fun v => rfl) fun i hi F6 H6 g6 _ => es_callP (x := w + 1) rfl (fun F7 H7 _ _ => Ev.toNat (Ev.is (ev_add (ev_var rfl (ri _ (w : Int))) ev_int) (by omega))) ⟨by omega, by omega⟩).mono (fun _ h => h) (by omega)) g5.fh fa5 s5 (by omega) fun v6 ls F6 H6 g6 fa6 s6 p6 r6 => ?_
    obtain ⟨hll, hlx⟩ := p6
    have hlw : ∀ x ∈ ls, x ≤ w := fun x hx => by
      obtain ⟨i, hi⟩ := List.mem_iff_getElem?.mp hx
      have := hlx i x hi
      omega
    have g56 := g5.trans g6
    have fin : ∀ (ms : List Nat) (v7 : V) F8 H8 N8 z1 z2, ms.length = n → (∀ x ∈ ms, x ≤ w) → rLst rNat F8 v7 ms → Gr (El.M1 a) (upd F' l (.lst vs)) H' F8 H8 → F8 a = none → Src H8 a N8 → N ≤ N8 →
        tRet (tTup (tCons (tMake T.C_Web (sp_Web_init T) [] E0 (tCons (tVar 1) (tCons (tVar 2) (tCons (tVar 5) (tCons (tVar 6) tNil))))) (tCons (tOp (rEqD K) (tVar 6) (tCB (rSorted K) (tCons (tVar 6) tNil))) tNil))) { nx := fun _ H' => Q .non H', rt := Q } [some (.ref a), some (.int (n : Int)), some (.ref l), z1, z2, some (.int (w : Int)), some v7, y5] H8 := fun ms v7 F8 H8 N8 z1 z2 hm hmw r7 g8 fa8 s8 hN => by
      obtain ⟨o8, ho8⟩ := s8.someO
      let W : Wb := ⟨n, ps, w, ms, n0, n1, fun p hp => (hps p hp).2, nd, by omega, by omega, hm, hmw⟩
      refine x_ret (R := rPr (rWeb T.C_Web) rBl) (x := (W, decide (ms = sortN ms))) g8.fh (ev_pr (R := rWeb T.C_Web) (S := rBl) (ev_Web (W := W) (ev_var rfl (ri _ (n : Int))) (ev_var rfl (Mn.mono g8.ff rps)) (ev_var rfl (ri _ (w : Int))) (ev_var rfl r7)) (ev_eqD (ev_var rfl r7) (ev_sortL (ev_var rfl r7) (by omega)))) fun v' F9 H9 g9 r9 => ?_
      refine k v' _ F9 H9 (gf.trans (g8.trans g9.up)) (g9.nn ho8 fa8) ((s8.gr g9).le hN) (fun hd => ?_) r9
      have := of_decide_eq_true hd
      show ms.Pairwise (· ≤ ·)
      rw [this]
      exact sort_sorted ms
    walk_at "n"
    refine x_ifS (P := fun _ => True) (c := 1) (fun F8 H8 N8 g8 fa8 s8 Q8 q8 => (ets_test (es_gtI (EvS.nat (es_callP rfl (fun _ _ _ _ => ev_lit (n := 4)) ⟨by omega, by omega⟩)) es_int)) F8 H8 N8 g8 fa8 (s8.le (by omega)) Q8 fun b F9 H9 g9 fa9 s9 _ => q8 b F9 H9 g9 fa9 s9 trivial) g6.fh fa6 s6 (by omega) (fun _ F8 H8 g8 fa8 s8 => ?_) (fun _ F8 H8 g8 fa8 s8 => ?_)
    · obtain ⟨o8, ho8⟩ := s8.someO
      walk_at "n"
      refine x_set (R := rLst rNat) (x := sortN ls) g8.fh (ev_sortL (ev_var rfl (Mn.mono g8.ff r6)) (by omega)) fun v9 F9 H9 g9 r9 => ?_
      walk_at "n"
      exact fin (sortN ls) v9 F9 H9 _ _ _ (by rw [sort_len]; exact hll) (fun x hx => hlw x (sort_mem.mp hx)) r9 (g56.trans (g8.trans g9.up)) (g9.nn ho8 fa8) (s8.gr g9) (by omega)
    · walk_at "n"
      exact fin ls v6 F8 H8 _ _ _ hll hlw (Mn.mono g8.ff r6) (g56.trans g8) fa8 s8 (by omega)

abbrev sp__law_right (T : Tx K mg) : Sp := Sp4 (rTurns T.C_Turns) (rOrder T.C_Order) (rLst rNat) rBl (fun t hs xs b => GoodK t hs ∧ (∃ lo hi, leastM hs = some lo ∧ greatestM hs = some hi ∧ OrdOk t.many hs lo hi) ∧ (∀ x, x < t.many → x ∉ hs.getD x []) ∧ (∀ s ∈ xs, s < t.maps.length) ∧ xs.length ≤ 100000 ∧ (b = true → notKeptM t hs = none)) rBl (fun _ _ _ _ => true)
theorem ev_told {CT CO : Addr} {σ : St} {F H : Hp} {ta tb tc : TE} {E : XK} {t : Tn} {hs : List (List Nat)} {xs : List Nat} {lo hi : Nat} (ha : Ev (rTurns CT) ta σ F H t) (hb : Ev (rOrder CO) tb σ F H hs) (hc : Ev (rLst rNat) tc σ F H xs)
    (hk : GoodK t hs) (hlo : leastM hs = some lo) (hhi : greatestM hs = some hi) (l1 : lo < t.many) (l2 : hi < t.many) (hsg : ∀ s ∈ xs, s < t.maps.length) (hz : xs.length ≤ 1000000) :
    Ev rTold (tCall (SpTold CT CO) [] E (tCons ta (tCons tb (tCons tc tNil)))) σ F H (toldM t hs lo hi xs) := fun F1 H1 g1 Q q =>
  ha F1 H1 g1 _ fun v F2 H2 g2 r => hb F2 H2 (g1.trans g2) _ fun w F3 H3 g3 r3 => hc F3 H3 ((g1.trans g2).trans g3) _ fun w' F4 H4 g4 r4 =>
    ⟨F4, v, w, w', t, hs, xs, lo, hi, rfl, g4.fh, Mn.mono (g3.ff.trans g4.ff) r, Mn.mono g4.ff r3, r4, hk, hlo, hhi, l1, l2, hsg, hz, fun r F' H' g rr => q r F' H' (g2.trans (g3.trans (g4.trans g))) rr⟩
theorem ok__law_right (T : Tx K mg) : FnOk P w K mg base CX0 6 T.a__law_right T.d__law_right ["_law_turns", "_law_order", "_law_signs", "_law_rises"] (sp__law_right T) := by
  refine T.F__law_right.ok sc__law_right (fun vs H Q E h => SpLen.len h) (fun cdv A outer s H vs Q E hr h => ?_)
  obtain ⟨F, v, w, u, u', t, hs, xs, b, rfl, e, r1, r2, r3, r4, ⟨hk, ⟨lo, hi, hlo, hhi, ho⟩, hirr, hsg, hz, hb⟩, k⟩ := h
  cases (show u' = _ from r4)
  have ri : ∀ F (i : Int), rInt F (.int i) i := fun F i => rfl
  have rn : ∀ F (i : Nat), rNat F (.int (i : Int)) i := fun F i => rfl
  have rb : ∀ F (i : Bool), rBl F (.bl i) i := fun F i => rfl
  have h1 := hk.1
  refine ⟨_, (by exact (pss_cons (ps_set (i := 4) sc__law_right.nd rfl (Or.inl rfl) (pe_call (ok_not_kept T) (hr.mono (by decide)) rfl T.g_not_kept T.F_not_kept.kp T.b_not_kept .nil pass0 (pa_cons (pv 0) (pa_cons (pv 1) pa_nil))))
      (pss_cons (ps_if (PW.pt (pw_and (pt_val (pv 3)) (pw_and1 (pt_cmpR op_notN1 (pv 4) pe_non (nomark _))))) (pss_one (ps_ret pe_bl)) pss_nil)
      (pss_cons (ps_if (pt_cmpR op_isN1 (pv 4) pe_non (nomark _)) (pss_cons (ps_if (pt_cmpR (r := rNeD K) (op_neD hr.units) (pe_call (ok__law_told T) (hr.mono (by decide)) rfl T.g__law_told T.F__law_told.kp T.b__law_told .nil pass0 (pa_cons (pv 0) (pa_cons (pv 1) (pa_cons (pv 2) pa_nil)))) (pe_tup (pa_cons pe_str (pa_cons (pe_call (ok_drawn T) (hr.mono (by decide)) rfl T.g_drawn T.F_drawn.kp T.b_drawn .nil pass0 (pa_cons (pv 0) (pa_cons (pv 2) pa_nil))) pa_nil))) (nomark _)) (pss_one (ps_ret pe_bl)) pss_nil)
      (pss_one (ps_ret (pe_cmpR (r := rEqD K) (op_eqD hr.units) (pe_call (ok__law_told T) (hr.mono (by decide)) rfl T.g__law_told T.F__law_told.kp T.b__law_told .nil pass0 (pa_cons (pv 0) (pa_cons (pv 1) (pa_cons (pe_op op_cat (pv 2) (pe_slice (r := rSlL K) sl_list (pv 2) po_none (po_some pe_int))) pa_nil)))) (pe_tup (pa_cons pe_str (pa_cons (pe_call (ok_drawn T) (hr.mono (by decide)) rfl T.g_drawn T.F_drawn.kp T.b_drawn .nil pass0 (pa_cons (pv 0) (pa_cons (pe_op op_cat (pv 2) (pe_slice (r := rSlL K) sl_list (pv 2) po_none (po_some pe_int))) pa_nil))) pa_nil))) (nomark _))))) pss_nil)
      (pss_cons (ps_asg (pv 4) (kptup K (n := 3) rfl (pgs_cons (pg_name (i := 5) sc__law_right.nd rfl (by first | exact Or.inl rfl | exact Or.inr rfl)) (pgs_cons (pg_name (i := 6) sc__law_right.nd rfl (by first | exact Or.inl rfl | exact Or.inr rfl)) (pgs_cons (pg_name (i := 7) sc__law_right.nd rfl (by first | exact Or.inl rfl | exact Or.inr rfl)) pgs_nil)))))
      (pss_cons (ps_set (i := 8) sc__law_right.nd rfl (Or.inl rfl) (pe_ix (r := rIxL K) ix_list (kfld K (pv 0) rfl) (pv 5) (fun _ _ => rfl)))
      (pss_cons (ps_if (PW.pt (pw_or (pt_cmpR op_eq (pv 6) (pv 7) (nomark _)) (pw_or (pt_not (pt_val (pe_meth (pv 1) T.cl_Order T.m_Order_at_most (ok_Order_at_most T) (hr.mono (by decide)) T.b_Order_at_most .nil pass0 (pa_cons (pv 6) (pa_cons (pv 7) pa_nil))))) (pw_or1 (pt_val (pe_meth (pv 1) T.cl_Order T.m_Order_at_most (ok_Order_at_most T) (hr.mono (by decide)) T.b_Order_at_most .nil pass0 (pa_cons (pe_ix (r := rIxT K) ix_tup (pv 8) (pv 6) (fun _ _ => rfl)) (pa_cons (pe_ix (r := rIxT K) ix_tup (pv 8) (pv 7) (fun _ _ => rfl)) pa_nil)))))))) (pss_one (ps_ret pe_bl)) pss_nil)
      (pss_one (ps_ret (pe_cmpR (r := rEqD K) (op_eqD hr.units) (pe_call (ok__law_told T) (hr.mono (by decide)) rfl T.g__law_told T.F__law_told.kp T.b__law_told .nil pass0 (pa_cons (pv 0) (pa_cons (pv 1) (pa_cons (pv 2) pa_nil)))) (pe_tup (pa_cons pe_str (pa_cons (pv 4) pa_nil))) (nomark _))))))))))), ?_⟩
  walk_at "n"
  refine x_set (R := rOpt rTri) (x := notKeptM t hs) e (ev_call2 (ev_var rfl r1) (ev_var rfl r2) hk) fun v4 F1 H1 g1 r5 => ?_
  walk_at "n"
  refine x_if (b := false) g1.fh (EvT.is (et_and (et_B (ev_var rfl (rb _ b))) fun _ => et_test (ev_notN (ev_var rfl r5))) ?_) (fun z => nomatch z) fun _ F2 H2 g2 => ?_
  · cases b with
    | false => rfl
    | true => rw [hb rfl]; rfl
  have g12 := g1.trans g2
  have r52 := Mn.mono g2.ff r5
  walk_at "n"
  refine x_if (b := (notKeptM t hs).isNone) g2.fh (et_test (ev_isN (ev_var rfl r52))) (fun hn F3 H3 g3 => ?_) (fun hn F3 H3 g3 => ?_)
  · have hnone : notKeptM t hs = none := Option.isNone_iff_eq_none.mp hn
    have g13 := g12.trans g3
    have et : ∀ ys : List Nat, (∀ s ∈ ys, s < t.maps.length) → toldM t hs lo hi ys = .inl (drawnM t ys) := fun ys hy => by
      unfold toldM
      rw [hnone, ← between_eq ho hnone hy]
    walk_at "n"
    refine x_if (b := false) g3.fh (EvT.is (et_test (ev_neD (R := rTold) (ev_told (ev_var rfl (Mn.mono g13.ff r1)) (ev_var rfl (Mn.mono g13.ff r2)) (ev_var rfl (Mn.mono g13.ff r3)) hk hlo hhi ho.lo_lt ho.hi_lt hsg (by omega)) (ev_told1 (ev_call2 (ev_var rfl (Mn.mono g13.ff r1)) (ev_var rfl (Mn.mono g13.ff r3)) ⟨hsg, by omega⟩)))) ?_) (fun z => nomatch z) fun _ F4 H4 g4 => ?_
    · rw [et xs hsg, decide_eq_true rfl]; rfl
    have g14 := g13.trans g4
    have hsg2 : ∀ s ∈ xs ++ xs.take 10, s < t.maps.length := fun s h => (List.mem_append.mp h).elim (hsg s) fun h => hsg s (List.mem_of_mem_take h)
    have hl2 : (xs ++ xs.take 10).length ≤ 1000000 := by
      rw [List.length_append, List.length_take]
      omega
    have ec : ∀ F5 H5, Gr M0 F4 H4 F5 H5 → Ev (rLst rNat) (tOp rCat (tVar 2) (tSl (rSlL K) (tVar 2) tNoPart (tPart (tC (.int 10))))) [some v, some w, some u, some (.bl b), some v4, none, none, none, none] F5 H5 (xs ++ xs.take 10) := fun F5 H5 g5 =>
      ev_cat (ev_var rfl (Mn.mono (g14.ff.trans g5.ff) r3)) (Ev.is (ev_slL (lo := none) (hi := some ((10 : Nat) : Int)) (ev_var rfl (Mn.mono (g14.ff.trans g5.ff) r3)) eo_none (eo_some ev_int)) cut_to) (by rw [List.length_take, sizeLine_eq]; omega)
    walk_at "n"
    refine x_ret (R := rBl) (x := true) g4.fh (Ev.is (ev_eqD (R := rTold) (ev_told (ev_var rfl (Mn.mono g14.ff r1)) (ev_var rfl (Mn.mono g14.ff r2)) (ec F4 H4 (.refl g4.fh)) hk hlo hhi ho.lo_lt ho.hi_lt hsg2 hl2) (ev_told1 (ev_call2 (ev_var rfl (Mn.mono g14.ff r1)) (ec F4 H4 (.refl g4.fh)) ⟨hsg2, hl2⟩))) ?_) fun v' F5 H5 g5 r5 => k v' F5 H5 (g14.trans g5) r5
    rw [et _ hsg2, decide_eq_true rfl]
  · obtain ⟨⟨s, x, y⟩, hp⟩ : ∃ p, notKeptM t hs = some p := by
      cases q : notKeptM t hs with
      | none => rw [q] at hn; cases hn
      | some p => exact ⟨p, rfl⟩
    obtain ⟨hs1, hx, hy, hbad⟩ := not_some hp
    have hyn := hk.2.1 x hx y hy
    have hm := t.isMap hs1
    have hne : x ≠ y := fun z => hirr x hx (by rw [z] at hy ⊢; exact hy)
    have g13 := g12.trans g3
    have r53 : rTri F3 v4 (s, x, y) := by
      have := Mn.mono g3.ff r52
      rw [hp] at this
      exact this
    walk_at "n"
    refine x_tri (R := rNat) (S := rNat) (T := rNat) g3.fh (ev_var rfl r53) fun v5 v6 v7 F4 H4 g4 q1 q2 q3 => ?_
    cases (show v5 = V.int (s : Int) from q1)
    cases (show v6 = V.int (x : Int) from q2)
    cases (show v7 = V.int (y : Int) from q3)
    have g14 := g13.trans g4
    walk_at "n"
    refine x_set (R := rTup rNat) (x := t.maps.getD s []) g4.fh (ev_ixL (ev_fld (ev_var rfl (Mn.mono g14.ff r1))) (ev_var rfl (ri _ (s : Int))) (atI_natL (getD_at hs1))) fun v8 F5 H5 g5 r8 => ?_
    have g15 := g14.trans g5
    have hax : (t.maps.getD s [])[x]? = some ((t.maps.getD s []).getD x 0) := getD_at (by rw [hm.1]; exact hx)
    have hay : (t.maps.getD s [])[y]? = some ((t.maps.getD s []).getD y 0) := getD_at (by rw [hm.1]; exact hyn)
    have hmx : (t.maps.getD s []).getD x 0 < hs.length := by rw [h1]; exact hm.2 _ (List.mem_of_getElem? hax)
    walk_at "n"
    refine x_if (b := false) g5.fh (EvT.is (et_or (et_test (ev_eqI (ev_var rfl (ri _ (x : Int))) (ev_var rfl (ri _ (y : Int))))) fun _ => et_or (et_not (et_B (ev_meth2 (x := hs) (ev_var rfl (Mn.mono g15.ff r2)) (ev_var rfl (rn _ x)) (ev_var rfl (rn _ y)) (by rw [h1]; exact hx)))) fun _ => et_B (ev_meth2 (x := hs) (y := (t.maps.getD s []).getD x 0) (z := (t.maps.getD s []).getD y 0) (ev_var rfl (Mn.mono g15.ff r2)) (ev_ixT (ev_var rfl r8) (ev_var rfl (ri _ (x : Int))) (atI_natL hax)) (ev_ixT (ev_var rfl r8) (ev_var rfl (ri _ (y : Int))) (atI_natL hay)) hmx)) ?_) (fun z => nomatch z) fun _ F6 H6 g6 => ?_
    · rw [decide_eq_false (show ¬ (x : Int) = (y : Int) by omega), hbad, show atMostM hs x y = true by unfold atMostM; rw [decide_eq_true hy, Bool.or_true]]
      rfl
    have g16 := g15.trans g6
    have gk := g4.ff.trans (g5.ff.trans g6.ff)
    walk_at "n"
    refine x_ret (R := rBl) (x := true) g6.fh (Ev.is (ev_eqD (R := rTold) (ev_told (ev_var rfl (Mn.mono g16.ff r1)) (ev_var rfl (Mn.mono g16.ff r2)) (ev_var rfl (Mn.mono g16.ff r3)) hk hlo hhi ho.lo_lt ho.hi_lt hsg (by omega)) (ev_told2 (ev_var rfl (Mn.mono gk r53)))) ?_) fun v' F7 H7 g7 r7 => k v' F7 H7 (g16.trans g7) r7
    unfold toldM
    rw [hp, decide_eq_true rfl]
def spLaw (K : PySem.W.Frag) : Sp := fun vs H Q _ => ∃ (a : Addr) (ns : List Int), vs = [.ref a] ∧ SqL K H a (ns.map V.int) ∧ ns.length ≤ 63 ∧ ∀ H', Q (.bl true) H'
abbrev sp_law (T : Tx K mg) : Sp := spLaw K
instance : SpLen (spLaw K) 1 := ⟨fun ⟨_, _, h, _⟩ => by rw [h]; rfl⟩
theorem ok_law (T : Tx K mg) : FnOk P w K mg base CX0 8 T.a_law T.d_law ["_law_script"] (sp_law T) := by
  refine T.F_law.ok sc_law (fun vs H Q E h => SpLen.len h) (fun cdv A outer s H vs Q E hr h => ?_)
  obtain ⟨sa, ns, rfl, hS, hlen, k⟩ := h
  refine ⟨_, (by exact (pss_cons (ps_for PassesOwn.never rfl (klist K (pe_op op_cat (pe_slice (r := rSlL K) sl_list (pv 0) po_none (po_some pe_int)) (pe_lst (pa_cons pe_int pa_nil)))) (pg_name (i := 1) sc_law.nd rfl (by first | exact Or.inl rfl | exact Or.inr rfl)) (pss_cons (ps_set (i := 2) sc_law.nd rfl (Or.inr rfl) (pe_call (ok__law_well T) (hr.mono (by decide)) rfl T.g__law_well T.F__law_well.kp T.b__law_well .nil pass0 (pa_cons (pv 1) pa_nil)))
      (pss_cons (ps_asg (pe_call (ok__law_web T) (hr.mono (by decide)) rfl T.g__law_web T.F__law_web.kp T.b__law_web .nil pass0 (pa_cons (pv 2) pa_nil)) (kptup K (n := 2) rfl (pgs_cons (pg_name (i := 3) sc_law.nd rfl (by first | exact Or.inl rfl | exact Or.inr rfl)) (pgs_cons (pg_name (i := 4) sc_law.nd rfl (by first | exact Or.inl rfl | exact Or.inr rfl)) pgs_nil))))
      (pss_cons (ps_set (i := 5) sc_law.nd rfl (Or.inr rfl) (pe_call (ok_turns_of T) (hr.mono (by decide)) rfl T.g_turns_of T.F_turns_of.kp T.b_turns_of .nil pass0 (pa_cons (pv 3) pa_nil)))
      (pss_cons (ps_set (i := 6) sc_law.nd rfl (Or.inl rfl) (pe_call (ok_order_of T) (hr.mono (by decide)) rfl T.g_order_of T.F_order_of.kp T.b_order_of .nil pass0 (pa_cons (pv 3) pa_nil)))
      (pss_cons (ps_if (PW.pt (pw_or (pt_cmpR (r := rNeD K) (op_neD hr.units) (pe_tup (pa_cons (pe_meth0 (pv 6) T.cl_Order T.m_Order_least (ok_Order_least T) (hr.mono (by decide)) T.b_Order_least .nil pass0) (pa_cons (pe_meth0 (pv 6) T.cl_Order T.m_Order_greatest (ok_Order_greatest T) (hr.mono (by decide)) T.b_Order_greatest .nil pass0) pa_nil))) (pe_tup (pa_cons pe_int (pa_cons (pe_op op_sub (kfld K (pv 5) rfl) pe_int) pa_nil))) (nomark _)) (pw_or1 (pt_cmpR op_ne (pe_callB (call_lenOwn (ok_Order_len T) (hr.mono (by decide)) T.m_Order_len.at_ T.m_Order_len.fn T.b_Order_len pass0) (by rfl) T.z_len PySem.boot_len (pa_cons (pv 6) pa_nil)) (kfld K (pv 5) rfl) (nomark _))))) (pss_one (ps_ret pe_bl)) pss_nil)
      (pss_cons (ps_setLc (i := 7) (own := [("_law_k", 8)]) (g := gName 8) (tt := tYes) rfl sc_law.nd rfl rfl (sw_true rfl rfl rfl (by decide +kernel)) (pi_range1 rfl T.z_range (pa_cons (pe_call (ok__law_draw T) (hr.mono (by decide)) rfl T.g__law_draw T.F__law_draw.kp T.b__law_draw .nil pass0 (pa_cons (pv 2) (pa_cons pe_int pa_nil))) pa_nil)) (blkOk_by (own := [("_law_k", 8)]) (N := N_law) (sc := defScope s_law) (by decide +kernel)) (fun _ _ _ _ _ => (pg_name (i := 8) sc_law.nd rfl (by first | exact Or.inl rfl | exact Or.inr rfl))) (fun _ _ _ _ _ => pts_nil) (fun _ _ _ _ _ => (pe_call (ok__law_draw T) (hr.mono (by decide)) rfl T.g__law_draw T.F__law_draw.kp T.b__law_draw .nil pass0 (pa_cons (pv 2) (pa_cons (pe_callB (call_lenOwn (ok_Turns_len T) (hr.mono (by decide)) T.m_Turns_len.at_ T.m_Turns_len.fn T.b_Turns_len pass0) (by rfl) T.z_len PySem.boot_len (pa_cons (pv 5) pa_nil)) pa_nil)))))
      (pss_one (ps_if (pt_not (pt_val (pe_call (ok__law_right T) (hr.mono (by decide)) rfl T.g__law_right T.F__law_right.kp T.b__law_right .nil pass0 (pa_cons (pv 5) (pa_cons (pv 6) (pa_cons (pv 7) (pa_cons (pv 4) pa_nil))))))) (pss_one (ps_ret pe_bl)) pss_nil)))))))))
      (pss_one (ps_ret pe_bl)))), ?_⟩
  have e : Ex (fun _ => none) H := fun a o h => nomatch h
  have ri : ∀ F (i : Int), rInt F (.int i) i := fun F i => rfl
  have rn : ∀ F (i : Nat), rNat F (.int (i : Int)) i := fun F i => rfl
  have rb : ∀ F (i : Bool), rBl F (.bl i) i := fun F i => rfl
  walk_at "n"
  refine x_forL (F := fun _ => none) (xs := ns.take 3 ++ [0]) e (ev_cat (ev_script (n := 3) (ev_var rfl rfl) hS) (ev_lst (el_cons ev_int el_nil) (by show 1 ≤ sizeLine; decide)) ?_)
    (fun i σ' F' H' => ∃ y1 y2 y3 y4 y5 y6 y7 y8, σ' = [some (.ref sa), y1, y2, y3, y4, y5, y6, y7, y8]) (fun F1 H1 g => ⟨_, _, _, _, _, _, _, _, rfl⟩) ?_ ?_
  · rw [List.length_take, sizeLine_eq]
    show min 3 ns.length + 1 ≤ _
    omega
  · rintro F1 e1 i c u σ' F' H' hx e2 e3 r ⟨y1, y2, y3, y4, y5, y6, y7, y8, rfl⟩
    cases (show u = _ from r)
    walk_at "n"
    refine ⟨.int c, rfl, F', c, rfl, e3, fun b H2 g2 hb fb s2 => ?_⟩
    have fb2 : F' b = none := fb
    walk_at "n"
    refine x_pairS (es_call0 rfl) g2.fh fb2 s2 (by omega) fun v1 v2 p F3 H3 g3 fb3 s3 hp q1 q2 => ?_
    obtain ⟨W, rise⟩ := p
    have hp : rise = true → W.levels.Pairwise (· ≤ ·) := hp
    have q1 : rWeb T.C_Web F3 v1 W := q1
    have q2 : rBl F3 v2 rise := q2
    cases (show v2 = _ from q2)
    have w0 := W.h0
    have w1 := W.h1
    have w4 := W.h4
    have w5 := W.h5
    have hpow := pow_le w1
    have htl : (turnsM W).maps.length = W.spots * W.whole := turns_len
    have htl2 : W.spots * W.whole ≤ 200 := Nat.le_trans (Nat.mul_le_mul w1 w5) (by omega)
    have htl1 : 1 ≤ W.spots * W.whole := Nat.mul_pos w0 w4
    have hpos := Nat.two_pow_pos W.spots
    walk_at "n"
    refine x_set (R := rTurns T.C_Turns) (x := turnsM W) g3.fh (ev_call1 (ev_var rfl q1) trivial) fun v3 F4 H4 g4 q3 => ?_
    walk_at "n"
    refine x_set (R := rOrder T.C_Order) (x := hsM W.spots) g4.fh (ev_call1 (ev_var rfl (Mn.mono g4.ff q1)) trivial) fun v4 F5 H5 g5 q4 => ?_
    have q3 := Mn.mono g5.ff q3
    have hl := hs_least w0 w1
    have hg := hs_greatest w0 w1
    have hh : (hsM W.spots).length = 2 ^ W.spots := above_len
    have gk := goodK_hs (t := turnsM W) w0 w1 rfl
    walk_at "n"
    refine x_if (b := false) g5.fh (EvT.is (et_or (et_test (ev_neD (R := rPr (rOpt rNat) (rOpt rNat)) (x := (some 0, some (2 ^ W.spots - 1))) (y := (some 0, some (2 ^ W.spots - 1))) (ev_pr (R := rOpt rNat) (S := rOpt rNat) (Ev.is (ev_meth0 (x := hsM W.spots) (ev_var rfl q4) (by omega)) hl) (Ev.is (ev_meth0 (x := hsM W.spots) (ev_var rfl q4) (by omega)) hg)) (ev_pr (R := rOpt rNat) (S := rOpt rNat) (ev_someO (R := rNat) ev_lit) (ev_someO (R := rNat) (Ev.toNat (Ev.is (ev_sub (ev_fld (ev_var rfl q3)).nat ev_int) (show ((2 ^ W.spots : Nat) : Int) - 1 = ((2 ^ W.spots - 1 : Nat) : Int) by omega))))))) fun _ => et_test (ev_neI (ev_lenOwn (ev_var rfl q4) (by rw [hh]; omega)) (ev_fld (ev_var rfl q3)).nat)) ?_) (fun z => nomatch z) fun _ F6 H6 g6 => ?_
    · rw [hh, decide_eq_true rfl, decide_eq_true (show ((2 ^ W.spots : Nat) : Int) = (((turnsM W).many : Nat) : Int) from rfl)]
      rfl
    have g46 := g4.trans (g5.trans g6)
    have q36 := Mn.mono g6.ff q3
    have fb6 : F6 b = none := by obtain ⟨o, ho⟩ := s3.someO; exact g46.nn ho fb3
    walk_at "n"
    refine x_setS (R := rLst rNat) (c := 61) ((es_lcR (B := 60) (c1 := 1) (c2 := 1) (P1 := fun x => 0 ≤ x ∧ x ≤ 60) (P2 := fun _ x => x < (turnsM W).maps.length) ((EvS.nat (es_callP rfl (fun _ _ _ _ => ev_lit (n := 61)) ⟨by omega, by omega⟩)).mono (by rintro x ⟨m, rfl, h⟩; omega) (Nat.le_refl _)) (fun _ h => h) (by omega) (fun v => rfl) fun i hi F H g _ => es_callP (x := (turnsM W).maps.length) rfl (fun F2 H2 g2 _ => (ev_lenOwn (ev_var rfl (Mn.mono (g.ff.trans g2.ff) q36)) (by omega)).toNat) ⟨by omega, by omega⟩).mono (fun _ h => h) (by omega)) g6.fh fb6 (s3.gr g46) (by omega) fun v7 xs F7 H7 g7 fb7 s7 p7 q7 => ?_
    obtain ⟨_, ⟨h0, h60⟩, hwl, hws⟩ := p7
    have hsg : ∀ s ∈ xs, s < (turnsM W).maps.length := fun s hs => by
      obtain ⟨i, hi⟩ := List.mem_iff_getElem?.mp hs
      exact hws i s hi
    walk_at "n"
    refine x_if (b := false) g7.fh (EvT.is (b := !true) (et_not (et_B (ev_call4 (ev_var rfl (Mn.mono g7.ff q36)) (ev_var rfl (Mn.mono (g6.ff.trans g7.ff) q4)) (ev_var rfl q7) (ev_var rfl (rb _ rise)) ⟨gk, ⟨0, 2 ^ W.spots - 1, hl, hg, ord_hs w0 w1⟩, hs_irr w0 w1, hsg, by omega, fun h => kept_web (hp h)⟩))) rfl) (fun z => nomatch z) fun _ F8 H8 g8 => ?_
    walk_at "n"
    exact ⟨F8, e2.trans (g2.ff.trans (g3.ff.trans (g46.ff.trans (g7.ff.trans g8.ff)))), g8.fh, _, _, _, _, _, _, _, _, rfl⟩
  · rintro σ' F' H' e1 e2 ⟨y1, y2, y3, y4, y5, y6, y7, y8, rfl⟩
    walk_at "n"
    exact x_ret e2 ev_bl fun v F' H' g r => by
      cases (show v = _ from r)
      exact k _

end
theorem all_mk {l : PySem.W.OpenLaw} {w : World} {K : PySem.W.Frag} {h : Heap} {mg : Str → Option Value} {fa f_is_whole f_is_between f_is_map f_Turns_init f_Turns_len f_check_signs f_begin_of f_then f_has_met f_is_pair f_above f_Order_init f_Order_len f_Order_at_most f_Order_least f_Order_greatest f_not_kept f_NotKept_init f_drawn_between f_is_tie f_are_ties f_are_levels f_Web_init f_is_up f_tied_to f_moved f_turns_of f_order_of f_Draw_init f_Draw_place f_Draw_used f_Draw_elder f_drawn f__law_well f__law_draw f__law_one f__law_web f__law_told f__law_right f_law C_Draw C_Order C_Turns C_Web C_DrawError C_NotKept q_WORTHS : Addr} {t_MOST_PLACES_orders t_MOST_PLACES_turns t_MOST_SIGNS t_MOST_SPOTS t_MOST_WHOLE : Tok} (X : K.In h) (G : h.Ns mainGlobals mg) (hfa : mg "law" = some (.ref fa))
    {od_is_whole an_is_whole : Option Addr} {sl_is_whole : Array (Option Value)} {oc_is_whole kV_is_whole dc_is_whole pm_is_whole cd_is_whole ct_is_whole : Value}
    {od_is_between an_is_between : Option Addr} {sl_is_between : Array (Option Value)} {oc_is_between kV_is_between dc_is_between pm_is_between cd_is_between ct_is_between : Value}
    {od_is_map an_is_map : Option Addr} {sl_is_map : Array (Option Value)} {oc_is_map kV_is_map dc_is_map pm_is_map cd_is_map ct_is_map : Value}
    {od_Turns_init an_Turns_init : Option Addr} {sl_Turns_init : Array (Option Value)} {oc_Turns_init kV_Turns_init dc_Turns_init pm_Turns_init cd_Turns_init ct_Turns_init : Value}
    {od_Turns_len an_Turns_len : Option Addr} {sl_Turns_len : Array (Option Value)} {oc_Turns_len kV_Turns_len dc_Turns_len pm_Turns_len cd_Turns_len ct_Turns_len : Value}
    {od_check_signs an_check_signs : Option Addr} {sl_check_signs : Array (Option Value)} {oc_check_signs kV_check_signs dc_check_signs pm_check_signs cd_check_signs ct_check_signs : Value}
    {od_begin_of an_begin_of : Option Addr} {sl_begin_of : Array (Option Value)} {oc_begin_of kV_begin_of dc_begin_of pm_begin_of cd_begin_of ct_begin_of : Value}
    {od_then an_then : Option Addr} {sl_then : Array (Option Value)} {oc_then kV_then dc_then pm_then cd_then ct_then : Value}
    {od_has_met an_has_met : Option Addr} {sl_has_met : Array (Option Value)} {oc_has_met kV_has_met dc_has_met pm_has_met cd_has_met ct_has_met : Value}
    {od_is_pair an_is_pair : Option Addr} {sl_is_pair : Array (Option Value)} {oc_is_pair kV_is_pair dc_is_pair pm_is_pair cd_is_pair ct_is_pair : Value}
    {od_above an_above : Option Addr} {sl_above : Array (Option Value)} {oc_above kV_above dc_above pm_above cd_above ct_above : Value}
    {od_Order_init an_Order_init : Option Addr} {sl_Order_init : Array (Option Value)} {oc_Order_init kV_Order_init dc_Order_init pm_Order_init cd_Order_init ct_Order_init : Value}
    {od_Order_len an_Order_len : Option Addr} {sl_Order_len : Array (Option Value)} {oc_Order_len kV_Order_len dc_Order_len pm_Order_len cd_Order_len ct_Order_len : Value}
    {od_Order_at_most an_Order_at_most : Option Addr} {sl_Order_at_most : Array (Option Value)} {oc_Order_at_most kV_Order_at_most dc_Order_at_most pm_Order_at_most cd_Order_at_most ct_Order_at_most : Value}
    {od_Order_least an_Order_least : Option Addr} {sl_Order_least : Array (Option Value)} {oc_Order_least kV_Order_least dc_Order_least pm_Order_least cd_Order_least ct_Order_least : Value}
    {od_Order_greatest an_Order_greatest : Option Addr} {sl_Order_greatest : Array (Option Value)} {oc_Order_greatest kV_Order_greatest dc_Order_greatest pm_Order_greatest cd_Order_greatest ct_Order_greatest : Value}
    {od_not_kept an_not_kept : Option Addr} {sl_not_kept : Array (Option Value)} {oc_not_kept kV_not_kept dc_not_kept pm_not_kept cd_not_kept ct_not_kept : Value}
    {od_NotKept_init an_NotKept_init : Option Addr} {sl_NotKept_init : Array (Option Value)} {oc_NotKept_init kV_NotKept_init dc_NotKept_init pm_NotKept_init cd_NotKept_init ct_NotKept_init : Value}
    {od_drawn_between an_drawn_between : Option Addr} {sl_drawn_between : Array (Option Value)} {oc_drawn_between kV_drawn_between dc_drawn_between pm_drawn_between cd_drawn_between ct_drawn_between : Value}
    {od_is_tie an_is_tie : Option Addr} {sl_is_tie : Array (Option Value)} {oc_is_tie kV_is_tie dc_is_tie pm_is_tie cd_is_tie ct_is_tie : Value}
    {od_are_ties an_are_ties : Option Addr} {sl_are_ties : Array (Option Value)} {oc_are_ties kV_are_ties dc_are_ties pm_are_ties cd_are_ties ct_are_ties : Value}
    {od_are_levels an_are_levels : Option Addr} {sl_are_levels : Array (Option Value)} {oc_are_levels kV_are_levels dc_are_levels pm_are_levels cd_are_levels ct_are_levels : Value}
    {od_Web_init an_Web_init : Option Addr} {sl_Web_init : Array (Option Value)} {oc_Web_init kV_Web_init dc_Web_init pm_Web_init cd_Web_init ct_Web_init : Value}
    {od_is_up an_is_up : Option Addr} {sl_is_up : Array (Option Value)} {oc_is_up kV_is_up dc_is_up pm_is_up cd_is_up ct_is_up : Value}
    {od_tied_to an_tied_to : Option Addr} {sl_tied_to : Array (Option Value)} {oc_tied_to kV_tied_to dc_tied_to pm_tied_to cd_tied_to ct_tied_to : Value}
    {od_moved an_moved : Option Addr} {sl_moved : Array (Option Value)} {oc_moved kV_moved dc_moved pm_moved cd_moved ct_moved : Value}
    {od_turns_of an_turns_of : Option Addr} {sl_turns_of : Array (Option Value)} {oc_turns_of kV_turns_of dc_turns_of pm_turns_of cd_turns_of ct_turns_of : Value}
    {od_order_of an_order_of : Option Addr} {sl_order_of : Array (Option Value)} {oc_order_of kV_order_of dc_order_of pm_order_of cd_order_of ct_order_of : Value}
    {od_Draw_init an_Draw_init : Option Addr} {sl_Draw_init : Array (Option Value)} {oc_Draw_init kV_Draw_init dc_Draw_init pm_Draw_init cd_Draw_init ct_Draw_init : Value}
    {od_Draw_place an_Draw_place : Option Addr} {sl_Draw_place : Array (Option Value)} {oc_Draw_place kV_Draw_place dc_Draw_place pm_Draw_place cd_Draw_place ct_Draw_place : Value}
    {od_Draw_used an_Draw_used : Option Addr} {sl_Draw_used : Array (Option Value)} {oc_Draw_used kV_Draw_used dc_Draw_used pm_Draw_used cd_Draw_used ct_Draw_used : Value}
    {od_Draw_elder an_Draw_elder : Option Addr} {sl_Draw_elder : Array (Option Value)} {oc_Draw_elder kV_Draw_elder dc_Draw_elder pm_Draw_elder cd_Draw_elder ct_Draw_elder : Value}
    {od_drawn an_drawn : Option Addr} {sl_drawn : Array (Option Value)} {oc_drawn kV_drawn dc_drawn pm_drawn cd_drawn ct_drawn : Value}
    {od__law_well an__law_well : Option Addr} {sl__law_well : Array (Option Value)} {oc__law_well kV__law_well dc__law_well pm__law_well cd__law_well ct__law_well : Value}
    {od__law_draw an__law_draw : Option Addr} {sl__law_draw : Array (Option Value)} {oc__law_draw kV__law_draw dc__law_draw pm__law_draw cd__law_draw ct__law_draw : Value}
    {od__law_one an__law_one : Option Addr} {sl__law_one : Array (Option Value)} {oc__law_one kV__law_one dc__law_one pm__law_one cd__law_one ct__law_one : Value}
    {od__law_web an__law_web : Option Addr} {sl__law_web : Array (Option Value)} {oc__law_web kV__law_web dc__law_web pm__law_web cd__law_web ct__law_web : Value}
    {od__law_told an__law_told : Option Addr} {sl__law_told : Array (Option Value)} {oc__law_told kV__law_told dc__law_told pm__law_told cd__law_told ct__law_told : Value}
    {od__law_right an__law_right : Option Addr} {sl__law_right : Array (Option Value)} {oc__law_right kV__law_right dc__law_right pm__law_right cd__law_right ct__law_right : Value}
    {od_law an_law : Option Addr} {sl_law : Array (Option Value)} {oc_law kV_law dc_law pm_law cd_law ct_law : Value}
    {xn_NotKept xq_NotKept : Str} {xN_NotKept : Addr} {xb_NotKept xm_NotKept : List Value} {xs_NotKept : List Str} {xu_NotKept : List Value} {xa_NotKept : Bool} {xc_NotKept : Option Bool} {xd_NotKept : Option Addr} {x0_NotKept x1_NotKept x2_NotKept x3_NotKept x5_NotKept : Option Value}
    {od_WORTHS : Option Addr} {t0_WORTHS t1_WORTHS t2_WORTHS t3_WORTHS t4_WORTHS t5_WORTHS : Tok} {n_WORTHS : Nat} {sl_WORTHS : Array (Option Value)}
    (aC_Draw : PySem.W.nsIn K mainGlobals "Draw" = some (some (.ref C_Draw)))
    (aC_Order : PySem.W.nsIn K mainGlobals "Order" = some (some (.ref C_Order)))
    (aC_Turns : PySem.W.nsIn K mainGlobals "Turns" = some (some (.ref C_Turns)))
    (aC_Web : PySem.W.nsIn K mainGlobals "Web" = some (some (.ref C_Web)))
    (aC_DrawError : PySem.W.nsIn K mainGlobals "DrawError" = some (some (.ref C_DrawError)))
    (aC_NotKept : PySem.W.nsIn K mainGlobals "NotKept" = some (some (.ref C_NotKept)))
    (a_is_whole : PySem.W.nsIn K mainGlobals "is_whole" = some (some (.ref f_is_whole)))
    (l_is_whole : K.lookup f_is_whole = some ⟨oc_is_whole, od_is_whole, .func (PySem.W.fnOf "is_whole" "is_whole" (defArgs s_is_whole) (defBody s_is_whole) (defScope s_is_whole) .none kV_is_whole dc_is_whole pm_is_whole an_is_whole cd_is_whole ct_is_whole), sl_is_whole⟩)
    (c_is_whole : PySem.W.codeIn K cd_is_whole "is_whole" = true)
    (k_is_whole : PySem.W.keepIn K (.ref f_is_whole) = true)
    (a_is_between : PySem.W.nsIn K mainGlobals "is_between" = some (some (.ref f_is_between)))
    (l_is_between : K.lookup f_is_between = some ⟨oc_is_between, od_is_between, .func (PySem.W.fnOf "is_between" "is_between" (defArgs s_is_between) (defBody s_is_between) (defScope s_is_between) .none kV_is_between dc_is_between pm_is_between an_is_between cd_is_between ct_is_between), sl_is_between⟩)
    (c_is_between : PySem.W.codeIn K cd_is_between "is_between" = true)
    (k_is_between : PySem.W.keepIn K (.ref f_is_between) = true)
    (a_is_map : PySem.W.nsIn K mainGlobals "is_map" = some (some (.ref f_is_map)))
    (l_is_map : K.lookup f_is_map = some ⟨oc_is_map, od_is_map, .func (PySem.W.fnOf "is_map" "is_map" (defArgs s_is_map) (defBody s_is_map) (defScope s_is_map) .none kV_is_map dc_is_map pm_is_map an_is_map cd_is_map ct_is_map), sl_is_map⟩)
    (c_is_map : PySem.W.codeIn K cd_is_map "is_map" = true)
    (k_is_map : PySem.W.keepIn K (.ref f_is_map) = true)
    (a_Turns_init : PySem.W.findIn K (.ref C_Turns) "__init__" = some (some (.ref f_Turns_init)))
    (i_Turns_init : PySem.W.isFn K (.ref f_Turns_init) = true)
    (l_Turns_init : K.lookup f_Turns_init = some ⟨oc_Turns_init, od_Turns_init, .func (PySem.W.fnOf "__init__" "Turns.__init__" (defArgs s_Turns_init) (defBody s_Turns_init) (defScope s_Turns_init) .none kV_Turns_init dc_Turns_init pm_Turns_init an_Turns_init cd_Turns_init ct_Turns_init), sl_Turns_init⟩)
    (c_Turns_init : PySem.W.codeIn K cd_Turns_init "Turns.__init__" = true)
    (k_Turns_init : PySem.W.keepIn K (.ref f_Turns_init) = true)
    (a_Turns_len : PySem.W.findIn K (.ref C_Turns) "__len__" = some (some (.ref f_Turns_len)))
    (i_Turns_len : PySem.W.isFn K (.ref f_Turns_len) = true)
    (l_Turns_len : K.lookup f_Turns_len = some ⟨oc_Turns_len, od_Turns_len, .func (PySem.W.fnOf "__len__" "Turns.__len__" (defArgs s_Turns_len) (defBody s_Turns_len) (defScope s_Turns_len) .none kV_Turns_len dc_Turns_len pm_Turns_len an_Turns_len cd_Turns_len ct_Turns_len), sl_Turns_len⟩)
    (c_Turns_len : PySem.W.codeIn K cd_Turns_len "Turns.__len__" = true)
    (k_Turns_len : PySem.W.keepIn K (.ref f_Turns_len) = true)
    (a_check_signs : PySem.W.nsIn K mainGlobals "check_signs" = some (some (.ref f_check_signs)))
    (l_check_signs : K.lookup f_check_signs = some ⟨oc_check_signs, od_check_signs, .func (PySem.W.fnOf "check_signs" "check_signs" (defArgs s_check_signs) (defBody s_check_signs) (defScope s_check_signs) .none kV_check_signs dc_check_signs pm_check_signs an_check_signs cd_check_signs ct_check_signs), sl_check_signs⟩)
    (c_check_signs : PySem.W.codeIn K cd_check_signs "check_signs" = true)
    (k_check_signs : PySem.W.keepIn K (.ref f_check_signs) = true)
    (a_begin_of : PySem.W.nsIn K mainGlobals "begin_of" = some (some (.ref f_begin_of)))
    (l_begin_of : K.lookup f_begin_of = some ⟨oc_begin_of, od_begin_of, .func (PySem.W.fnOf "begin_of" "begin_of" (defArgs s_begin_of) (defBody s_begin_of) (defScope s_begin_of) .none kV_begin_of dc_begin_of pm_begin_of an_begin_of cd_begin_of ct_begin_of), sl_begin_of⟩)
    (c_begin_of : PySem.W.codeIn K cd_begin_of "begin_of" = true)
    (k_begin_of : PySem.W.keepIn K (.ref f_begin_of) = true)
    (a_then : PySem.W.nsIn K mainGlobals "then" = some (some (.ref f_then)))
    (l_then : K.lookup f_then = some ⟨oc_then, od_then, .func (PySem.W.fnOf "then" "then" (defArgs s_then) (defBody s_then) (defScope s_then) .none kV_then dc_then pm_then an_then cd_then ct_then), sl_then⟩)
    (c_then : PySem.W.codeIn K cd_then "then" = true)
    (k_then : PySem.W.keepIn K (.ref f_then) = true)
    (a_has_met : PySem.W.nsIn K mainGlobals "has_met" = some (some (.ref f_has_met)))
    (l_has_met : K.lookup f_has_met = some ⟨oc_has_met, od_has_met, .func (PySem.W.fnOf "has_met" "has_met" (defArgs s_has_met) (defBody s_has_met) (defScope s_has_met) .none kV_has_met dc_has_met pm_has_met an_has_met cd_has_met ct_has_met), sl_has_met⟩)
    (c_has_met : PySem.W.codeIn K cd_has_met "has_met" = true)
    (k_has_met : PySem.W.keepIn K (.ref f_has_met) = true)
    (a_is_pair : PySem.W.nsIn K mainGlobals "is_pair" = some (some (.ref f_is_pair)))
    (l_is_pair : K.lookup f_is_pair = some ⟨oc_is_pair, od_is_pair, .func (PySem.W.fnOf "is_pair" "is_pair" (defArgs s_is_pair) (defBody s_is_pair) (defScope s_is_pair) .none kV_is_pair dc_is_pair pm_is_pair an_is_pair cd_is_pair ct_is_pair), sl_is_pair⟩)
    (c_is_pair : PySem.W.codeIn K cd_is_pair "is_pair" = true)
    (k_is_pair : PySem.W.keepIn K (.ref f_is_pair) = true)
    (a_above : PySem.W.nsIn K mainGlobals "above" = some (some (.ref f_above)))
    (l_above : K.lookup f_above = some ⟨oc_above, od_above, .func (PySem.W.fnOf "above" "above" (defArgs s_above) (defBody s_above) (defScope s_above) .none kV_above dc_above pm_above an_above cd_above ct_above), sl_above⟩)
    (c_above : PySem.W.codeIn K cd_above "above" = true)
    (k_above : PySem.W.keepIn K (.ref f_above) = true)
    (a_Order_init : PySem.W.findIn K (.ref C_Order) "__init__" = some (some (.ref f_Order_init)))
    (i_Order_init : PySem.W.isFn K (.ref f_Order_init) = true)
    (l_Order_init : K.lookup f_Order_init = some ⟨oc_Order_init, od_Order_init, .func (PySem.W.fnOf "__init__" "Order.__init__" (defArgs s_Order_init) (defBody s_Order_init) (defScope s_Order_init) .none kV_Order_init dc_Order_init pm_Order_init an_Order_init cd_Order_init ct_Order_init), sl_Order_init⟩)
    (c_Order_init : PySem.W.codeIn K cd_Order_init "Order.__init__" = true)
    (k_Order_init : PySem.W.keepIn K (.ref f_Order_init) = true)
    (a_Order_len : PySem.W.findIn K (.ref C_Order) "__len__" = some (some (.ref f_Order_len)))
    (i_Order_len : PySem.W.isFn K (.ref f_Order_len) = true)
    (l_Order_len : K.lookup f_Order_len = some ⟨oc_Order_len, od_Order_len, .func (PySem.W.fnOf "__len__" "Order.__len__" (defArgs s_Order_len) (defBody s_Order_len) (defScope s_Order_len) .none kV_Order_len dc_Order_len pm_Order_len an_Order_len cd_Order_len ct_Order_len), sl_Order_len⟩)
    (c_Order_len : PySem.W.codeIn K cd_Order_len "Order.__len__" = true)
    (k_Order_len : PySem.W.keepIn K (.ref f_Order_len) = true)
    (a_Order_at_most : PySem.W.findIn K (.ref C_Order) "at_most" = some (some (.ref f_Order_at_most)))
    (i_Order_at_most : PySem.W.isFn K (.ref f_Order_at_most) = true)
    (l_Order_at_most : K.lookup f_Order_at_most = some ⟨oc_Order_at_most, od_Order_at_most, .func (PySem.W.fnOf "at_most" "Order.at_most" (defArgs s_Order_at_most) (defBody s_Order_at_most) (defScope s_Order_at_most) .none kV_Order_at_most dc_Order_at_most pm_Order_at_most an_Order_at_most cd_Order_at_most ct_Order_at_most), sl_Order_at_most⟩)
    (c_Order_at_most : PySem.W.codeIn K cd_Order_at_most "Order.at_most" = true)
    (k_Order_at_most : PySem.W.keepIn K (.ref f_Order_at_most) = true)
    (a_Order_least : PySem.W.findIn K (.ref C_Order) "least" = some (some (.ref f_Order_least)))
    (i_Order_least : PySem.W.isFn K (.ref f_Order_least) = true)
    (l_Order_least : K.lookup f_Order_least = some ⟨oc_Order_least, od_Order_least, .func (PySem.W.fnOf "least" "Order.least" (defArgs s_Order_least) (defBody s_Order_least) (defScope s_Order_least) .none kV_Order_least dc_Order_least pm_Order_least an_Order_least cd_Order_least ct_Order_least), sl_Order_least⟩)
    (c_Order_least : PySem.W.codeIn K cd_Order_least "Order.least" = true)
    (k_Order_least : PySem.W.keepIn K (.ref f_Order_least) = true)
    (a_Order_greatest : PySem.W.findIn K (.ref C_Order) "greatest" = some (some (.ref f_Order_greatest)))
    (i_Order_greatest : PySem.W.isFn K (.ref f_Order_greatest) = true)
    (l_Order_greatest : K.lookup f_Order_greatest = some ⟨oc_Order_greatest, od_Order_greatest, .func (PySem.W.fnOf "greatest" "Order.greatest" (defArgs s_Order_greatest) (defBody s_Order_greatest) (defScope s_Order_greatest) .none kV_Order_greatest dc_Order_greatest pm_Order_greatest an_Order_greatest cd_Order_greatest ct_Order_greatest), sl_Order_greatest⟩)
    (c_Order_greatest : PySem.W.codeIn K cd_Order_greatest "Order.greatest" = true)
    (k_Order_greatest : PySem.W.keepIn K (.ref f_Order_greatest) = true)
    (a_not_kept : PySem.W.nsIn K mainGlobals "not_kept" = some (some (.ref f_not_kept)))
    (l_not_kept : K.lookup f_not_kept = some ⟨oc_not_kept, od_not_kept, .func (PySem.W.fnOf "not_kept" "not_kept" (defArgs s_not_kept) (defBody s_not_kept) (defScope s_not_kept) .none kV_not_kept dc_not_kept pm_not_kept an_not_kept cd_not_kept ct_not_kept), sl_not_kept⟩)
    (c_not_kept : PySem.W.codeIn K cd_not_kept "not_kept" = true)
    (k_not_kept : PySem.W.keepIn K (.ref f_not_kept) = true)
    (a_NotKept_init : PySem.W.findIn K (.ref C_NotKept) "__init__" = some (some (.ref f_NotKept_init)))
    (i_NotKept_init : PySem.W.isFn K (.ref f_NotKept_init) = true)
    (l_NotKept_init : K.lookup f_NotKept_init = some ⟨oc_NotKept_init, od_NotKept_init, .func (PySem.W.fnOf "__init__" "NotKept.__init__" (defArgs s_NotKept_init) (defBody s_NotKept_init) (defScope s_NotKept_init) .none kV_NotKept_init dc_NotKept_init pm_NotKept_init an_NotKept_init cd_NotKept_init ct_NotKept_init), sl_NotKept_init⟩)
    (c_NotKept_init : PySem.W.codeIn K cd_NotKept_init "NotKept.__init__" = true)
    (k_NotKept_init : PySem.W.keepIn K (.ref f_NotKept_init) = true)
    (a_drawn_between : PySem.W.nsIn K mainGlobals "drawn_between" = some (some (.ref f_drawn_between)))
    (l_drawn_between : K.lookup f_drawn_between = some ⟨oc_drawn_between, od_drawn_between, .func (PySem.W.fnOf "drawn_between" "drawn_between" (defArgs s_drawn_between) (defBody s_drawn_between) (defScope s_drawn_between) .none kV_drawn_between dc_drawn_between pm_drawn_between an_drawn_between cd_drawn_between ct_drawn_between), sl_drawn_between⟩)
    (c_drawn_between : PySem.W.codeIn K cd_drawn_between "drawn_between" = true)
    (k_drawn_between : PySem.W.keepIn K (.ref f_drawn_between) = true)
    (a_is_tie : PySem.W.nsIn K mainGlobals "is_tie" = some (some (.ref f_is_tie)))
    (l_is_tie : K.lookup f_is_tie = some ⟨oc_is_tie, od_is_tie, .func (PySem.W.fnOf "is_tie" "is_tie" (defArgs s_is_tie) (defBody s_is_tie) (defScope s_is_tie) .none kV_is_tie dc_is_tie pm_is_tie an_is_tie cd_is_tie ct_is_tie), sl_is_tie⟩)
    (c_is_tie : PySem.W.codeIn K cd_is_tie "is_tie" = true)
    (k_is_tie : PySem.W.keepIn K (.ref f_is_tie) = true)
    (a_are_ties : PySem.W.nsIn K mainGlobals "are_ties" = some (some (.ref f_are_ties)))
    (l_are_ties : K.lookup f_are_ties = some ⟨oc_are_ties, od_are_ties, .func (PySem.W.fnOf "are_ties" "are_ties" (defArgs s_are_ties) (defBody s_are_ties) (defScope s_are_ties) .none kV_are_ties dc_are_ties pm_are_ties an_are_ties cd_are_ties ct_are_ties), sl_are_ties⟩)
    (c_are_ties : PySem.W.codeIn K cd_are_ties "are_ties" = true)
    (k_are_ties : PySem.W.keepIn K (.ref f_are_ties) = true)
    (a_are_levels : PySem.W.nsIn K mainGlobals "are_levels" = some (some (.ref f_are_levels)))
    (l_are_levels : K.lookup f_are_levels = some ⟨oc_are_levels, od_are_levels, .func (PySem.W.fnOf "are_levels" "are_levels" (defArgs s_are_levels) (defBody s_are_levels) (defScope s_are_levels) .none kV_are_levels dc_are_levels pm_are_levels an_are_levels cd_are_levels ct_are_levels), sl_are_levels⟩)
    (c_are_levels : PySem.W.codeIn K cd_are_levels "are_levels" = true)
    (k_are_levels : PySem.W.keepIn K (.ref f_are_levels) = true)
    (a_Web_init : PySem.W.findIn K (.ref C_Web) "__init__" = some (some (.ref f_Web_init)))
    (i_Web_init : PySem.W.isFn K (.ref f_Web_init) = true)
    (l_Web_init : K.lookup f_Web_init = some ⟨oc_Web_init, od_Web_init, .func (PySem.W.fnOf "__init__" "Web.__init__" (defArgs s_Web_init) (defBody s_Web_init) (defScope s_Web_init) .none kV_Web_init dc_Web_init pm_Web_init an_Web_init cd_Web_init ct_Web_init), sl_Web_init⟩)
    (c_Web_init : PySem.W.codeIn K cd_Web_init "Web.__init__" = true)
    (k_Web_init : PySem.W.keepIn K (.ref f_Web_init) = true)
    (a_is_up : PySem.W.nsIn K mainGlobals "is_up" = some (some (.ref f_is_up)))
    (l_is_up : K.lookup f_is_up = some ⟨oc_is_up, od_is_up, .func (PySem.W.fnOf "is_up" "is_up" (defArgs s_is_up) (defBody s_is_up) (defScope s_is_up) .none kV_is_up dc_is_up pm_is_up an_is_up cd_is_up ct_is_up), sl_is_up⟩)
    (c_is_up : PySem.W.codeIn K cd_is_up "is_up" = true)
    (k_is_up : PySem.W.keepIn K (.ref f_is_up) = true)
    (a_tied_to : PySem.W.nsIn K mainGlobals "tied_to" = some (some (.ref f_tied_to)))
    (l_tied_to : K.lookup f_tied_to = some ⟨oc_tied_to, od_tied_to, .func (PySem.W.fnOf "tied_to" "tied_to" (defArgs s_tied_to) (defBody s_tied_to) (defScope s_tied_to) .none kV_tied_to dc_tied_to pm_tied_to an_tied_to cd_tied_to ct_tied_to), sl_tied_to⟩)
    (c_tied_to : PySem.W.codeIn K cd_tied_to "tied_to" = true)
    (k_tied_to : PySem.W.keepIn K (.ref f_tied_to) = true)
    (a_moved : PySem.W.nsIn K mainGlobals "moved" = some (some (.ref f_moved)))
    (l_moved : K.lookup f_moved = some ⟨oc_moved, od_moved, .func (PySem.W.fnOf "moved" "moved" (defArgs s_moved) (defBody s_moved) (defScope s_moved) .none kV_moved dc_moved pm_moved an_moved cd_moved ct_moved), sl_moved⟩)
    (c_moved : PySem.W.codeIn K cd_moved "moved" = true)
    (k_moved : PySem.W.keepIn K (.ref f_moved) = true)
    (a_turns_of : PySem.W.nsIn K mainGlobals "turns_of" = some (some (.ref f_turns_of)))
    (l_turns_of : K.lookup f_turns_of = some ⟨oc_turns_of, od_turns_of, .func (PySem.W.fnOf "turns_of" "turns_of" (defArgs s_turns_of) (defBody s_turns_of) (defScope s_turns_of) .none kV_turns_of dc_turns_of pm_turns_of an_turns_of cd_turns_of ct_turns_of), sl_turns_of⟩)
    (c_turns_of : PySem.W.codeIn K cd_turns_of "turns_of" = true)
    (k_turns_of : PySem.W.keepIn K (.ref f_turns_of) = true)
    (a_order_of : PySem.W.nsIn K mainGlobals "order_of" = some (some (.ref f_order_of)))
    (l_order_of : K.lookup f_order_of = some ⟨oc_order_of, od_order_of, .func (PySem.W.fnOf "order_of" "order_of" (defArgs s_order_of) (defBody s_order_of) (defScope s_order_of) .none kV_order_of dc_order_of pm_order_of an_order_of cd_order_of ct_order_of), sl_order_of⟩)
    (c_order_of : PySem.W.codeIn K cd_order_of "order_of" = true)
    (k_order_of : PySem.W.keepIn K (.ref f_order_of) = true)
    (a_Draw_init : PySem.W.findIn K (.ref C_Draw) "__init__" = some (some (.ref f_Draw_init)))
    (i_Draw_init : PySem.W.isFn K (.ref f_Draw_init) = true)
    (l_Draw_init : K.lookup f_Draw_init = some ⟨oc_Draw_init, od_Draw_init, .func (PySem.W.fnOf "__init__" "Draw.__init__" (defArgs s_Draw_init) (defBody s_Draw_init) (defScope s_Draw_init) .none kV_Draw_init dc_Draw_init pm_Draw_init an_Draw_init cd_Draw_init ct_Draw_init), sl_Draw_init⟩)
    (c_Draw_init : PySem.W.codeIn K cd_Draw_init "Draw.__init__" = true)
    (k_Draw_init : PySem.W.keepIn K (.ref f_Draw_init) = true)
    (a_Draw_place : PySem.W.findIn K (.ref C_Draw) "place" = some (some (.ref f_Draw_place)))
    (i_Draw_place : PySem.W.isFn K (.ref f_Draw_place) = true)
    (l_Draw_place : K.lookup f_Draw_place = some ⟨oc_Draw_place, od_Draw_place, .func (PySem.W.fnOf "place" "Draw.place" (defArgs s_Draw_place) (defBody s_Draw_place) (defScope s_Draw_place) .none kV_Draw_place dc_Draw_place pm_Draw_place an_Draw_place cd_Draw_place ct_Draw_place), sl_Draw_place⟩)
    (c_Draw_place : PySem.W.codeIn K cd_Draw_place "Draw.place" = true)
    (k_Draw_place : PySem.W.keepIn K (.ref f_Draw_place) = true)
    (a_Draw_used : PySem.W.findIn K (.ref C_Draw) "used" = some (some (.ref f_Draw_used)))
    (i_Draw_used : PySem.W.isFn K (.ref f_Draw_used) = true)
    (l_Draw_used : K.lookup f_Draw_used = some ⟨oc_Draw_used, od_Draw_used, .func (PySem.W.fnOf "used" "Draw.used" (defArgs s_Draw_used) (defBody s_Draw_used) (defScope s_Draw_used) .none kV_Draw_used dc_Draw_used pm_Draw_used an_Draw_used cd_Draw_used ct_Draw_used), sl_Draw_used⟩)
    (c_Draw_used : PySem.W.codeIn K cd_Draw_used "Draw.used" = true)
    (k_Draw_used : PySem.W.keepIn K (.ref f_Draw_used) = true)
    (a_Draw_elder : PySem.W.findIn K (.ref C_Draw) "elder" = some (some (.ref f_Draw_elder)))
    (i_Draw_elder : PySem.W.isFn K (.ref f_Draw_elder) = true)
    (l_Draw_elder : K.lookup f_Draw_elder = some ⟨oc_Draw_elder, od_Draw_elder, .func (PySem.W.fnOf "elder" "Draw.elder" (defArgs s_Draw_elder) (defBody s_Draw_elder) (defScope s_Draw_elder) .none kV_Draw_elder dc_Draw_elder pm_Draw_elder an_Draw_elder cd_Draw_elder ct_Draw_elder), sl_Draw_elder⟩)
    (c_Draw_elder : PySem.W.codeIn K cd_Draw_elder "Draw.elder" = true)
    (k_Draw_elder : PySem.W.keepIn K (.ref f_Draw_elder) = true)
    (a_drawn : PySem.W.nsIn K mainGlobals "drawn" = some (some (.ref f_drawn)))
    (l_drawn : K.lookup f_drawn = some ⟨oc_drawn, od_drawn, .func (PySem.W.fnOf "drawn" "drawn" (defArgs s_drawn) (defBody s_drawn) (defScope s_drawn) .none kV_drawn dc_drawn pm_drawn an_drawn cd_drawn ct_drawn), sl_drawn⟩)
    (c_drawn : PySem.W.codeIn K cd_drawn "drawn" = true)
    (k_drawn : PySem.W.keepIn K (.ref f_drawn) = true)
    (a__law_well : PySem.W.nsIn K mainGlobals "_law_well" = some (some (.ref f__law_well)))
    (l__law_well : K.lookup f__law_well = some ⟨oc__law_well, od__law_well, .func (PySem.W.fnOf "_law_well" "_law_well" (defArgs s__law_well) (defBody s__law_well) (defScope s__law_well) .none kV__law_well dc__law_well pm__law_well an__law_well cd__law_well ct__law_well), sl__law_well⟩)
    (c__law_well : PySem.W.codeIn K cd__law_well "_law_well" = true)
    (k__law_well : PySem.W.keepIn K (.ref f__law_well) = true)
    (a__law_draw : PySem.W.nsIn K mainGlobals "_law_draw" = some (some (.ref f__law_draw)))
    (l__law_draw : K.lookup f__law_draw = some ⟨oc__law_draw, od__law_draw, .func (PySem.W.fnOf "_law_draw" "_law_draw" (defArgs s__law_draw) (defBody s__law_draw) (defScope s__law_draw) .none kV__law_draw dc__law_draw pm__law_draw an__law_draw cd__law_draw ct__law_draw), sl__law_draw⟩)
    (c__law_draw : PySem.W.codeIn K cd__law_draw "_law_draw" = true)
    (k__law_draw : PySem.W.keepIn K (.ref f__law_draw) = true)
    (a__law_one : PySem.W.nsIn K mainGlobals "_law_one" = some (some (.ref f__law_one)))
    (l__law_one : K.lookup f__law_one = some ⟨oc__law_one, od__law_one, .func (PySem.W.fnOf "_law_one" "_law_one" (defArgs s__law_one) (defBody s__law_one) (defScope s__law_one) .none kV__law_one dc__law_one pm__law_one an__law_one cd__law_one ct__law_one), sl__law_one⟩)
    (c__law_one : PySem.W.codeIn K cd__law_one "_law_one" = true)
    (k__law_one : PySem.W.keepIn K (.ref f__law_one) = true)
    (a__law_web : PySem.W.nsIn K mainGlobals "_law_web" = some (some (.ref f__law_web)))
    (l__law_web : K.lookup f__law_web = some ⟨oc__law_web, od__law_web, .func (PySem.W.fnOf "_law_web" "_law_web" (defArgs s__law_web) (defBody s__law_web) (defScope s__law_web) .none kV__law_web dc__law_web pm__law_web an__law_web cd__law_web ct__law_web), sl__law_web⟩)
    (c__law_web : PySem.W.codeIn K cd__law_web "_law_web" = true)
    (k__law_web : PySem.W.keepIn K (.ref f__law_web) = true)
    (a__law_told : PySem.W.nsIn K mainGlobals "_law_told" = some (some (.ref f__law_told)))
    (l__law_told : K.lookup f__law_told = some ⟨oc__law_told, od__law_told, .func (PySem.W.fnOf "_law_told" "_law_told" (defArgs s__law_told) (defBody s__law_told) (defScope s__law_told) .none kV__law_told dc__law_told pm__law_told an__law_told cd__law_told ct__law_told), sl__law_told⟩)
    (c__law_told : PySem.W.codeIn K cd__law_told "_law_told" = true)
    (k__law_told : PySem.W.keepIn K (.ref f__law_told) = true)
    (a__law_right : PySem.W.nsIn K mainGlobals "_law_right" = some (some (.ref f__law_right)))
    (l__law_right : K.lookup f__law_right = some ⟨oc__law_right, od__law_right, .func (PySem.W.fnOf "_law_right" "_law_right" (defArgs s__law_right) (defBody s__law_right) (defScope s__law_right) .none kV__law_right dc__law_right pm__law_right an__law_right cd__law_right ct__law_right), sl__law_right⟩)
    (c__law_right : PySem.W.codeIn K cd__law_right "_law_right" = true)
    (k__law_right : PySem.W.keepIn K (.ref f__law_right) = true)
    (a_law : PySem.W.nsIn K mainGlobals "law" = some (some (.ref f_law)))
    (l_law : K.lookup f_law = some ⟨oc_law, od_law, .func (PySem.W.fnOf "law" "law" (defArgs s_law) (defBody s_law) (defScope s_law) .none kV_law dc_law pm_law an_law cd_law ct_law), sl_law⟩)
    (c_law : PySem.W.codeIn K cd_law "law" = true)
    (k_law : PySem.W.keepIn K (.ref f_law) = true)
    (pg_Draw : PySem.W.plainGet K C_Draw Str.empty = true)
    (hd_Draw : PySem.W.hasDictIn K C_Draw = true)
    (po_Draw : PySem.W.plainOver K C_Draw = true)
    (sa_Draw : PySem.W.findIn K (.ref C_Draw) "__setattr__" = some (some (.builtin "object.__setattr__")))
    (kc_Draw : PySem.W.keepIn K (.ref C_Draw) = true)
    (mk_Draw : PySem.W.makesIn K C_Draw = true)
    (pg_Order : PySem.W.plainGet K C_Order Str.empty = true)
    (hd_Order : PySem.W.hasDictIn K C_Order = true)
    (po_Order : PySem.W.plainOver K C_Order = true)
    (sa_Order : PySem.W.findIn K (.ref C_Order) "__setattr__" = some (some (.builtin "object.__setattr__")))
    (kc_Order : PySem.W.keepIn K (.ref C_Order) = true)
    (mk_Order : PySem.W.makesIn K C_Order = true)
    (pg_Turns : PySem.W.plainGet K C_Turns Str.empty = true)
    (hd_Turns : PySem.W.hasDictIn K C_Turns = true)
    (po_Turns : PySem.W.plainOver K C_Turns = true)
    (sa_Turns : PySem.W.findIn K (.ref C_Turns) "__setattr__" = some (some (.builtin "object.__setattr__")))
    (kc_Turns : PySem.W.keepIn K (.ref C_Turns) = true)
    (mk_Turns : PySem.W.makesIn K C_Turns = true)
    (pg_Web : PySem.W.plainGet K C_Web Str.empty = true)
    (hd_Web : PySem.W.hasDictIn K C_Web = true)
    (po_Web : PySem.W.plainOver K C_Web = true)
    (sa_Web : PySem.W.findIn K (.ref C_Web) "__setattr__" = some (some (.builtin "object.__setattr__")))
    (kc_Web : PySem.W.keepIn K (.ref C_Web) = true)
    (mk_Web : PySem.W.makesIn K C_Web = true)
    (bg_DrawError : PySem.W.specialIn K (.ref C_DrawError) "__getattribute__" = some (some (.builtin "type.__getattribute__")))
    (br_DrawError : PySem.W.readsIn K C_DrawError (.type "type") = true)
    (bt_DrawError : PySem.W.typeIn K (.ref C_DrawError) = some (.type "type"))
    (bi_DrawError : PySem.W.findCls K (.ref C_DrawError) (.type "type") "__init__" = some (.val (.builtin "ValueError.__init__")))
    (xL_NotKept : K.lookup C_NotKept = some (excClassObj xn_NotKept xq_NotKept C_NotKept xN_NotKept xb_NotKept xm_NotKept true xs_NotKept xu_NotKept xa_NotKept xc_NotKept xd_NotKept x0_NotKept x1_NotKept x2_NotKept x3_NotKept x5_NotKept "ValueError.__new__"))
    (xv_NotKept : PySem.HandSPX.refsVE xm_NotKept = true)
    (xsa_NotKept : PySem.W.findIn K (.ref C_NotKept) "__setattr__" = some (some (.builtin "object.__setattr__")))
    (xec_NotKept : PySem.W.subIn K (.ref C_NotKept) (.type "BaseException") = some true)
    (xty_NotKept : PySem.W.typeIn K (.ref C_NotKept) = some (.type "type"))
    (xkc_NotKept : PySem.W.keepIn K (.ref C_NotKept) = true)
    (xtf_NotKept : PySem.W.typeIn K (.ref f_NotKept_init) = some (.type "function"))
    (xga_NotKept : PySem.W.findIn K (.ref C_NotKept) "__getattribute__" = some (some (.builtin "BaseException.__getattribute__")))
    (xgg_NotKept : PySem.W.findIn K (.ref C_NotKept) "__getattr__" = some none)
    (xhd_NotKept : PySem.W.hasDictIn K C_NotKept = true)
    (xnf_NotKept : PySem.W.findIn K (.ref C_NotKept) "kept" = some none)
    (xic_NotKept : PySem.W.isClsIn K C_NotKept = true)
    (xsc_NotKept : PySem.W.subIn K (.ref C_NotKept) (.ref C_NotKept) = some true)
    (na_Draw_found : PySem.W.findIn K (.ref C_Draw) "found" = some none)
    (na_Draw_many : PySem.W.findIn K (.ref C_Draw) "many" = some none)
    (na_Draw_told : PySem.W.findIn K (.ref C_Draw) "told" = some none)
    (na_Draw_turns : PySem.W.findIn K (.ref C_Draw) "turns" = some none)
    (na_Order_higher : PySem.W.findIn K (.ref C_Order) "higher" = some none)
    (na_Turns_many : PySem.W.findIn K (.ref C_Turns) "many" = some none)
    (na_Turns_maps : PySem.W.findIn K (.ref C_Turns) "maps" = some none)
    (na_Web_levels : PySem.W.findIn K (.ref C_Web) "levels" = some none)
    (na_Web_spots : PySem.W.findIn K (.ref C_Web) "spots" = some none)
    (na_Web_ties : PySem.W.findIn K (.ref C_Web) "ties" = some none)
    (na_Web_whole : PySem.W.findIn K (.ref C_Web) "whole" = some none)
    (z_all : PySem.W.nsIn K mainGlobals "all" = some none)
    (z_any : PySem.W.nsIn K mainGlobals "any" = some none)
    (z_bool : PySem.W.nsIn K mainGlobals "bool" = some none)
    (z_enumerate : PySem.W.nsIn K mainGlobals "enumerate" = some none)
    (z_int : PySem.W.nsIn K mainGlobals "int" = some none)
    (z_isinstance : PySem.W.nsIn K mainGlobals "isinstance" = some none)
    (z_len : PySem.W.nsIn K mainGlobals "len" = some none)
    (z_list : PySem.W.nsIn K mainGlobals "list" = some none)
    (z_range : PySem.W.nsIn K mainGlobals "range" = some none)
    (z_set : PySem.W.nsIn K mainGlobals "set" = some none)
    (z_sorted : PySem.W.nsIn K mainGlobals "sorted" = some none)
    (z_tuple : PySem.W.nsIn K mainGlobals "tuple" = some none)
    (g_MOST_PLACES_orders : PySem.W.nsIn K mainGlobals "MOST_PLACES_orders" = some (some (.int 32 t_MOST_PLACES_orders)))
    (g_MOST_PLACES_turns : PySem.W.nsIn K mainGlobals "MOST_PLACES_turns" = some (some (.int 32 t_MOST_PLACES_turns)))
    (g_MOST_SIGNS : PySem.W.nsIn K mainGlobals "MOST_SIGNS" = some (some (.int 200 t_MOST_SIGNS)))
    (g_MOST_SPOTS : PySem.W.nsIn K mainGlobals "MOST_SPOTS" = some (some (.int 5 t_MOST_SPOTS)))
    (g_MOST_WHOLE : PySem.W.nsIn K mainGlobals "MOST_WHOLE" = some (some (.int 40 t_MOST_WHOLE)))
    (g_WORTHS : PySem.W.nsIn K mainGlobals "WORTHS" = some (some (.ref q_WORTHS)))
    (w_WORTHS : K.lookup q_WORTHS = some ⟨.type "tuple", od_WORTHS, .seq #[.int 1 t0_WORTHS, .int 2 t1_WORTHS, .int 4 t2_WORTHS, .int 8 t3_WORTHS, .int 16 t4_WORTHS, .int 32 t5_WORTHS] n_WORTHS, sl_WORTHS⟩)
    : ∃ fd : FuncData, (∀ (s : Shared) (v : Value), BindsTo s fd ⟨[v], []⟩ [("_law_script", v)]) ∧ ∀ base : Heap, K.In base → base.Ns mainGlobals mg → FnOk l.prog w K mg base CX0 8 fa fd ["_law_script"] (spLaw K) := by
  have e : f_law = fa := by
    have e := hfa.symm.trans (PySem.W.mg_of X G a_law)
    cases e
    rfl
  subst e
  have F_is_whole := fun_mk (st := s_is_whole) l_is_whole c_is_whole k_is_whole
  have b_is_whole := F_is_whole.binds (ps := ["thing"]) fun _ _ _ _ _ _ us hl => match us, hl with | [_], _ => rfl
  have F_is_between := fun_mk (st := s_is_between) l_is_between c_is_between k_is_between
  have b_is_between := F_is_between.binds (ps := ["thing", "least", "most"]) fun _ _ _ _ _ _ us hl => match us, hl with | [_, _, _], _ => rfl
  have F_is_map := fun_mk (st := s_is_map) l_is_map c_is_map k_is_map
  have b_is_map := F_is_map.binds (ps := ["thing", "many"]) fun _ _ _ _ _ _ us hl => match us, hl with | [_, _], _ => rfl
  have F_Turns_init := fun_mk (st := s_Turns_init) l_Turns_init c_Turns_init k_Turns_init
  have b_Turns_init := F_Turns_init.binds (ps := ["self", "many", "maps"]) fun _ _ _ _ _ _ us hl => match us, hl with | [_, _, _], _ => rfl
  have F_Turns_len := fun_mk (st := s_Turns_len) l_Turns_len c_Turns_len k_Turns_len
  have b_Turns_len := F_Turns_len.binds (ps := ["self"]) fun _ _ _ _ _ _ us hl => match us, hl with | [_], _ => rfl
  have F_check_signs := fun_mk (st := s_check_signs) l_check_signs c_check_signs k_check_signs
  have b_check_signs := F_check_signs.binds (ps := ["turns", "signs"]) fun _ _ _ _ _ _ us hl => match us, hl with | [_, _], _ => rfl
  have F_begin_of := fun_mk (st := s_begin_of) l_begin_of c_begin_of k_begin_of
  have b_begin_of := F_begin_of.binds (ps := ["turns"]) fun _ _ _ _ _ _ us hl => match us, hl with | [_], _ => rfl
  have F_then := fun_mk (st := s_then) l_then c_then k_then
  have b_then := F_then.binds (ps := ["first", "second"]) fun _ _ _ _ _ _ us hl => match us, hl with | [_, _], _ => rfl
  have F_has_met := fun_mk (st := s_has_met) l_has_met c_has_met k_has_met
  have b_has_met := F_has_met.binds (ps := ["one"]) fun _ _ _ _ _ _ us hl => match us, hl with | [_], _ => rfl
  have F_is_pair := fun_mk (st := s_is_pair) l_is_pair c_is_pair k_is_pair
  have b_is_pair := F_is_pair.binds (ps := ["thing", "many"]) fun _ _ _ _ _ _ us hl => match us, hl with | [_, _], _ => rfl
  have F_above := fun_mk (st := s_above) l_above c_above k_above
  have b_above := F_above.binds (ps := ["pairs", "many"]) fun _ _ _ _ _ _ us hl => match us, hl with | [_, _], _ => rfl
  have F_Order_init := fun_mk (st := s_Order_init) l_Order_init c_Order_init k_Order_init
  have b_Order_init := F_Order_init.binds (ps := ["self", "many", "pairs"]) fun _ _ _ _ _ _ us hl => match us, hl with | [_, _, _], _ => rfl
  have F_Order_len := fun_mk (st := s_Order_len) l_Order_len c_Order_len k_Order_len
  have b_Order_len := F_Order_len.binds (ps := ["self"]) fun _ _ _ _ _ _ us hl => match us, hl with | [_], _ => rfl
  have F_Order_at_most := fun_mk (st := s_Order_at_most) l_Order_at_most c_Order_at_most k_Order_at_most
  have b_Order_at_most := F_Order_at_most.binds (ps := ["self", "x", "y"]) fun _ _ _ _ _ _ us hl => match us, hl with | [_, _, _], _ => rfl
  have F_Order_least := fun_mk (st := s_Order_least) l_Order_least c_Order_least k_Order_least
  have b_Order_least := F_Order_least.binds (ps := ["self"]) fun _ _ _ _ _ _ us hl => match us, hl with | [_], _ => rfl
  have F_Order_greatest := fun_mk (st := s_Order_greatest) l_Order_greatest c_Order_greatest k_Order_greatest
  have b_Order_greatest := F_Order_greatest.binds (ps := ["self"]) fun _ _ _ _ _ _ us hl => match us, hl with | [_], _ => rfl
  have F_not_kept := fun_mk (st := s_not_kept) l_not_kept c_not_kept k_not_kept
  have b_not_kept := F_not_kept.binds (ps := ["turns", "order"]) fun _ _ _ _ _ _ us hl => match us, hl with | [_, _], _ => rfl
  have F_NotKept_init := fun_mk (st := s_NotKept_init) l_NotKept_init c_NotKept_init k_NotKept_init
  have b_NotKept_init := F_NotKept_init.binds (ps := ["self", "kept"]) fun _ _ _ _ _ _ us hl => match us, hl with | [_, _], _ => rfl
  have F_drawn_between := fun_mk (st := s_drawn_between) l_drawn_between c_drawn_between k_drawn_between
  have b_drawn_between := F_drawn_between.binds (ps := ["turns", "order", "signs"]) fun _ _ _ _ _ _ us hl => match us, hl with | [_, _, _], _ => rfl
  have F_is_tie := fun_mk (st := s_is_tie) l_is_tie c_is_tie k_is_tie
  have b_is_tie := F_is_tie.binds (ps := ["thing", "spots"]) fun _ _ _ _ _ _ us hl => match us, hl with | [_, _], _ => rfl
  have F_are_ties := fun_mk (st := s_are_ties) l_are_ties c_are_ties k_are_ties
  have b_are_ties := F_are_ties.binds (ps := ["thing", "spots"]) fun _ _ _ _ _ _ us hl => match us, hl with | [_, _], _ => rfl
  have F_are_levels := fun_mk (st := s_are_levels) l_are_levels c_are_levels k_are_levels
  have b_are_levels := F_are_levels.binds (ps := ["thing", "spots", "whole"]) fun _ _ _ _ _ _ us hl => match us, hl with | [_, _, _], _ => rfl
  have F_Web_init := fun_mk (st := s_Web_init) l_Web_init c_Web_init k_Web_init
  have b_Web_init := F_Web_init.binds (ps := ["self", "spots", "ties", "whole", "levels"]) fun _ _ _ _ _ _ us hl => match us, hl with | [_, _, _, _, _], _ => rfl
  have F_is_up := fun_mk (st := s_is_up) l_is_up c_is_up k_is_up
  have b_is_up := F_is_up.binds (ps := ["place", "spot"]) fun _ _ _ _ _ _ us hl => match us, hl with | [_, _], _ => rfl
  have F_tied_to := fun_mk (st := s_tied_to) l_tied_to c_tied_to k_tied_to
  have b_tied_to := F_tied_to.binds (ps := ["web", "spot"]) fun _ _ _ _ _ _ us hl => match us, hl with | [_, _], _ => rfl
  have F_moved := fun_mk (st := s_moved) l_moved c_moved k_moved
  have b_moved := F_moved.binds (ps := ["web", "place", "spot", "number"]) fun _ _ _ _ _ _ us hl => match us, hl with | [_, _, _, _], _ => rfl
  have F_turns_of := fun_mk (st := s_turns_of) l_turns_of c_turns_of k_turns_of
  have b_turns_of := F_turns_of.binds (ps := ["web"]) fun _ _ _ _ _ _ us hl => match us, hl with | [_], _ => rfl
  have F_order_of := fun_mk (st := s_order_of) l_order_of c_order_of k_order_of
  have b_order_of := F_order_of.binds (ps := ["web"]) fun _ _ _ _ _ _ us hl => match us, hl with | [_], _ => rfl
  have F_Draw_init := fun_mk (st := s_Draw_init) l_Draw_init c_Draw_init k_Draw_init
  have b_Draw_init := F_Draw_init.binds (ps := ["self", "turns"]) fun _ _ _ _ _ _ us hl => match us, hl with | [_, _], _ => rfl
  have F_Draw_place := fun_mk (st := s_Draw_place) l_Draw_place c_Draw_place k_Draw_place
  have b_Draw_place := F_Draw_place.binds (ps := ["self"]) fun _ _ _ _ _ _ us hl => match us, hl with | [_], _ => rfl
  have F_Draw_used := fun_mk (st := s_Draw_used) l_Draw_used c_Draw_used k_Draw_used
  have b_Draw_used := F_Draw_used.binds (ps := ["self"]) fun _ _ _ _ _ _ us hl => match us, hl with | [_], _ => rfl
  have F_Draw_elder := fun_mk (st := s_Draw_elder) l_Draw_elder c_Draw_elder k_Draw_elder
  have b_Draw_elder := F_Draw_elder.binds (ps := ["self", "sign"]) fun _ _ _ _ _ _ us hl => match us, hl with | [_, _], _ => rfl
  have F_drawn := fun_mk (st := s_drawn) l_drawn c_drawn k_drawn
  have b_drawn := F_drawn.binds (ps := ["turns", "signs"]) fun _ _ _ _ _ _ us hl => match us, hl with | [_, _], _ => rfl
  have F__law_well := fun_mk (st := s__law_well) l__law_well c__law_well k__law_well
  have b__law_well := F__law_well.binds (ps := ["_law_cell"]) fun _ _ _ _ _ _ us hl => match us, hl with | [_], _ => rfl
  have F__law_draw := fun_mk (st := s__law_draw) l__law_draw c__law_draw k__law_draw
  have b__law_draw := F__law_draw.binds (ps := ["_law_well_here", "_law_many"]) fun _ _ _ _ _ _ us hl => match us, hl with | [_, _], _ => rfl
  have F__law_one := fun_mk (st := s__law_one) l__law_one c__law_one k__law_one
  have b__law_one := F__law_one.binds (ps := ["_law_well_here", "_law_some"]) fun _ _ _ _ _ _ us hl => match us, hl with | [_, _], _ => rfl
  have F__law_web := fun_mk (st := s__law_web) l__law_web c__law_web k__law_web
  have b__law_web := F__law_web.binds (ps := ["_law_well_here"]) fun _ _ _ _ _ _ us hl => match us, hl with | [_], _ => rfl
  have F__law_told := fun_mk (st := s__law_told) l__law_told c__law_told k__law_told
  have b__law_told := F__law_told.binds (ps := ["_law_turns", "_law_order", "_law_signs"]) fun _ _ _ _ _ _ us hl => match us, hl with | [_, _, _], _ => rfl
  have F__law_right := fun_mk (st := s__law_right) l__law_right c__law_right k__law_right
  have b__law_right := F__law_right.binds (ps := ["_law_turns", "_law_order", "_law_signs", "_law_rises"]) fun _ _ _ _ _ _ us hl => match us, hl with | [_, _, _, _], _ => rfl
  have F_law := fun_mk (st := s_law) l_law c_law k_law
  have b_law := F_law.binds (ps := ["_law_script"]) fun _ _ _ _ _ _ us hl => match us, hl with | [_], _ => rfl
  let T : Tx K mg := {
a_is_whole := f_is_whole,
    d_is_whole := _,
    F_is_whole := F_is_whole,
    b_is_whole := b_is_whole,
    g_is_whole := PySem.W.mg_of X G a_is_whole,
    a_is_between := f_is_between,
    d_is_between := _,
    F_is_between := F_is_between,
    b_is_between := b_is_between,
    g_is_between := PySem.W.mg_of X G a_is_between,
    a_is_map := f_is_map,
    d_is_map := _,
    F_is_map := F_is_map,
    b_is_map := b_is_map,
    g_is_map := PySem.W.mg_of X G a_is_map,
    a_Turns_init := f_Turns_init,
    d_Turns_init := _,
    F_Turns_init := F_Turns_init,
    b_Turns_init := b_Turns_init,
    a_Turns_len := f_Turns_len,
    d_Turns_len := _,
    F_Turns_len := F_Turns_len,
    b_Turns_len := b_Turns_len,
    a_check_signs := f_check_signs,
    d_check_signs := _,
    F_check_signs := F_check_signs,
    b_check_signs := b_check_signs,
    g_check_signs := PySem.W.mg_of X G a_check_signs,
    a_begin_of := f_begin_of,
    d_begin_of := _,
    F_begin_of := F_begin_of,
    b_begin_of := b_begin_of,
    g_begin_of := PySem.W.mg_of X G a_begin_of,
    a_then := f_then,
    d_then := _,
    F_then := F_then,
    b_then := b_then,
    g_then := PySem.W.mg_of X G a_then,
    a_has_met := f_has_met,
    d_has_met := _,
    F_has_met := F_has_met,
    b_has_met := b_has_met,
    g_has_met := PySem.W.mg_of X G a_has_met,
    a_is_pair := f_is_pair,
    d_is_pair := _,
    F_is_pair := F_is_pair,
    b_is_pair := b_is_pair,
    g_is_pair := PySem.W.mg_of X G a_is_pair,
    a_above := f_above,
    d_above := _,
    F_above := F_above,
    b_above := b_above,
    g_above := PySem.W.mg_of X G a_above,
    a_Order_init := f_Order_init,
    d_Order_init := _,
    F_Order_init := F_Order_init,
    b_Order_init := b_Order_init,
    a_Order_len := f_Order_len,
    d_Order_len := _,
    F_Order_len := F_Order_len,
    b_Order_len := b_Order_len,
    a_Order_at_most := f_Order_at_most,
    d_Order_at_most := _,
    F_Order_at_most := F_Order_at_most,
    b_Order_at_most := b_Order_at_most,
    a_Order_least := f_Order_least,
    d_Order_least := _,
    F_Order_least := F_Order_least,
    b_Order_least := b_Order_least,
    a_Order_greatest := f_Order_greatest,
    d_Order_greatest := _,
    F_Order_greatest := F_Order_greatest,
    b_Order_greatest := b_Order_greatest,
    a_not_kept := f_not_kept,
    d_not_kept := _,
    F_not_kept := F_not_kept,
    b_not_kept := b_not_kept,
    g_not_kept := PySem.W.mg_of X G a_not_kept,
    a_NotKept_init := f_NotKept_init,
    d_NotKept_init := _,
    F_NotKept_init := F_NotKept_init,
    b_NotKept_init := b_NotKept_init,
    a_drawn_between := f_drawn_between,
    d_drawn_between := _,
    F_drawn_between := F_drawn_between,
    b_drawn_between := b_drawn_between,
    g_drawn_between := PySem.W.mg_of X G a_drawn_between,
    a_is_tie := f_is_tie,
    d_is_tie := _,
    F_is_tie := F_is_tie,
    b_is_tie := b_is_tie,
    g_is_tie := PySem.W.mg_of X G a_is_tie,
    a_are_ties := f_are_ties,
    d_are_ties := _,
    F_are_ties := F_are_ties,
    b_are_ties := b_are_ties,
    g_are_ties := PySem.W.mg_of X G a_are_ties,
    a_are_levels := f_are_levels,
    d_are_levels := _,
    F_are_levels := F_are_levels,
    b_are_levels := b_are_levels,
    g_are_levels := PySem.W.mg_of X G a_are_levels,
    a_Web_init := f_Web_init,
    d_Web_init := _,
    F_Web_init := F_Web_init,
    b_Web_init := b_Web_init,
    a_is_up := f_is_up,
    d_is_up := _,
    F_is_up := F_is_up,
    b_is_up := b_is_up,
    g_is_up := PySem.W.mg_of X G a_is_up,
    a_tied_to := f_tied_to,
    d_tied_to := _,
    F_tied_to := F_tied_to,
    b_tied_to := b_tied_to,
    g_tied_to := PySem.W.mg_of X G a_tied_to,
    a_moved := f_moved,
    d_moved := _,
    F_moved := F_moved,
    b_moved := b_moved,
    g_moved := PySem.W.mg_of X G a_moved,
    a_turns_of := f_turns_of,
    d_turns_of := _,
    F_turns_of := F_turns_of,
    b_turns_of := b_turns_of,
    g_turns_of := PySem.W.mg_of X G a_turns_of,
    a_order_of := f_order_of,
    d_order_of := _,
    F_order_of := F_order_of,
    b_order_of := b_order_of,
    g_order_of := PySem.W.mg_of X G a_order_of,
    a_Draw_init := f_Draw_init,
    d_Draw_init := _,
    F_Draw_init := F_Draw_init,
    b_Draw_init := b_Draw_init,
    a_Draw_place := f_Draw_place,
    d_Draw_place := _,
    F_Draw_place := F_Draw_place,
    b_Draw_place := b_Draw_place,
    a_Draw_used := f_Draw_used,
    d_Draw_used := _,
    F_Draw_used := F_Draw_used,
    b_Draw_used := b_Draw_used,
    a_Draw_elder := f_Draw_elder,
    d_Draw_elder := _,
    F_Draw_elder := F_Draw_elder,
    b_Draw_elder := b_Draw_elder,
    a_drawn := f_drawn,
    d_drawn := _,
    F_drawn := F_drawn,
    b_drawn := b_drawn,
    g_drawn := PySem.W.mg_of X G a_drawn,
    a__law_well := f__law_well,
    d__law_well := _,
    F__law_well := F__law_well,
    b__law_well := b__law_well,
    g__law_well := PySem.W.mg_of X G a__law_well,
    a__law_draw := f__law_draw,
    d__law_draw := _,
    F__law_draw := F__law_draw,
    b__law_draw := b__law_draw,
    g__law_draw := PySem.W.mg_of X G a__law_draw,
    a__law_one := f__law_one,
    d__law_one := _,
    F__law_one := F__law_one,
    b__law_one := b__law_one,
    g__law_one := PySem.W.mg_of X G a__law_one,
    a__law_web := f__law_web,
    d__law_web := _,
    F__law_web := F__law_web,
    b__law_web := b__law_web,
    g__law_web := PySem.W.mg_of X G a__law_web,
    a__law_told := f__law_told,
    d__law_told := _,
    F__law_told := F__law_told,
    b__law_told := b__law_told,
    g__law_told := PySem.W.mg_of X G a__law_told,
    a__law_right := f__law_right,
    d__law_right := _,
    F__law_right := F__law_right,
    b__law_right := b__law_right,
    g__law_right := PySem.W.mg_of X G a__law_right,
    a_law := f_law,
    d_law := _,
    F_law := F_law,
    b_law := b_law,
    g_law := PySem.W.mg_of X G a_law,
    C_Draw := C_Draw,
    cl_Draw := ⟨pg_Draw, hd_Draw, po_Draw, sa_Draw⟩,
    g_Draw := PySem.W.mg_of X G aC_Draw,
    mk_Draw := ⟨mk_Draw, a_Draw_init, i_Draw_init, kc_Draw⟩,
    C_Order := C_Order,
    cl_Order := ⟨pg_Order, hd_Order, po_Order, sa_Order⟩,
    g_Order := PySem.W.mg_of X G aC_Order,
    mk_Order := ⟨mk_Order, a_Order_init, i_Order_init, kc_Order⟩,
    C_Turns := C_Turns,
    cl_Turns := ⟨pg_Turns, hd_Turns, po_Turns, sa_Turns⟩,
    g_Turns := PySem.W.mg_of X G aC_Turns,
    mk_Turns := ⟨mk_Turns, a_Turns_init, i_Turns_init, kc_Turns⟩,
    C_Web := C_Web,
    cl_Web := ⟨pg_Web, hd_Web, po_Web, sa_Web⟩,
    g_Web := PySem.W.mg_of X G aC_Web,
    mk_Web := ⟨mk_Web, a_Web_init, i_Web_init, kc_Web⟩,
    C_DrawError := C_DrawError,
    g_DrawError := PySem.W.mg_of X G aC_DrawError,
    base_DrawError := ⟨bg_DrawError, br_DrawError, bt_DrawError, bi_DrawError⟩,
    C_NotKept := C_NotKept,
    g_NotKept := PySem.W.mg_of X G aC_NotKept,
    oex_NotKept := ⟨⟨_, _, _, _, _, _, _, _, _, _, _, _, _, _, _, xL_NotKept, xv_NotKept⟩, xsa_NotKept, xec_NotKept, xty_NotKept, xkc_NotKept⟩,
    ii_NotKept := a_NotKept_init,
    tf_NotKept := xtf_NotKept,
    xf_NotKept := ⟨xga_NotKept, xgg_NotKept, xec_NotKept, xhd_NotKept⟩,
    nf_NotKept := xnf_NotKept,
    te_NotKept := exm_self xec_NotKept xic_NotKept xty_NotKept xsc_NotKept,
    m_Draw_elder := ⟨a_Draw_elder, i_Draw_elder, k_Draw_elder⟩,
    m_Draw_place := ⟨a_Draw_place, i_Draw_place, k_Draw_place⟩,
    m_Draw_used := ⟨a_Draw_used, i_Draw_used, k_Draw_used⟩,
    m_Order_len := ⟨a_Order_len, i_Order_len, k_Order_len⟩,
    m_Order_at_most := ⟨a_Order_at_most, i_Order_at_most, k_Order_at_most⟩,
    m_Order_greatest := ⟨a_Order_greatest, i_Order_greatest, k_Order_greatest⟩,
    m_Order_least := ⟨a_Order_least, i_Order_least, k_Order_least⟩,
    m_Turns_len := ⟨a_Turns_len, i_Turns_len, k_Turns_len⟩,
    na_Draw_found := na_Draw_found,
    na_Draw_many := na_Draw_many,
    na_Draw_told := na_Draw_told,
    na_Draw_turns := na_Draw_turns,
    na_Order_higher := na_Order_higher,
    na_Turns_many := na_Turns_many,
    na_Turns_maps := na_Turns_maps,
    na_Web_levels := na_Web_levels,
    na_Web_spots := na_Web_spots,
    na_Web_ties := na_Web_ties,
    na_Web_whole := na_Web_whole,
    z_all := PySem.W.mg_none_of X G z_all,
    z_any := PySem.W.mg_none_of X G z_any,
    z_bool := PySem.W.mg_none_of X G z_bool,
    z_enumerate := PySem.W.mg_none_of X G z_enumerate,
    z_int := PySem.W.mg_none_of X G z_int,
    z_isinstance := PySem.W.mg_none_of X G z_isinstance,
    z_len := PySem.W.mg_none_of X G z_len,
    z_list := PySem.W.mg_none_of X G z_list,
    z_range := PySem.W.mg_none_of X G z_range,
    z_set := PySem.W.mg_none_of X G z_set,
    z_sorted := PySem.W.mg_none_of X G z_sorted,
    z_tuple := PySem.W.mg_none_of X G z_tuple,
    t_MOST_PLACES_orders := t_MOST_PLACES_orders,
    c_MOST_PLACES_orders := PySem.W.mg_of X G g_MOST_PLACES_orders,
    t_MOST_PLACES_turns := t_MOST_PLACES_turns,
    c_MOST_PLACES_turns := PySem.W.mg_of X G g_MOST_PLACES_turns,
    t_MOST_SIGNS := t_MOST_SIGNS,
    c_MOST_SIGNS := PySem.W.mg_of X G g_MOST_SIGNS,
    t_MOST_SPOTS := t_MOST_SPOTS,
    c_MOST_SPOTS := PySem.W.mg_of X G g_MOST_SPOTS,
    t_MOST_WHOLE := t_MOST_WHOLE,
    c_MOST_WHOLE := PySem.W.mg_of X G g_MOST_WHOLE,
    q_WORTHS := q_WORTHS,
    w_WORTHS := ⟨_, _, _, w_WORTHS, rfl, rfl, (by show 6 ≤ sizeLine; decide), (.cons ⟨_, rfl⟩ (.cons ⟨_, rfl⟩ (.cons ⟨_, rfl⟩ (.cons ⟨_, rfl⟩ (.cons ⟨_, rfl⟩ (.cons ⟨_, rfl⟩ .nil))))))⟩,
    c_WORTHS := PySem.W.mg_of X G g_WORTHS }
  refine ⟨_, fun s v => ?bb, fun base _ _ => ok_law T⟩
  case bb => exact .of_eq rfl
theorem walk {l : PySem.W.OpenLaw} {q : Program} {loose : List Str} {XP : (Str → Option Value) → Heap → Prop} {YP : World → Heap → Prop} {d : DefRec} {K : Params → PySem.W.Frag} (hn : l.most = some 63) (hdf : d.params.defaults = [])
    (hY : ∀ (w : World) (h : Heap), YP w h → (K w.params).In h)
    (F : ∀ (w : World) (mg : Str → Option Value) (fa : Addr) (h : Heap), (K w.params).In h → h.Ns mainGlobals mg → mg d.name = some (.ref fa) →
      ∃ fd : FuncData, (∀ (s : Shared) (u : Value), BindsTo s fd ⟨[u], []⟩ [("_law_script", u)]) ∧ ∀ base : Heap, (K w.params).In base → base.Ns mainGlobals mg → FnOk l.prog w (K w.params) mg base CX0 8 fa fd ["_law_script"] (spLaw (K w.params))) :
    PySem.W.WalkO q loose XP YP l.row.toRowW d [] (fun f vs => PySem.call f vs) :=
  L2.walk_of (n := 63) (k := 8) (x := "_law_script") (CX := fun _ => CX0) (sp := fun w => spLaw (K w.params)) hn (by decide) hdf ⟨rfl, by decide, by decide⟩ hY F (fun _ _ a ns hl _ hS => ⟨a, ns, rfl, hS, hl, fun _ => rfl⟩) fun _ _ _ _ _ z => z
end K86
open PySem PySem.W PyProof.Rows
set_option maxRecDepth 100000 in
set_option maxHeartbeats 0 in
theorem PySem.Challenge.cw_elderdraw_k86_whole_webs_between_their_e_holds : PySem.Challenge.rw_elderdraw_k86_whole_webs_between_their_e.Holds := by
  w_on; o_law; k_head; (case hw => w_witness2)
  k_fill
  refine K86.walk (l := PySem.Challenge.rw_elderdraw_k86_whole_webs_between_their_e) rfl rfl (fun w h Y => PySem.W.kIn_of Y) ?F
  case F =>
    intro w mg fa h KX G hmg
    refine' K86.all_mk KX G hmg ?aC_Draw ?aC_Order ?aC_Turns ?aC_Web ?aC_DrawError ?aC_NotKept ?a_is_whole ?l_is_whole ?c_is_whole ?k_is_whole ?a_is_between ?l_is_between ?c_is_between ?k_is_between ?a_is_map ?l_is_map ?c_is_map ?k_is_map ?a_Turns_init ?i_Turns_init ?l_Turns_init ?c_Turns_init ?k_Turns_init ?a_Turns_len ?i_Turns_len ?l_Turns_len ?c_Turns_len ?k_Turns_len ?a_check_signs ?l_check_signs ?c_check_signs ?k_check_signs ?a_begin_of ?l_begin_of ?c_begin_of ?k_begin_of ?a_then ?l_then ?c_then ?k_then ?a_has_met ?l_has_met ?c_has_met ?k_has_met ?a_is_pair ?l_is_pair ?c_is_pair ?k_is_pair ?a_above ?l_above ?c_above ?k_above ?a_Order_init ?i_Order_init ?l_Order_init ?c_Order_init ?k_Order_init ?a_Order_len ?i_Order_len ?l_Order_len ?c_Order_len ?k_Order_len ?a_Order_at_most ?i_Order_at_most ?l_Order_at_most ?c_Order_at_most ?k_Order_at_most ?a_Order_least ?i_Order_least ?l_Order_least ?c_Order_least ?k_Order_least ?a_Order_greatest ?i_Order_greatest ?l_Order_greatest ?c_Order_greatest ?k_Order_greatest ?a_not_kept ?l_not_kept ?c_not_kept ?k_not_kept ?a_NotKept_init ?i_NotKept_init ?l_NotKept_init ?c_NotKept_init ?k_NotKept_init ?a_drawn_between ?l_drawn_between ?c_drawn_between ?k_drawn_between ?a_is_tie ?l_is_tie ?c_is_tie ?k_is_tie ?a_are_ties ?l_are_ties ?c_are_ties ?k_are_ties ?a_are_levels ?l_are_levels ?c_are_levels ?k_are_levels ?a_Web_init ?i_Web_init ?l_Web_init ?c_Web_init ?k_Web_init ?a_is_up ?l_is_up ?c_is_up ?k_is_up ?a_tied_to ?l_tied_to ?c_tied_to ?k_tied_to ?a_moved ?l_moved ?c_moved ?k_moved ?a_turns_of ?l_turns_of ?c_turns_of ?k_turns_of ?a_order_of ?l_order_of ?c_order_of ?k_order_of ?a_Draw_init ?i_Draw_init ?l_Draw_init ?c_Draw_init ?k_Draw_init ?a_Draw_place ?i_Draw_place ?l_Draw_place ?c_Draw_place ?k_Draw_place ?a_Draw_used ?i_Draw_used ?l_Draw_used ?c_Draw_used ?k_Draw_used ?a_Draw_elder ?i_Draw_elder ?l_Draw_elder ?c_Draw_elder ?k_Draw_elder ?a_drawn ?l_drawn ?c_drawn ?k_drawn ?a__law_well ?l__law_well ?c__law_well ?k__law_well ?a__law_draw ?l__law_draw ?c__law_draw ?k__law_draw ?a__law_one ?l__law_one ?c__law_one ?k__law_one ?a__law_web ?l__law_web ?c__law_web ?k__law_web ?a__law_told ?l__law_told ?c__law_told ?k__law_told ?a__law_right ?l__law_right ?c__law_right ?k__law_right ?a_law ?l_law ?c_law ?k_law ?pg_Draw ?hd_Draw ?po_Draw ?sa_Draw ?kc_Draw ?mk_Draw ?pg_Order ?hd_Order ?po_Order ?sa_Order ?kc_Order ?mk_Order ?pg_Turns ?hd_Turns ?po_Turns ?sa_Turns ?kc_Turns ?mk_Turns ?pg_Web ?hd_Web ?po_Web ?sa_Web ?kc_Web ?mk_Web ?bg_DrawError ?br_DrawError ?bt_DrawError ?bi_DrawError ?xL_NotKept ?xv_NotKept ?xsa_NotKept ?xec_NotKept ?xty_NotKept ?xkc_NotKept ?xtf_NotKept ?xga_NotKept ?xgg_NotKept ?xhd_NotKept ?xnf_NotKept ?xic_NotKept ?xsc_NotKept ?na_Draw_found ?na_Draw_many ?na_Draw_told ?na_Draw_turns ?na_Order_higher ?na_Turns_many ?na_Turns_maps ?na_Web_levels ?na_Web_spots ?na_Web_ties ?na_Web_whole ?z_all ?z_any ?z_bool ?z_enumerate ?z_int ?z_isinstance ?z_len ?z_list ?z_range ?z_set ?z_sorted ?z_tuple ?g_MOST_PLACES_orders ?g_MOST_PLACES_turns ?g_MOST_SIGNS ?g_MOST_SPOTS ?g_MOST_WHOLE ?g_WORTHS ?w_WORTHS
    (case aC_Draw => k_is)
    (case aC_Order => k_is)
    (case aC_Turns => k_is)
    (case aC_Web => k_is)
    (case aC_DrawError => k_is)
    (case aC_NotKept => k_is)
    (case a_is_whole => k_is)
    (case l_is_whole => k_is)
    (case c_is_whole => k_is)
    (case k_is_whole => k_is)
    (case a_is_between => k_is)
    (case l_is_between => k_is)
    (case c_is_between => k_is)
    (case k_is_between => k_is)
    (case a_is_map => k_is)
    (case l_is_map => k_is)
    (case c_is_map => k_is)
    (case k_is_map => k_is)
    (case a_Turns_init => k_is)
    (case i_Turns_init => k_is)
    (case l_Turns_init => k_is)
    (case c_Turns_init => k_is)
    (case k_Turns_init => k_is)
    (case a_Turns_len => k_is)
    (case i_Turns_len => k_is)
    (case l_Turns_len => k_is)
    (case c_Turns_len => k_is)
    (case k_Turns_len => k_is)
    (case a_check_signs => k_is)
    (case l_check_signs => k_is)
    (case c_check_signs => k_is)
    (case k_check_signs => k_is)
    (case a_begin_of => k_is)
    (case l_begin_of => k_is)
    (case c_begin_of => k_is)
    (case k_begin_of => k_is)
    (case a_then => k_is)
    (case l_then => k_is)
    (case c_then => k_is)
    (case k_then => k_is)
    (case a_has_met => k_is)
    (case l_has_met => k_is)
    (case c_has_met => k_is)
    (case k_has_met => k_is)
    (case a_is_pair => k_is)
    (case l_is_pair => k_is)
    (case c_is_pair => k_is)
    (case k_is_pair => k_is)
    (case a_above => k_is)
    (case l_above => k_is)
    (case c_above => k_is)
    (case k_above => k_is)
    (case a_Order_init => k_is)
    (case i_Order_init => k_is)
    (case l_Order_init => k_is)
    (case c_Order_init => k_is)
    (case k_Order_init => k_is)
    (case a_Order_len => k_is)
    (case i_Order_len => k_is)
    (case l_Order_len => k_is)
    (case c_Order_len => k_is)
    (case k_Order_len => k_is)
    (case a_Order_at_most => k_is)
    (case i_Order_at_most => k_is)
    (case l_Order_at_most => k_is)
    (case c_Order_at_most => k_is)
    (case k_Order_at_most => k_is)
    (case a_Order_least => k_is)
    (case i_Order_least => k_is)
    (case l_Order_least => k_is)
    (case c_Order_least => k_is)
    (case k_Order_least => k_is)
    (case a_Order_greatest => k_is)
    (case i_Order_greatest => k_is)
    (case l_Order_greatest => k_is)
    (case c_Order_greatest => k_is)
    (case k_Order_greatest => k_is)
    (case a_not_kept => k_is)
    (case l_not_kept => k_is)
    (case c_not_kept => k_is)
    (case k_not_kept => k_is)
    (case a_NotKept_init => k_is)
    (case i_NotKept_init => k_is)
    (case l_NotKept_init => k_is)
    (case c_NotKept_init => k_is)
    (case k_NotKept_init => k_is)
    (case a_drawn_between => k_is)
    (case l_drawn_between => k_is)
    (case c_drawn_between => k_is)
    (case k_drawn_between => k_is)
    (case a_is_tie => k_is)
    (case l_is_tie => k_is)
    (case c_is_tie => k_is)
    (case k_is_tie => k_is)
    (case a_are_ties => k_is)
    (case l_are_ties => k_is)
    (case c_are_ties => k_is)
    (case k_are_ties => k_is)
    (case a_are_levels => k_is)
    (case l_are_levels => k_is)
    (case c_are_levels => k_is)
    (case k_are_levels => k_is)
    (case a_Web_init => k_is)
    (case i_Web_init => k_is)
    (case l_Web_init => k_is)
    (case c_Web_init => k_is)
    (case k_Web_init => k_is)
    (case a_is_up => k_is)
    (case l_is_up => k_is)
    (case c_is_up => k_is)
    (case k_is_up => k_is)
    (case a_tied_to => k_is)
    (case l_tied_to => k_is)
    (case c_tied_to => k_is)
    (case k_tied_to => k_is)
    (case a_moved => k_is)
    (case l_moved => k_is)
    (case c_moved => k_is)
    (case k_moved => k_is)
    (case a_turns_of => k_is)
    (case l_turns_of => k_is)
    (case c_turns_of => k_is)
    (case k_turns_of => k_is)
    (case a_order_of => k_is)
    (case l_order_of => k_is)
    (case c_order_of => k_is)
    (case k_order_of => k_is)
    (case a_Draw_init => k_is)
    (case i_Draw_init => k_is)
    (case l_Draw_init => k_is)
    (case c_Draw_init => k_is)
    (case k_Draw_init => k_is)
    (case a_Draw_place => k_is)
    (case i_Draw_place => k_is)
    (case l_Draw_place => k_is)
    (case c_Draw_place => k_is)
    (case k_Draw_place => k_is)
    (case a_Draw_used => k_is)
    (case i_Draw_used => k_is)
    (case l_Draw_used => k_is)
    (case c_Draw_used => k_is)
    (case k_Draw_used => k_is)
    (case a_Draw_elder => k_is)
    (case i_Draw_elder => k_is)
    (case l_Draw_elder => k_is)
    (case c_Draw_elder => k_is)
    (case k_Draw_elder => k_is)
    (case a_drawn => k_is)
    (case l_drawn => k_is)
    (case c_drawn => k_is)
    (case k_drawn => k_is)
    (case a__law_well => k_is)
    (case l__law_well => k_is)
    (case c__law_well => k_is)
    (case k__law_well => k_is)
    (case a__law_draw => k_is)
    (case l__law_draw => k_is)
    (case c__law_draw => k_is)
    (case k__law_draw => k_is)
    (case a__law_one => k_is)
    (case l__law_one => k_is)
    (case c__law_one => k_is)
    (case k__law_one => k_is)
    (case a__law_web => k_is)
    (case l__law_web => k_is)
    (case c__law_web => k_is)
    (case k__law_web => k_is)
    (case a__law_told => k_is)
    (case l__law_told => k_is)
    (case c__law_told => k_is)
    (case k__law_told => k_is)
    (case a__law_right => k_is)
    (case l__law_right => k_is)
    (case c__law_right => k_is)
    (case k__law_right => k_is)
    (case a_law => k_is)
    (case l_law => k_is)
    (case c_law => k_is)
    (case k_law => k_is)
    (case pg_Draw => k_is)
    (case hd_Draw => k_is)
    (case po_Draw => k_is)
    (case sa_Draw => k_is)
    (case kc_Draw => k_is)
    (case mk_Draw => k_is)
    (case pg_Order => k_is)
    (case hd_Order => k_is)
    (case po_Order => k_is)
    (case sa_Order => k_is)
    (case kc_Order => k_is)
    (case mk_Order => k_is)
    (case pg_Turns => k_is)
    (case hd_Turns => k_is)
    (case po_Turns => k_is)
    (case sa_Turns => k_is)
    (case kc_Turns => k_is)
    (case mk_Turns => k_is)
    (case pg_Web => k_is)
    (case hd_Web => k_is)
    (case po_Web => k_is)
    (case sa_Web => k_is)
    (case kc_Web => k_is)
    (case mk_Web => k_is)
    (case bg_DrawError => k_is)
    (case br_DrawError => k_is)
    (case bt_DrawError => k_is)
    (case bi_DrawError => k_is)
    (case xL_NotKept => k_is)
    (case xv_NotKept => decide +kernel)
    (case xsa_NotKept => k_is)
    (case xec_NotKept => k_is)
    (case xty_NotKept => k_is)
    (case xkc_NotKept => k_is)
    (case xtf_NotKept => k_is)
    (case xga_NotKept => k_is)
    (case xgg_NotKept => k_is)
    (case xhd_NotKept => k_is)
    (case xnf_NotKept => k_is)
    (case xic_NotKept => k_is)
    (case xsc_NotKept => first | rfl | k_is)
    (case na_Draw_found => k_is)
    (case na_Draw_many => k_is)
    (case na_Draw_told => k_is)
    (case na_Draw_turns => k_is)
    (case na_Order_higher => k_is)
    (case na_Turns_many => k_is)
    (case na_Turns_maps => k_is)
    (case na_Web_levels => k_is)
    (case na_Web_spots => k_is)
    (case na_Web_ties => k_is)
    (case na_Web_whole => k_is)
    (case z_all => k_is)
    (case z_any => k_is)
    (case z_bool => k_is)
    (case z_enumerate => k_is)
    (case z_int => k_is)
    (case z_isinstance => k_is)
    (case z_len => k_is)
    (case z_list => k_is)
    (case z_range => k_is)
    (case z_set => k_is)
    (case z_sorted => k_is)
    (case z_tuple => k_is)
    (case g_MOST_PLACES_orders => k_is)
    (case g_MOST_PLACES_turns => k_is)
    (case g_MOST_SIGNS => k_is)
    (case g_MOST_SPOTS => k_is)
    (case g_MOST_WHOLE => k_is)
    (case g_WORTHS => k_is)
    (case w_WORTHS => k_is)

