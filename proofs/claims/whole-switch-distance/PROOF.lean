import PyProof.Rows.All
import Wide.All
import OpenK.AllK
import Wide.FinOn
import HandS.ForMost
import HandS.Wide
import HandS.Property
import HandS.Defaults
import HandS.IsInst
import HandS.Star
import HandS.Style
import HandS.OwnEq
import HandS.DictComp
import HandS.Walk
import HandS.TupLe
import HandS.HeadHook1
import HandS.Words
import OpenK.KMeth
import PySem.Challenge.RW_notbehind_k69_whole_switch_distance_show
import HandS.HeadHook2
import HandS.HeadHook3
import HandS.HeadHook4
import HandS.HeadWalk
import HandS.Head0
import HandS.Head1
import HandS.Head2
import KE.KStateDown
import KE.GoesMore
import HandS.TryMany
import HandS.ExcOwn
import HandS.ExcInit
import HandS.ExcField
import HandS.Lambda
set_option Elab.async false
set_option linter.all false
set_option maxRecDepth 100000
set_option maxHeartbeats 2000000
namespace Nb
open PySem L2

/-! ### relations between values and data -/
abbrev Rl (α : Type) := Hp → V → α → Prop
/-- the heap without the owned objects -/
def wo (H : Hp) (O : List Addr) : Hp := fun b => if b ∈ O then none else H b
def Dom (O : List Addr) (H : Hp) : Prop := ∀ o ∈ O, H o ≠ none
/-- G is a frozen part of H, apart from the owned objects -/
structure Wd (O : List Addr) (G H : Hp) : Prop where
  le : Same G (wo H O)
  dm : Dom O H
structure Has {α : Type} (r : Rl α) (G : Hp) (v : V) (x : α) : Prop where
  h : r G v x
class Mo {α : Type} (r : Rl α) : Prop where
  mo : ∀ {G G' : Hp} {v : V} {x : α}, Same G G' → r G v x → r G' v x
theorem wo_in {H : Hp} {O : List Addr} {b : Addr} (h : b ∈ O) : wo H O b = none := if_pos h
theorem wo_out {H : Hp} {O : List Addr} {b : Addr} (h : b ∉ O) : wo H O b = H b := if_neg h
theorem wo_some {H : Hp} {O : List Addr} {b : Addr} {o : HO} (h : wo H O b = some o) : b ∉ O ∧ H b = some o := by
  by_cases hb : b ∈ O
  · rw [wo_in hb] at h
    cases h
  · rw [wo_out hb] at h
    exact ⟨hb, h⟩
theorem wo_le {H : Hp} {O : List Addr} : Same (wo H O) H := fun _ _ h => (wo_some h).2
theorem wo_nil {H : Hp} : wo H [] = H := by
  funext b
  exact wo_out (by simp)
theorem same_wo {O : List Addr} {H H' : Hp} (s : Same H H') : Same (wo H O) (wo H' O) := fun b o h => by
  obtain ⟨h1, h2⟩ := wo_some h
  rw [wo_out h1]
  exact s _ _ h2
theorem Dom.of {O : List Addr} {H H' : Hp} (d : Dom O H) (s : Same H H') : Dom O H' := fun o ho z => by
  cases q : H o with
  | none => exact d o ho q
  | some u => rw [s _ _ q] at z; cases z
theorem Wd.here {O : List Addr} {H : Hp} (d : Dom O H) : Wd O (wo H O) H := ⟨Same.refl _, d⟩
theorem Wd.same {O : List Addr} {G H H' : Hp} (w : Wd O G H) (s : Same H H') : Wd O G H' := ⟨w.le.trans (same_wo s), w.dm.of s⟩
theorem Wd.up {O : List Addr} {G H : Hp} (w : Wd O G H) : Wd O (wo H O) H := ⟨Same.refl _, w.dm⟩
theorem Wd.to {O : List Addr} {G H : Hp} (w : Wd O G H) : Same G H := w.le.trans wo_le
theorem Wd.out {O : List Addr} {G H : Hp} (w : Wd O G H) {a : Addr} {o : HO} (h : G a = some o) : a ∉ O := (wo_some (w.le _ _ h)).1
theorem Has.mo {α : Type} {r : Rl α} [Mo r] {G G' : Hp} {v : V} {x : α} (s : Same G G') (h : Has r G v x) : Has r G' v x := ⟨Mo.mo s h.h⟩
theorem dom_new {O : List Addr} {H : Hp} {p : Addr} (d : Dom O H) (hp : H p = none) : p ∉ O := fun h => d p h hp
theorem same_new {H : Hp} {p : Addr} {o : HO} (hp : H p = none) : Same H (upd H p o) := fun b u e => by
  rw [upd_ne (ne_of_none e hp)]
  exact e
theorem wo_new {O : List Addr} {H : Hp} {p : Addr} {o : HO} (d : Dom O H) (hp : H p = none) : wo (upd H p o) O p = some o := by
  rw [wo_out (dom_new d hp), upd_same]
/-- a new object that is owned from now on -/
theorem Wd.own {O : List Addr} {G H : Hp} {p : Addr} {o : HO} (w : Wd O G H) (hp : H p = none) : Wd (p :: O) G (upd H p o) := by
  refine ⟨fun b u e => ?_, fun b hb => ?_⟩
  · obtain ⟨h1, h2⟩ := wo_some (w.le _ _ e)
    have hn := ne_of_none h2 hp
    rw [wo_out (by simp only [List.mem_cons, not_or]; exact ⟨hn, h1⟩), upd_ne hn]
    exact h2
  · rcases List.mem_cons.mp hb with e | e
    · rw [e, upd_same]
      simp
    · have hn : b ≠ p := fun z => dom_new w.dm hp (z ▸ e)
      rw [upd_ne hn]
      exact w.dm b e
/-- an owned object changes -/
theorem Wd.set {O : List Addr} {G H : Hp} {p : Addr} {o : HO} (w : Wd O G H) (hp : p ∈ O) : Wd O G (upd H p o) := by
  refine ⟨fun b u e => ?_, fun b hb => ?_⟩
  · obtain ⟨h1, h2⟩ := wo_some (w.le _ _ e)
    have hn : b ≠ p := fun z => h1 (z ▸ hp)
    rw [wo_out h1, upd_ne hn]
    exact h2
  · by_cases e : b = p
    · rw [e, upd_same]
      simp
    · rw [upd_ne e]
      exact w.dm b hb
/-- an owned object is given up -/
theorem Wd.drop {O : List Addr} {G H : Hp} {p : Addr} (w : Wd (p :: O) G H) : Wd O G H := by
  refine ⟨fun b u e => ?_, fun b hb => w.dm b (List.mem_cons_of_mem _ hb)⟩
  obtain ⟨h1, h2⟩ := wo_some (w.le _ _ e)
  rw [wo_out fun z => h1 (List.mem_cons_of_mem _ z)]
  exact h2

/-! ### the relations -/
def qI : Rl Int := fun _ v i => v = .int i
def qN : Rl Nat := fun _ v n => v = .int (n : Int)
def qS : Rl Str := fun _ v s => v = .str s
def qB : Rl Bool := fun _ v b => v = .bl b
def qU : Rl Unit := fun _ v _ => v = .non
def qV : Rl V := fun _ v w => v = w
instance : Mo qI := ⟨fun _ h => h⟩
instance : Mo qN := ⟨fun _ h => h⟩
instance : Mo qS := ⟨fun _ h => h⟩
instance : Mo qB := ⟨fun _ h => h⟩
instance : Mo qU := ⟨fun _ h => h⟩
instance : Mo qV := ⟨fun _ h => h⟩
theorem same_sqL {K : PySem.W.Frag} {H H' : Hp} {a : Addr} {xs : List V} (e : Same H H') (h : SqL K H a xs) : SqL K H' a xs := e.seq h
theorem same_sqT {K : PySem.W.Frag} {H H' : Hp} {a : Addr} {xs : List V} (e : Same H H') (h : SqT K H a xs) : SqT K H' a xs := by
  rcases h with (plain | ⟨own, sub⟩) | rest
  · exact .inl (.inl (e _ _ plain))
  · exact .inl (.inr ⟨own, e _ _ sub⟩)
  · exact .inr rest
theorem paired_mono {α β : Type} {F F' : α → β → Prop} (h : ∀ a b, F a b → F' a b) : ∀ {l : List α} {m : List β}, Paired F l m → Paired F' l m
  | _, _, .nil => .nil
  | _, _, .cons a t => .cons (h _ _ a) (paired_mono h t)
theorem Paired.len {α β : Type} {F : α → β → Prop} : ∀ {l : List α} {m : List β}, Paired F l m → l.length = m.length
  | _, _, .nil => rfl
  | _, _, .cons _ t => by rw [List.length_cons, List.length_cons, Paired.len t]
theorem Paired.at {α β : Type} {F : α → β → Prop} : ∀ {l : List α} {m : List β} {i : Nat} {y : β}, Paired F l m → m[i]? = some y → ∃ x, l[i]? = some x ∧ F x y
  | _, _, _, _, .nil, there => by simp at there
  | _, _, 0, _, .cons first _, there => ⟨_, rfl, by simp at there; exact there ▸ first⟩
  | _, _, i + 1, y, .cons _ more, there => by
    obtain ⟨mate, found, holds⟩ := Paired.at (i := i) (y := y) more (by simpa using there)
    exact ⟨mate, by simpa using found, holds⟩
theorem Paired.at' {α β : Type} {F : α → β → Prop} : ∀ {l : List α} {m : List β} {i : Nat} {x : α}, Paired F l m → l[i]? = some x → ∃ y, m[i]? = some y ∧ F x y
  | _, _, _, _, .nil, there => by simp at there
  | _, _, 0, _, .cons first _, there => ⟨_, rfl, by simp at there; exact there ▸ first⟩
  | _, _, i + 1, y, .cons _ more, there => by
    obtain ⟨mate, found, holds⟩ := Paired.at' (i := i) (x := y) more (by simpa using there)
    exact ⟨mate, by simpa using found, holds⟩
section
variable (K : PySem.W.Frag)
/-- the raw list, the raw tuple -/
def qLv : Rl (List V) := fun G v xs => ∃ a, v = .ref a ∧ SqL K G a xs
def qTv : Rl (List V) := fun G v xs => ∃ a, v = .ref a ∧ SqT K G a xs
instance : Mo (qLv K) := ⟨fun s ⟨a, e, h⟩ => ⟨a, e, same_sqL s h⟩⟩
instance : Mo (qTv K) := ⟨fun s ⟨a, e, h⟩ => ⟨a, e, same_sqT s h⟩⟩
def qL {α : Type} (r : Rl α) : Rl (List α) := fun G v xs => ∃ vs, qLv K G v vs ∧ Paired (r G) vs xs
def qT {α : Type} (r : Rl α) : Rl (List α) := fun G v xs => ∃ vs, qTv K G v vs ∧ Paired (r G) vs xs
def qSq {α : Type} (r : Rl α) : Rl (List α) := fun G v xs => qL K r G v xs ∨ qT K r G v xs
instance {α : Type} (r : Rl α) [Mo r] : Mo (qL K r) := ⟨fun s ⟨vs, e, h⟩ => ⟨vs, Mo.mo s e, paired_mono (fun _ _ q => Mo.mo s q) h⟩⟩
instance {α : Type} (r : Rl α) [Mo r] : Mo (qT K r) := ⟨fun s ⟨vs, e, h⟩ => ⟨vs, Mo.mo s e, paired_mono (fun _ _ q => Mo.mo s q) h⟩⟩
instance {α : Type} (r : Rl α) [Mo r] : Mo (qSq K r) := ⟨fun s h => h.elim (fun h => .inl (Mo.mo s h)) fun h => .inr (Mo.mo s h)⟩
/-- a pair as a tuple of two -/
def qP {α β : Type} (r : Rl α) (q : Rl β) : Rl (α × β) := fun G v x => ∃ a b, qTv K G v [a, b] ∧ r G a x.1 ∧ q G b x.2
instance {α β : Type} (r : Rl α) (q : Rl β) [Mo r] [Mo q] : Mo (qP K r q) := ⟨fun s ⟨a, b, e, h, h2⟩ => ⟨a, b, Mo.mo s e, Mo.mo s h, Mo.mo s h2⟩⟩
/-- two ints, as they stand -/
abbrev qPr : Rl (Int × Int) := qP K qI qI
/-- a fraction in lowest terms -/
def qQ : Rl Rat := fun G v x => qTv K G v [.int x.num, .int (x.den : Int)]
instance : Mo (qQ K) := ⟨fun s h => Mo.mo (r := qTv K) s h⟩
/-- an int or a pair of ints -/
def qNu : Rl (Int × Int) := fun G v x => (v = .int x.1 ∧ x.2 = 1) ∨ qPr K G v x
instance : Mo (qNu K) := ⟨fun s h => h.elim .inl fun h => .inr (Mo.mo s h)⟩
end

/-! ### arguments -/
abbrev RA (α : Type) := Hp → List V → α → Prop
def raN : RA Unit := fun _ vs _ => vs = []
def raC {α β : Type} (r : Rl α) (ra : RA β) : RA (α × β) := fun G vs x => ∃ v ws, vs = v :: ws ∧ r G v x.1 ∧ ra G ws x.2
class MoA {α : Type} (r : RA α) : Prop where
  mo : ∀ {G G' : Hp} {v : List V} {x : α}, Same G G' → r G v x → r G' v x
instance : MoA raN := ⟨fun _ h => h⟩
instance {α β : Type} (r : Rl α) (ra : RA β) [Mo r] [MoA ra] : MoA (raC r ra) := ⟨fun s ⟨v, ws, e, h, t⟩ => ⟨v, ws, e, Mo.mo s h, MoA.mo s t⟩⟩
/-- how many arguments -/
class LenA {α : Type} (ra : RA α) (n : outParam Nat) : Prop where
  len : ∀ G vs x, ra G vs x → vs.length = n
instance : LenA raN 0 := ⟨fun _ _ _ h => by rw [show _ = [] from h]; rfl⟩
instance {α β : Type} {r : Rl α} {ra : RA β} {n : Nat} [h : LenA ra n] : LenA (raC r ra) (n + 1) := ⟨fun G vs x ⟨v, ws, e, _, t⟩ => by
  rw [e, List.length_cons, h.len _ _ _ t]⟩

/-! ### promises -/
/-- a pure def: from related arguments to a related answer; what stood stands -/
def spP {α β : Type} (ra : RA α) (pr : α → Prop) (r : Rl β) (f : α → β) : Sp := fun vs H Q _ =>
  ∃ (O : List Addr) (x : α), Dom O H ∧ ra (wo H O) vs x ∧ pr x ∧ ∀ v H', Same H H' → r (wo H' O) v (f x) → Q v H'

/-! ### readings -/
def Tv {α : Type} (O : List Addr) (t : TE) (σ : St) (G : Hp) (r : Rl α) (x : α) : Prop :=
  ∀ H, Wd O G H → ∀ Q : VK, (∀ v H', Same H H' → r (wo H' O) v x → Q v H') → t σ H Q
def Tt (O : List Addr) (t : TT) (σ : St) (G : Hp) (b : Bool) : Prop :=
  ∀ H, Wd O G H → ∀ Q : Bool → Hp → Prop, (∀ H', Same H H' → Q b H') → t σ H Q
def Ta {α : Type} (O : List Addr) (t : TA) (σ : St) (G : Hp) (r : RA α) (x : α) : Prop :=
  ∀ H, Wd O G H → ∀ Q : List V → Hp → Prop, (∀ v H', Same H H' → r (wo H' O) v x → Q v H') → t σ H Q
section
variable {α β γ : Type} {O : List Addr} {σ : St} {G H : Hp} {r : Rl α} {q : Rl β} {x : α} {y : β} {ta tb te : TE} {K : PySem.W.Frag}
theorem Tv.mono (h : Tv O te σ G r x) {G' : Hp} (s : Same G G') : Tv O te σ G' r x := fun H w => h H ⟨s.trans w.le, w.dm⟩
theorem Tt.mono {t : TT} {b : Bool} (h : Tt O t σ G b) {G' : Hp} (s : Same G G') : Tt O t σ G' b := fun H w => h H ⟨s.trans w.le, w.dm⟩
theorem Tv.sub (h : Tv O te σ G r x) (c : ∀ G v, r G v x → q G v y) : Tv O te σ G q y := fun H w Q k => h H w Q fun v H' s hv => k v H' s (c _ _ hv)
theorem Tv.eq (h : Tv O te σ G r x) {x' : α} (e : x = x') : Tv O te σ G r x' := e ▸ h
theorem tv_v {i : Nat} {v : V} [Mo r] (e : σ[i]? = some (some v)) (h : Has r G v x) : Tv O (tVar i) σ G r x := fun H w Q k =>
  ⟨v, e, k v H (Same.refl _) (Mo.mo w.le h.h)⟩
theorem tv_c {v : V} (h : ∀ G, r G v x) : Tv O (tC v) σ G r x := fun H w Q k => k v H (Same.refl _) (h _)
theorem tv_i {i : Int} : Tv O (tC (.int i)) σ G qI i := tv_c fun _ => rfl
theorem tv_s {s : Str} : Tv O (tC (.str s)) σ G qS s := tv_c fun _ => rfl
theorem tv_b {b : Bool} : Tv O (tC (.bl b)) σ G qB b := tv_c fun _ => rfl
/-- an operator of two ints -/
theorem tv_op {C : Int → Int → Prop} {g : Int → Int → V} {i j : Int} {z : γ} {p : Rl γ} (ha : Tv O ta σ G qI i) (hb : Tv O tb σ G qI j) (hc : C i j) (hg : ∀ G, p G (g i j) z) : Tv O (tOp (L2.rI C g) ta tb) σ G p z := fun H w Q k =>
  ha H w _ fun v H1 s1 h1 => hb H1 (w.same s1) _ fun u H2 s2 h2 => ⟨i, j, h1, h2, hc, k _ _ (s1.trans s2) (hg _)⟩
theorem tv_op0 {g : Int → Int → V} {i j : Int} {z : γ} {p : Rl γ} (ha : Tv O ta σ G qI i) (hb : Tv O tb σ G qI j) (hg : ∀ G, p G (g i j) z) : Tv O (tOp (rI0 g) ta tb) σ G p z := fun H w Q k =>
  ha H w _ fun v H1 s1 h1 => hb H1 (w.same s1) _ fun u H2 s2 h2 => ⟨i, j, h1, h2, k _ _ (s1.trans s2) (hg _)⟩
theorem tv_opI {C : Int → Int → Prop} {g : Int → Int → Int} {i j : Int} (ha : Tv O ta σ G qI i) (hb : Tv O tb σ G qI j) (hc : C i j) : Tv O (tOp (L2.rI C fun i j => .int (g i j)) ta tb) σ G qI (g i j) := tv_op ha hb hc fun _ => rfl
theorem tv_opJ {g : Int → Int → Int} {i j : Int} (ha : Tv O ta σ G qI i) (hb : Tv O tb σ G qI j) : Tv O (tOp (rI0 fun i j => .int (g i j)) ta tb) σ G qI (g i j) := tv_op0 ha hb fun _ => rfl
theorem tv_opB {g : Int → Int → Bool} {i j : Int} (ha : Tv O ta σ G qI i) (hb : Tv O tb σ G qI j) : Tv O (tOp (rI0 fun i j => .bl (g i j)) ta tb) σ G qB (g i j) := tv_op0 ha hb fun _ => rfl
/-- .. as a test -/
theorem tt_opB {g : Int → Int → Bool} {i j : Int} (ha : Tv O ta σ G qI i) (hb : Tv O tb σ G qI j) : Tt O (tTest (tOp (rI0 fun i j => .bl (g i j)) ta tb)) σ G (g i j) := fun H w Q k =>
  ha H w _ fun v H1 s1 h1 => hb H1 (w.same s1) _ fun u H2 s2 h2 => ⟨i, j, h1, h2, _, rfl, k _ (s1.trans s2)⟩
theorem tt_op0 {g : Int → Int → V} {i j : Int} {b : Bool} (ha : Tv O ta σ G qI i) (hb : Tv O tb σ G qI j) (hg : g i j = .bl b) : Tt O (tTest (tOp (rI0 g) ta tb)) σ G b := fun H w Q k =>
  ha H w _ fun v H1 s1 h1 => hb H1 (w.same s1) _ fun u H2 s2 h2 => ⟨i, j, h1, h2, b, hg, k _ (s1.trans s2)⟩
theorem tt_eqI {i j : Int} (ha : Tv O ta σ G qI i) (hb : Tv O tb σ G qI j) : Tt O (tTest (tOp rEq ta tb)) σ G (decide (i = j)) := fun H w Q k =>
  ha H w _ fun v H1 s1 h1 => hb H1 (w.same s1) _ fun u H2 s2 h2 => by
    cases h1
    cases h2
    refine ⟨rfl, _, rfl, ?_⟩
    have e : decide (V.int i = V.int j) = decide (i = j) := by
      by_cases z : i = j
      · rw [z, decide_eq_true rfl, decide_eq_true rfl]
      · rw [decide_eq_false z, decide_eq_false (fun q => z (V.int.inj q))]
    rw [e]
    exact k _ (s1.trans s2)
theorem tt_neI {i j : Int} (ha : Tv O ta σ G qI i) (hb : Tv O tb σ G qI j) : Tt O (tTest (tOp rNe ta tb)) σ G (!decide (i = j)) := fun H w Q k =>
  ha H w _ fun v H1 s1 h1 => hb H1 (w.same s1) _ fun u H2 s2 h2 => by
    cases h1
    cases h2
    refine ⟨rfl, _, rfl, ?_⟩
    have e : decide (V.int i = V.int j) = decide (i = j) := by
      by_cases z : i = j
      · rw [z, decide_eq_true rfl, decide_eq_true rfl]
      · rw [decide_eq_false z, decide_eq_false (fun q => z (V.int.inj q))]
    rw [e]
    exact k _ (s1.trans s2)
theorem tt_b {b : Bool} (h : Tv O te σ G qB b) : Tt O (tB te) σ G b := fun H w Q k => h H w _ fun v H1 s1 h1 => ⟨b, h1, k _ s1⟩
theorem tt_not {t : TT} {b : Bool} (h : Tt O t σ G b) : Tt O (tNot t) σ G (!b) := fun H w Q k => h H w _ fun H1 s1 => k _ s1
theorem tt_and {t u : TT} {a b : Bool} (h : Tt O t σ G a) (g : a = true → Tt O u σ G b) : Tt O (tAnd t u) σ G (a && b) := fun H w Q k => h H w _ fun H1 s1 => by
  cases a with
  | true => exact iteT (g rfl H1 (w.same s1) _ fun H2 s2 => k _ (s1.trans s2))
  | false => exact iteF (k _ s1)
theorem tt_or {t u : TT} {a b : Bool} (h : Tt O t σ G a) (g : a = false → Tt O u σ G b) : Tt O (tOr t u) σ G (a || b) := fun H w Q k => h H w _ fun H1 s1 => by
  cases a with
  | true => exact iteT (k _ s1)
  | false => exact iteF (g rfl H1 (w.same s1) _ fun H2 s2 => k _ (s1.trans s2))
theorem Tt.eq {t : TT} {a b : Bool} (h : Tt O t σ G a) (e : a = b) : Tt O t σ G b := e ▸ h
theorem tv_and {a b : Bool} (h : Tv O ta σ G qB a) (g : a = true → Tv O tb σ G qB b) : Tv O (tAndV ta tb) σ G qB (a && b) := fun H w Q k => h H w _ fun v H1 s1 h1 => ⟨a, h1, by
  cases a with
  | true => exact iteT (g rfl H1 (w.same s1) _ fun v H2 s2 h2 => k _ _ (s1.trans s2) h2)
  | false => exact iteF (k _ _ s1 rfl)⟩
theorem tv_or {a b : Bool} (h : Tv O ta σ G qB a) (g : a = false → Tv O tb σ G qB b) : Tv O (tOrV ta tb) σ G qB (a || b) := fun H w Q k => h H w _ fun v H1 s1 h1 => ⟨a, h1, by
  cases a with
  | true => exact iteT (k _ _ s1 rfl)
  | false => exact iteF (g rfl H1 (w.same s1) _ fun v H2 s2 h2 => k _ _ (s1.trans s2) h2)⟩
theorem tv_not {a : Bool} (h : Tv O ta σ G qB a) : Tv O (tNotV ta) σ G qB (!a) := fun H w Q k => h H w _ fun v H1 s1 h1 => ⟨a, h1, k _ _ s1 rfl⟩
theorem tv_if {t : TT} {b : Bool} {x y : α} (h : Tt O t σ G b) (h1 : b = true → Tv O ta σ G r x) (h2 : b = false → Tv O tb σ G r y) : Tv O (tIf t ta tb) σ G r (if b = true then x else y) := fun H w Q k => h H w _ fun H1 s1 => by
  cases b with
  | true => exact iteT (h1 rfl H1 (w.same s1) _ fun v H2 s2 hv => k _ _ (s1.trans s2) hv)
  | false => exact iteF (h2 rfl H1 (w.same s1) _ fun v H2 s2 hv => k _ _ (s1.trans s2) hv)
/-! ### arguments, calls -/
theorem ta_n : Ta O tNil σ G raN () := fun H w Q k => k _ _ (Same.refl _) rfl
theorem ta_c {ra : RA β} {t : TA} [Mo r] (h : Tv O te σ G r x) (g : Ta O t σ G ra y) : Ta O (tCons te t) σ G (raC r ra) (x, y) := fun H w Q k =>
  h H w _ fun v H1 s1 h1 => g H1 (w.same s1) _ fun ws H2 s2 h2 => k _ _ (s1.trans s2) ⟨v, ws, rfl, Mo.mo (same_wo s2) h1, h2⟩
theorem tv_call {ra : RA α} {pr : α → Prop} {f : α → β} {t : TA} {E : XK} (h : Ta O t σ G ra x) (p : pr x) : Tv O (tCall (spP ra pr q f) [] E t) σ G q (f x) := fun H w Q k =>
  h H w _ fun vs H1 s1 h1 => by
    show spP ra pr q f (vs ++ []) H1 Q E
    rw [List.append_nil]
    exact ⟨O, x, (w.same s1).dm, h1, p, fun v H2 s2 h2 => k _ _ (s1.trans s2) h2⟩
/-- positional values, then the keywords' -/
theorem tv_callK {ra : RA α} {pr : α → Prop} {f : α → β} {t tk : TA} {E : XK} {x1 : γ} {δ : Type} {x2 : δ} {ra1 : RA γ} {ra2 : RA δ} {gV : List V → List V → List V} [MoA ra1] (h1 : Ta O t σ G ra1 x1) (h2 : Ta O tk σ G ra2 x2)
    (hg : ∀ G vs ws, ra1 G vs x1 → ra2 G ws x2 → ra G (gV vs ws) x) (p : pr x) : Tv O (tCallK (spP ra pr q f) gV E t tk) σ G q (f x) := fun H w Q k =>
  h1 H w _ fun vs H1 s1 e1 => h2 H1 (w.same s1) _ fun ws H2 s2 e2 =>
    ⟨O, x, ((w.same s1).same s2).dm, hg _ _ _ (MoA.mo (same_wo s2) e1) e2, p, fun v H3 s3 h3 => k _ _ ((s1.trans s2).trans s3) h3⟩
/-! ### displays -/
theorem tv_tup {t : TA} {ra : RA α} {n : Nat} [LenA ra n] [MoA ra] (h : Ta O t σ G ra x) (hn : n ≤ 1000) (hc : ∀ G v vs, qTv K G v vs → ra G vs x → q G v y) : Tv O (tTup t) σ G q y := fun H w Q k =>
  h H w _ fun vs H1 s1 h1 => ⟨by rw [LenA.len _ _ _ h1]; exact Nat.le_of_lt (small1000 hn), fun p hp => by
    have d := (w.same s1).dm
    exact k _ _ (s1.trans (same_new hp)) (hc _ _ vs ⟨p, rfl, SqT.of (wo_new d hp)⟩ (MoA.mo (same_wo (same_new hp)) h1))⟩
theorem tv_lst {t : TA} {ra : RA α} {n : Nat} [LenA ra n] [MoA ra] (h : Ta O t σ G ra x) (hn : n ≤ 1000) (hc : ∀ G v vs, qLv K G v vs → ra G vs x → q G v y) : Tv O (tLst t) σ G q y := fun H w Q k =>
  h H w _ fun vs H1 s1 h1 => ⟨by rw [LenA.len _ _ _ h1]; exact Nat.le_of_lt (small1000 hn), fun p hp => by
    have d := (w.same s1).dm
    exact k _ _ (s1.trans (same_new hp)) (hc _ _ vs ⟨p, rfl, SqL.of (wo_new d hp)⟩ (MoA.mo (same_wo (same_new hp)) h1))⟩
theorem ra2 {r : Rl α} {q : Rl β} {G : Hp} {vs : List V} {x : α × β × Unit} (h : raC r (raC q raN) G vs x) : ∃ a b, vs = [a, b] ∧ r G a x.1 ∧ q G b x.2.1 := by
  obtain ⟨a, ws, e1, h1, b, us, e2, h2, e3⟩ := h
  have e3 : us = [] := e3
  subst e1 e2 e3
  exact ⟨a, b, rfl, h1, h2⟩
theorem ra1 {r : Rl α} {G : Hp} {vs : List V} {x : α × Unit} (h : raC r raN G vs x) : ∃ a, vs = [a] ∧ r G a x.1 := by
  obtain ⟨a, ws, e1, h1, e2⟩ := h
  have e2 : ws = [] := e2
  subst e1 e2
  exact ⟨a, rfl, h1⟩
theorem ra3 {r : Rl α} {q : Rl β} {p : Rl γ} {G : Hp} {vs : List V} {x : α × β × γ × Unit} (h : raC r (raC q (raC p raN)) G vs x) : ∃ a b c, vs = [a, b, c] ∧ r G a x.1 ∧ q G b x.2.1 ∧ p G c x.2.2.1 := by
  obtain ⟨a, ws, e1, h1, h⟩ := h
  obtain ⟨b, c, e, h2, h3⟩ := ra2 h
  subst e1 e
  exact ⟨a, b, c, rfl, h1, h2, h3⟩
/-- (a, b) -/
theorem tv_pair [Mo r] [Mo q] (h : Tv O ta σ G r x) (g : Tv O tb σ G q y) : Tv O (tTup (tCons ta (tCons tb tNil))) σ G (qP K r q) (x, y) :=
  tv_tup (ta_c h (ta_c g ta_n)) (by decide) fun G v vs hv hx => by
    obtain ⟨a, b, rfl, h1, h2⟩ := ra2 hx
    exact ⟨a, b, hv, h1, h2⟩
/-! ### items -/
theorem tv_ixT {xs : List α} {i : Int} [Mo r] (h : Tv O ta σ G (qT K r) xs) (g : Tv O tb σ G qI i) (hx : atI xs i = some x) : Tv O (tOp (rIxT K) ta tb) σ G r x := fun H w Q k =>
  h H w _ fun v H1 s1 h1 => g H1 (w.same s1) _ fun u H2 s2 h2 => by
    obtain ⟨vs, ⟨a, ev, hs⟩, hp⟩ := h1
    unfold atI at hx
    rw [← Paired.len hp] at hx
    cases e : ixN vs.length i with
    | none => rw [e] at hx; cases hx
    | some j =>
      rw [e] at hx
      obtain ⟨z, e1, e2⟩ := Paired.at hp (show xs[j]? = some x from hx)
      refine ⟨a, vs, i, z, ev, h2, same_sqT (wo_le.trans s2) hs, ?_, k _ _ (s1.trans s2) (Mo.mo (same_wo s2) e2)⟩
      unfold atI
      rw [e]
      exact e1
theorem tv_ixL {xs : List α} {i : Int} [Mo r] (h : Tv O ta σ G (qL K r) xs) (g : Tv O tb σ G qI i) (hx : atI xs i = some x) : Tv O (tOp (rIxL K) ta tb) σ G r x := fun H w Q k =>
  h H w _ fun v H1 s1 h1 => g H1 (w.same s1) _ fun u H2 s2 h2 => by
    obtain ⟨vs, ⟨a, ev, hs⟩, hp⟩ := h1
    unfold atI at hx
    rw [← Paired.len hp] at hx
    cases e : ixN vs.length i with
    | none => rw [e] at hx; cases hx
    | some j =>
      rw [e] at hx
      obtain ⟨z, e1, e2⟩ := Paired.at hp (show xs[j]? = some x from hx)
      refine ⟨a, vs, i, z, ev, h2, same_sqL (wo_le.trans s2) hs, ?_, k _ _ (s1.trans s2) (Mo.mo (same_wo s2) e2)⟩
      unfold atI
      rw [e]
      exact e1
/-- either -/
theorem tv_ixA {xs : List α} {i : Int} [Mo r] (h : Tv O ta σ G (qSq K r) xs) (g : Tv O tb σ G qI i) (hx : atI xs i = some x) : Tv O (tOp (rIx K) ta tb) σ G r x := fun H w Q k =>
  h H w _ fun v H1 s1 h1 => g H1 (w.same s1) _ fun u H2 s2 h2 => by
    rcases h1 with ⟨vs, ⟨a, ev, hs⟩, hp⟩ | ⟨vs, ⟨a, ev, hs⟩, hp⟩
    all_goals
      unfold atI at hx
      rw [← Paired.len hp] at hx
      cases e : ixN vs.length i with
      | none => rw [e] at hx; cases hx
      | some j => ?_
      rw [e] at hx
      obtain ⟨z, e1, e2⟩ := Paired.at hp (show xs[j]? = some x from hx)
      have e3 : atI vs i = some z := by
        unfold atI
        rw [e]
        exact e1
    · exact .inl ⟨a, vs, i, z, ev, h2, same_sqL (wo_le.trans s2) hs, e3, k _ _ (s1.trans s2) (Mo.mo (same_wo s2) e2)⟩
    · exact .inr (.inl ⟨a, vs, i, z, ev, h2, same_sqT (wo_le.trans s2) hs, e3, k _ _ (s1.trans s2) (Mo.mo (same_wo s2) e2)⟩)
/-- the raw pair, by its items -/
theorem tv_fst {a b : Int} (h : Tv O ta σ G (qPr K) (a, b)) : Tv O (tOp (rIxT K) ta (tC (.int 0))) σ G qI a := fun H w Q k =>
  h H w _ fun v H1 s1 h1 => by
    obtain ⟨x, y, ⟨p, e, hs⟩, e1, e2⟩ := h1
    exact ⟨p, [x, y], 0, x, e, rfl, same_sqT wo_le hs, rfl, k _ _ s1 e1⟩
theorem tv_snd {a b : Int} (h : Tv O ta σ G (qPr K) (a, b)) : Tv O (tOp (rIxT K) ta (tC (.int 1))) σ G qI b := fun H w Q k =>
  h H w _ fun v H1 s1 h1 => by
    obtain ⟨x, y, ⟨p, e, hs⟩, e1, e2⟩ := h1
    exact ⟨p, [x, y], 1, y, e, rfl, same_sqT wo_le hs, rfl, k _ _ s1 e2⟩
theorem qQ_pr {G : Hp} {v : V} {x : Rat} (h : qQ K G v x) : qPr K G v (x.num, (x.den : Int)) := ⟨_, _, h, rfl, rfl⟩
theorem pr_qQ {G : Hp} {v : V} {x : Rat} {a b : Int} (h : qPr K G v (a, b)) (h1 : a = x.num) (h2 : b = x.den) : qQ K G v x := by
  obtain ⟨u, w, hv, e1, e2⟩ := h
  cases (show u = .int a from e1)
  cases (show w = .int b from e2)
  subst h1 h2
  exact hv
/-! ### statements -/
variable {D : Ends} {t1 t2 : TS}
theorem st_ret (w : Wd O G H) (h : Tv O te σ G r x) (k : ∀ v H', Same H H' → r (wo H' O) v x → D.rt v H') : tRet te D σ H := h H w _ k
theorem st_dropL (w : Wd O G H) (h : Tv O te σ G r x) (k : ∀ H', Same H H' → Wd O G H' → D.nx σ H') : tDrop te D σ H := h H w _ fun v H1 s1 _ => k _ s1 (w.same s1)
theorem st_drop (w : Wd O G H) (h : Tv O te σ G r x) (k : ∀ H', Same H H' → Wd O G H' → t2 D σ H') : tSeq (tDrop te) t2 D σ H := st_dropL (D := { D with nx := t2 D }) w h k
theorem st_asgL {i : Nat} (w : Wd O G H) (h : Tv O te σ G r x) (k : ∀ v G' H', Same G G' → Wd O G' H' → Same H H' → Has r G' v x → D.nx (σ.set i (some v)) H') : tAsg te (gName i) D σ H :=
  h H w _ fun v H1 s1 h1 => k v _ H1 (w.le.trans (same_wo s1)) (w.same s1).up s1 ⟨h1⟩
theorem st_asg {i : Nat} (w : Wd O G H) (h : Tv O te σ G r x) (k : ∀ v G' H', Same G G' → Wd O G' H' → Same H H' → Has r G' v x → t2 D (σ.set i (some v)) H') : tSeq (tAsg te (gName i)) t2 D σ H := st_asgL (D := { D with nx := t2 D }) w h k
theorem st_ifL {c : TT} {b : Bool} (w : Wd O G H) (h : Tt O c σ G b) (h1 : b = true → ∀ H', Same H H' → Wd O G H' → t1 D σ H') (h2 : b = false → ∀ H', Same H H' → Wd O G H' → t2 D σ H') : tIfS c t1 t2 D σ H := h H w _ fun H1 s1 => by
  cases b with
  | true => exact iteT (h1 rfl _ s1 (w.same s1))
  | false => exact iteF (h2 rfl _ s1 (w.same s1))
/-- an if without else, the rest behind it -/
theorem st_if {c : TT} {b : Bool} (w : Wd O G H) (h : Tt O c σ G b) (h1 : b = true → ∀ H', Same H H' → Wd O G H' → t1 { D with nx := t2 D } σ H') (h2 : b = false → ∀ H', Same H H' → Wd O G H' → t2 D σ H') : tSeq (tIfS c t1 tNext) t2 D σ H :=
  st_ifL (D := { D with nx := t2 D }) w h h1 h2
/-- the same, last -/
theorem st_ifE {c : TT} {b : Bool} (w : Wd O G H) (h : Tt O c σ G b) (h1 : b = true → ∀ H', Same H H' → Wd O G H' → t1 D σ H') (h2 : b = false → ∀ H', Same H H' → Wd O G H' → D.nx σ H') : tIfS c t1 tNext D σ H := st_ifL w h h1 h2
/-- a, b = e -/
theorem st_unp {i j : Nat} {q : Rl β} [Mo r] [Mo q] (w : Wd O G H) (h : Tv O te σ G (qP K r q) (x, y)) (k : ∀ u v G' H', Same G G' → Wd O G' H' → Same H H' → Has r G' u x → Has q G' v y → t2 D ((σ.set i (some u)).set j (some v)) H') :
    tSeq (tAsg te (gTup K 2 (gCons (gName i) (gCons (gName j) gNil)))) t2 D σ H :=
  h H w _ fun v H1 s1 h1 => by
    obtain ⟨a, b, ⟨p, e, hs⟩, e1, e2⟩ := h1
    exact ⟨p, [a, b], e, same_sqT wo_le hs, rfl, a, [b], rfl, b, [], rfl, rfl, k a b _ H1 (w.le.trans (same_wo s1)) (w.same s1).up s1 ⟨e1⟩ ⟨e2⟩⟩
end
end Nb
set_option Elab.async false
set_option linter.all false
set_option maxRecDepth 100000
set_option maxHeartbeats 2000000
namespace Nb
open PySem L2
open PyProof.Rows (envOfC)

/-! ### defs: promise, call -/
/-- the module's name x is a def that keeps the promise sp, called with all its parameters by position -/
structure Pro (P : Program) (w : World) (K : PySem.W.Frag) (mg : PySem.Str → Option Value) (base : Heap) (x : PySem.Str) (ps : List PySem.Str) (k : Nat) (sp : Sp) : Prop where
  ex : ∃ (f : Addr) (fd : FuncData), mg x = some (.ref f) ∧ PySem.W.keepIn K (.ref f) = true ∧ Binds K fd ps [] ∧ FnOk P w K mg base CX0 k f fd ps sp
section
variable {P : Program} {w : World} {K : PySem.W.Frag} {mg : PySem.Str → Option Value} {base : Heap} {x qual : PySem.Str} {params : Arguments} {body : List Stmt} {scope : Scope} {dvs : List V} {kws : List (PySem.Str × V)} {f : Addr} {fd : FuncData} {N ps : List PySem.Str} {k : Nat} {sp : Sp}
/-- the body's context -/
abbrev Bx (P : Program) (w : World) (K : PySem.W.Frag) (mg : PySem.Str → Option Value) (base : Heap) (N : List PySem.Str) (qual : PySem.Str) (scope : Scope) (f : Addr) (cdv : Value) (A : Around) (outer : List Env) (s : Shared) (H : Hp) (E : XK) : Cx :=
  (cxOf CX0 P w K mg base N qual scope f cdv A outer s H E).nox
theorem def_any {α β : Type} {ra : RA α} {pr : α → Prop} {r : Rl β} {g : α → β} {n : Nat} [LenA ra n] (F : FunD K x qual params body scope dvs kws f fd) (S : FnScope N ps scope) (hn : ps.length = n)
    (hbody : ∀ (cdv : Value) (A : Around) (outer : List Env) (s : Shared) (H : Hp) (E : XK) (O : List Addr) (G : Hp) (vs : List V) (a : α), Room k (A.deeper (envOfC qual scope s.heap.objs.size f cdv)) → Wd O G H → ra G vs a → pr a →
      ∀ Q : VK, (∀ v H', Same H H' → r (wo H' O) v (g a) → Q v H') → ∃ t, PSs (Bx P w K mg base N qual scope f cdv A outer s H E) body t ∧ t { nx := fun _ H' => Q .non H', rt := Q } (start N vs) H) :
    FnOk P w K mg base CX0 (k + 1) f fd ps (spP ra pr r g) := by
  refine F.ok S (fun vs H Q E h => ?_) (fun cdv A outer s H vs Q E hr h => ?_)
  · obtain ⟨O, a, _, h, _⟩ := h
    rw [LenA.len _ _ _ h, hn]
  · obtain ⟨O, a, d, h, hp, q⟩ := h
    obtain ⟨t, h1, h2⟩ := hbody cdv A outer s H E O _ vs a hr (Wd.here d) h hp Q q
    exact ⟨t, h1.nox, h2⟩
theorem def1 {α β : Type} {r1 : Rl α} {pr : α × Unit → Prop} {r : Rl β} {g : α × Unit → β} (F : FunD K x qual params body scope dvs kws f fd) (S : FnScope N ps scope) (hn : ps.length = 1)
    (hbody : ∀ (cdv : Value) (A : Around) (outer : List Env) (s : Shared) (H : Hp) (E : XK) (O : List Addr) (G : Hp) (u : V) (a : α), Room k (A.deeper (envOfC qual scope s.heap.objs.size f cdv)) → Wd O G H → Has r1 G u a → pr (a, ()) →
      ∀ Q : VK, (∀ v H', Same H H' → r (wo H' O) v (g (a, ())) → Q v H') → ∃ t, PSs (Bx P w K mg base N qual scope f cdv A outer s H E) body t ∧ t { nx := fun _ H' => Q .non H', rt := Q } (start N [u]) H) :
    FnOk P w K mg base CX0 (k + 1) f fd ps (spP (raC r1 raN) pr r g) :=
  def_any F S hn fun cdv A outer s H E O G vs a hr w h hp Q q => by
    obtain ⟨u, rfl, h1⟩ := ra1 h
    exact hbody cdv A outer s H E O G u a.1 hr w ⟨h1⟩ hp Q q
theorem def2 {α β γ : Type} {r1 : Rl α} {r2 : Rl γ} {pr : α × γ × Unit → Prop} {r : Rl β} {g : α × γ × Unit → β} (F : FunD K x qual params body scope dvs kws f fd) (S : FnScope N ps scope) (hn : ps.length = 2)
    (hbody : ∀ (cdv : Value) (A : Around) (outer : List Env) (s : Shared) (H : Hp) (E : XK) (O : List Addr) (G : Hp) (u v : V) (a : α) (b : γ), Room k (A.deeper (envOfC qual scope s.heap.objs.size f cdv)) → Wd O G H → Has r1 G u a → Has r2 G v b → pr (a, b, ()) →
      ∀ Q : VK, (∀ v H', Same H H' → r (wo H' O) v (g (a, b, ())) → Q v H') → ∃ t, PSs (Bx P w K mg base N qual scope f cdv A outer s H E) body t ∧ t { nx := fun _ H' => Q .non H', rt := Q } (start N [u, v]) H) :
    FnOk P w K mg base CX0 (k + 1) f fd ps (spP (raC r1 (raC r2 raN)) pr r g) :=
  def_any F S hn fun cdv A outer s H E O G vs a hr w h hp Q q => by
    obtain ⟨u, v, rfl, h1, h2⟩ := ra2 h
    exact hbody cdv A outer s H E O G u v a.1 a.2.1 hr w ⟨h1⟩ ⟨h2⟩ hp Q q
theorem def3 {α β γ δ : Type} {r1 : Rl α} {r2 : Rl γ} {r3 : Rl δ} {pr : α × γ × δ × Unit → Prop} {r : Rl β} {g : α × γ × δ × Unit → β} (F : FunD K x qual params body scope dvs kws f fd) (S : FnScope N ps scope) (hn : ps.length = 3)
    (hbody : ∀ (cdv : Value) (A : Around) (outer : List Env) (s : Shared) (H : Hp) (E : XK) (O : List Addr) (G : Hp) (u v z : V) (a : α) (b : γ) (c : δ), Room k (A.deeper (envOfC qual scope s.heap.objs.size f cdv)) → Wd O G H → Has r1 G u a → Has r2 G v b → Has r3 G z c → pr (a, b, c, ()) →
      ∀ Q : VK, (∀ v H', Same H H' → r (wo H' O) v (g (a, b, c, ())) → Q v H') → ∃ t, PSs (Bx P w K mg base N qual scope f cdv A outer s H E) body t ∧ t { nx := fun _ H' => Q .non H', rt := Q } (start N [u, v, z]) H) :
    FnOk P w K mg base CX0 (k + 1) f fd ps (spP (raC r1 (raC r2 (raC r3 raN))) pr r g) :=
  def_any F S hn fun cdv A outer s H E O G vs a hr w h hp Q q => by
    obtain ⟨u, v, z, rfl, h1, h2, h3⟩ := ra3 h
    exact hbody cdv A outer s H E O G u v z a.1 a.2.1 a.2.2.1 hr w ⟨h1⟩ ⟨h2⟩ ⟨h3⟩ hp Q q
end
section
variable {X : Cx} {K : PySem.W.Frag} {x : PySem.Str} {p pos : Pos} {e : Expr} {es : List Expr} {t : TA} {ps : List PySem.Str} {j k : Nat} {sp : Sp}
/-- f(e, ..) -/
theorem pe_cl {P : Program} {w : World} {mg : PySem.Str → Option Value} {base : Heap} (C : Pro P w K mg base x ps j sp) (hr : Room k X.A) (ha : PA X (e :: es) t) (hj : j ≤ k := by decide) (hP : X.prog = P := by rfl) (hw : X.w = w := by rfl) (hK : X.K = K := by rfl) (hM : X.mg = mg := by rfl) (hB : X.base = base := by rfl) (hg : Gl X x := by rfl) (hdb : (x == ("__debug__" : PySem.Str)) = false := by decide)
    (he : starEach (e :: es) X.env = (false, eval e X.env) :: starEach es X.env := by rfl) (hpl : (backTo pos (starEach es X.env)).any (·.1) = false := by rfl) : PE X (.Call (.Name x p) (e :: es) [] pos) (tCall sp [] E0 t) := by
  subst hP hw hK hM hB
  obtain ⟨f, fd, hm, hk, hb, F⟩ := C.ex
  exact pe_call F (hr.mono hj) hg hm hk hb .nil pass0 ha hdb he hpl
theorem pe_gI {i : Int} (h : ∃ t, X.mg x = some (.int i t)) (hg : Gl X x := by rfl) (hdb : (x == ("__debug__" : PySem.Str)) = false := by decide) : PE X (.Name x pos) (tC (.int i)) := by
  obtain ⟨t, h⟩ := h
  exact pe_glob hg h ⟨t, rfl⟩ hdb
theorem pe_gS {i : PySem.Str} (h : ∃ t, X.mg x = some (.str i t)) (hg : Gl X x := by rfl) (hdb : (x == ("__debug__" : PySem.Str)) = false := by decide) : PE X (.Name x pos) (tC (.str i)) := by
  obtain ⟨t, h⟩ := h
  exact pe_glob hg h ⟨t, rfl⟩ hdb
theorem pe_gR {a : Addr} (h : X.mg x = some (.ref a)) (hg : Gl X x := by rfl) (hdb : (x == ("__debug__" : PySem.Str)) = false := by decide) : PE X (.Name x pos) (tC (.ref a)) := pe_glob hg h rfl hdb
/-! rules whose reading speaks of the written part, by its own letter -/
theorem ixT (h : X.K = K) : IxR X (rIxT K) := h ▸ ix_tup
theorem ixL (h : X.K = K) : IxR X (rIxL K) := h ▸ ix_list
theorem ixA (h : X.K = K) : IxR X (rIx K) := h ▸ ix_seq
theorem pgT {es : List Expr} {q : Nat} {t : TGs} {n : Nat} (h : X.K = K) (hc : X.calm = true) (g : PGs X es t) (hn : (assignEach es X.env).length = n := by rfl) (hst : (assignEach es X.env).findIdx? (·.1) = none := by rfl) : PG X (.Tuple es q pos) (gTup K n t) := by
  subst h
  exact pg_tup hc g hn hst
def rLen (K : PySem.W.Frag) : List V → Hp → VK → Prop := fun xs H Q => ∃ x n, xs = [x] ∧ LenV K x H n ∧ Q (.int (n : Nat)) H
theorem cLen (h : X.K = K) : CallR X (.builtin "len") (rLen K) := h ▸ call_len
theorem cIsi (h : X.K = K) : CallR X (.builtin "isinstance") (rIsi K) := h ▸ call_isi
end
end Nb
set_option Elab.async false
set_option linter.all false
set_option maxRecDepth 100000
set_option maxHeartbeats 2000000
namespace Nb
open PySem L2
open PyProof.Rows (envOfC)

/-! ### what is walked -/
def Tit {α : Type} (O : List Addr) (wi : TI) (σ : St) (G : Hp) (r : Rl α) (xs : List α) : Prop :=
  ∀ H, Wd O G H → ∀ R : It → Hp → Prop,
    (∀ (J : It) (Gd : Hp → Prop) (Y : Nat → Hp → V → Hp → Prop) (G' H' : Hp), Same H H' → Same G G' → Wd O G' H' → Walk J xs.length Gd Y → (∀ H'', Same G' H'' → Gd H'') →
      (∀ i H1 v H2 O1 G1, i < xs.length → Same G' G1 → Wd O1 G1 H1 → Y i H1 v H2 → ∃ x G2, xs[i]? = some x ∧ Same H1 H2 ∧ Same G1 G2 ∧ Wd O1 G2 H2 ∧ Has r G2 v x) → R J H') → wi σ H R
section
variable {α β γ : Type} {O : List Addr} {σ : St} {G H : Hp} {r : Rl α} {q : Rl β} {x : α} {y : β} {ta tb te : TE} {K : PySem.W.Frag} {xs : List α} {ys : List β}
theorem get_of {xs : List α} {i : Nat} (h : i < xs.length) : ∃ x, xs[i]? = some x := ⟨xs[i], by simp [h]⟩
theorem it_list [Mo r] (h : Tv O te σ G (qL K r) xs) : Tit O (iList K te) σ G r xs := fun H w R k =>
  h H w _ fun v H1 s1 h1 => by
    obtain ⟨vs, ⟨a, ev, hs⟩, hp⟩ := h1
    refine ⟨a, ev, ⟨_, same_sqL wo_le hs⟩, ?_⟩
    refine k (Itl K a) _ _ (wo H1 O) H1 s1 (w.le.trans (same_wo s1)) (w.same s1).up (by rw [← Paired.len hp]; exact walk_list) (fun H'' s => same_sqL s hs) ?_
    rintro i Ha v Hb O1 G1 hi sg w1 ⟨rfl, e⟩
    obtain ⟨x, hx, hr⟩ := Paired.at' hp e
    exact ⟨x, G1, hx, Same.refl _, Same.refl _, w1, ⟨Mo.mo sg hr⟩⟩
theorem it_tup [Mo r] (h : Tv O te σ G (qT K r) xs) : Tit O (iTup K te) σ G r xs := fun H w R k =>
  h H w _ fun v H1 s1 h1 => by
    obtain ⟨vs, ⟨a, ev, hs⟩, hp⟩ := h1
    refine ⟨a, ev, ⟨_, same_sqT wo_le hs⟩, ?_⟩
    refine k (Itt K a) _ _ (wo H1 O) H1 s1 (w.le.trans (same_wo s1)) (w.same s1).up (by rw [← Paired.len hp]; exact walk_tup) (fun H'' s => same_sqT s hs) ?_
    rintro i Ha v Hb O1 G1 hi sg w1 ⟨rfl, e⟩
    obtain ⟨x, hx, hr⟩ := Paired.at' hp e
    exact ⟨x, G1, hx, Same.refl _, Same.refl _, w1, ⟨Mo.mo sg hr⟩⟩
theorem it_rng1 {n : Nat} (h : Tv O te σ G qI (n : Int)) (hn : n < 1000000) : Tit O (iRng1 (tCons te tNil)) σ G qN (List.range n) := fun H w R k =>
  h H w _ fun v H1 s1 h1 => by
    refine ⟨(n : Int), by rw [show v = .int (n : Int) from h1], by omega, by omega, ?_⟩
    refine k _ _ _ (wo H1 O) H1 s1 (w.le.trans (same_wo s1)) (w.same s1).up (by rw [List.length_range]; exact walk_range) (fun _ _ => trivial) ?_
    rintro i Ha v Hb O1 G1 hi sg w1 ⟨rfl, e⟩
    rw [List.length_range] at hi
    refine ⟨i, G1, by simp [hi], Same.refl _, Same.refl _, w1, ⟨?_⟩⟩
    rw [e]
    show V.int (0 + (i : Int)) = V.int (i : Int)
    rw [Int.zero_add]
/-- range(a, b) -/
theorem it_rng2 {a b : Nat} (h : Tv O ta σ G qI (a : Int)) (g : Tv O tb σ G qI (b : Int)) (hn : a < 1000000) (hb : b < 1000000) : Tit O (iRng2 (tCons ta (tCons tb tNil))) σ G qN ((List.range (b - a)).map (a + ·)) := fun H w R k =>
  h H w _ fun v H1 s1 h1 => g H1 (w.same s1) _ fun u H2 s2 h2 => by
    refine ⟨(a : Int), (b : Int), by rw [show v = .int (a : Int) from h1, show u = .int (b : Int) from h2], by omega, ?_⟩
    have w2 := (w.same s1).same s2
    have en : ((b : Int) - (a : Int)).toNat = b - a := by omega
    refine k _ _ _ (wo H2 O) H2 (s1.trans s2) w2.le w2.up (by rw [List.length_map, List.length_range, en]; exact walk_range) (fun _ _ => trivial) ?_
    rintro i Ha v Hb O1 G1 hi sg w1 ⟨rfl, e⟩
    rw [List.length_map, List.length_range] at hi
    refine ⟨a + i, G1, by simp [hi], Same.refl _, Same.refl _, w1, ⟨?_⟩⟩
    rw [e]
    show V.int ((a : Int) + (i : Int)) = V.int ((a + i : Nat) : Int)
    rw [Int.natCast_add]
/-- the signs of a text, a text each -/
def signs (z : PySem.Str) : List PySem.Str := z.cps.toList.map fun c => ⟨#[c]⟩
theorem it_str {z : PySem.Str} (h : Tv O te σ G qS z) : Tit O (iStr te) σ G qS (signs z) := fun H w R k =>
  h H w _ fun v H1 s1 h1 => by
    refine ⟨z, h1, ?_⟩
    have el : (signs z).length = z.cps.size := by unfold signs; rw [List.length_map, Array.length_toList]
    refine k _ _ _ (wo H1 O) H1 s1 (w.le.trans (same_wo s1)) (w.same s1).up (by rw [el]; exact walk_str) (fun _ _ => trivial) ?_
    rintro i Ha v Hb O1 G1 hi sg w1 ⟨rfl, c, e, ev⟩
    refine ⟨⟨#[c]⟩, G1, ?_, Same.refl _, Same.refl _, w1, ⟨ev⟩⟩
    unfold signs
    rw [List.getElem?_map, Array.getElem?_toList, e]
    rfl
/-- what enumerate and zip make at each turn -/
theorem pair_new {r : Rl α} {q : Rl β} [Mo r] [Mo q] {O1 : List Addr} {G1 H1 : Hp} {T : Addr} {u v : V} (w1 : Wd O1 G1 H1) (hT : H1 T = none) (h1 : r G1 u x) (h2 : q G1 v y) :
    Same H1 (upd H1 T (.tup [u, v])) ∧ Same G1 (wo (upd H1 T (.tup [u, v])) O1) ∧ Wd O1 (wo (upd H1 T (.tup [u, v])) O1) (upd H1 T (.tup [u, v])) ∧ Has (qP K r q) (wo (upd H1 T (.tup [u, v])) O1) (.ref T) (x, y) := by
  have s := same_new (o := .tup [u, v]) hT
  have sg : Same G1 (wo (upd H1 T (.tup [u, v])) O1) := w1.le.trans (same_wo s)
  exact ⟨s, sg, (w1.same s).up, ⟨u, v, ⟨T, rfl, SqT.of (wo_new w1.dm hT)⟩, Mo.mo sg h1, Mo.mo sg h2⟩⟩
theorem it_enum [Mo r] (h : Tv O te σ G (qL K r) xs) : Tit O (iEnum K (tCons te tNil)) σ G (qP K qN r) ((List.range xs.length).zip xs) := fun H w R k =>
  h H w _ fun v H1 s1 h1 => by
    obtain ⟨vs, ⟨a, ev, hs⟩, hp⟩ := h1
    have en : ((List.range xs.length).zip xs).length = vs.length := by rw [List.length_zip, List.length_range, Nat.min_self, Paired.len hp]
    refine ⟨a, vs, by rw [ev], same_sqL wo_le hs, ?_⟩
    refine k _ _ _ (wo H1 O) H1 s1 (w.le.trans (same_wo s1)) (w.same s1).up (by rw [en]; exact walk_enum) (fun H'' s => same_sqL s hs) ?_
    rintro i Ha v Hb O1 G1 hi sg w1 ⟨T, u, v2, rfl, hT, rfl, e1, e2⟩
    obtain ⟨x, hx, hr⟩ := Paired.at' hp e2
    cases e1
    obtain ⟨a1, a2, a3, a4⟩ := pair_new (K := K) (r := qN) (q := r) (x := i) (u := .int (i : Nat)) (v := v2) w1 hT rfl (Mo.mo sg hr)
    refine ⟨(i, x), _, ?_, a1, a2, a3, a4⟩
    have hl : i < xs.length := (List.getElem?_eq_some_iff.mp hx).1
    rw [List.getElem?_zip_eq_some]
    exact ⟨by simp [hl], hx⟩
theorem it_zip [Mo r] [Mo q] (h : Tv O ta σ G (qL K r) xs) (g : Tv O tb σ G (qL K q) ys) : Tit O (iZip K (tCons ta (tCons tb tNil))) σ G (qP K r q) (xs.zip ys) := fun H w R k =>
  h H w _ fun v H1 s1 h1 => g H1 (w.same s1) _ fun u H2 s2 h2 => by
    obtain ⟨vs, ⟨a, ev, hs⟩, hp⟩ := h1
    obtain ⟨us, ⟨b, eu, hs2⟩, hp2⟩ := h2
    have w2 := (w.same s1).same s2
    have en : (xs.zip ys).length = min vs.length us.length := by rw [List.length_zip, Paired.len hp, Paired.len hp2]
    refine ⟨a, b, vs, us, by rw [ev, eu], same_sqL (wo_le.trans s2) hs, same_sqL wo_le hs2, ?_⟩
    refine k _ _ _ (wo H2 O) H2 (s1.trans s2) w2.le w2.up (walk_zip en) (fun H'' s => ⟨same_sqL ((same_wo s2).trans s) hs, same_sqL s hs2⟩) ?_
    rintro i Ha v Hb O1 G1 hi sg w1 ⟨T, u, v2, rfl, hT, rfl, e1, e2⟩
    obtain ⟨x, hx, hr⟩ := Paired.at' hp e1
    obtain ⟨y, hy, hq⟩ := Paired.at' hp2 e2
    obtain ⟨a1, a2, a3, a4⟩ := pair_new (K := K) (r := r) (q := q) (x := x) (u := u) (v := v2) w1 hT (Mo.mo ((same_wo s2).trans sg) hr) (Mo.mo sg hq)
    refine ⟨(x, y), _, ?_, a1, a2, a3, a4⟩
    rw [List.getElem?_zip_eq_some]
    exact ⟨hx, hy⟩
theorem it_rev [Mo r] (h : Tv O te σ G (qL K r) xs) : Tit O (iRev K (tCons te tNil)) σ G r xs.reverse := fun H w R k =>
  h H w _ fun v H1 s1 h1 => by
    obtain ⟨vs, ⟨a, ev, hs⟩, hp⟩ := h1
    refine ⟨a, vs, by rw [ev], same_sqL wo_le hs, ?_⟩
    refine k _ _ _ (wo H1 O) H1 s1 (w.le.trans (same_wo s1)) (w.same s1).up (by rw [List.length_reverse, ← Paired.len hp]; exact walk_rev) (fun H'' s => same_sqL s hs) ?_
    rintro i Ha v Hb O1 G1 hi sg w1 ⟨rfl, e⟩
    obtain ⟨x, hx, hr⟩ := Paired.at' hp e
    rw [List.length_reverse] at hi
    refine ⟨x, G1, ?_, Same.refl _, Same.refl _, w1, ⟨Mo.mo sg hr⟩⟩
    rw [List.getElem?_reverse hi, ← Paired.len hp]
    exact hx

/-! ### targets -/
/-- storing a value that means x makes of the slots σ one of those that E tells -/
def Tg {α : Type} (g : TG) (r : Rl α) (E : Hp → α → St → St → Prop) : Prop :=
  ∀ (O : List Addr) (G H : Hp) (σ : St) (v : V) (x : α) (Q : St → Hp → Prop), Wd O G H → Has r G v x → (∀ σ', E G x σ σ' → Q σ' H) → g v σ H Q
def E1 {α : Type} (r : Rl α) (i : Nat) : Hp → α → St → St → Prop := fun G x σ σ' => ∃ v, σ' = σ.set i (some v) ∧ Has r G v x
def E2 {α β : Type} (r : Rl α) (q : Rl β) (i j : Nat) : Hp → α × β → St → St → Prop := fun G x σ σ' => ∃ u v, σ' = (σ.set i (some u)).set j (some v) ∧ Has r G u x.1 ∧ Has q G v x.2
theorem tg1 {i : Nat} : Tg (gName i) r (E1 r i) := fun O G H σ v x Q w h k => k _ ⟨v, rfl, h⟩
theorem tg2 {i j : Nat} : Tg (gTup K 2 (gCons (gName i) (gCons (gName j) gNil))) (qP K r q) (E2 r q i j) := fun O G H σ v x Q w h k => by
  obtain ⟨a, b, ⟨p, e, hs⟩, e1, e2⟩ := h.h
  exact ⟨p, [a, b], e, same_sqT w.to hs, rfl, a, [b], rfl, b, [], rfl, rfl, k _ ⟨a, b, rfl, ⟨e1⟩, ⟨e2⟩⟩⟩

/-! ### for, while -/
theorem st_for {wi : TI} {g : TG} {tb : TS} {D : Ends} {E : Hp → α → St → St → Prop} (w : Wd O G H) (hi : Tit O wi σ G r xs) (hg : Tg g r E) (J : Nat → St → Hp → Hp → Prop)
    (h0 : ∀ G' H', Same G G' → Same H H' → Wd O G' H' → J 0 σ G' H')
    (hs : ∀ i x σ1 G1 H1 G2 H2 σ2, xs[i]? = some x → J i σ1 G1 H1 → Same G G1 → Same G1 G2 → Same H1 H2 → Wd O G2 H2 → E G2 x σ1 σ2 →
      ∀ N : St → Hp → Prop, (∀ σ' G' H', Same G2 G' → Wd O G' H' → J (i + 1) σ' G' H' → N σ' H') → tb { D with nx := N, ct := N, bk := D.nx } σ2 H2)
    (hd : ∀ σ' G' H', Same G G' → Wd O G' H' → J xs.length σ' G' H' → D.nx σ' H') : tFor wi g tb D σ H := by
  refine hi H w _ fun It Gd Y G' H' sh sg w' wk hgd hy => ?_
  refine for_it wk (fun i σ1 H1 => ∃ G1, Same G' G1 ∧ Wd O G1 H1 ∧ J i σ1 G1 H1) ⟨G', Same.refl _, w', h0 G' H' sg sh w'⟩ (fun i σ1 H1 _ ⟨G1, s1, w1, _⟩ => hgd _ (s1.trans w1.to)) ?_ (fun σ1 H1 ⟨G1, s1, w1, j⟩ => hd σ1 G1 H1 (sg.trans s1) w1 j)
  rintro i v σ1 H1 H2 hlt ⟨G1, s1, w1, j⟩ y
  obtain ⟨x, G2, hx, sh2, sg2, w2, hh⟩ := hy i H1 v H2 O G1 hlt s1 w1 y
  refine hg O G2 H2 σ1 v x _ w2 hh fun σ2 e => ?_
  exact hs i x σ1 G1 H1 G2 H2 σ2 hx j (sg.trans s1) sg2 sh2 w2 e _ fun σ' G'' H'' sg' w'' j' => ⟨G'', (s1.trans sg2).trans sg', w'', j'⟩
theorem st_while {c : TT} {tb : TS} {D : Ends} (w : Wd O G H) (J : Nat → St → Hp → Hp → Prop) (m : Nat) (h0 : J m σ G H)
    (hs : ∀ m σ1 G1 H1, J m σ1 G1 H1 → Same G G1 → Wd O G1 H1 → ∃ b, Tt O c σ1 G1 b ∧ ∀ H2, Same H1 H2 → Wd O G1 H2 →
      if b = true then ∀ N : St → Hp → Prop, (∀ m' σ' G' H', m' < m → Same G1 G' → Wd O G' H' → J m' σ' G' H' → N σ' H') → tb { D with nx := N, ct := N, bk := D.nx } σ1 H2 else D.nx σ1 H2) : tWhile c tb D σ H := by
  refine ⟨fun m σ1 H1 => ∃ G1, Same G G1 ∧ Wd O G1 H1 ∧ J m σ1 G1 H1, ⟨m, G, Same.refl _, w, h0⟩, ?_⟩
  rintro m σ1 H1 ⟨G1, s1, w1, j⟩
  obtain ⟨b, ht, hb⟩ := hs m σ1 G1 H1 j s1 w1
  refine ht H1 w1 _ fun H2 s2 => ?_
  have q := hb H2 s2 (w1.same s2)
  cases b with
  | true =>
    rw [if_pos rfl] at q ⊢
    exact ⟨_, fun σ' H' h => h, q _ fun m' σ' G' H' hm sg w' j' => ⟨m', hm, G', s1.trans sg, w', j'⟩⟩
  | false =>
    rw [if_neg Bool.false_ne_true] at q ⊢
    exact q

theorem st_forS {wi : TI} {g : TG} {tb t2 : TS} {D : Ends} {E : Hp → α → St → St → Prop} (w : Wd O G H) (hi : Tit O wi σ G r xs) (hg : Tg g r E) (J : Nat → St → Hp → Hp → Prop)
    (h0 : ∀ G' H', Same G G' → Same H H' → Wd O G' H' → J 0 σ G' H')
    (hs : ∀ i x σ1 G1 H1 G2 H2 σ2, xs[i]? = some x → J i σ1 G1 H1 → Same G G1 → Same G1 G2 → Same H1 H2 → Wd O G2 H2 → E G2 x σ1 σ2 →
      ∀ N : St → Hp → Prop, (∀ σ' G' H', Same G2 G' → Wd O G' H' → J (i + 1) σ' G' H' → N σ' H') → tb { nx := N, rt := D.rt, ct := N, bk := t2 D } σ2 H2)
    (hd : ∀ σ' G' H', Same G G' → Wd O G' H' → J xs.length σ' G' H' → t2 D σ' H') : tSeq (tFor wi g tb) t2 D σ H := st_for (D := { D with nx := t2 D }) w hi hg J h0 hs hd
theorem st_whileS {c : TT} {tb t2 : TS} {D : Ends} (w : Wd O G H) (J : Nat → St → Hp → Hp → Prop) (m : Nat) (h0 : J m σ G H)
    (hs : ∀ m σ1 G1 H1, J m σ1 G1 H1 → Same G G1 → Wd O G1 H1 → ∃ b, Tt O c σ1 G1 b ∧ ∀ H2, Same H1 H2 → Wd O G1 H2 →
      if b = true then ∀ N : St → Hp → Prop, (∀ m' σ' G' H', m' < m → Same G1 G' → Wd O G' H' → J m' σ' G' H' → N σ' H') → tb { nx := N, rt := D.rt, ct := N, bk := t2 D } σ1 H2 else t2 D σ1 H2) : tSeq (tWhile c tb) t2 D σ H := st_while (D := { D with nx := t2 D }) w J m h0 hs

/-! ### comprehensions -/
theorem wipe_get {σ : St} {i : Nat} : ∀ {vs : List Nat}, (wipe σ vs)[i]? = if i ∈ vs then (if i < σ.length then some none else none) else σ[i]?
  | [] => by simp [wipe]
  | v :: vs => by
    unfold wipe
    by_cases e : v = i
    · subst e
      rw [if_pos List.mem_cons_self]
      by_cases hl : v < σ.length
      · rw [if_pos hl, List.getElem?_set_self (by rw [wipe_length]; exact hl)]
      · rw [if_neg hl, List.getElem?_eq_none (by rw [List.length_set, wipe_length]; omega)]
    · rw [List.getElem?_set_ne e, wipe_get]
      have : (i ∈ v :: vs) = (i ∈ vs) := by simp [Ne.symm e]
      simp only [this]
theorem wipe_set {σ : St} {i : Nat} {x : Option V} {vs : List Nat} (h : i ∈ vs) : wipe (σ.set i x) vs = wipe σ vs := by
  apply List.ext_getElem?
  intro k
  rw [wipe_get, wipe_get, List.length_set]
  by_cases hk : k ∈ vs
  · rw [if_pos hk, if_pos hk]
  · rw [if_neg hk, if_neg hk, List.getElem?_set_ne (fun z : i = k => hk (by rw [← z]; exact h))]
theorem wipe_wipe {σ : St} {vs : List Nat} : wipe (wipe σ vs) vs = wipe σ vs := by
  apply List.ext_getElem?
  intro k
  rw [wipe_get, wipe_length]
  by_cases hk : k ∈ vs
  · rw [if_pos hk, wipe_get, if_pos hk]
  · rw [if_neg hk]
/-- the target stores among vs alone -/
def Own {α : Type} (E : Hp → α → St → St → Prop) (vs : List Nat) : Prop := ∀ G x σ σ', E G x σ σ' → wipe σ' vs = wipe σ vs
theorem own1 {i : Nat} {vs : List Nat} (h : i ∈ vs) : Own (E1 r i) vs := fun G x σ σ' ⟨v, e, _⟩ => by rw [e, wipe_set h]
theorem own2 {i j : Nat} {vs : List Nat} (h : i ∈ vs) (h2 : j ∈ vs) : Own (E2 r q i j) vs := fun G x σ σ' ⟨u, v, e, _, _⟩ => by rw [e, wipe_set h2, wipe_set h]
theorem filter_take {p : α → Bool} {f : α → β} {i : Nat} (h : xs[i]? = some x) : ((xs.take (i + 1)).filter p).map f = ((xs.take i).filter p).map f ++ (if p x = true then [f x] else []) := by
  rw [List.take_add_one, h]
  show (((xs.take i) ++ [x]).filter p).map f = _
  rw [List.filter_append, List.map_append]
  congr 1
  by_cases e : p x = true
  · simp [e]
  · simp [e]
/-- a list that is no constant -/
def qLs {β : Type} (q : Rl β) : Rl (List β) := fun G v xs => ∃ a acc, v = .ref a ∧ G a = some (.lst acc) ∧ Paired (q G) acc xs
instance {β : Type} (q : Rl β) [Mo q] : Mo (qLs q) := ⟨fun s ⟨a, acc, e, h, p⟩ => ⟨a, acc, e, s _ _ h, paired_mono (fun _ _ z => Mo.mo s z) p⟩⟩
theorem qLs_L {β : Type} {q : Rl β} {K : PySem.W.Frag} {G : Hp} {v : V} {ys : List β} (h : qLs q G v ys) : qL K q G v ys := by
  obtain ⟨a, acc, e, h, p⟩ := h
  exact ⟨acc, ⟨a, e, SqL.of h⟩, p⟩
theorem tv_Ls {β : Type} {q : Rl β} {K : PySem.W.Frag} {O : List Addr} {σ : St} {G : Hp} {ys : List β} {te : TE} (h : Tv O te σ G (qLs q) ys) : Tv O te σ G (qL K q) ys := h.sub fun _ _ z => qLs_L z
theorem tv_lcS {wi : TI} {g : TG} {tt : TT} {vs : List Nat} {E : Hp → α → St → St → Prop} [Mo q] (hi : Tit O wi σ G r xs) (hg : Tg g r E) (ho : Own E vs) (hz : xs.length < 10000) {p : α → Bool} {f : α → β}
    (ht : ∀ (D : Addr) (i : Nat) (x : α) (G1 : Hp) (σ2 : St), xs[i]? = some x → Same G G1 → E G1 x (wipe σ vs) σ2 → Tt (D :: O) tt σ2 G1 (p x))
    (he : ∀ (D : Addr) (i : Nat) (x : α) (G1 : Hp) (σ2 : St), xs[i]? = some x → p x = true → Same G G1 → E G1 x (wipe σ vs) σ2 → Tv (D :: O) te σ2 G1 q (f x)) : Tv O (tLc wi g tt te vs) σ G (qLs q) ((xs.filter p).map f) := by
  intro H w Q k
  refine hi H w _ fun It Gd Y G' H' sh sg w' wk hgd hy => ?_
  intro D hD
  have w0 := w'.own (o := .lst []) hD
  refine lc_it wk (fun i H1 => ∃ G1 acc, Same G' G1 ∧ Wd (D :: O) G1 H1 ∧ Same H' (fun b => if b = D then none else H1 b) ∧ H1 D = some (.lst acc) ∧ Paired (q G1) acc (((xs.take i).filter p).map f) ∧ acc.length ≤ i) ?_ (fun i H1 _ ⟨G1, acc, s1, w1, _⟩ => hgd _ (s1.trans w1.to)) ?_ ?_
  · refine ⟨G', [], Same.refl _, w0, fun b o e => ?_, upd_same, .nil, Nat.le_refl _⟩
    have hn := ne_of_none e hD
    show (if b = D then none else upd H' D (.lst []) b) = some o
    rw [if_neg hn, upd_ne hn]
    exact e
  · rintro i v H1 H2 hlt ⟨G1, acc, s1, w1, st, eD, pr, hl⟩ y
    obtain ⟨x, G2, hx, sh2, sg2, w2, hh⟩ := hy i H1 v H2 (D :: O) G1 hlt s1 w1 y
    refine hg (D :: O) G2 H2 (wipe σ vs) v x _ w2 hh fun σ2 e => ?_
    refine ⟨by rw [ho _ _ _ _ e, wipe_wipe], ?_⟩
    have st2 : Same H' (fun b => if b = D then none else H2 b) := fun b o z => by
      have z2 := st b o z
      show (if b = D then none else H2 b) = some o
      have z2 : (if b = D then none else H1 b) = some o := z2
      by_cases hb : b = D
      · rw [if_pos hb] at z2; cases z2
      · rw [if_neg hb] at z2 ⊢
        exact sh2 _ _ z2
    refine ht D i x G2 σ2 hx ((sg.trans s1).trans sg2) e H2 w2 _ fun H3 s3 => ?_
    have st3 : Same H' (fun b => if b = D then none else H3 b) := fun b o z => by
      have z2 : (if b = D then none else H2 b) = some o := st2 b o z
      show (if b = D then none else H3 b) = some o
      by_cases hb : b = D
      · rw [if_pos hb] at z2; cases z2
      · rw [if_neg hb] at z2 ⊢
        exact s3 _ _ z2
    have w3 := w2.same s3
    by_cases hp : p x = true
    · rw [if_pos hp]
      refine he D i x G2 σ2 hx hp ((sg.trans s1).trans sg2) e H3 w3 _ fun u H4 s4 hu => ?_
      have w4 := w3.same s4
      have eD4 : H4 D = some (.lst acc) := s4 _ _ (s3 _ _ (sh2 _ _ eD))
      refine ⟨acc, eD4, Nat.lt_of_le_of_lt hl (by rw [sizeLine_eq]; omega), ?_⟩
      have s5 : Same G2 (wo H4 (D :: O)) := w2.le.trans (same_wo (s3.trans s4))
      have w5 : Wd (D :: O) (wo H4 (D :: O)) (upd H4 D (.lst (acc ++ [u]))) := w4.up.set List.mem_cons_self
      refine ⟨wo H4 (D :: O), acc ++ [u], (s1.trans sg2).trans s5, w5, fun b o z => ?_, upd_same, ?_, by rw [List.length_append, List.length_singleton]; omega⟩
      · have z2 : (if b = D then none else H3 b) = some o := st3 b o z
        show (if b = D then none else upd H4 D (.lst (acc ++ [u])) b) = some o
        by_cases hb : b = D
        · rw [if_pos hb] at z2; cases z2
        · rw [if_neg hb] at z2 ⊢
          rw [upd_ne hb]
          exact s4 _ _ z2
      · rw [filter_take hx, if_pos hp]
        exact Paired.snoc (paired_mono (fun _ _ z => Mo.mo (sg2.trans s5) z) pr) hu
    · rw [if_neg hp]
      refine ⟨G2, acc, s1.trans sg2, w3, st3, s3 _ _ (sh2 _ _ eD), ?_, Nat.le_succ_of_le hl⟩
      rw [filter_take hx, if_neg hp, List.append_nil]
      exact paired_mono (fun _ _ z => Mo.mo sg2 z) pr
  · rintro H1 ⟨G1, acc, s1, w1, st, eD, pr, hl⟩
    rw [List.take_length] at pr
    refine k (.ref D) H1 (sh.trans fun b o z => ?_) ⟨D, acc, rfl, ?_, paired_mono (fun _ _ z => Mo.mo w1.drop.le z) pr⟩
    · have z2 : (if b = D then none else H1 b) = some o := st b o z
      by_cases hb : b = D
      · rw [if_pos hb] at z2; cases z2
      · rw [if_neg hb] at z2
        exact z2
    · rw [wo_out (dom_new w'.dm hD)]
      exact eD
theorem tv_lc {wi : TI} {g : TG} {tt : TT} {vs : List Nat} {E : Hp → α → St → St → Prop} [Mo q] (hi : Tit O wi σ G r xs) (hg : Tg g r E) (ho : Own E vs) (hz : xs.length < 10000) {p : α → Bool} {f : α → β}
    (ht : ∀ (D : Addr) (i : Nat) (x : α) (G1 : Hp) (σ2 : St), xs[i]? = some x → Same G G1 → E G1 x (wipe σ vs) σ2 → Tt (D :: O) tt σ2 G1 (p x))
    (he : ∀ (D : Addr) (i : Nat) (x : α) (G1 : Hp) (σ2 : St), xs[i]? = some x → p x = true → Same G G1 → E G1 x (wipe σ vs) σ2 → Tv (D :: O) te σ2 G1 q (f x)) : Tv O (tLc wi g tt te vs) σ G (qL K q) ((xs.filter p).map f) := tv_Ls (tv_lcS hi hg ho hz ht he)
theorem tt_yes : Tt O tYes σ G true := fun H w Q k => k H (Same.refl _)
theorem tv_mapS {wi : TI} {g : TG} {vs : List Nat} {E : Hp → α → St → St → Prop} [Mo q] (hi : Tit O wi σ G r xs) (hg : Tg g r E) (ho : Own E vs) (hz : xs.length < 10000) {f : α → β}
    (he : ∀ (D : Addr) (i : Nat) (x : α) (G1 : Hp) (σ2 : St), xs[i]? = some x → Same G G1 → E G1 x (wipe σ vs) σ2 → Tv (D :: O) te σ2 G1 q (f x)) : Tv O (tLc wi g tYes te vs) σ G (qLs q) (xs.map f) := by
  have h := tv_lcS (p := fun _ => true) hi hg ho hz (fun _ _ _ _ _ _ _ _ => tt_yes) fun D i x G1 σ2 hx _ => he D i x G1 σ2 hx
  rw [List.filter_eq_self.mpr (fun _ _ => rfl)] at h
  exact h
/-- [e for x in xs] -/
theorem tv_map {wi : TI} {g : TG} {vs : List Nat} {E : Hp → α → St → St → Prop} [Mo q] (hi : Tit O wi σ G r xs) (hg : Tg g r E) (ho : Own E vs) (hz : xs.length < 10000) {f : α → β}
    (he : ∀ (D : Addr) (i : Nat) (x : α) (G1 : Hp) (σ2 : St), xs[i]? = some x → Same G G1 → E G1 x (wipe σ vs) σ2 → Tv (D :: O) te σ2 G1 q (f x)) : Tv O (tLc wi g tYes te vs) σ G (qL K q) (xs.map f) := by
  have h := tv_lc (K := K) (p := fun _ => true) hi hg ho hz (fun _ _ _ _ _ _ _ _ => tt_yes) fun D i x G1 σ2 hx _ => he D i x G1 σ2 hx
  rw [List.filter_eq_self.mpr (fun _ _ => rfl)] at h
  exact h
end
end Nb
set_option Elab.async false
set_option linter.all false
set_option maxRecDepth 100000
set_option maxHeartbeats 2000000
namespace Nb
open PySem L2
open PyProof.Rows (envOfC)

/-! ### built-ins by name, their readings by the written part's own letter -/
section
variable {X : Cx} {K : PySem.W.Frag} {p pos : Pos} {e : Expr} {es : List Expr} {t : TA}
theorem peTy {x : PySem.Str} {n : String} (hm : X.mg x = none) (hv : bootBuiltins x = some (.type n)) (hg : Gl X x := by rfl) (hn : x ≠ "__name__" := by decide) (hd : (x == ("__debug__" : PySem.Str)) = false := by decide) : PE X (.Name x pos) (tC (.ty n)) := pe_bltn hg hm hv rfl hn hd
theorem c_len (h : X.K = K) (hm : X.mg "len" = none) (ha : PA X (e :: es) t) (hg : Gl X "len" := by rfl) (he : starEach (e :: es) X.env = (false, eval e X.env) :: starEach es X.env := by rfl) (hpl : (backTo pos (starEach es X.env)).any (·.1) = false := by rfl) :
    PE X (.Call (.Name "len" p) (e :: es) [] pos) (tCB (rLen K) t) := pe_callB (cLen h) hg hm PySem.boot_len ha (by decide) (by decide) he hpl
theorem c_isinstance (h : X.K = K) (hm : X.mg "isinstance" = none) (ha : PA X (e :: es) t) (hg : Gl X "isinstance" := by rfl) (he : starEach (e :: es) X.env = (false, eval e X.env) :: starEach es X.env := by rfl) (hpl : (backTo pos (starEach es X.env)).any (·.1) = false := by rfl) :
    PE X (.Call (.Name "isinstance" p) (e :: es) [] pos) (tCB (rIsi K) t) := pe_callB (cIsi h) hg hm PyProof.Rows.boot_isinstance ha (by decide) (by decide) he hpl
theorem c_isinstanceT (h : X.K = K) (hm : X.mg "isinstance" = none) (ha : PA X (e :: es) t) (hg : Gl X "isinstance" := by rfl) (he : starEach (e :: es) X.env = (false, eval e X.env) :: starEach es X.env := by rfl) (hpl : (backTo pos (starEach es X.env)).any (·.1) = false := by rfl) :
    PE X (.Call (.Name "isinstance" p) (e :: es) [] pos) (tCB (rIsiT K) t) := pe_callB (h ▸ call_isiT) hg hm PyProof.Rows.boot_isinstance ha (by decide) (by decide) he hpl
theorem c_sum (h : X.K = K) (hm : X.mg "sum" = none) (ha : PA X (e :: es) t) (hc : X.calm = true := by rfl) (hg : Gl X "sum" := by rfl) (he : starEach (e :: es) X.env = (false, eval e X.env) :: starEach es X.env := by rfl) (hpl : (backTo pos (starEach es X.env)).any (·.1) = false := by rfl) :
    PE X (.Call (.Name "sum" p) (e :: es) [] pos) (tCB (rSum K) t) := pe_callB (h ▸ cr_sum hc) hg hm PyProof.Rows.boot_sum ha (by decide) (by decide) he hpl
theorem c_min (h : X.K = K) (hm : X.mg "min" = none) (ha : PA X (e :: es) t) (hc : X.calm = true := by rfl) (hg : Gl X "min" := by rfl) (he : starEach (e :: es) X.env = (false, eval e X.env) :: starEach es X.env := by rfl) (hpl : (backTo pos (starEach es X.env)).any (·.1) = false := by rfl) :
    PE X (.Call (.Name "min" p) (e :: es) [] pos) (tCB (rMin K) t) := pe_callB (h ▸ cr_min hc) hg hm PyProof.Rows.boot_min ha (by decide) (by decide) he hpl
theorem c_max (h : X.K = K) (hm : X.mg "max" = none) (ha : PA X (e :: es) t) (hc : X.calm = true := by rfl) (hg : Gl X "max" := by rfl) (he : starEach (e :: es) X.env = (false, eval e X.env) :: starEach es X.env := by rfl) (hpl : (backTo pos (starEach es X.env)).any (·.1) = false := by rfl) :
    PE X (.Call (.Name "max" p) (e :: es) [] pos) (tCB (rMax K) t) := pe_callB (h ▸ cr_max hc) hg hm PyProof.Rows.boot_max ha (by decide) (by decide) he hpl
theorem c_all (h : X.K = K) (hm : X.mg "all" = none) (ha : PA X (e :: es) t) (hc : X.calm = true := by rfl) (hg : Gl X "all" := by rfl) (he : starEach (e :: es) X.env = (false, eval e X.env) :: starEach es X.env := by rfl) (hpl : (backTo pos (starEach es X.env)).any (·.1) = false := by rfl) :
    PE X (.Call (.Name "all" p) (e :: es) [] pos) (tCB (rAll K) t) := pe_callB (h ▸ cr_all hc) hg hm PyProof.Rows.boot_all ha (by decide) (by decide) he hpl
def rMin2 : List V → Hp → VK → Prop := fun xs H Q => ∃ i j, xs = [.int i, .int j] ∧ Q (.int (if j < i then j else i)) H
def rMax2 : List V → Hp → VK → Prop := fun both H Q => ∃ i j, both = [.int i, .int j] ∧ Q (.int (if j > i then j else i)) H
def rAbs : List V → Hp → VK → Prop := fun xs H Q => ∃ i, xs = [.int i] ∧ Q (.int (if i < 0 then -i else i)) H
def rInt1 : List V → Hp → VK → Prop := fun xs H Q => (∃ i, xs = [.int i] ∧ Q (.int i) H) ∨ ∃ k, xs = [.bl k] ∧ Q (.int (if k then 1 else 0)) H
def rIntS : List V → Hp → VK → Prop := fun xs H Q => ∃ a n, xs = [.str a] ∧ PySem.intText? a = some n ∧ a.length ≤ 640 ∧ Q (.int n) H
def rStrI : List V → Hp → VK → Prop := fun xs H Q => ∃ i : Int, xs = [.int i] ∧ i.natAbs.log2 < 1920 ∧ Q (.str (toString i)) H
def rListOf (K : PySem.W.Frag) : List V → Hp → VK → Prop := fun xs H Q => ∃ p ys, xs = [.ref p] ∧ (SqL K H p ys ∨ SqT K H p ys) ∧ ∀ l, H l = none → Q (.ref l) (upd H l (.lst ys))
def rTupOf (K : PySem.W.Frag) : List V → Hp → VK → Prop := fun xs H Q => ∃ p ys, xs = [.ref p] ∧ ((SqL K H p ys ∧ ∀ l, H l = none → Q (.ref l) (upd H l (.tup ys))) ∨ (SqT K H p ys ∧ Q (.ref p) H))
theorem c_min2 (h : X.K = K) (hm : X.mg "min" = none) (ha : PA X (e :: es) t) (hc : X.calm = true := by rfl) (hg : Gl X "min" := by rfl) (he : starEach (e :: es) X.env = (false, eval e X.env) :: starEach es X.env := by rfl) (hpl : (backTo pos (starEach es X.env)).any (·.1) = false := by rfl) :
    PE X (.Call (.Name "min" p) (e :: es) [] pos) (tCB rMin2 t) := pe_callB (call_min2 hc) hg hm PyProof.Rows.boot_min ha (by decide) (by decide) he hpl
theorem c_max2 (h : X.K = K) (hm : X.mg "max" = none) (ha : PA X (e :: es) t) (hc : X.calm = true := by rfl) (hg : Gl X "max" := by rfl) (he : starEach (e :: es) X.env = (false, eval e X.env) :: starEach es X.env := by rfl) (hpl : (backTo pos (starEach es X.env)).any (·.1) = false := by rfl) :
    PE X (.Call (.Name "max" p) (e :: es) [] pos) (tCB rMax2 t) := pe_callB (call_max2 hc) hg hm PyProof.Rows.boot_max ha (by decide) (by decide) he hpl
theorem c_abs (h : X.K = K) (hm : X.mg "abs" = none) (ha : PA X (e :: es) t) (hg : Gl X "abs" := by rfl) (he : starEach (e :: es) X.env = (false, eval e X.env) :: starEach es X.env := by rfl) (hpl : (backTo pos (starEach es X.env)).any (·.1) = false := by rfl) :
    PE X (.Call (.Name "abs" p) (e :: es) [] pos) (tCB rAbs t) := pe_callB call_abs hg hm PyProof.Rows.boot_abs ha (by decide) (by decide) he hpl
theorem c_int (h : X.K = K) (hm : X.mg "int" = none) (ha : PA X (e :: es) t) (hg : Gl X "int" := by rfl) (he : starEach (e :: es) X.env = (false, eval e X.env) :: starEach es X.env := by rfl) (hpl : (backTo pos (starEach es X.env)).any (·.1) = false := by rfl) :
    PE X (.Call (.Name "int" p) (e :: es) [] pos) (tCB rInt1 t) := pe_callTy call_int1 hg hm PyProof.Rows.boot_int ha (by decide) (by decide) he hpl
theorem c_intS (h : X.K = K) (hm : X.mg "int" = none) (ha : PA X (e :: es) t) (hg : Gl X "int" := by rfl) (he : starEach (e :: es) X.env = (false, eval e X.env) :: starEach es X.env := by rfl) (hpl : (backTo pos (starEach es X.env)).any (·.1) = false := by rfl) :
    PE X (.Call (.Name "int" p) (e :: es) [] pos) (tCB rIntS t) := pe_callTy call_int_str hg hm PyProof.Rows.boot_int ha (by decide) (by decide) he hpl
theorem c_str (h : X.K = K) (hm : X.mg "str" = none) (ha : PA X (e :: es) t) (hg : Gl X "str" := by rfl) (he : starEach (e :: es) X.env = (false, eval e X.env) :: starEach es X.env := by rfl) (hpl : (backTo pos (starEach es X.env)).any (·.1) = false := by rfl) :
    PE X (.Call (.Name "str" p) (e :: es) [] pos) (tCB rStrI t) := pe_callTy call_str_int hg hm PyProof.Rows.boot_str ha (by decide) (by decide) he hpl
theorem c_list (h : X.K = K) (hm : X.mg "list" = none) (ha : PA X (e :: es) t) (hg : Gl X "list" := by rfl) (he : starEach (e :: es) X.env = (false, eval e X.env) :: starEach es X.env := by rfl) (hpl : (backTo pos (starEach es X.env)).any (·.1) = false := by rfl) :
    PE X (.Call (.Name "list" p) (e :: es) [] pos) (tCB (rListOf K) t) := pe_callTy (h ▸ call_list_of) hg hm PyProof.Rows.boot_list ha (by decide) (by decide) he hpl
theorem c_tuple (h : X.K = K) (hm : X.mg "tuple" = none) (ha : PA X (e :: es) t) (hg : Gl X "tuple" := by rfl) (he : starEach (e :: es) X.env = (false, eval e X.env) :: starEach es X.env := by rfl) (hpl : (backTo pos (starEach es X.env)).any (·.1) = false := by rfl) :
    PE X (.Call (.Name "tuple" p) (e :: es) [] pos) (tCB (rTupOf K) t) := pe_callTy (h ▸ call_tuple_of) hg hm PyProof.Rows.boot_tuple ha (by decide) (by decide) he hpl
/-! what is walked -/
variable {tg : Expr} {te : TE} {elts : List Expr} {kk : Nat} {tpos : Pos} {ta : TA} {e2 : Expr}
theorem piL (h : X.K = K) (he : PE X e te) : PI X tg e (iList K te) := h ▸ pi_list he
theorem piT (h : X.K = K) (he : PE X e te) : PI X tg e (iTup K te) := h ▸ pi_tup he
theorem pizL (h : X.K = K) (hm : X.mg "zip" = none) (ha : PA X [e, e2] ta) (hg : Gl X "zip" := by rfl) (hs : starEach [e, e2] X.env = (false, eval e X.env) :: starEach [e2] X.env := by rfl) (hpl : (backTo pos (starEach [e2] X.env)).any (·.1) = false := by rfl) :
    PI X (.Tuple elts kk tpos) (.Call (.Name "zip" p) [e, e2] [] pos) (iZip K ta) := h ▸ pi_zip hg hm ha hs hpl
theorem pienL (h : X.K = K) (hm : X.mg "enumerate" = none) (ha : PA X [e] ta) (hg : Gl X "enumerate" := by rfl) (hs : starEach [e] X.env = [(false, eval e X.env)] := by rfl) :
    PI X (.Tuple elts kk tpos) (.Call (.Name "enumerate" p) [e] [] pos) (iEnum K ta) := h ▸ pi_enum hg hm ha hs
theorem pirevL (h : X.K = K) (hm : X.mg "reversed" = none) (ha : PA X [e] ta) (hg : Gl X "reversed" := by rfl) (hs : starEach [e] X.env = [(false, eval e X.env)] := by rfl) :
    PI X tg (.Call (.Name "reversed" p) [e] [] pos) (iRev K ta) := h ▸ pi_reversed hg hm ha hs
theorem eqD (h : X.K = K) (hu : X.A.units + 64 < cLine) : OpR X (compareOp .Eq) (rEqD K) := h ▸ op_eqD hu
theorem neD (h : X.K = K) (hu : X.A.units + 64 < cLine) : OpR X (compareOp .NotEq) (rNeD K) := h ▸ op_neD hu
theorem inS (h : X.K = K) : OpR X (compareOp .In) (rIn K false) := h ▸ op_in_seq
theorem slL (h : X.K = K) : SlR X (rSlL K) := h ▸ sl_list
theorem slT (h : X.K = K) : SlR X (rSlT K) := h ▸ sl_tup
theorem revL {k : Nat} {p1 p2 p3 : Pos} (h : X.K = K) (he : PE X e te) : PE X (.Subscript e (.Slice none none (some (.UnaryOp .USub (.Constant (.int 1) k p1) p2)) p3) pos) (tRevL K te) := h ▸ pe_revL he
end
end Nb
set_option Elab.async false
set_option linter.all false
set_option maxRecDepth 100000
set_option maxHeartbeats 2000000
namespace Nb
open PySem L2
open PyProof.Rows (envOfC)
/-- a list or a tuple that is walked -/
def iSeq (K : PySem.W.Frag) (te : TE) : TI := fun σ H R => te σ H fun x H1 => ∃ a, x = .ref a ∧ (((∃ xs, SqL K H1 a xs) ∧ R (Itl K a) H1) ∨ ((∃ xs, SqT K H1 a xs) ∧ R (Itt K a) H1))
theorem piA {X : Cx} {K : PySem.W.Frag} {tg e : Expr} {te : TE} (hK : X.K = K) (he : PE X e te) : PI X tg e (iSeq K te) := by
  subst hK
  refine ⟨fun pins s σ H R I h => thn (he.run pins s σ H _ I h) fun v s1 hh => ?_⟩
  obtain ⟨x, H1, I1, r1, a, ex, q⟩ := hh
  subst ex
  obtain rfl : v = .ref a := r1
  rcases q with ⟨⟨xs, hq⟩, q⟩ | ⟨⟨xs, hq⟩, q⟩
  · obtain ⟨its, _, pl, _⟩ := I1.list hq
    exact PySem.wpAny_pyIter_list pl.isList (pi_one (tk := s1.toks) I1 _ (turn_list a _) ⟨_, Heap.get?_push_size _ rfl, rfl, rfl⟩ q)
  · obtain ⟨its, _, pl, _⟩ := I1.tuple hq
    exact PySem.wpAny_pyIter_tuple (show s1.heap.IsTuple a its.toArray from pl) (pi_one (tk := s1.toks) I1 _ (turn_tuple a _) ⟨_, Heap.get?_push_size _ rfl, rfl, rfl⟩ q)
section
variable {α β γ : Type} {O : List Addr} {σ : St} {G H : Hp} {r : Rl α} {q : Rl β} {x : α} {y : β} {ta tb te : TE} {K : PySem.W.Frag} {xs : List α} {ys : List β}
theorem it_seq [Mo r] (h : Tv O te σ G (qSq K r) xs) : Tit O (iSeq K te) σ G r xs := fun H w R k =>
  h H w _ fun v H1 s1 h1 => by
    rcases h1 with ⟨vs, ⟨a, ev, hs⟩, hp⟩ | ⟨vs, ⟨a, ev, hs⟩, hp⟩
    · refine ⟨a, ev, .inl ⟨⟨_, same_sqL wo_le hs⟩, ?_⟩⟩
      refine k (Itl K a) _ _ (wo H1 O) H1 s1 (w.le.trans (same_wo s1)) (w.same s1).up (by rw [← Paired.len hp]; exact walk_list) (fun H'' s => same_sqL s hs) ?_
      rintro i Ha v Hb O1 G1 hi sg w1 ⟨rfl, e⟩
      obtain ⟨x, hx, hr⟩ := Paired.at' hp e
      exact ⟨x, G1, hx, Same.refl _, Same.refl _, w1, ⟨Mo.mo sg hr⟩⟩
    · refine ⟨a, ev, .inr ⟨⟨_, same_sqT wo_le hs⟩, ?_⟩⟩
      refine k (Itt K a) _ _ (wo H1 O) H1 s1 (w.le.trans (same_wo s1)) (w.same s1).up (by rw [← Paired.len hp]; exact walk_tup) (fun H'' s => same_sqT s hs) ?_
      rintro i Ha v Hb O1 G1 hi sg w1 ⟨rfl, e⟩
      obtain ⟨x, hx, hr⟩ := Paired.at' hp e
      exact ⟨x, G1, hx, Same.refl _, Same.refl _, w1, ⟨Mo.mo sg hr⟩⟩
/-! ### len -/
theorem tv_cb1 {rd : List V → Hp → VK → Prop} (h : Tv O te σ G r x) (k : ∀ v H, Dom O H → r (wo H O) v x → ∀ Q : VK, (∀ u H', Same H H' → q (wo H' O) u y → Q u H') → rd [v] H Q) : Tv O (tCB rd (tCons te tNil)) σ G q y := fun H w Q kk =>
  h H w _ fun v H1 s1 h1 => k v H1 (w.same s1).dm h1 Q fun u H2 s2 h2 => kk u H2 (s1.trans s2) h2
theorem lenV_L {v : V} {vs : List V} {H : Hp} (h : qLv K (wo H O) v vs) : LenV K v H vs.length := by
  obtain ⟨a, rfl, hs⟩ := h
  exact .inl ⟨vs, same_sqL wo_le hs, rfl⟩
theorem lenV_T {v : V} {vs : List V} {H : Hp} (h : qTv K (wo H O) v vs) : LenV K v H vs.length := by
  obtain ⟨a, rfl, hs⟩ := h
  exact .inr ⟨vs, same_sqT wo_le hs, rfl⟩
theorem tv_lenL (h : Tv O te σ G (qL K r) xs) : Tv O (tCB (rLen K) (tCons te tNil)) σ G qI (xs.length : Int) :=
  tv_cb1 h fun v H d ⟨vs, hv, hp⟩ Q k => ⟨v, vs.length, rfl, lenV_L hv, by rw [Paired.len hp]; exact k _ _ (Same.refl _) rfl⟩
theorem tv_lenT (h : Tv O te σ G (qT K r) xs) : Tv O (tCB (rLen K) (tCons te tNil)) σ G qI (xs.length : Int) :=
  tv_cb1 h fun v H d ⟨vs, hv, hp⟩ Q k => ⟨v, vs.length, rfl, lenV_T hv, by rw [Paired.len hp]; exact k _ _ (Same.refl _) rfl⟩
theorem tv_lenA (h : Tv O te σ G (qSq K r) xs) : Tv O (tCB (rLen K) (tCons te tNil)) σ G qI (xs.length : Int) :=
  tv_cb1 h fun v H d hv Q k => by
    rcases hv with ⟨vs, hv, hp⟩ | ⟨vs, hv, hp⟩
    · exact ⟨v, vs.length, rfl, lenV_L hv, by rw [Paired.len hp]; exact k _ _ (Same.refl _) rfl⟩
    · exact ⟨v, vs.length, rfl, lenV_T hv, by rw [Paired.len hp]; exact k _ _ (Same.refl _) rfl⟩
theorem tv_lenS {z : PySem.Str} (h : Tv O te σ G qS z) (hz : z.length ≤ 1000) : Tv O (tCB (rLen K) (tCons te tNil)) σ G qI (z.length : Int) :=
  tv_cb1 h fun v H d hv Q k => ⟨v, z.length, rfl, by rw [show v = .str z from hv]; exact ⟨by rw [sizeLine_eq]; omega, rfl⟩, k _ _ (Same.refl _) rfl⟩
theorem tv_lenP (h : Tv O te σ G (qP K r q) (x, y)) : Tv O (tCB (rLen K) (tCons te tNil)) σ G qI 2 :=
  tv_cb1 h fun v H d ⟨a, b, hv, _, _⟩ Q k => ⟨v, 2, rfl, lenV_T hv, k _ _ (Same.refl _) rfl⟩
/-! ### types -/
theorem ty_lst {H : Hp} {v : V} {vs : List V} (h : qLv K H v vs) : TyX K H v (.type "list") := by
  obtain ⟨a, rfl, (h | ⟨o, h⟩) | ⟨o, its, n, h, hc, _⟩⟩ := h
  · exact .base (.lst h)
  · exact .base (.frz h)
  · exact .kList h hc
theorem ty_tup {H : Hp} {v : V} {vs : List V} (h : qTv K H v vs) : TyX K H v (.type "tuple") := by
  obtain ⟨a, rfl, (h | ⟨o, h⟩) | ⟨o, its, n, h, hc, _⟩⟩ := h
  · exact .base (.tup h)
  · exact .fTuple h
  · exact .kTuple h hc
/-- the relation tells the type -/
class TyR {α : Type} (K : PySem.W.Frag) (r : Rl α) (T : outParam String) : Prop where
  ty : ∀ H v x, r H v x → TyX K H v (.type T)
instance : TyR K qI "int" := ⟨fun H v x h => by rw [show v = .int x from h]; exact .base (.int _)⟩
instance : TyR K qN "int" := ⟨fun H v x h => by rw [show v = .int (x : Int) from h]; exact .base (.int _)⟩
instance : TyR K qB "bool" := ⟨fun H v x h => by rw [show v = .bl x from h]; exact .base (.bl _)⟩
instance : TyR K qS "str" := ⟨fun H v x h => by rw [show v = .str x from h]; exact .base (.str _)⟩
instance : TyR K (qL K r) "list" := ⟨fun H v x ⟨vs, h, _⟩ => ty_lst h⟩
instance : TyR K (qT K r) "tuple" := ⟨fun H v x ⟨vs, h, _⟩ => ty_tup h⟩
instance : TyR K (qP K r q) "tuple" := ⟨fun H v x ⟨a, b, h, _⟩ => ty_tup h⟩
instance : TyR K (qQ K) "tuple" := ⟨fun H v x h => ty_tup h⟩
theorem tv_isi [Mo r] {a b : String} [TyR K r a] {k : Bool} (h : Tv O te σ G r x) (hk : kitB a b = some k) : Tv O (tCB (rIsi K) (tCons te (tCons (tC (.ty b)) tNil))) σ G qB k := fun H w Q kk =>
  h H w _ fun v H1 s1 h1 => ⟨v, .ty b, _, _, k, rfl, .ty b, TyR.ty H1 v x (Mo.mo wo_le h1), kit_ty hk, kk _ _ s1 rfl⟩
/-! ### list(..), tuple(..), slices -/
theorem tv_listA (h : Tv O te σ G (qSq K r) xs) [Mo r] : Tv O (tCB (rListOf K) (tCons te tNil)) σ G (qL K r) xs :=
  tv_cb1 h fun v H d hv Q k => by
    rcases hv with ⟨vs, ⟨a, rfl, hs⟩, hp⟩ | ⟨vs, ⟨a, rfl, hs⟩, hp⟩
    · refine ⟨a, vs, rfl, .inl (same_sqL wo_le hs), fun l hl => k _ _ (same_new hl) ⟨vs, ⟨l, rfl, SqL.of (wo_new d hl)⟩, paired_mono (fun _ _ z => Mo.mo (same_wo (same_new hl)) z) hp⟩⟩
    · refine ⟨a, vs, rfl, .inr (same_sqT wo_le hs), fun l hl => k _ _ (same_new hl) ⟨vs, ⟨l, rfl, SqL.of (wo_new d hl)⟩, paired_mono (fun _ _ z => Mo.mo (same_wo (same_new hl)) z) hp⟩⟩
theorem tv_listL (h : Tv O te σ G (qL K r) xs) [Mo r] : Tv O (tCB (rListOf K) (tCons te tNil)) σ G (qL K r) xs := tv_listA (h.sub fun _ _ z => .inl z)
theorem tv_listT (h : Tv O te σ G (qT K r) xs) [Mo r] : Tv O (tCB (rListOf K) (tCons te tNil)) σ G (qL K r) xs := tv_listA (h.sub fun _ _ z => .inr z)
theorem tv_tupL (h : Tv O te σ G (qL K r) xs) [Mo r] : Tv O (tCB (rTupOf K) (tCons te tNil)) σ G (qT K r) xs :=
  tv_cb1 h fun v H d ⟨vs, ⟨a, ev, hs⟩, hp⟩ Q k => by
    subst ev
    exact ⟨a, vs, rfl, .inl ⟨same_sqL wo_le hs, fun l hl => k _ _ (same_new hl) ⟨vs, ⟨l, rfl, SqT.of (wo_new d hl)⟩, paired_mono (fun _ _ z => Mo.mo (same_wo (same_new hl)) z) hp⟩⟩⟩
theorem Paired.drop' {F : α → β → Prop} : ∀ {l : List α} {m : List β} (n : Nat), Paired F l m → Paired F (l.drop n) (m.drop n)
  | _, _, 0, h => h
  | _, _, _ + 1, .nil => .nil
  | _, _, n + 1, .cons _ t => Paired.drop' n t
theorem Paired.take' {F : α → β → Prop} : ∀ {l : List α} {m : List β} (n : Nat), Paired F l m → Paired F (l.take n) (m.take n)
  | _, _, 0, _ => .nil
  | _, _, _ + 1, .nil => .nil
  | _, _, n + 1, .cons h t => .cons h (Paired.take' n t)
theorem Paired.rev {F : α → β → Prop} : ∀ {l : List α} {m : List β}, Paired F l m → Paired F l.reverse m.reverse
  | _, _, .nil => .nil
  | _, _, .cons h t => by
    rw [List.reverse_cons, List.reverse_cons]
    exact Paired.snoc (Paired.rev t) h
theorem Paired.app {F : α → β → Prop} : ∀ {l l' : List α} {m m' : List β}, Paired F l m → Paired F l' m' → Paired F (l ++ l') (m ++ m')
  | _, _, _, _, .nil, h => h
  | _, _, _, _, .cons h t, h' => .cons h (Paired.app t h')
/-- a part of a slice -/
def To (O : List Addr) (t : TO) (σ : St) (G : Hp) (i : Option Int) : Prop := ∀ H, Wd O G H → ∀ Q : Option Int → Hp → Prop, (∀ H', Same H H' → Q i H') → t σ H Q
theorem to_none : To O tNoPart σ G none := fun H w Q k => k H (Same.refl _)
theorem to_some {i : Int} (h : Tv O te σ G qI i) : To O (tPart te) σ G (some i) := fun H w Q k => h H w _ fun v H1 s1 h1 => ⟨i, h1, k _ s1⟩
/-- xs[i:j] -/
def cutG (xs : List α) (lo hi : Option Int) : List α := (xs.drop (HT.sIx xs.length 0 lo)).take (HT.sIx xs.length xs.length hi - HT.sIx xs.length 0 lo)
theorem tv_slice {tl th : TO} {lo hi : Option Int} [Mo r] (h : Tv O te σ G (qL K r) xs) (hl : To O tl σ G lo) (hh : To O th σ G hi) : Tv O (tSl (rSlL K) te tl th) σ G (qL K r) (cutG xs lo hi) := fun H w Q k =>
  h H w _ fun v H1 s1 h1 => hl H1 (w.same s1) _ fun H2 s2 => hh H2 ((w.same s1).same s2) _ fun H3 s3 => by
    obtain ⟨vs, ⟨a, ev, hs⟩, hp⟩ := h1
    have s13 := s2.trans s3
    have w3 := (w.same s1).same s13
    refine ⟨a, vs, ev, same_sqL (wo_le.trans s13) hs, fun p hpn => k _ _ ((s1.trans s13).trans (same_new hpn)) ⟨cutV vs lo hi, ⟨p, rfl, SqL.of (wo_new w3.dm hpn)⟩, ?_⟩⟩
    unfold cutV cutG
    rw [Paired.len hp]
    exact Paired.take' _ (Paired.drop' _ (paired_mono (fun _ _ z => Mo.mo (same_wo (s13.trans (same_new hpn))) z) hp))
theorem tv_rev [Mo r] (h : Tv O te σ G (qL K r) xs) : Tv O (tRevL K te) σ G (qL K r) xs.reverse := fun H w Q k =>
  h H w _ fun v H1 s1 h1 => by
    obtain ⟨vs, ⟨a, ev, hs⟩, hp⟩ := h1
    exact ⟨a, vs, ev, same_sqL wo_le hs, fun p hpn => k _ _ (s1.trans (same_new hpn)) ⟨vs.reverse, ⟨p, rfl, SqL.of (wo_new (w.same s1).dm hpn)⟩, Paired.rev (paired_mono (fun _ _ z => Mo.mo (same_wo (same_new hpn)) z) hp)⟩⟩
theorem cut_from {n : Nat} : cutG xs (some (n : Int)) none = xs.drop n := by
  unfold cutG
  rw [HT.sIx_nat, HT.sIx_none]
  by_cases h : n ≤ xs.length
  · rw [Nat.min_eq_left h, List.take_of_length_le (by rw [List.length_drop]; omega)]
  · rw [Nat.min_eq_right (by omega), List.drop_length, List.drop_eq_nil_of_le (by omega)]
    simp
theorem cut_to {n : Nat} : cutG xs none (some (n : Int)) = xs.take n := by
  unfold cutG
  rw [HT.sIx_nat, HT.sIx_none, List.drop_zero]
  by_cases h : n ≤ xs.length
  · rw [Nat.min_eq_left h, Nat.sub_zero]
  · rw [Nat.min_eq_right (by omega), List.take_of_length_le (by omega), List.take_of_length_le (by omega)]
theorem cut_mid {m n : Nat} : cutG xs (some (m : Int)) (some (n : Int)) = (xs.drop m).take (n - m) := by
  unfold cutG
  rw [HT.sIx_nat, HT.sIx_nat]
  by_cases h : m ≤ xs.length
  · rw [Nat.min_eq_left h]
    by_cases h2 : n ≤ xs.length
    · rw [Nat.min_eq_left h2]
    · rw [Nat.min_eq_right (by omega), List.take_of_length_le (by rw [List.length_drop]; omega), List.take_of_length_le (by rw [List.length_drop]; omega)]
  · have e : min m xs.length = xs.length := by omega
    rw [e, List.drop_length, List.drop_eq_nil_of_le (by omega)]
    simp
/-! ### sums, least, greatest of ints -/
theorem paired_ints : ∀ {vs : List V} {ns : List Int} {G : Hp}, Paired (qI G) vs ns → vs = ns.map V.int
  | _, _, _, .nil => rfl
  | _, _, _, .cons h t => by rw [show _ = V.int _ from h, paired_ints t]; rfl
theorem tv_sum {ns : List Int} (h : Tv O te σ G (qL K qI) ns) : Tv O (tCB (rSum K) (tCons te tNil)) σ G qI ns.sum :=
  tv_cb1 h fun v H d ⟨vs, ⟨a, ev, hs⟩, hp⟩ Q k => by
    subst ev
    exact ⟨a, ns, rfl, by rw [← paired_ints hp]; exact same_sqL wo_le hs, k _ _ (Same.refl _) rfl⟩
theorem tv_int {i : Int} (h : Tv O te σ G qI i) : Tv O (tCB rInt1 (tCons te tNil)) σ G qI i := tv_cb1 h fun v H d hv Q k => .inl ⟨i, by rw [show v = .int i from hv], k _ _ (Same.refl _) rfl⟩
theorem tv_abs {i : Int} (h : Tv O te σ G qI i) : Tv O (tCB rAbs (tCons te tNil)) σ G qI (i.natAbs : Int) := tv_cb1 h fun v H d hv Q k =>
  ⟨i, by rw [show v = .int i from hv], k _ _ (Same.refl _) (by
    show V.int (if i < 0 then -i else i) = V.int (i.natAbs : Int)
    congr 1
    split <;> omega)⟩
theorem tv_neg {i : Int} (h : Tv O te σ G qI i) : Tv O (tUn (rU fun i => .int (-i)) te) σ G qI (-i) := fun H w Q k => h H w _ fun v H1 s1 h1 => ⟨i, h1, k _ _ s1 rfl⟩
end
end Nb
set_option Elab.async false
set_option linter.all false
set_option maxRecDepth 100000
set_option maxHeartbeats 2000000
namespace Nb
open PySem L2
open PyProof.Rows (envOfC)
/-- a walk's turns, whatever is done at each -/
theorem walk_hp {J : It} {n : Nat} {Gd : Hp → Prop} {Y : Nat → Hp → V → Hp → Prop} (w : Walk J n Gd Y) {body : V → Hp → (Hp → Prop) → Prop} {H : Hp} {Qd : Hp → Prop} (Pv : Nat → Hp → Prop) (h0 : Pv 0 H) (hG : ∀ i H, i ≤ n → Pv i H → Gd H)
    (hs : ∀ i x H H', i < n → Pv i H → Y i H x H' → body x H' (Pv (i + 1))) (hd : ∀ H, Pv n H → Qd H) :
    ∃ W : Nat → Nat → Hp → Prop, (∃ m, W 0 m H) ∧ ∀ i m H, W i m H →
      (J.stop i H ∧ Qd H) ∨ (J.go i H ∧ ∃ Nx : Hp → Prop, (∀ H', Nx H' → ∃ m', m' < m ∧ W (i + 1) m' H') ∧ ∀ x H', J.yld i H x H' → body x H' Nx) := by
  refine ⟨fun at' left H => left = n - at' ∧ at' ≤ n ∧ Pv at' H, ⟨n, by simp, Nat.zero_le _, h0⟩, ?_⟩
  rintro i _ H ⟨rfl, hi, p⟩
  have q := hG i H hi p
  by_cases hlt : i < n
  · exact .inr ⟨w.goes i H hlt q, Pv (i + 1), fun H' p' => ⟨n - (i + 1), by omega, rfl, hlt, p'⟩, fun x H' y => hs i x H H' hlt p (w.yields i H x H' hlt q y)⟩
  · have e : i = n := by omega
    subst e
    exact Or.inl (And.intro (w.stops H q) (hd H p))
section
variable {α β γ : Type} {O : List Addr} {σ : St} {G H : Hp} {r : Rl α} {q : Rl β} {r2 : Rl γ} {x : α} {y : β} {ta tb te : TE} {K : PySem.W.Frag} {xs : List α}
/-- the comprehension's list on its way -/
structure Acc (q : Rl β) (H0 : Hp) (D : Addr) (G H : Hp) (ys : List β) : Prop where
  st : Same H0 (fun b => if b = D then none else H b)
  at_ : ∃ acc, H D = some (.lst acc) ∧ Paired (q G) acc ys
theorem Acc.on {H0 : Hp} {D : Addr} {G1 H1 G2 H2 : Hp} {ys : List β} [Mo q] (a : Acc q H0 D G1 H1 ys) (sg : Same G1 G2) (sh : Same H1 H2) : Acc q H0 D G2 H2 ys := by
  obtain ⟨st, acc, e, p⟩ := a
  refine ⟨fun b o z => ?_, acc, sh _ _ e, paired_mono (fun _ _ z => Mo.mo sg z) p⟩
  have z2 : (if b = D then none else H1 b) = some o := st b o z
  show (if b = D then none else H2 b) = some o
  by_cases hb : b = D
  · rw [if_pos hb] at z2; cases z2
  · rw [if_neg hb] at z2 ⊢
    exact sh _ _ z2
theorem Acc.new {H0 : Hp} {D : Addr} {G1 : Hp} (hD : H0 D = none) : Acc q H0 D G1 (upd H0 D (.lst [])) [] := by
  refine ⟨fun b o e => ?_, [], upd_same, .nil⟩
  have hn := ne_of_none e hD
  show (if b = D then none else upd H0 D (.lst []) b) = some o
  rw [if_neg hn, upd_ne hn]
  exact e
theorem Acc.push {H0 : Hp} {D : Addr} {G1 H1 : Hp} {ys : List β} {v : V} (a : Acc q H0 D G1 H1 ys) (hv : q G1 v y) (hz : ys.length < 10000) : ∃ acc, H1 D = some (.lst acc) ∧ acc.length < sizeLine ∧ Acc q H0 D G1 (upd H1 D (.lst (acc ++ [v]))) (ys ++ [y]) := by
  obtain ⟨st, acc, e, p⟩ := a
  refine ⟨acc, e, by rw [Paired.len p, sizeLine_eq]; omega, fun b o z => ?_, _, upd_same, Paired.snoc p hv⟩
  have z2 : (if b = D then none else H1 b) = some o := st b o z
  show (if b = D then none else upd H1 D (.lst (acc ++ [v])) b) = some o
  by_cases hb : b = D
  · rw [if_pos hb] at z2; cases z2
  · rw [if_neg hb] at z2 ⊢
    rw [upd_ne hb]
    exact z2
theorem Acc.fin {H0 : Hp} {D : Addr} {G1 H1 : Hp} {ys : List β} [Mo q] (a : Acc q H0 D G1 H1 ys) (w : Wd (D :: O) G1 H1) (hD : H0 D = none) (d : Dom O H0) : Same H0 H1 ∧ qLs q (wo H1 O) (.ref D) ys := by
  obtain ⟨st, acc, e, p⟩ := a
  refine ⟨fun b o z => ?_, D, acc, rfl, ?_, paired_mono (fun _ _ z => Mo.mo w.drop.le z) p⟩
  · have z2 : (if b = D then none else H1 b) = some o := st b o z
    by_cases hb : b = D
    · rw [if_pos hb] at z2; cases z2
    · rw [if_neg hb] at z2
      exact z2
  · rw [wo_out (dom_new d hD)]
    exact e
theorem flat_take {f : α → List β} {i : Nat} (h : xs[i]? = some x) : (xs.take (i + 1)).flatMap f = (xs.take i).flatMap f ++ f x := by
  rw [List.take_add_one, h]
  show (((xs.take i) ++ [x]).flatMap f) = _
  rw [List.flatMap_append]
  simp
theorem yes_go {σ : St} {H : Hp} {A B : Hp → Prop} (h : A H) : tYes σ H fun b H' => if b = true then A H' else B H' := by
  show (if true = true then A H else B H)
  rw [if_pos rfl]
  exact h
/-- [e for x in xs for y in ys] -/
theorem tv_map2S {wi wi1 : TI} {g g1 : TG} {vs vs1 : List Nat} {E : Hp → α → St → St → Prop} {E' : Hp → γ → St → St → Prop} [Mo q] (hi : Tit O wi σ G r xs) (hg : Tg g r E) (ho : Own E vs) (ho1 : Own E' vs1) (hg1 : Tg g1 r2 E') {ys : α → List γ} {f : α → γ → β} (hz : (xs.flatMap fun x => (ys x).map (f x)).length < 10000)
    (hi1 : ∀ (D : Addr) (i : Nat) (x : α) (G1 : Hp) (σ2 : St), xs[i]? = some x → Same G G1 → E G1 x (wipe σ vs) σ2 → Tit (D :: O) wi1 σ2 G1 r2 (ys x))
    (he : ∀ (D : Addr) (i j : Nat) (x : α) (y : γ) (G1 G2 : Hp) (σ2 σ3 : St), xs[i]? = some x → (ys x)[j]? = some y → Same G G1 → E G1 x (wipe σ vs) σ2 → Same G1 G2 → E' G2 y (wipe σ2 vs1) σ3 → Tv (D :: O) te σ3 G2 q (f x y)) :
    Tv O (tLc2 wi g tYes wi1 g1 tYes te vs vs1) σ G (qLs q) (xs.flatMap fun x => (ys x).map (f x)) := by
  intro H w Q k
  refine hi H w _ fun It Gd Y G' H' sh sg w' wk hgd hy => ?_
  intro D hD
  have hlen : ∀ i x j, xs[i]? = some x → j ≤ (ys x).length → ((xs.take i).flatMap fun x => (ys x).map (f x)).length + j ≤ (xs.flatMap fun x => (ys x).map (f x)).length := fun i x j hx hj => by
    have h1 := congrArg List.length (flat_take (f := fun x => (ys x).map (f x)) hx)
    rw [List.length_append, List.length_map] at h1
    have h2 : ((xs.take (i + 1)).flatMap fun x => (ys x).map (f x)).length ≤ (xs.flatMap fun x => (ys x).map (f x)).length := by
      conv => rhs; rw [← List.take_append_drop (i + 1) xs, List.flatMap_append, List.length_append]
      exact Nat.le_add_right _ _
    omega
  refine walk_hp wk (fun i H1 => ∃ G1, Same G' G1 ∧ Wd (D :: O) G1 H1 ∧ Acc q H' D G1 H1 ((xs.take i).flatMap fun x => (ys x).map (f x))) ⟨G', Same.refl _, w'.own hD, Acc.new hD⟩ (fun i H1 _ ⟨G1, s1, w1, _⟩ => hgd _ (s1.trans w1.to)) ?_ ?_
  · rintro i v H1 H2 hlt ⟨G1, s1, w1, ac⟩ y
    obtain ⟨x, G2, hx, sh2, sg2, w2, hh⟩ := hy i H1 v H2 (D :: O) G1 hlt s1 w1 y
    refine hg (D :: O) G2 H2 (wipe σ vs) v x _ w2 hh fun σ2 e => ⟨by rw [ho _ _ _ _ e, wipe_wipe], ?_⟩
    refine yes_go ?_
    refine hi1 D i x G2 σ2 hx ((sg.trans s1).trans sg2) e H2 w2 _ fun It1 Gd1 Y1 G3 H3 sh3 sg3 w3 wk1 hgd1 hy1 => ?_
    refine walk_hp wk1 (fun j H4 => ∃ G4, Same G3 G4 ∧ Wd (D :: O) G4 H4 ∧ Acc q H' D G4 H4 (((xs.take i).flatMap fun x => (ys x).map (f x)) ++ ((ys x).take j).map (f x))) ?_ (fun j H4 _ ⟨G4, s4, w4, _⟩ => hgd1 _ (s4.trans w4.to)) ?_ ?_
    · refine ⟨G3, Same.refl _, w3, ?_⟩
      rw [List.take_zero, List.map_nil, List.append_nil]
      exact (ac.on sg2 sh2).on sg3 sh3
    · rintro j v4 H4 H5 hlt4 ⟨G4, s4, w4, ac4⟩ y4
      obtain ⟨x4, G5, hx4, sh5, sg5, w5, hh5⟩ := hy1 j H4 v4 H5 (D :: O) G4 hlt4 s4 w4 y4
      refine hg1 (D :: O) G5 H5 (wipe σ2 vs1) v4 x4 _ w5 hh5 fun σ3 e5 => ⟨?_, ?_⟩
      · rw [ho1 _ _ _ _ e5, wipe_wipe]
      refine yes_go ?_
      refine he D i j x x4 G2 G5 σ2 σ3 hx hx4 ((sg.trans s1).trans sg2) e ((sg3.trans s4).trans sg5) e5 H5 w5 _ fun u H6 s6 hu => ?_
      have w6 := (w5.same s6).up
      have ac6 := (ac4.on sg5 sh5).on (w5.le.trans (same_wo s6)) s6
      obtain ⟨acc, ea, hz6, ac7⟩ := ac6.push hu (by
        have := hlen i x (j + 1) hx (by omega)
        rw [List.length_append, List.length_map, List.length_take]
        omega)
      refine ⟨acc, ea, hz6, _, ((s4.trans sg5).trans (w5.le.trans (same_wo s6))), w6.set List.mem_cons_self, ?_⟩
      rw [List.take_add_one, hx4]
      show Acc q H' D _ _ (_ ++ List.map (f x) (List.take j (ys x) ++ [x4]))
      rw [List.map_append, ← List.append_assoc]
      exact ac7
    · rintro H4 ⟨G4, s4, w4, ac4⟩
      refine ⟨G4, (s1.trans sg2).trans (sg3.trans s4), w4, ?_⟩
      rw [flat_take hx]
      rw [List.take_length] at ac4
      exact ac4
  · rintro H1 ⟨G1, s1, w1, ac⟩
    rw [List.take_length] at ac
    obtain ⟨h1, h2⟩ := ac.fin w1 hD w'.dm
    exact k _ _ (sh.trans h1) h2
end
/-! ### calls with one keyword -/
/-- the module's name x is a def that keeps sp, called with n values by position and the keywords ks -/
structure ProK (P : Program) (w : World) (K : PySem.W.Frag) (mg : PySem.Str → Option Value) (base : Heap) (x : PySem.Str) (ps : List PySem.Str) (n : Nat) (ks : List PySem.Str) (k : Nat) (sp : Sp) : Prop where
  ex : ∃ (f : Addr) (fd : FuncData), mg x = some (.ref f) ∧ PySem.W.keepIn K (.ref f) = true ∧ KBn K fd ps n ks (fun us ws => us ++ ws) (fun vs zs => vs ++ zs) ∧ FnOk P w K mg base CX0 k f fd ps sp
section
variable {X : Cx} {K : PySem.W.Frag} {x : PySem.Str} {p pos : Pos} {e : Expr} {es : List Expr} {kws : List Keyword} {t tk : TA} {ps ks : List PySem.Str} {j k n : Nat} {sp : Sp}
theorem pe_clK {P : Program} {w : World} {mg : PySem.Str → Option Value} {base : Heap} (C : ProK P w K mg base x ps n ks j sp) (hr : Room k X.A) (ha : PA X (e :: es) t) (hkw : PK X kws tk) (hj : j ≤ k := by decide) (hP : X.prog = P := by rfl) (hw : X.w = w := by rfl) (hK : X.K = K := by rfl) (hM : X.mg = mg := by rfl) (hB : X.base = base := by rfl) (hg : Gl X x := by rfl)
    (hall : (backToKw pos (keywordEach kws X.env)).all (·.1.isSome) = true := by rfl) (hks : (backToKw pos (keywordEach kws X.env)).filterMap (·.1) = ks := by rfl)
    (hdb : (x == ("__debug__" : PySem.Str)) = false := by decide) (he : starEach (e :: es) X.env = (false, eval e X.env) :: starEach es X.env := by rfl)
    (hpl : ((backTo pos (starEach (e :: es) X.env)).any (·.1) || (backToKw pos (keywordEach kws X.env)).any (·.1.isNone)) = false := by rfl) : PE X (.Call (.Name x p) (e :: es) kws pos) (tCallN n ks.length sp (fun vs zs => vs ++ zs) E0 t tk) := by
  subst hP hw hK hM hB
  obtain ⟨f, fd, hm, hk, hb, F⟩ := C.ex
  exact pe_callN F (hr.mono hj) hg hm hk hb pass0 ha hkw hall hks hdb he hpl
end
section
variable {α β γ : Type} {O : List Addr} {σ : St} {G H : Hp} {r1 : Rl α} {r2 : Rl β} {q : Rl γ} {x : α} {y : β} {K : PySem.W.Frag}
theorem tv_clK {t tk : TE} {pr : α × β × Unit → Prop} {f : α × β × Unit → γ} {E : XK} [Mo r1] (h1 : Tv O t σ G r1 x) (h2 : Tv O tk σ G r2 y) (p : pr (x, y, ())) :
    Tv O (tCallN 1 1 (spP (raC r1 (raC r2 raN)) pr q f) (fun vs zs => vs ++ zs) E (tCons t tNil) (tCons tk tNil)) σ G q (f (x, y, ())) := fun H w Q k =>
  h1 H w _ fun v H1 s1 e1 => h2 H1 (w.same s1) _ fun u H2 s2 e2 =>
    ⟨rfl, rfl, O, (x, y, ()), ((w.same s1).same s2).dm, ⟨v, [u], rfl, Mo.mo (same_wo s2) e1, u, [], rfl, e2, rfl⟩, p, fun v' H3 s3 h3 => k _ _ ((s1.trans s2).trans s3) h3⟩
theorem tv_NI {te : TE} {n : Nat} (h : Tv O te σ G qN n) : Tv O te σ G qI (n : Int) := h.sub fun _ _ z => z
theorem tv_IN {te : TE} {n : Nat} {i : Int} (h : Tv O te σ G qI i) (e : i = n) : Tv O te σ G qN n := h.sub fun _ _ z => by rw [show _ = V.int i from z, e]; rfl
theorem Has.nI {n : Nat} {v : V} (h : Has qN G v n) : Has qI G v (n : Int) := ⟨h.h⟩
theorem tv_sliceS {te : TE} {tl th : TO} {z : PySem.Str} {lo hi : Option Int} (h : Tv O te σ G qS z) (hl : To O tl σ G lo) (hh : To O th σ G hi) (hz : z.length ≤ 1000) : Tv O (tSl rSlS te tl th) σ G qS (cutS z lo hi) := fun H w Q k =>
  h H w _ fun v H1 s1 h1 => hl H1 (w.same s1) _ fun H2 s2 => hh H2 ((w.same s1).same s2) _ fun H3 s3 => ⟨z, h1, by rw [sizeLine_eq]; omega, k _ _ ((s1.trans s2).trans s3) rfl⟩
theorem tv_addS {ta tb : TE} {a b : PySem.Str} (h : Tv O ta σ G qS a) (g : Tv O tb σ G qS b) (hz : a.length + b.length ≤ 1000) :
    Tv O (tOp (fun x y H Q => ∃ i j, x = .str i ∧ y = .str j ∧ i.length + j.length ≤ sizeLine ∧ Q (.str (i ++ j)) H) ta tb) σ G qS (a ++ b) := fun H w Q k =>
  h H w _ fun v H1 s1 h1 => g H1 (w.same s1) _ fun u H2 s2 h2 => ⟨a, b, h1, h2, by rw [sizeLine_eq]; omega, k _ _ (s1.trans s2) rfl⟩
end
end Nb
set_option Elab.async false
set_option linter.all false
set_option maxRecDepth 100000
set_option maxHeartbeats 2000000
namespace Nb
open PySem L2
open PyProof.Rows (envOfC)
/-! ### owned lists -/
/-- what stood still stands, apart from p -/
def Sb (p : Addr) (H H' : Hp) : Prop := ∀ b o, b ≠ p → H b = some o → H' b = some o
theorem Sb.refl (p : Addr) (H : Hp) : Sb p H H := fun _ _ _ h => h
theorem Sb.of {p : Addr} {H H' : Hp} (s : Same H H') : Sb p H H' := fun _ _ _ h => s _ _ h
theorem Sb.trans {p : Addr} {H H1 H2 : Hp} (s : Sb p H H1) (t : Sb p H1 H2) : Sb p H H2 := fun b o n h => t b o n (s b o n h)
theorem Sb.upd {p : Addr} {H : Hp} {o : HO} : Sb p H (upd H p o) := fun b u n h => by rw [upd_ne n]; exact h
/-- the thing at p is new since H0 -/
theorem Sb.same {p : Addr} {H0 H H' : Hp} (s : Sb p H H') (t : Same H0 H) (h : H0 p = none) : Same H0 H' := fun b o e => s b o (ne_of_none e h) (t b o e)
structure OwL {β : Type} (q : Rl β) (O : List Addr) (G H : Hp) (p : Addr) (ys : List β) : Prop where
  nw : p ∉ O
  at_ : ∃ acc, H p = some (.lst acc) ∧ Paired (q G) acc ys
section
variable {α β γ : Type} {O : List Addr} {σ : St} {G H G' H' : Hp} {r : Rl α} {q : Rl β} {x : α} {y : β} {ta tb te : TE} {K : PySem.W.Frag} {ys zs : List β} {p : Addr} {D : Ends} {t1 t2 : TS}
theorem OwL.on [Mo q] (h : OwL q O G H p ys) (sg : Same G G') (sh : Same H H') : OwL q O G' H' p ys := by
  obtain ⟨n, acc, e, pr⟩ := h
  exact ⟨n, acc, sh _ _ e, paired_mono (fun _ _ z => Mo.mo sg z) pr⟩
theorem OwL.sb [Mo q] {p' : Addr} (h : OwL q O G H p ys) (sg : Same G G') (sh : Sb p' H H') (n : p ≠ p') : OwL q O G' H' p ys := by
  obtain ⟨n', acc, e, pr⟩ := h
  exact ⟨n', acc, sh _ _ n e, paired_mono (fun _ _ z => Mo.mo sg z) pr⟩
/-- given up: it is a list like others from now on -/
theorem OwL.fin [Mo q] (h : OwL q O G H p ys) (w : Wd (p :: O) G H) : ∃ G', Same G G' ∧ Wd O G' H ∧ Has (qLs q) G' (.ref p) ys := by
  obtain ⟨n, acc, e, pr⟩ := h
  refine ⟨wo H O, w.drop.le, w.drop.up, ⟨p, acc, rfl, ?_, paired_mono (fun _ _ z => Mo.mo w.drop.le z) pr⟩⟩
  rw [wo_out n]
  exact e
/-- x = [] -/
theorem st_newL {i : Nat} (w : Wd O G H) (k : ∀ p H', H p = none → Same H H' → Wd (p :: O) G H' → OwL q O G H' p [] → D.nx (σ.set i (some (.ref p))) H') : tAsg (tLst tNil) (gName i) D σ H := by
  refine ⟨Nat.zero_le _, fun p hp => ?_⟩
  exact k p _ hp (same_new hp) (w.own hp) ⟨dom_new w.dm hp, [], upd_same, .nil⟩
theorem st_new {i : Nat} (w : Wd O G H) (k : ∀ p H', H p = none → Same H H' → Wd (p :: O) G H' → OwL q O G H' p [] → t2 D (σ.set i (some (.ref p))) H') : tSeq (tAsg (tLst tNil) (gName i)) t2 D σ H := st_newL (D := { D with nx := t2 D }) w k
/-- x.append(e) -/
theorem st_appL {j : Nat} [Mo q] (w : Wd (p :: O) G H) (o : OwL q O G H p ys) (hj : σ[j]? = some (some (.ref p))) (hz : ys.length < 10000) (h : Tv (p :: O) te σ G q y)
    (k : ∀ G' H', Same G G' → Wd (p :: O) G' H' → Sb p H H' → OwL q O G' H' p (ys ++ [y]) → D.nx σ H') : tDrop (tBM K "list" rAppend (tVar j) (tCons te tNil)) D σ H := by
  obtain ⟨n, acc, e, pr⟩ := o
  refine ⟨_, hj, .inl ⟨rfl, acc, SqL.of e⟩, h H w _ fun v H1 s1 h1 => ?_⟩
  have sg : Same G (wo H1 (p :: O)) := w.le.trans (same_wo s1)
  refine ⟨p, acc, v, rfl, rfl, s1 _ _ e, by rw [Paired.len pr, sizeLine_eq]; omega, ?_⟩
  exact k _ _ sg ((w.same s1).up.set List.mem_cons_self) ((Sb.of s1).trans Sb.upd) ⟨n, _, upd_same, Paired.snoc (paired_mono (fun _ _ z => Mo.mo sg z) pr) h1⟩
theorem st_app {j : Nat} [Mo q] (w : Wd (p :: O) G H) (o : OwL q O G H p ys) (hj : σ[j]? = some (some (.ref p))) (hz : ys.length < 10000) (h : Tv (p :: O) te σ G q y)
    (k : ∀ G' H', Same G G' → Wd (p :: O) G' H' → Sb p H H' → OwL q O G' H' p (ys ++ [y]) → t2 D σ H') : tSeq (tDrop (tBM K "list" rAppend (tVar j) (tCons te tNil))) t2 D σ H := st_appL (D := { D with nx := t2 D }) w o hj hz h k
/-- x.extend(e) -/
theorem st_ext {j : Nat} [Mo q] (w : Wd (p :: O) G H) (o : OwL q O G H p ys) (hj : σ[j]? = some (some (.ref p))) (hz : ys.length + zs.length < 10000) (h : Tv (p :: O) te σ G (qLs q) zs)
    (k : ∀ G' H', Same G G' → Wd (p :: O) G' H' → Sb p H H' → OwL q O G' H' p (ys ++ zs) → t2 D σ H') : tSeq (tDrop (tBM K "list" rExtend (tVar j) (tCons te tNil))) t2 D σ H := by
  obtain ⟨n, acc, e, pr⟩ := o
  refine ⟨_, hj, .inl ⟨rfl, acc, SqL.of e⟩, h H w _ fun v H1 s1 h1 => ?_⟩
  have sg : Same G (wo H1 (p :: O)) := w.le.trans (same_wo s1)
  obtain ⟨b, acc2, rfl, e2, pr2⟩ := h1
  refine ⟨p, b, acc, acc2, rfl, rfl, s1 _ _ e, (wo_some e2).2, by rw [Paired.len pr, Paired.len pr2, sizeLine_eq]; omega, ?_⟩
  exact k _ _ sg ((w.same s1).up.set List.mem_cons_self) ((Sb.of s1).trans Sb.upd) ⟨n, _, upd_same, Paired.app (paired_mono (fun _ _ z => Mo.mo sg z) pr) pr2⟩
theorem tv_lst1 [Mo q] (h : Tv O te σ G q y) : Tv O (tLst (tCons te tNil)) σ G (qLs q) [y] := fun H w Q k =>
  h H w _ fun v H1 s1 h1 => ⟨by rw [sizeLine_eq]; show 1 ≤ _; omega, fun p hp => by
    have d := (w.same s1).dm
    exact k _ _ (s1.trans (same_new hp)) ⟨p, [v], rfl, wo_new d hp, .cons (Mo.mo (same_wo (same_new hp)) h1) .nil⟩⟩
end
end Nb
set_option Elab.async false
set_option linter.all false
set_option maxRecDepth 100000
set_option maxHeartbeats 2000000
namespace Nb
open PySem L2
open PyProof.Rows (envOfC)
/-! ### objects: fields, properties, calls, making -/
section
variable {α β γ : Type} {O : List Addr} {σ : St} {G H G' H' : Hp} {r : Rl α} {q : Rl β} {x : α} {y : β} {ta tb te : TE} {K : PySem.W.Frag} {D : Ends} {t1 t2 : TS} {C : Addr}
/-- what has the relation r is an instance of C -/
def InsR (C : Addr) (r : Rl α) : Prop := ∀ G v x, r G v x → ∃ a dx fs, v = .ref a ∧ G a = some (.ins C dx fs)
/-- e.f, f a field -/
theorem tv_fld {f : PySem.Str} (h : Tv O te σ G r x) (c : Cls K C) (n : NoAttr K C f) (k : ∀ G v, r G v x → ∃ a dx fs u, v = .ref a ∧ G a = some (.ins C dx fs) ∧ fs.lookup f = some u ∧ q G u y) : Tv O (tFld K te f) σ G q y := fun H w Q kk =>
  h H w _ fun v H1 s1 h1 => by
    obtain ⟨a, dx, fs, u, rfl, e, l, hq⟩ := k _ _ h1
    exact ⟨a, C, dx, fs, u, rfl, wo_le _ _ e, c, n, l, kk _ _ s1 hq⟩
theorem tv_prop {sp : α × Unit → Prop} {g : α × Unit → β} (h : Tv O te σ G r x) (hi : InsR C r) (p : sp (x, ())) : Tv O (tProp C (spP (raC r raN) sp q g) [] E0 te) σ G q (g (x, ())) := fun H w Q kk =>
  h H w _ fun v H1 s1 h1 => by
    obtain ⟨a, dx, fs, ev, e⟩ := hi _ _ _ h1
    subst ev
    exact ⟨a, dx, fs, rfl, wo_le _ _ e, O, (x, ()), (w.same s1).dm, ⟨_, [], rfl, h1, rfl⟩, p, fun v' H2 s2 h2 => kk v' H2 (s1.trans s2) h2⟩
/-- x(e, ..), x an instance of C -/
theorem tv_callO {X : Cx} {ra : RA β} {t : TA} {sp : α × β → Prop} {p : Rl γ} {g : α × β → γ} [Mo r] (h : Tv O te σ G r x) (ht : Ta O t σ G ra y) (hi : InsR C r) (hp : sp (x, y)) : Tv O (StX.tCallO X C (spP (raC r ra) sp p g) E0 te t) σ G p (g (x, y)) := fun H w Q kk =>
  h H w _ fun v H1 s1 h1 => by
    obtain ⟨a, dx, fs, ev, e⟩ := hi _ _ _ h1
    subst ev
    refine ⟨a, rfl, ht H1 (w.same s1) _ fun vs H2 s2 h2 => ⟨.inr ⟨dx, fs, s2 _ _ (wo_le _ _ e)⟩, O, (x, y), ((w.same s1).same s2).dm, ⟨_, vs, rfl, Mo.mo (same_wo s2) h1, h2⟩, hp, fun v' H3 s3 h3 => kk v' H3 ((s1.trans s2).trans s3) h3⟩⟩
/-- what a new instance's __init__ promises -/
def spI (C : Addr) (ra : RA α) (pr : α → Prop) (q : Rl β) (f : α → β) : Sp := fun vs H Q _ =>
  ∃ (O : List Addr) (p dx : Addr) (ws : List V) (a : α), vs = .ref p :: ws ∧ p ∉ O ∧ H p = some (.ins C dx []) ∧ Dom (p :: O) H ∧ ra (wo H (p :: O)) ws a ∧ pr a ∧ ∀ H', Sb p H H' → q (wo H' O) (.ref p) (f a) → Q .non H'
theorem tv_make {ra : RA α} {pr : α → Prop} {f : α → β} {t : TA} [MoA ra] (h : Ta O t σ G ra x) (p : pr x) : Tv O (tMake C (spI C ra pr q f) [] E0 t) σ G q (f x) := fun H w Q k =>
  h H w _ fun vs H1 s1 h1 p0 dx hp hd hne => by
    have n1 : ∀ b o, H1 b = some o → upd (upd H1 dx (.own p0)) p0 (.ins C dx []) b = some o := fun b o e => by
      rw [upd_ne (ne_of_none e hp), upd_ne (ne_of_none e hd)]
      exact e
    have dm := (w.same s1).dm
    rw [List.append_nil]
    refine ⟨O, p0, dx, vs, x, rfl, dom_new dm hp, upd_same, fun b hb => ?_, MoA.mo (fun b o e => ?_) h1, p, fun H' sb hq => ⟨rfl, k _ _ (s1.trans fun b o e => sb b o (ne_of_none e hp) (n1 b o e)) hq⟩⟩
    · rcases List.mem_cons.mp hb with e | e
      · rw [e, upd_same]
        simp
      · intro z
        cases q : H1 b with
        | none => exact dm b e q
        | some u => rw [n1 _ _ q] at z; cases z
    · obtain ⟨e1, e2⟩ := wo_some e
      rw [wo_out (by simp only [List.mem_cons, not_or]; exact ⟨ne_of_none e2 hp, e1⟩)]
      exact n1 _ _ e2
/-- self.f = e -/
theorem st_fldL {p dx : Addr} {fs : List (PySem.Str × V)} {f : PySem.Str} {j : Nat} (w : Wd (p :: O) G H) (hp : H p = some (.ins C dx fs)) (hj : σ[j]? = some (some (.ref p))) (c : Cls K C) (n : NoAttr K C f) (hl : fs.length < 1000) (h : Tv (p :: O) te σ G r x)
    (k : ∀ u G' H', Same G G' → Wd (p :: O) G' H' → Sb p H H' → H' p = some (.ins C dx (putF f u fs)) → Has r G' u x → D.nx σ H') : sFld K (tVar j) te f D σ H :=
  h H w _ fun v H1 s1 h1 => by
    refine ⟨_, hj, p, C, dx, fs, rfl, s1 _ _ hp, c, n, hl, ?_⟩
    have sg : Same G (wo H1 (p :: O)) := w.le.trans (same_wo s1)
    exact k v _ _ sg ((w.same s1).up.set List.mem_cons_self) ((Sb.of s1).trans Sb.upd) upd_same ⟨h1⟩
theorem st_fld {p dx : Addr} {fs : List (PySem.Str × V)} {f : PySem.Str} {j : Nat} (w : Wd (p :: O) G H) (hp : H p = some (.ins C dx fs)) (hj : σ[j]? = some (some (.ref p))) (c : Cls K C) (n : NoAttr K C f) (hl : fs.length < 1000) (h : Tv (p :: O) te σ G r x)
    (k : ∀ u G' H', Same G G' → Wd (p :: O) G' H' → Sb p H H' → H' p = some (.ins C dx (putF f u fs)) → Has r G' u x → t2 D σ H') : tSeq (sFld K (tVar j) te f) t2 D σ H := st_fldL (D := { D with nx := t2 D }) w hp hj c n hl h k
end
/-! ### deep data -/
mutual
theorem dp_mo {K : PySem.W.Frag} {H H' : Hp} (s : Same H H') : ∀ {v : V} {d : PyData}, Dp K H v d → Dp K H' v d
  | _, _, .non => .non
  | _, _, .bl b => .bl b
  | _, _, .int i => .int i
  | _, _, .str x => .str x
  | _, _, .lst h t => .lst (same_sqL s h) (dpAll_mo s t)
  | _, _, .tup h t => .tup (same_sqT s h) (dpAll_mo s t)
theorem dpAll_mo {K : PySem.W.Frag} {H H' : Hp} (s : Same H H') : ∀ {v : List V} {d : List PyData}, DpAll K H v d → DpAll K H' v d
  | _, _, .nil => .nil
  | _, _, .cons h t => .cons (dp_mo s h) (dpAll_mo s t)
end
theorem dp_paired {α : Type} {K : PySem.W.Frag} {H : Hp} {r : V → α → Prop} {f : α → PyData} (h : ∀ v x, r v x → Dp K H v (f x)) : ∀ {vs : List V} {xs : List α}, Paired r vs xs → DpAll K H vs (xs.map f)
  | _, _, .nil => .nil
  | _, _, .cons a t => .cons (h _ _ a) (dp_paired h t)
/-- the relation tells deep data -/
class DpR {α : Type} (K : PySem.W.Frag) (r : Rl α) (f : outParam (α → PyData)) : Prop where
  dp : ∀ G v x, r G v x → Dp K G v (f x)
section
variable {α β : Type} {O : List Addr} {σ : St} {G : Hp} {r : Rl α} {q : Rl β} {x : α} {y : β} {ta tb : TE} {K : PySem.W.Frag}
instance : DpR K qI PyData.int := ⟨fun G v x h => by rw [show v = .int x from h]; exact .int x⟩
instance : DpR K qN (fun n => PyData.int (n : Int)) := ⟨fun G v x h => by rw [show v = .int (x : Int) from h]; exact .int _⟩
instance : DpR K qS PyData.str := ⟨fun G v x h => by rw [show v = .str x from h]; exact .str x⟩
instance : DpR K qB PyData.bool := ⟨fun G v x h => by rw [show v = .bl x from h]; exact .bl x⟩
instance : DpR K (qQ K) (fun x => .tuple [.int x.num, .int (x.den : Int)]) := ⟨fun G v x ⟨a, e, h⟩ => by rw [e]; exact .tup h (.cons (.int _) (.cons (.int _) .nil))⟩
instance {f : α → PyData} {r : Rl α} [DpR K r f] : DpR K (qT K r) (fun xs => .tuple (xs.map f)) := ⟨fun G v xs ⟨vs, ⟨a, e, h⟩, p⟩ => by rw [e]; exact .tup h (dp_paired (fun v x h => DpR.dp G v x h) p)⟩
instance {f : α → PyData} {r : Rl α} [DpR K r f] : DpR K (qL K r) (fun xs => .list (xs.map f)) := ⟨fun G v xs ⟨vs, ⟨a, e, h⟩, p⟩ => by rw [e]; exact .lst h (dp_paired (fun v x h => DpR.dp G v x h) p)⟩
instance {f : α → PyData} {g : β → PyData} {r : Rl α} {q : Rl β} [DpR K r f] [DpR K q g] : DpR K (qP K r q) (fun x => .tuple [f x.1, g x.2]) := ⟨fun G v x ⟨a, b, ⟨p, e, h⟩, h1, h2⟩ => by rw [e]; exact .tup h (.cons (DpR.dp G _ _ h1) (.cons (DpR.dp G _ _ h2) .nil))⟩
theorem tv_eqD {f : α → PyData} {g : β → PyData} [DpR K r f] [DpR K q g] {b : Bool} (h : Tv O ta σ G r x) (h' : Tv O tb σ G q y) (sd : SeqAt.shaped (f x) = true) (se : SeqAt.shaped (g y) = true) (e : PyData.eqv (f x) (g y) = b) : Tv O (tOp (rEqD K) ta tb) σ G qB b := fun H w Q k =>
  h H w _ fun v H1 s1 h1 => h' H1 (w.same s1) _ fun u H2 s2 h2 => ⟨f x, g y, dp_mo (wo_le.trans s2) (DpR.dp _ _ _ h1), dp_mo wo_le (DpR.dp _ _ _ h2), sd, se, k _ _ (s1.trans s2) (by rw [e]; rfl)⟩
theorem tv_neD {f : α → PyData} {g : β → PyData} [DpR K r f] [DpR K q g] {b : Bool} (h : Tv O ta σ G r x) (h' : Tv O tb σ G q y) (sd : SeqAt.shaped (f x) = true) (se : SeqAt.shaped (g y) = true) (e : (!PyData.eqv (f x) (g y)) = b) : Tv O (tOp (rNeD K) ta tb) σ G qB b := fun H w Q k =>
  h H w _ fun v H1 s1 h1 => h' H1 (w.same s1) _ fun u H2 s2 h2 => ⟨f x, g y, dp_mo (wo_le.trans s2) (DpR.dp _ _ _ h1), dp_mo wo_le (DpR.dp _ _ _ h2), sd, se, k _ _ (s1.trans s2) (by rw [e]; rfl)⟩
/-- a comparison as a test -/
theorem tt_op {rd : V → V → Hp → VK → Prop} {b : Bool} (h : Tv O (tOp rd ta tb) σ G qB b) (hm : ∀ H (Q : VK), tOp rd ta tb σ H Q → True := fun _ _ _ => trivial) : Tt O (tTest (tOp rd ta tb)) σ G b := fun H w Q k =>
  h H w _ fun v H1 s1 h1 => ⟨b, h1, k H1 s1⟩
end
/-! ### own classes as the top has made them -/
/-- a property's promise -/
structure Prp (P : Program) (w : World) (K : PySem.W.Frag) (mg : PySem.Str → Option Value) (base : Heap) (C : Addr) (f : PySem.Str) (k : Nat) (sp : Sp) : Prop where
  ex : ∃ p g fd, PropOf K C f p g ∧ Binds K fd ["self"] [] ∧ FnOk P w K mg base CX0 k g fd ["self"] sp
/-- a maker's promise -/
structure Mkr (P : Program) (w : World) (K : PySem.W.Frag) (mg : PySem.Str → Option Value) (base : Heap) (x : PySem.Str) (ps : List PySem.Str) (k : Nat) (sp : Sp) : Prop where
  ex : ∃ g fd, Mk K (He.ga K x) g ∧ mg x = some (.ref (He.ga K x)) ∧ Binds K fd ps [] ∧ FnOk P w K mg base CX0 k g fd ps sp
/-- a callable instance's promise -/
structure Cao (P : Program) (w : World) (K : PySem.W.Frag) (mg : PySem.Str → Option Value) (base : Heap) (C : Addr) (k : Nat) (sp : Sp) : Prop where
  ex : ∃ g, StX.CallO K C g ∧ FnR P w K mg base CX0 k g sp
section
variable {X : Cx} {P : Program} {w : World} {K : PySem.W.Frag} {mg : PySem.Str → Option Value} {base : Heap} {x f : PySem.Str} {p pos : Pos} {e : Expr} {es : List Expr} {ta : TE} {t : TA} {ps : List PySem.Str} {j k : Nat} {sp : Sp} {C : Addr}
theorem pe_prp (c : Prp P w K mg base C f j sp) (hr : Room k X.A) (hC : Cls K C) (he : PE X e ta) (hj : j + 1 ≤ k := by decide) (hP : X.prog = P := by rfl) (hw : X.w = w := by rfl) (hK : X.K = K := by rfl) (hM : X.mg = mg := by rfl) (hB : X.base = base := by rfl)
    (hab : attributeBase e f X.env (eval e X.env) = eval e X.env := by rfl) : PE X (.Attribute e f pos) (tProp C sp [] E0 ta) := by
  subst hP hw hK hM hB
  obtain ⟨p, g, fd, hp, hb, F⟩ := c.ex
  exact pe_prop he hC hp F (hr.mono hj) hb .nil pass0 hab
theorem pe_mkr (c : Mkr P w K mg base x ps j sp) (hr : Room k X.A) (ha : PA X (e :: es) t) (hj : j + 1 ≤ k := by decide) (hP : X.prog = P := by rfl) (hw : X.w = w := by rfl) (hK : X.K = K := by rfl) (hM : X.mg = mg := by rfl) (hB : X.base = base := by rfl) (hg : Gl X x := by rfl)
    (hdb : (x == ("__debug__" : PySem.Str)) = false := by decide) (he : starEach (e :: es) X.env = (false, eval e X.env) :: starEach es X.env := by rfl) (hpl : (backTo pos (starEach es X.env)).any (·.1) = false := by rfl) : PE X (.Call (.Name x p) (e :: es) [] pos) (tMake (He.ga K x) sp [] E0 t) := by
  subst hP hw hK hM hB
  obtain ⟨g, fd, M, hm, hb, F⟩ := c.ex
  exact pe_make M F (hr.mono hj) hg hm hb .nil pass0 ha hdb he hpl
theorem pe_cao (c : Cao P w K mg base C j sp) (hr : Room k X.A) {fe : Expr} {tf : TE} (hf : PE X fe tf) (ha : PA X (e :: es) t) (hj : j ≤ k := by decide) (hP : X.prog = P := by rfl) (hw : X.w = w := by rfl) (hK : X.K = K := by rfl) (hM : X.mg = mg := by rfl) (hB : X.base = base := by rfl)
    (ht : eval (.Call fe (e :: es) [] pos) X.env = (do callWith pos (← eval fe X.env) [] (backTo pos (starEach (e :: es) X.env)) (backToKw pos (keywordEach [] X.env))) := by rfl) (he : starEach (e :: es) X.env = (false, eval e X.env) :: starEach es X.env := by rfl) (hpl : (backTo pos (starEach es X.env)).any (·.1) = false := by rfl) : PE X (.Call fe (e :: es) [] pos) (StX.tCallO X C sp E0 tf t) := by
  subst hP hw hK hM hB
  obtain ⟨g, c, F⟩ := c.ex
  exact StX.pe_callO hf c F (hr.mono hj) pass0 ha ht he hpl
end
end Nb
set_option Elab.async false
set_option linter.all false
set_option maxRecDepth 100000
set_option maxHeartbeats 2000000
namespace Nb
open PySem L2
open PyProof.Rows (envOfC)
/-! ### texts of outcomes -/
def tx (ds : List Nat) : PySem.Str := ⟨(ds.map fun d => 48 + d).toArray⟩
def qX : Rl (List Nat) := fun _ v ds => v = .str (tx ds)
instance : Mo qX := ⟨fun _ h => h⟩
theorem tx_len (ds : List Nat) : (tx ds).length = ds.length := by
  show ((ds.map fun d => 48 + d).toArray).size = ds.length
  rw [List.size_toArray, List.length_map]
theorem tx_app (a b : List Nat) : tx a ++ tx b = tx (a ++ b) := by
  show (⟨(a.map fun d => 48 + d).toArray ++ (b.map fun d => 48 + d).toArray⟩ : PySem.Str) = ⟨((a ++ b).map fun d => 48 + d).toArray⟩
  rw [List.map_append]
  simp
theorem tx_inj {a b : List Nat} (h : tx a = tx b) : a = b := by
  have h1 : (a.map fun d => 48 + d) = b.map fun d => 48 + d := by
    have := congrArg (fun z : PySem.Str => z.cps.toList) h
    simpa [tx] using this
  induction a generalizing b with
  | nil => cases b with
    | nil => rfl
    | cons c t => cases h1
  | cons c t ih => cases b with
    | nil => cases h1
    | cons d u =>
      simp only [List.map_cons, List.cons.injEq] at h1
      rw [show c = d by omega, ih (b := u) (by unfold tx; rw [h1.2]) h1.2]
theorem signs_tx (ds : List Nat) : signs (tx ds) = ds.map fun d => tx [d] := by
  unfold signs tx
  simp
theorem letters_eq {n : Nat} (h : 1 ≤ n) (h5 : n ≤ 5) : cutS (PySem.Str.ofString "01234") none (some (n : Int)) = tx (List.range n) := by
  have : n = 1 ∨ n = 2 ∨ n = 3 ∨ n = 4 ∨ n = 5 := by omega
  rcases this with rfl | rfl | rfl | rfl | rfl <;> decide +kernel

/-! ### dicts from texts -/
def putD {β : Type} (f : List Nat → Option β) (k : List Nat) (y : β) : List Nat → Option β := fun ds => if ds = k then some y else f ds
def DR {β : Type} (q : Rl β) (G : Hp) (L : List (Key × V)) (f : List Nat → Option β) : Prop := ∀ ds, match f ds with
  | none => valV L (.inr (tx ds)) = none
  | some y => ∃ x, valV L (.inr (tx ds)) = some x ∧ q G x y
def qDs {β : Type} (q : Rl β) : Rl (List Nat → Option β) := fun G v f => ∃ d L, v = .ref d ∧ G d = some (.dK L) ∧ DR q G L f
structure OwD {β : Type} (q : Rl β) (O : List Addr) (G H : Hp) (p : Addr) (f : List Nat → Option β) (m : Nat) : Prop where
  nw : p ∉ O
  at_ : ∃ L, H p = some (.dK L) ∧ L.length ≤ m ∧ DR q G L f
/-- the relation does not lean on a dict -/
class Off {β : Type} (q : Rl β) : Prop where
  off : ∀ (H : Hp) (O : List Addr) (p : Addr) (L : List (Key × V)) (v : V) (x : β), H p = some (.dK L) → q (wo H O) v x → q (wo H (p :: O)) v x
section
variable {α β γ : Type} {O : List Addr} {σ : St} {G H G' H' : Hp} {r : Rl α} {q : Rl β} {x : α} {y : β} {ta tb te : TE} {K : PySem.W.Frag} {p : Addr} {D : Ends} {t1 t2 : TS} {f : List Nat → Option β} {m : Nat}
theorem DR.none : DR q G [] fun _ => none := fun ds => rfl
theorem DR.mo [Mo q] {L : List (Key × V)} (s : Same G G') (h : DR q G L f) : DR q G' L f := fun ds => by
  have h := h ds
  cases e : f ds with
  | none =>
    rw [e] at h
    exact h
  | some y =>
    rw [e] at h
    obtain ⟨x, h1, h2⟩ := h
    exact ⟨x, h1, Mo.mo s h2⟩
theorem DR.put {L : List (Key × V)} {k : List Nat} {v : V} (h : DR q G L f) (hv : q G v y) : DR q G (putK L (.inr (tx k)) v) (putD f k y) := fun ds => by
  unfold putD
  rw [valV_put]
  by_cases e : ds = k
  · rw [if_pos e, if_pos (by rw [e])]
    exact ⟨v, rfl, hv⟩
  · rw [if_neg e, if_neg (fun z => e (tx_inj (Sum.inr.inj z)))]
    exact h ds
instance [Mo q] : Mo (qDs q) := ⟨fun s ⟨d, L, e, h, h2⟩ => ⟨d, L, e, s _ _ h, h2.mo s⟩⟩
theorem wo_off {O : List Addr} {a : Addr} {o : HO} {L : List (Key × V)} (hp : H p = some (.dK L)) (h : wo H O a = some o) (hn : o ≠ .dK L) : wo H (p :: O) a = some o := by
  obtain ⟨h1, h2⟩ := wo_some h
  rw [wo_out (by
    simp only [List.mem_cons, not_or]
    exact ⟨fun z => hn (by rw [z, hp] at h2; exact (Option.some.inj h2).symm), h1⟩)]
  exact h2
theorem sqT_off {O : List Addr} {a : Addr} {xs : List V} {L : List (Key × V)} (hp : H p = some (.dK L)) (h : SqT K (wo H O) a xs) : SqT K (wo H (p :: O)) a xs := by
  rcases h with (plain | ⟨own, sub⟩) | rest
  · exact .inl (.inl (wo_off hp plain (fun z => nomatch z)))
  · exact .inl (.inr ⟨own, wo_off hp sub (fun z => nomatch z)⟩)
  · exact .inr rest
instance : Off (qQ K) := ⟨fun H O p L v x hp ⟨a, e, h⟩ => ⟨a, e, sqT_off hp h⟩⟩
instance : Off qX := ⟨fun H O p L v x hp h => h⟩
theorem OwD.on [Mo q] (h : OwD q O G H p f m) (sg : Same G G') (sh : Same H H') : OwD q O G' H' p f m := by
  obtain ⟨n, L, e, l, pr⟩ := h
  exact ⟨n, L, sh _ _ e, l, pr.mo sg⟩
/-- looked at, not changed -/
theorem OwD.see [Mo q] (h : OwD q O G H p f m) (w : Wd (p :: O) G H) : Same G (wo H O) ∧ Wd O (wo H O) H ∧ Has (qDs q) (wo H O) (.ref p) f := by
  obtain ⟨n, L, e, l, pr⟩ := h
  refine ⟨w.drop.le, w.drop.up, ⟨p, L, rfl, ?_, pr.mo w.drop.le⟩⟩
  rw [wo_out n]
  exact e
theorem tv_dget {td ty : TE} {ds : List Nat} [Mo q] (h : Tv O td σ G (qDs q) f) (g : Tv O ty σ G qX ds) (e : f ds = some y) : Tv O (tDGet td ty) σ G q y := fun H w Q k =>
  h H w _ fun v H1 s1 h1 => g H1 (w.same s1) _ fun u H2 s2 h2 => by
    obtain ⟨d, L, rfl, ed, dr⟩ := h1
    have dr := dr ds
    rw [e] at dr
    obtain ⟨z, e1, e2⟩ := dr
    refine ⟨d, z, rfl, .inl ⟨L, .inr (tx ds), .inl (s2 _ _ (wo_le _ _ ed)), h2, e1.symm⟩, k z H2 (s1.trans s2) (Mo.mo (same_wo s2) e2)⟩
theorem tv_din {td ty : TE} {ds : List Nat} (h : Tv O ty σ G qX ds) (g : Tv O td σ G (qDs q) f) {b : Bool} (e : (f ds).isSome = b) : Tv O (tDIn ty td) σ G qB b := fun H w Q k =>
  h H w _ fun v H1 s1 h1 => g H1 (w.same s1) _ fun u H2 s2 h2 => by
    obtain ⟨d, L, rfl, ed, dr⟩ := h2
    refine ⟨d, _, rfl, .inl ⟨L, .inr (tx ds), .inl (wo_le _ _ ed), h1, rfl⟩, k _ _ (s1.trans s2) ?_⟩
    have dr := dr ds
    show V.bl _ = V.bl b
    rw [← e]
    cases q : f ds with
    | none => rw [q] at dr; rw [show valV L (.inr (tx ds)) = none from dr] <;> rfl
    | some y =>
      rw [q] at dr
      obtain ⟨z, e1, _⟩ := dr
      rw [e1] <;> rfl
theorem tv_dnin {td ty : TE} {ds : List Nat} (h : Tv O ty σ G qX ds) (g : Tv O td σ G (qDs q) f) {b : Bool} (e : (!(f ds).isSome) = b) : Tv O (tDNotIn ty td) σ G qB b := fun H w Q k =>
  h H w _ fun v H1 s1 h1 => g H1 (w.same s1) _ fun u H2 s2 h2 => by
    obtain ⟨d, L, rfl, ed, dr⟩ := h2
    refine ⟨d, _, rfl, .inl ⟨L, .inr (tx ds), .inl (wo_le _ _ ed), h1, rfl⟩, k _ _ (s1.trans s2) ?_⟩
    have dr := dr ds
    show V.bl _ = V.bl b
    rw [← e]
    cases q : f ds with
    | none => rw [q] at dr; rw [show valV L (.inr (tx ds)) = none from dr] <;> rfl
    | some y =>
      rw [q] at dr
      obtain ⟨z, e1, _⟩ := dr
      rw [e1] <;> rfl
/-- d[k] = e, d owned -/
theorem st_dputL {j : Nat} {tk tv : TE} {ds : List Nat} [Mo q] [Off q] (w : Wd (p :: O) G H) (o : OwD q O G H p f m) (hj : σ[j]? = some (some (.ref p))) (hm : m < 10000)
    (hv : ∀ G1, Same G G1 → Has (qDs q) G1 (.ref p) f → Tv O tv σ G1 q y) (hk : ∀ G1, Same G G1 → Has (qDs q) G1 (.ref p) f → Tv O tk σ G1 qX ds)
    (k : ∀ G' H', Same G G' → Wd (p :: O) G' H' → Sb p H H' → OwD q O G' H' p (putD f ds y) (m + 1) → D.nx σ H') : sDPut (tVar j) tk tv D σ H := by
  obtain ⟨s1, w1, h1⟩ := o.see w
  refine hv _ s1 h1 H w1 _ fun v H2 s2 h2 => ⟨_, hj, ?_⟩
  refine hk _ s1 h1 H2 (w1.same s2) _ fun u H3 s3 h3 => ?_
  obtain ⟨n, L, e, l, pr⟩ := o
  have e3 : H3 p = some (.dK L) := s3 _ _ (s2 _ _ e)
  have s23 := s2.trans s3
  refine ⟨p, _, rfl, .inl ⟨L, .inr (tx ds), e3, h3, by rw [sizeLine_eq]; omega, rfl⟩, ?_⟩
  have w3 := w.same s23
  have sg : Same G (wo H3 (p :: O)) := w3.le
  refine k (wo H3 (p :: O)) _ sg (w3.up.set List.mem_cons_self) ((Sb.of s23).trans Sb.upd) ⟨n, _, upd_same, Nat.le_trans (length_putK L _ v) (by omega), (pr.mo sg).put (Off.off H3 O p L v y e3 (Mo.mo (same_wo s3) h2))⟩
theorem st_dput {j : Nat} {tk tv : TE} {ds : List Nat} [Mo q] [Off q] (w : Wd (p :: O) G H) (o : OwD q O G H p f m) (hj : σ[j]? = some (some (.ref p))) (hm : m < 10000)
    (hv : ∀ G1, Same G G1 → Has (qDs q) G1 (.ref p) f → Tv O tv σ G1 q y) (hk : ∀ G1, Same G G1 → Has (qDs q) G1 (.ref p) f → Tv O tk σ G1 qX ds)
    (k : ∀ G' H', Same G G' → Wd (p :: O) G' H' → Sb p H H' → OwD q O G' H' p (putD f ds y) (m + 1) → t2 D σ H') : tSeq (sDPut (tVar j) tk tv) t2 D σ H := st_dputL (D := { D with nx := t2 D }) w o hj hm hv hk k
/-- x = e, e looks at the owned dict -/
theorem st_asgD {i : Nat} [Mo q] [Off r] (w : Wd (p :: O) G H) (o : OwD q O G H p f m) (h : ∀ G1, Same G G1 → Has (qDs q) G1 (.ref p) f → Tv O te σ G1 r x)
    (k : ∀ v G' H', Same G G' → Wd (p :: O) G' H' → Same H H' → Has r G' v x → OwD q O G' H' p f m → t2 D (σ.set i (some v)) H') : tSeq (tAsg te (gName i)) t2 D σ H := by
  obtain ⟨s1, w1, h1⟩ := o.see w
  refine h _ s1 h1 H w1 _ fun v H2 s2 h2 => ?_
  obtain ⟨n, L, e, l, pr⟩ := o
  have e2 : H2 p = some (.dK L) := s2 _ _ e
  have w2 := w.same s2
  exact k v (wo H2 (p :: O)) H2 w2.le w2.up s2 ⟨Off.off H2 O p L v x e2 h2⟩ ⟨n, L, e2, l, pr.mo w2.le⟩
/-- x = {k: e} -/
theorem st_disp {i : Nat} {s : PySem.Str} {ds : List Nat} [Mo q] (w : Wd O G H) (hs : s = tx ds) (h : ∀ p, Tv (p :: O) te σ G q y)
    (k : ∀ p G' H', H p = none → Same H H' → Same G G' → Wd (p :: O) G' H' → OwD q O G' H' p (putD (fun _ => none) ds y) 1 → t2 D (σ.set i (some (.ref p))) H') : tSeq (tAsg (tDisp [(tC (.str s), te)]) (gName i)) t2 D σ H := by
  intro p hp
  have w0 := w.own (o := .dK []) hp
  refine h p _ w0 _ fun v H1 s1 h1 => ?_
  have e1 : H1 p = some (.dK []) := s1 _ _ upd_same
  have w1 := w0.same s1
  refine ⟨e1, [(.inr s, v)], rfl, (show 1 ≤ 15 by decide), ?_⟩
  refine k p (wo H1 (p :: O)) _ hp (fun b o e => ?_) w1.le (w1.up.set List.mem_cons_self) ⟨dom_new w.dm hp, _, upd_same, Nat.le_refl _, ?_⟩
  · have n := ne_of_none e hp
    rw [upd_ne n]
    exact s1 _ _ (by rw [upd_ne n]; exact e)
  · subst hs
    exact (DR.none (q := q)).put (L := []) h1
/-- {k: e for ..}, owned from now on -/
theorem dc_run {wi : TI} {g : TG} {vs : List Nat} {E : Hp → α → St → St → Prop} {tk tv : TE} {xs : List α} {kf : α → List Nat} {vf : α → β} [Mo q] (w : Wd O G H) (hi : Tit O wi σ G r xs) (hg : Tg g r E) (ho : Own E vs) (hz : xs.length < 10000)
    (hk : ∀ (D : Addr) (i : Nat) (x : α) (G1 : Hp) (σ2 : St), xs[i]? = some x → Same G G1 → E G1 x (wipe σ vs) σ2 → Tv (D :: O) tk σ2 G1 qX (kf x))
    (hv : ∀ (D : Addr) (i : Nat) (x : α) (G1 : Hp) (σ2 : St), xs[i]? = some x → Same G G1 → E G1 x (wipe σ vs) σ2 → Tv (D :: O) tv σ2 G1 q (vf x))
    {Q : VK} (k : ∀ p G' H', H p = none → Same H H' → Same G G' → Wd (p :: O) G' H' → OwD q O G' H' p (xs.foldl (fun f x => putD f (kf x) (vf x)) fun _ => none) xs.length → Q (.ref p) H') :
    tDc wi g tYes tk tv vs σ H Q := by
  refine hi H w _ fun It Gd Y G' H' sh sg w' wk hgd hy => ?_
  intro d hD
  refine walk_hp wk (fun j H1 => ∃ G1 L, Same G' G1 ∧ Wd (d :: O) G1 H1 ∧ Sb d H' H1 ∧ H1 d = some (.dK L) ∧ L.length ≤ j ∧ DR q G1 L ((xs.take j).foldl (fun f x => putD f (kf x) (vf x)) fun _ => none)) ?_ (fun j H1 _ ⟨G1, L, s1, w1, _⟩ => hgd _ (s1.trans w1.to)) ?_ ?_
  · exact ⟨G', [], Same.refl _, w'.own hD, Sb.upd, upd_same, Nat.le_refl _, DR.none⟩
  · rintro j v H1 H2 hlt ⟨G1, L, s1, w1, sb, eD, hl, dr⟩ yy
    obtain ⟨x, G2, hx, sh2, sg2, w2, hh⟩ := hy j H1 v H2 (d :: O) G1 hlt s1 w1 yy
    refine hg (d :: O) G2 H2 (wipe σ vs) v x _ w2 hh fun σ2 e => ⟨by rw [ho _ _ _ _ e, wipe_wipe], ?_⟩
    refine yes_go ?_
    refine hk d j x G2 σ2 hx ((sg.trans s1).trans sg2) e H2 w2 _ fun u H3 s3 h3 => ?_
    refine hv d j x G2 σ2 hx ((sg.trans s1).trans sg2) e H3 (w2.same s3) _ fun z H4 s4 h4 => ?_
    have e4 : H4 d = some (.dK L) := s4 _ _ (s3 _ _ (sh2 _ _ eD))
    have w4 := (w2.same s3).same s4
    refine ⟨L, .inr (tx (kf x)), h3, e4, by rw [sizeLine_eq]; omega, wo H4 (d :: O), putK L (.inr (tx (kf x))) z, (s1.trans sg2).trans w4.le, w4.up.set List.mem_cons_self, ((sb.trans (Sb.of sh2)).trans (Sb.of (s3.trans s4))).trans Sb.upd, upd_same, Nat.le_trans (length_putK _ _ _) (by omega), ?_⟩
    rw [List.take_add_one, hx]
    show DR q _ _ ((List.take j xs ++ [x]).foldl _ _)
    rw [List.foldl_append]
    exact (dr.mo (sg2.trans w4.le)).put h4
  · rintro H1 ⟨G1, L, s1, w1, sb, eD, hl, dr⟩
    rw [List.take_length] at dr
    have hn : H d = none := by
      cases e : H d with
      | none => rfl
      | some u => rw [sh _ _ e] at hD; cases hD
    exact k d G1 H1 hn (sh.trans (sb.same (Same.refl _) hD)) (sg.trans s1) w1 ⟨dom_new w'.dm hD, L, eD, hl, dr⟩
theorem st_dc {i : Nat} {wi : TI} {g : TG} {vs : List Nat} {E : Hp → α → St → St → Prop} {tk tv : TE} {xs : List α} {kf : α → List Nat} {vf : α → β} [Mo q] (w : Wd O G H) (hi : Tit O wi σ G r xs) (hg : Tg g r E) (ho : Own E vs) (hz : xs.length < 10000)
    (hk : ∀ (D : Addr) (i : Nat) (x : α) (G1 : Hp) (σ2 : St), xs[i]? = some x → Same G G1 → E G1 x (wipe σ vs) σ2 → Tv (D :: O) tk σ2 G1 qX (kf x))
    (hv : ∀ (D : Addr) (i : Nat) (x : α) (G1 : Hp) (σ2 : St), xs[i]? = some x → Same G G1 → E G1 x (wipe σ vs) σ2 → Tv (D :: O) tv σ2 G1 q (vf x))
    (k : ∀ p G' H', H p = none → Same H H' → Same G G' → Wd (p :: O) G' H' → OwD q O G' H' p (xs.foldl (fun f x => putD f (kf x) (vf x)) fun _ => none) xs.length → t1 D (σ.set i (some (.ref p))) H') :
    tSeq (tAsg (tDc wi g tYes tk tv vs) (gName i)) t1 D σ H :=
  dc_run (Q := fun v H' => t1 D (σ.set i (some v)) H') w hi hg ho hz hk hv k
theorem tv_dc {wi : TI} {g : TG} {vs : List Nat} {E : Hp → α → St → St → Prop} {tk tv : TE} {xs : List α} {kf : α → List Nat} {vf : α → β} [Mo q] (hi : Tit O wi σ G r xs) (hg : Tg g r E) (ho : Own E vs) (hz : xs.length < 10000)
    (hk : ∀ (D : Addr) (i : Nat) (x : α) (G1 : Hp) (σ2 : St), xs[i]? = some x → Same G G1 → E G1 x (wipe σ vs) σ2 → Tv (D :: O) tk σ2 G1 qX (kf x))
    (hv : ∀ (D : Addr) (i : Nat) (x : α) (G1 : Hp) (σ2 : St), xs[i]? = some x → Same G G1 → E G1 x (wipe σ vs) σ2 → Tv (D :: O) tv σ2 G1 q (vf x)) :
    Tv O (tDc wi g tYes tk tv vs) σ G (qDs q) (xs.foldl (fun f x => putD f (kf x) (vf x)) fun _ => none) := fun H w Q k =>
  dc_run w hi hg ho hz hk hv fun p G' H' _ s _ w' o => k _ _ s (o.see w').2.2.h
end
end Nb
set_option Elab.async false
set_option linter.all false
set_option maxRecDepth 100000
set_option maxHeartbeats 2000000
namespace Nb
open PySem L2
open PyProof.Rows (envOfC)
def top (i : Nat) : Stmt := PySem.Challenge.pw_notbehind_k69_whole_switch_distance_show.main.body.getD i (.Pass ⟨0, 0, 0, 0⟩)
/-- the module's name x stands for the def of the text st -/
structure FnF (K : PySem.W.Frag) (mg : PySem.Str → Option Value) (x name qual : PySem.Str) (st : Stmt) (kws : List (PySem.Str × V)) : Prop where
  ex : ∃ f, (∃ fd, FunD K name qual (defArgs st) (defBody st) (defScope st) [] kws f fd) ∧ mg x = some (.ref f)
structure MkF (K : PySem.W.Frag) (C : Addr) (x qual : PySem.Str) (st : Stmt) : Prop where
  ex : ∃ g fd, Mk K C g ∧ FunD K x qual (defArgs st) (defBody st) (defScope st) [] [] g fd
structure PrF (K : PySem.W.Frag) (C : Addr) (x qual : PySem.Str) (st : Stmt) : Prop where
  ex : ∃ p g fd, PropOf K C x p g ∧ FunD K x qual (defArgs st) (defBody st) (defScope st) [] [] g fd
structure BinF (K : PySem.W.Frag) (C : Addr) (x qual : PySem.Str) (st : Stmt) : Prop where
  ex : ∃ g fd, PySem.W.findIn K (.ref C) x = some (some (.ref g)) ∧ PySem.W.isFn K (.ref g) = true ∧ PySem.W.selfFirst K C = true ∧ FunD K x qual (defArgs st) (defBody st) (defScope st) [] [] g fd
structure CaF (K : PySem.W.Frag) (C : Addr) (x qual : PySem.Str) (st : Stmt) : Prop where
  ex : ∃ g fd, StX.CallO K C g ∧ FunD K x qual (defArgs st) (defBody st) (defScope st) [] [] g fd
structure EqF (K : PySem.W.Frag) (C : Addr) (x qual : PySem.Str) (st : Stmt) : Prop where
  ex : ∃ g fd, PySem.W.findIn K (.ref C) "__eq__" = some (some (.ref g)) ∧ PySem.W.isFn K (.ref g) = true ∧ FunD K x qual (defArgs st) (defBody st) (defScope st) [] [] g fd
structure IsiF (K : PySem.W.Frag) (C : Addr) : Prop where
  (ha : PySem.W.findIn K (.ref C) "__class__" = some (some (.builtin "object.__class__"))) (hn : PySem.W.specialIn K (.builtin "object.__class__") "__get__" = some (some (.builtin "getset_descriptor.__get__")))
  (htk : PySem.W.takesIn K (.builtin "object.__class__") = some true) (hm : PySem.W.mroIn K C (.type "object") = some true)
  kit : PySem.W.kitOne K (.ref C) (.ref C) = some true
abbrev s_BadCount___init__ : Stmt := inClass (top 4) 0
abbrev n_BadCount___init__ : List PySem.Str := ["self", "found", "low", "high"]
abbrev s_BadSize___init__ : Stmt := inClass (top 5) 0
abbrev n_BadSize___init__ : List PySem.Str := ["self", "found", "due"]
abbrev s_BadRow___init__ : Stmt := inClass (top 6) 0
abbrev n_BadRow___init__ : List PySem.Str := ["self", "found"]
abbrev s_BadShare___init__ : Stmt := inClass (top 7) 0
abbrev n_BadShare___init__ : List PySem.Str := ["self", "at"]
abbrev s_is_integer_value : Stmt := top 11
abbrev n_is_integer_value : List PySem.Str := ["value"]
abbrev s_parts_of : Stmt := top 12
abbrev n_parts_of : List PySem.Str := ["value", "top", "bottom"]
abbrev s_common_divisor : Stmt := top 13
abbrev n_common_divisor : List PySem.Str := ["top", "bottom"]
abbrev s_fraction : Stmt := top 14
abbrev n_fraction : List PySem.Str := ["value", "top", "bottom", "common"]
abbrev s_sum_of_two : Stmt := top 15
abbrev n_sum_of_two : List PySem.Str := ["left", "right", "top", "bottom", "other_top", "other_bottom", "common", "reduced", "raw", "again"]
abbrev s_product_of_two : Stmt := top 16
abbrev n_product_of_two : List PySem.Str := ["left", "right", "top", "bottom", "other_top", "other_bottom", "across", "back"]
abbrev s_opposite : Stmt := top 17
abbrev n_opposite : List PySem.Str := ["parts"]
abbrev s_order_of : Stmt := top 18
abbrev n_order_of : List PySem.Str := ["left", "right", "near", "far"]
abbrev s_add : Stmt := top 19
abbrev n_add : List PySem.Str := ["left", "right"]
abbrev s_sub : Stmt := top 20
abbrev n_sub : List PySem.Str := ["left", "right"]
abbrev s_div : Stmt := top 22
abbrev n_div : List PySem.Str := ["left", "right", "dividend", "top", "bottom"]
abbrev s_negate : Stmt := top 23
abbrev n_negate : List PySem.Str := ["value"]
abbrev s_compare : Stmt := top 24
abbrev n_compare : List PySem.Str := ["left", "right", "near"]
abbrev s_total : Stmt := top 25
abbrev n_total : List PySem.Str := ["values", "running", "value"]
abbrev s_check_some : Stmt := top 26
abbrev n_check_some : List PySem.Str := ["values"]
abbrev s_farthest_value : Stmt := top 27
abbrev n_farthest_value : List PySem.Str := ["values", "side", "pairs", "value", "best", "pair"]
abbrev s_least : Stmt := top 28
abbrev n_least : List PySem.Str := ["values"]
abbrev s_greatest : Stmt := top 29
abbrev n_greatest : List PySem.Str := ["values"]
abbrev s_dot : Stmt := top 30
abbrev n_dot : List PySem.Str := ["weights", "values", "checked", "weight", "running", "factor", "value"]
abbrev s_check_count_rows : Stmt := top 35
abbrev n_check_count_rows : List PySem.Str := ["found", "low", "high"]
abbrev s_check_shape_rows : Stmt := top 37
abbrev n_check_shape_rows : List PySem.Str := ["width", "rounds"]
abbrev s_count_texts : Stmt := top 42
abbrev n_count_texts : List PySem.Str := ["width", "length", "many", "spare"]
abbrev s_next_texts : Stmt := top 43
abbrev n_next_texts : List PySem.Str := ["texts", "width", "signs", "text", "sign"]
abbrev s_most_rounds : Stmt := top 45
abbrev n_most_rounds : List PySem.Str := ["width"]
abbrev s_letters : Stmt := top 46
abbrev n_letters : List PySem.Str := ["width"]
abbrev s_rows_of : Stmt := top 47
abbrev n_rows_of : List PySem.Str := ["rounds", "width", "texts", "spare"]
abbrev s_beginnings_of : Stmt := top 48
abbrev n_beginnings_of : List PySem.Str := ["rounds", "width", "found", "texts", "spare"]
abbrev s_check_count_aid_stakes : Stmt := top 51
abbrev n_check_count_aid_stakes : List PySem.Str := ["found", "low", "high"]
abbrev s_same_shape_aid_stakes : Stmt := top 53
abbrev n_same_shape_aid_stakes : List PySem.Str := ["first", "second"]
abbrev s_check_shapes_aid_stakes : Stmt := top 55
abbrev n_check_shapes_aid_stakes : List PySem.Str := ["first", "second"]
abbrev s_check_group : Stmt := top 57
abbrev n_check_group : List PySem.Str := ["things", "thing"]
abbrev s_check_same_shape : Stmt := top 59
abbrev n_check_same_shape : List PySem.Str := ["first", "second"]
abbrev s_Table___init__ : Stmt := inClass (top 60) 0
abbrev n_Table___init__ : List PySem.Str := ["self", "width", "rounds", "cells", "due", "cell"]
abbrev s_Table_width : Stmt := inClass (top 60) 1
abbrev n_Table_width : List PySem.Str := ["self"]
abbrev s_Table_rounds : Stmt := inClass (top 60) 2
abbrev n_Table_rounds : List PySem.Str := ["self"]
abbrev s_Table_cells : Stmt := inClass (top 60) 3
abbrev n_Table_cells : List PySem.Str := ["self"]
abbrev s_Table___sub__ : Stmt := inClass (top 60) 9
abbrev n_Table___sub__ : List PySem.Str := ["self", "other", "cells", "mine", "theirs"]
abbrev s_check_size : Stmt := top 63
abbrev n_check_size : List PySem.Str := ["found", "due"]
abbrev s_check_shapes_plans : Stmt := top 64
abbrev n_check_shapes_plans : List PySem.Str := ["first", "second"]
abbrev s_share_parts : Stmt := top 66
abbrev n_share_parts : List PySem.Str := ["width", "share", "part"]
abbrev s_is_sharing : Stmt := top 67
abbrev n_is_sharing : List PySem.Str := ["parts", "part"]
abbrev s_sharing_at : Stmt := top 68
abbrev n_sharing_at : List PySem.Str := ["width", "share", "at", "parts"]
abbrev s_Plan___init__ : Stmt := inClass (top 69) 0
abbrev n_Plan___init__ : List PySem.Str := ["self", "width", "rounds", "shares", "order", "parts", "share", "at"]
abbrev s_Plan_width : Stmt := inClass (top 69) 1
abbrev n_Plan_width : List PySem.Str := ["self"]
abbrev s_Plan_rounds : Stmt := inClass (top 69) 2
abbrev n_Plan_rounds : List PySem.Str := ["self"]
abbrev s_Plan_shares : Stmt := inClass (top 69) 3
abbrev n_Plan_shares : List PySem.Str := ["self"]
abbrev s_Plan___call__ : Stmt := inClass (top 69) 4
abbrev n_Plan___call__ : List PySem.Str := ["self", "beginning"]
abbrev s_Plan___eq__ : Stmt := inClass (top 69) 7
abbrev n_Plan___eq__ : List PySem.Str := ["self", "other"]
abbrev s_inner_of : Stmt := top 72
abbrev n_inner_of : List PySem.Str := ["plan"]
abbrev s_row_table : Stmt := top 73
abbrev n_row_table : List PySem.Str := ["plan", "cells", "rows", "row"]
abbrev s_misses_table : Stmt := top 74
abbrev n_misses_table : List PySem.Str := ["plan", "outcomes", "sums", "at", "outcome", "share"]
abbrev s_mean_under : Stmt := top 75
abbrev n_mean_under : List PySem.Str := ["foe", "table", "outcomes", "rows", "expected", "row", "cell", "at", "outcome"]
abbrev s_least_misses : Stmt := top 76
abbrev n_least_misses : List PySem.Str := ["foe", "outcomes", "sums", "row", "at", "share", "later", "outcome"]
abbrev s_same_shape_papers : Stmt := top 78
abbrev n_same_shape_papers : List PySem.Str := ["plan", "table"]
abbrev s_check_shape_papers : Stmt := top 80
abbrev n_check_shape_papers : List PySem.Str := ["plan", "table"]
abbrev s_slack_table : Stmt := top 82
abbrev n_slack_table : List PySem.Str := ["chooser", "table"]
abbrev s_least_slack : Stmt := top 83
abbrev n_least_slack : List PySem.Str := ["chooser", "table"]
abbrev s_worth : Stmt := top 84
abbrev n_worth : List PySem.Str := ["foe", "table"]
abbrev s_is_value_paper : Stmt := top 85
abbrev n_is_value_paper : List PySem.Str := ["table", "paper", "given", "chooser", "foe", "number"]
abbrev s_height : Stmt := top 87
abbrev n_height : List PySem.Str := ["floor", "kept", "top", "lower", "level"]
abbrev s_poured : Stmt := top 88
abbrev n_poured : List PySem.Str := ["floor", "top", "level"]
abbrev s_reached_places : Stmt := top 89
abbrev n_reached_places : List PySem.Str := ["floor", "top", "place", "level"]
abbrev s_even_chances : Stmt := top 90
abbrev n_even_chances : List PySem.Str := ["floor", "places", "part", "place"]
abbrev s_cut : Stmt := top 91
abbrev n_cut : List PySem.Str := ["cells", "width", "at"]
abbrev s_fold_layers : Stmt := top 92
abbrev n_fold_layers : List PySem.Str := ["table", "layer", "layers", "spare", "floor"]
abbrev s_floors_of : Stmt := top 93
abbrev n_floors_of : List PySem.Str := ["table", "layer", "floor"]
abbrev s_wide_fold : Stmt := top 94
abbrev n_wide_fold : List PySem.Str := ["table"]
abbrev s_wide_keeper : Stmt := top 95
abbrev n_wide_keeper : List PySem.Str := ["table", "floor"]
abbrev s_wide_breaker : Stmt := top 96
abbrev n_wide_breaker : List PySem.Str := ["table", "floor"]
abbrev s_useful : Stmt := top 99
abbrev n_useful : List PySem.Str := ["switches", "rounds"]
abbrev s_turned : Stmt := top 100
abbrev n_turned : List PySem.Str := ["state", "free", "row", "found", "many", "value"]
abbrev s_grown : Stmt := top 101
abbrev n_grown : List PySem.Str := ["state", "parts", "value", "part", "row"]
abbrev s_start_state : Stmt := top 102
abbrev n_start_state : List PySem.Str := ["many", "allowed", "spare", "unused"]
abbrev s_switch_table : Stmt := top 103
abbrev n_switch_table : List PySem.Str := ["helpers", "switches", "width", "rounds", "shares", "helper", "states", "at", "spare", "ahead", "state", "free", "outcome", "parts", "told"]
abbrev s_switch_distance : Stmt := top 104
abbrev n_switch_distance : List PySem.Str := ["helpers", "switches"]
abbrev s_switch_chooser : Stmt := top 105
abbrev n_switch_chooser : List PySem.Str := ["helpers", "switches"]
abbrev s_switch_foe : Stmt := top 106
abbrev n_switch_foe : List PySem.Str := ["helpers", "switches"]
abbrev s__law_store : Stmt := top 108
abbrev n__law_store : List PySem.Str := ["_law_script", "_law_cell"]
abbrev s__law_mixed : Stmt := top 109
abbrev n__law_mixed : List PySem.Str := ["_law_store_here", "_law_prime", "_law_found"]
abbrev s__law_take : Stmt := top 110
abbrev n__law_take : List PySem.Str := ["_law_store_here", "_law_many", "_law_cell", "_law_found"]
abbrev s__law_edge : Stmt := top 111
abbrev n__law_edge : List PySem.Str := ["_law_store_here", "_law_many", "_law_kind"]
abbrev s__law_power : Stmt := top 112
abbrev n__law_power : List PySem.Str := ["_law_base", "_law_times_here", "_law_found", "_law_k"]
abbrev s__law_gcd : Stmt := top 113
abbrev n__law_gcd : List PySem.Str := ["_law_left", "_law_right", "_law_rest"]
abbrev s__law_low : Stmt := top 114
abbrev n__law_low : List PySem.Str := ["_law_top", "_law_bottom", "_law_part"]
abbrev s__law_plus : Stmt := top 115
abbrev n__law_plus : List PySem.Str := ["_law_left", "_law_right"]
abbrev s__law_minus : Stmt := top 116
abbrev n__law_minus : List PySem.Str := ["_law_left", "_law_right"]
abbrev s__law_times : Stmt := top 117
abbrev n__law_times : List PySem.Str := ["_law_left", "_law_right"]
abbrev s__law_below : Stmt := top 118
abbrev n__law_below : List PySem.Str := ["_law_left", "_law_right"]
abbrev s__law_sum : Stmt := top 119
abbrev n__law_sum : List PySem.Str := ["_law_values", "_law_found", "_law_value"]
abbrev s__law_lowest : Stmt := top 120
abbrev n__law_lowest : List PySem.Str := ["_law_values", "_law_found", "_law_value"]
abbrev s__law_highest : Stmt := top 121
abbrev n__law_highest : List PySem.Str := ["_law_values", "_law_found", "_law_value"]
abbrev s__law_dress : Stmt := top 122
abbrev n__law_dress : List PySem.Str := ["_law_store_here", "_law_value", "_law_kind", "_law_part"]
abbrev s__law_dressed : Stmt := top 123
abbrev n__law_dressed : List PySem.Str := ["_law_store_here", "_law_values", "_law_value"]
abbrev s__law_bad_count : Stmt := top 124
abbrev n__law_bad_count : List PySem.Str := ["_law_store_here", "_law_low_here", "_law_high", "_law_far", "_law_menu"]
abbrev s__law_alike : Stmt := top 125
abbrev n__law_alike : List PySem.Str := ["_law_actual", "_law_due", "_law_k"]
abbrev s__law_most : Stmt := top 126
abbrev n__law_most : List PySem.Str := ["_law_width"]
abbrev s__law_shape : Stmt := top 127
abbrev n__law_shape : List PySem.Str := ["_law_store_here", "_law_top", "_law_width"]
abbrev s__law_rounds : Stmt := top 128
abbrev n__law_rounds : List PySem.Str := ["_law_store_here", "_law_width", "_law_top", "_law_limit", "_law_found", "_law_k"]
abbrev s__law_index : Stmt := top 129
abbrev n__law_index : List PySem.Str := ["_law_width", "_law_text", "_law_found", "_law_sign"]
abbrev s__law_misses_on : Stmt := top 130
abbrev n__law_misses_on : List PySem.Str := ["_law_width", "_law_shares", "_law_text", "_law_found", "_law_at", "_law_sign"]
abbrev s__law_weights : Stmt := top 131
abbrev n__law_weights : List PySem.Str := ["_law_store_here", "_law_width", "_law_kind", "_law_at", "_law_weights_here", "_law_y", "_law_whole", "_law_weight"]
abbrev s__law_plan_shares : Stmt := top 132
abbrev n__law_plan_shares : List PySem.Str := ["_law_store_here", "_law_width", "_law_rounds_here", "_law_many", "_law_size", "_law_one", "_law_k"]
abbrev s__law_plan : Stmt := top 133
abbrev n__law_plan : List PySem.Str := ["_law_store_here", "_law_width", "_law_rounds_here", "_law_shares", "_law_sharing"]
abbrev s__law_row_of : Stmt := top 134
abbrev n__law_row_of : List PySem.Str := ["_law_width", "_law_size", "_law_at", "_law_found", "_law_rest", "_law_k"]
abbrev s__law_rows : Stmt := top 135
abbrev n__law_rows : List PySem.Str := ["_law_width", "_law_size", "_law_at"]
abbrev s__law_begins : Stmt := top 136
abbrev n__law_begins : List PySem.Str := ["_law_width", "_law_rounds_here", "_law_found", "_law_size"]
abbrev s__law_cells_of : Stmt := top 137
abbrev n__law_cells_of : List PySem.Str := ["_law_width", "_law_rounds_here", "_law_shares", "_law_row"]
abbrev s__law_new_plan : Stmt := top 138
abbrev n__law_new_plan : List PySem.Str := ["_law_store_here", "_law_width", "_law_rounds_here"]
abbrev s__law_unlike : Stmt := top 139
abbrev n__law_unlike : List PySem.Str := ["_law_store_here", "_law_width", "_law_rounds_here", "_law_kind"]
abbrev s__law_bad_lists : Stmt := top 140
abbrev n__law_bad_lists : List PySem.Str := ["_law_store_here", "_law_sleepers", "_law_unlike_here", "_law_at", "_law_many", "_law_long", "_law_k"]
abbrev s__law_helper_list : Stmt := top 141
abbrev n__law_helper_list : List PySem.Str := ["_law_store_here", "_law_width", "_law_rounds_here", "_law_most_here", "_law_found", "_law_k"]
abbrev s__law_plans : Stmt := top 142
abbrev n__law_plans : List PySem.Str := ["_law_store_here", "_law_width", "_law_rounds_here", "_law_helpers", "_law_shares"]
abbrev s__law_least_row : Stmt := top 143
abbrev n__law_least_row : List PySem.Str := ["_law_width", "_law_helpers", "_law_row", "_law_limit", "_law_ways", "_law_shares", "_law_count", "_law_k", "_law_at", "_law_fresh", "_law_line", "_law_other", "_law_value", "_law_steps", "_law_j"]
abbrev s__law_switched : Stmt := top 144
abbrev n__law_switched : List PySem.Str := ["_law_width", "_law_rounds_here", "_law_helpers", "_law_most_here", "_law_row"]
abbrev s__law_shares_of : Stmt := top 145
abbrev n__law_shares_of : List PySem.Str := ["_law_plan_here", "_law_width", "_law_rounds_here", "_law_told", "_law_size", "_law_sharing", "_law_value"]
abbrev s__law_chance_of : Stmt := top 146
abbrev n__law_chance_of : List PySem.Str := ["_law_width", "_law_shares", "_law_text", "_law_found", "_law_k"]
abbrev s__law_worth_of : Stmt := top 147
abbrev n__law_worth_of : List PySem.Str := ["_law_width", "_law_rounds_here", "_law_shares", "_law_cells", "_law_found", "_law_rows_here", "_law_k", "_law_text", "_law_left"]
abbrev s__law_fails : Stmt := top 148
abbrev n__law_fails : List PySem.Str := ["_law_deed", "e"]
abbrev s__law_shown : Stmt := top 149
abbrev n__law_shown : List PySem.Str := ["_law_width", "_law_rounds_here", "_law_cells", "_law_number", "_law_chooser", "_law_foe", "_law_shares", "_law_chances", "_law_missed", "_law_far", "_law_k"]
abbrev s__law_doors : Stmt := top 150
abbrev n__law_doors : List PySem.Str := ["_law_store_here", "_law_width", "_law_rounds_here", "_law_plans_here", "_law_bad", "_law_wrong"]
abbrev s_law : Stmt := top 151
abbrev n_law : List PySem.Str := ["_law_script", "_law_store_here", "_law_shape_here", "_law_width", "_law_rounds_here", "_law_helpers", "_law_plans_here", "_law_limit", "_law_cells", "_law_number", "_law_chooser", "_law_foe", "_law_table", "_law_fold", "_law_near", "_law_value"]
/-- what the top has written -/
structure Ctx (P : Program) (w : World) (K : PySem.W.Frag) (mg : PySem.Str → Option Value) (base : Heap) : Prop where
  d_is_integer_value : FnF K mg "is_integer_value" "is_integer_value" "is_integer_value" s_is_integer_value []
  d_parts_of : FnF K mg "parts_of" "parts_of" "parts_of" s_parts_of []
  d_common_divisor : FnF K mg "common_divisor" "common_divisor" "common_divisor" s_common_divisor []
  d_fraction : FnF K mg "fraction" "fraction" "fraction" s_fraction []
  d_sum_of_two : FnF K mg "sum_of_two" "sum_of_two" "sum_of_two" s_sum_of_two []
  d_product_of_two : FnF K mg "product_of_two" "product_of_two" "product_of_two" s_product_of_two []
  d_opposite : FnF K mg "opposite" "opposite" "opposite" s_opposite []
  d_order_of : FnF K mg "order_of" "order_of" "order_of" s_order_of []
  d_add : FnF K mg "add" "add" "add" s_add []
  d_sub : FnF K mg "sub" "sub" "sub" s_sub []
  d_div : FnF K mg "div" "div" "div" s_div []
  d_negate : FnF K mg "negate" "negate" "negate" s_negate []
  d_compare : FnF K mg "compare" "compare" "compare" s_compare []
  d_total : FnF K mg "total" "total" "total" s_total []
  d_check_some : FnF K mg "check_some" "check_some" "check_some" s_check_some []
  d_farthest_value : FnF K mg "farthest_value" "farthest_value" "farthest_value" s_farthest_value []
  d_least : FnF K mg "least" "least" "least" s_least []
  d_greatest : FnF K mg "greatest" "greatest" "greatest" s_greatest []
  d_dot : FnF K mg "dot" "dot" "dot" s_dot []
  d_check_count_rows : FnF K mg "check_count_rows" "check_count" "check_count" s_check_count_rows []
  d_check_shape_rows : FnF K mg "check_shape_rows" "check_shape" "check_shape" s_check_shape_rows []
  d_count_texts : FnF K mg "count_texts" "count_texts" "count_texts" s_count_texts []
  d_next_texts : FnF K mg "next_texts" "next_texts" "next_texts" s_next_texts []
  d_most_rounds : FnF K mg "most_rounds" "most_rounds" "most_rounds" s_most_rounds []
  d_letters : FnF K mg "letters" "letters" "letters" s_letters []
  d_rows_of : FnF K mg "rows_of" "rows_of" "rows_of" s_rows_of [("width", .int 2)]
  d_beginnings_of : FnF K mg "beginnings_of" "beginnings_of" "beginnings_of" s_beginnings_of [("width", .int 2)]
  d_check_count_aid_stakes : FnF K mg "check_count_aid_stakes" "check_count" "check_count" s_check_count_aid_stakes []
  d_same_shape_aid_stakes : FnF K mg "same_shape_aid_stakes" "same_shape" "same_shape" s_same_shape_aid_stakes []
  d_check_shapes_aid_stakes : FnF K mg "check_shapes_aid_stakes" "check_shapes" "check_shapes" s_check_shapes_aid_stakes []
  d_check_group : FnF K mg "check_group" "check_group" "check_group" s_check_group []
  d_check_same_shape : FnF K mg "check_same_shape" "check_same_shape" "check_same_shape" s_check_same_shape []
  d_check_size : FnF K mg "check_size" "check_size" "check_size" s_check_size []
  d_check_shapes_plans : FnF K mg "check_shapes_plans" "check_shapes" "check_shapes" s_check_shapes_plans []
  d_share_parts : FnF K mg "share_parts" "share_parts" "share_parts" s_share_parts []
  d_is_sharing : FnF K mg "is_sharing" "is_sharing" "is_sharing" s_is_sharing []
  d_sharing_at : FnF K mg "sharing_at" "sharing_at" "sharing_at" s_sharing_at []
  d_inner_of : FnF K mg "inner_of" "inner_of" "inner_of" s_inner_of []
  d_row_table : FnF K mg "row_table" "row_table" "row_table" s_row_table []
  d_misses_table : FnF K mg "misses_table" "misses_table" "misses_table" s_misses_table []
  d_mean_under : FnF K mg "mean_under" "mean_under" "mean_under" s_mean_under []
  d_least_misses : FnF K mg "least_misses" "least_misses" "least_misses" s_least_misses []
  d_same_shape_papers : FnF K mg "same_shape_papers" "same_shape" "same_shape" s_same_shape_papers []
  d_check_shape_papers : FnF K mg "check_shape_papers" "check_shape" "check_shape" s_check_shape_papers []
  d_slack_table : FnF K mg "slack_table" "slack_table" "slack_table" s_slack_table []
  d_least_slack : FnF K mg "least_slack" "least_slack" "least_slack" s_least_slack []
  d_worth : FnF K mg "worth" "worth" "worth" s_worth []
  d_is_value_paper : FnF K mg "is_value_paper" "is_value_paper" "is_value_paper" s_is_value_paper []
  d_height : FnF K mg "height" "height" "height" s_height []
  d_poured : FnF K mg "poured" "poured" "poured" s_poured []
  d_reached_places : FnF K mg "reached_places" "reached_places" "reached_places" s_reached_places []
  d_even_chances : FnF K mg "even_chances" "even_chances" "even_chances" s_even_chances []
  d_cut : FnF K mg "cut" "cut" "cut" s_cut []
  d_fold_layers : FnF K mg "fold_layers" "fold_layers" "fold_layers" s_fold_layers []
  d_floors_of : FnF K mg "floors_of" "floors_of" "floors_of" s_floors_of []
  d_wide_fold : FnF K mg "wide_fold" "wide_fold" "wide_fold" s_wide_fold []
  d_wide_keeper : FnF K mg "wide_keeper" "wide_keeper" "wide_keeper" s_wide_keeper []
  d_wide_breaker : FnF K mg "wide_breaker" "wide_breaker" "wide_breaker" s_wide_breaker []
  d_useful : FnF K mg "useful" "useful" "useful" s_useful []
  d_turned : FnF K mg "turned" "turned" "turned" s_turned []
  d_grown : FnF K mg "grown" "grown" "grown" s_grown []
  d_start_state : FnF K mg "start_state" "start_state" "start_state" s_start_state []
  d_switch_table : FnF K mg "switch_table" "switch_table" "switch_table" s_switch_table [("switches", .int 1)]
  d_switch_distance : FnF K mg "switch_distance" "switch_distance" "switch_distance" s_switch_distance [("switches", .int 1)]
  d_switch_chooser : FnF K mg "switch_chooser" "switch_chooser" "switch_chooser" s_switch_chooser [("switches", .int 1)]
  d_switch_foe : FnF K mg "switch_foe" "switch_foe" "switch_foe" s_switch_foe [("switches", .int 1)]
  d__law_store : FnF K mg "_law_store" "_law_store" "_law_store" s__law_store []
  d__law_mixed : FnF K mg "_law_mixed" "_law_mixed" "_law_mixed" s__law_mixed []
  d__law_take : FnF K mg "_law_take" "_law_take" "_law_take" s__law_take []
  d__law_edge : FnF K mg "_law_edge" "_law_edge" "_law_edge" s__law_edge []
  d__law_power : FnF K mg "_law_power" "_law_power" "_law_power" s__law_power []
  d__law_gcd : FnF K mg "_law_gcd" "_law_gcd" "_law_gcd" s__law_gcd []
  d__law_low : FnF K mg "_law_low" "_law_low" "_law_low" s__law_low []
  d__law_plus : FnF K mg "_law_plus" "_law_plus" "_law_plus" s__law_plus []
  d__law_minus : FnF K mg "_law_minus" "_law_minus" "_law_minus" s__law_minus []
  d__law_times : FnF K mg "_law_times" "_law_times" "_law_times" s__law_times []
  d__law_below : FnF K mg "_law_below" "_law_below" "_law_below" s__law_below []
  d__law_sum : FnF K mg "_law_sum" "_law_sum" "_law_sum" s__law_sum []
  d__law_lowest : FnF K mg "_law_lowest" "_law_lowest" "_law_lowest" s__law_lowest []
  d__law_highest : FnF K mg "_law_highest" "_law_highest" "_law_highest" s__law_highest []
  d__law_dress : FnF K mg "_law_dress" "_law_dress" "_law_dress" s__law_dress []
  d__law_dressed : FnF K mg "_law_dressed" "_law_dressed" "_law_dressed" s__law_dressed []
  d__law_bad_count : FnF K mg "_law_bad_count" "_law_bad_count" "_law_bad_count" s__law_bad_count []
  d__law_alike : FnF K mg "_law_alike" "_law_alike" "_law_alike" s__law_alike []
  d__law_most : FnF K mg "_law_most" "_law_most" "_law_most" s__law_most []
  d__law_shape : FnF K mg "_law_shape" "_law_shape" "_law_shape" s__law_shape []
  d__law_rounds : FnF K mg "_law_rounds" "_law_rounds" "_law_rounds" s__law_rounds []
  d__law_index : FnF K mg "_law_index" "_law_index" "_law_index" s__law_index []
  d__law_misses_on : FnF K mg "_law_misses_on" "_law_misses_on" "_law_misses_on" s__law_misses_on []
  d__law_weights : FnF K mg "_law_weights" "_law_weights" "_law_weights" s__law_weights []
  d__law_plan_shares : FnF K mg "_law_plan_shares" "_law_plan_shares" "_law_plan_shares" s__law_plan_shares []
  d__law_plan : FnF K mg "_law_plan" "_law_plan" "_law_plan" s__law_plan []
  d__law_row_of : FnF K mg "_law_row_of" "_law_row_of" "_law_row_of" s__law_row_of []
  d__law_rows : FnF K mg "_law_rows" "_law_rows" "_law_rows" s__law_rows []
  d__law_begins : FnF K mg "_law_begins" "_law_begins" "_law_begins" s__law_begins []
  d__law_cells_of : FnF K mg "_law_cells_of" "_law_cells_of" "_law_cells_of" s__law_cells_of []
  d__law_new_plan : FnF K mg "_law_new_plan" "_law_new_plan" "_law_new_plan" s__law_new_plan []
  d__law_unlike : FnF K mg "_law_unlike" "_law_unlike" "_law_unlike" s__law_unlike []
  d__law_bad_lists : FnF K mg "_law_bad_lists" "_law_bad_lists" "_law_bad_lists" s__law_bad_lists []
  d__law_helper_list : FnF K mg "_law_helper_list" "_law_helper_list" "_law_helper_list" s__law_helper_list []
  d__law_plans : FnF K mg "_law_plans" "_law_plans" "_law_plans" s__law_plans []
  d__law_least_row : FnF K mg "_law_least_row" "_law_least_row" "_law_least_row" s__law_least_row []
  d__law_switched : FnF K mg "_law_switched" "_law_switched" "_law_switched" s__law_switched []
  d__law_shares_of : FnF K mg "_law_shares_of" "_law_shares_of" "_law_shares_of" s__law_shares_of []
  d__law_chance_of : FnF K mg "_law_chance_of" "_law_chance_of" "_law_chance_of" s__law_chance_of []
  d__law_worth_of : FnF K mg "_law_worth_of" "_law_worth_of" "_law_worth_of" s__law_worth_of []
  d__law_fails : FnF K mg "_law_fails" "_law_fails" "_law_fails" s__law_fails []
  d__law_shown : FnF K mg "_law_shown" "_law_shown" "_law_shown" s__law_shown []
  d__law_doors : FnF K mg "_law_doors" "_law_doors" "_law_doors" s__law_doors []
  d_law : FnF K mg "law" "law" "law" s_law []
  cl_Table : Cls K (He.ga K "Table")
  na_Table : ∀ f ∈ (["own_width", "own_rounds", "own_cells"] : List PySem.Str), NoAttr K (He.ga K "Table") f
  cl_Plan : Cls K (He.ga K "Plan")
  na_Plan : ∀ f ∈ (["held_width", "held_rounds", "held_shares", "held_places"] : List PySem.Str), NoAttr K (He.ga K "Plan") f
  m_Table___init__ : MkF K (He.ga K "Table") "__init__" "Table.__init__" s_Table___init__
  m_Table_width : PrF K (He.ga K "Table") "width" "Table.width" s_Table_width
  m_Table_rounds : PrF K (He.ga K "Table") "rounds" "Table.rounds" s_Table_rounds
  m_Table_cells : PrF K (He.ga K "Table") "cells" "Table.cells" s_Table_cells
  m_Table___sub__ : BinF K (He.ga K "Table") "__sub__" "Table.__sub__" s_Table___sub__
  m_Plan___init__ : MkF K (He.ga K "Plan") "__init__" "Plan.__init__" s_Plan___init__
  m_Plan_width : PrF K (He.ga K "Plan") "width" "Plan.width" s_Plan_width
  m_Plan_rounds : PrF K (He.ga K "Plan") "rounds" "Plan.rounds" s_Plan_rounds
  m_Plan_shares : PrF K (He.ga K "Plan") "shares" "Plan.shares" s_Plan_shares
  m_Plan___call__ : CaF K (He.ga K "Plan") "__call__" "Plan.__call__" s_Plan___call__
  m_Plan___eq__ : EqF K (He.ga K "Plan") "__eq__" "Plan.__eq__" s_Plan___eq__
  isi_Plan : IsiF K (He.ga K "Plan")
  n_isinstance : mg "isinstance" = none
  n_int : mg "int" = none
  n_bool : mg "bool" = none
  n_str : mg "str" = none
  n_list : mg "list" = none
  n_tuple : mg "tuple" = none
  n_len : mg "len" = none
  n_range : mg "range" = none
  n_zip : mg "zip" = none
  n_enumerate : mg "enumerate" = none
  n_reversed : mg "reversed" = none
  n_sum : mg "sum" = none
  n_min : mg "min" = none
  n_max : mg "max" = none
  n_abs : mg "abs" = none
  n_all : mg "all" = none
  c_WIDEST : ∃ t, mg "WIDEST" = some (.int 5 t)
  c_MOST_HELPERS : ∃ t, mg "MOST_HELPERS" = some (.int 5 t)
  c_MOST_SWITCHES : ∃ t, mg "MOST_SWITCHES" = some (.int 8 t)
  c_OUTCOMES : ∃ t, mg "OUTCOMES" = some (.str "01234" t)
  g_MOST_ROUNDS : mg "MOST_ROUNDS" = some (.ref (He.ga K "MOST_ROUNDS"))
  g_WHOLE_SHARE : mg "WHOLE_SHARE" = some (.ref (He.ga K "WHOLE_SHARE"))
  g_NOTHING : mg "NOTHING" = some (.ref (He.ga K "NOTHING"))
  g_Table : mg "Table" = some (.ref (He.ga K "Table"))
  g_Plan : mg "Plan" = some (.ref (He.ga K "Plan"))
  g_BadCount : mg "BadCount" = some (.ref (He.ga K "BadCount"))
  g_NoHelper : mg "NoHelper" = some (.ref (He.ga K "NoHelper"))
  g_Mismatch : mg "Mismatch" = some (.ref (He.ga K "Mismatch"))
  t_MOST_ROUNDS : ∀ H, SqT K H (He.ga K "MOST_ROUNDS") [.int 8, .int 8, .int 5, .int 4, .int 3]
  t_WHOLE_SHARE : ∀ H, SqT K H (He.ga K "WHOLE_SHARE") [.int 1, .int 1]
  t_NOTHING : ∀ H, SqT K H (He.ga K "NOTHING") [.int 0, .int 1]
section
variable {P : Program} {w : World} {K : PySem.W.Frag} {mg : PySem.Str → Option Value} {base : Heap}
theorem mk_pro {x name qual : PySem.Str} {st : Stmt} {kws : List (PySem.Str × V)} {ps : List PySem.Str} {k : Nat} {sp : Sp} (F : FnF K mg x name qual st kws)
    (hb : ∀ (kV doc pm : Value) (an : Option Addr) (cdv ct : Value) (us : List Value), us.length = ps.length → bindArgs (PySem.W.fnOf name qual (defArgs st) (defBody st) (defScope st) .none kV doc pm an cdv ct) ⟨us, []⟩ = pure (ps.zip us))
    (h : ∀ f fd, FunD K name qual (defArgs st) (defBody st) (defScope st) [] kws f fd → FnOk P w K mg base CX0 k f fd ps sp) : Pro P w K mg base x ps k sp := by
  obtain ⟨f, ⟨fd, F⟩, hg⟩ := F.ex
  exact ⟨f, fd, hg, F.kp, F.bindsN hb, h f fd F⟩
theorem mk_proK {x name qual : PySem.Str} {st : Stmt} {kws : List (PySem.Str × V)} {ps ks : List PySem.Str} {n k : Nat} {sp : Sp} (F : FnF K mg x name qual st kws)
    (hb : ∀ (kV doc pm : Value) (an : Option Addr) (cdv ct : Value) (us ws : List Value), us.length = n → ws.length = ks.length → bindArgs (PySem.W.fnOf name qual (defArgs st) (defBody st) (defScope st) .none kV doc pm an cdv ct) ⟨us, ks.zip ws⟩ = pure (ps.zip (us ++ ws)))
    (h : ∀ f fd, FunD K name qual (defArgs st) (defBody st) (defScope st) [] kws f fd → FnOk P w K mg base CX0 k f fd ps sp) : ProK P w K mg base x ps n ks k sp := by
  obtain ⟨f, ⟨fd, F⟩, hg⟩ := F.ex
  refine ⟨f, fd, hg, F.kp, ⟨fun s us ws _ h1 h2 => ?_, fun a b => a.append b⟩, h f fd F⟩
  obtain ⟨_, _, dV, kV, doc, pm, an, cdv, ct, _, rfl, _, _, ⟨_, rfl⟩ | ⟨filled, _⟩, _⟩ := F.ex
  · exact BindsTo.of_eq (hb kV doc pm an cdv ct us ws h1 h2)
  · exact absurd rfl filled

/-! ### classes: from the text to the promise -/
variable {C : Addr}
theorem binds_of {x qual : PySem.Str} {st : Stmt} {g : Addr} {fd : FuncData} {ps : List PySem.Str} (F : FunD K x qual (defArgs st) (defBody st) (defScope st) [] [] g fd)
    (hb : ∀ (kV doc pm : Value) (an : Option Addr) (cdv ct : Value) (us : List Value), us.length = ps.length → bindArgs (PySem.W.fnOf x qual (defArgs st) (defBody st) (defScope st) .none kV doc pm an cdv ct) ⟨us, []⟩ = pure (ps.zip us)) : Binds K fd ps [] := F.bindsN hb
theorem mk_prp {x qual : PySem.Str} {st : Stmt} {k : Nat} {sp : Sp} (F : PrF K C x qual st)
    (hb : ∀ (kV doc pm : Value) (an : Option Addr) (cdv ct : Value) (us : List Value), us.length = (["self"] : List PySem.Str).length → bindArgs (PySem.W.fnOf x qual (defArgs st) (defBody st) (defScope st) .none kV doc pm an cdv ct) ⟨us, []⟩ = pure ((["self"] : List PySem.Str).zip us))
    (h : ∀ f fd, FunD K x qual (defArgs st) (defBody st) (defScope st) [] [] f fd → FnOk P w K mg base CX0 k f fd ["self"] sp) : Prp P w K mg base C x k sp := by
  obtain ⟨p, g, fd, hp, F⟩ := F.ex
  exact ⟨p, g, fd, hp, F.bindsN hb, h g fd F⟩
theorem mk_mkr {y x qual : PySem.Str} {st : Stmt} {ps : List PySem.Str} {k : Nat} {sp : Sp} (F : MkF K (He.ga K y) x qual st)
    (hb : ∀ (kV doc pm : Value) (an : Option Addr) (cdv ct : Value) (us : List Value), us.length = ps.length → bindArgs (PySem.W.fnOf x qual (defArgs st) (defBody st) (defScope st) .none kV doc pm an cdv ct) ⟨us, []⟩ = pure (ps.zip us))
    (h : ∀ f fd, FunD K x qual (defArgs st) (defBody st) (defScope st) [] [] f fd → FnOk P w K mg base CX0 k f fd ps sp) (hm : mg y = some (.ref (He.ga K y))) : Mkr P w K mg base y ps k sp := by
  obtain ⟨g, fd, M, F⟩ := F.ex
  exact ⟨g, fd, M, hm, F.bindsN hb, h g fd F⟩
theorem raw0 {g : Addr} {fd : FuncData} {ps : List PySem.Str} {k : Nat} {sp : Sp} (F : FnOk P w K mg base CX0 k g fd ps sp) (b : Binds K fd ps []) : FnR P w K mg base CX0 k g sp :=
  (F.raw b .nil).imp fun vs H Q E h => by rw [List.append_nil]; exact h
theorem mk_cao {x qual : PySem.Str} {st : Stmt} {ps : List PySem.Str} {k : Nat} {sp : Sp} (F : CaF K C x qual st)
    (hb : ∀ (kV doc pm : Value) (an : Option Addr) (cdv ct : Value) (us : List Value), us.length = ps.length → bindArgs (PySem.W.fnOf x qual (defArgs st) (defBody st) (defScope st) .none kV doc pm an cdv ct) ⟨us, []⟩ = pure (ps.zip us))
    (h : ∀ f fd, FunD K x qual (defArgs st) (defBody st) (defScope st) [] [] f fd → FnOk P w K mg base CX0 k f fd ps sp) : Cao P w K mg base C k sp := by
  obtain ⟨g, fd, c, F⟩ := F.ex
  exact ⟨g, c, raw0 (h g fd F) (F.bindsN hb)⟩
/-- a binary operator's promise, both sides of the class C -/
structure Bin (P : Program) (w : World) (K : PySem.W.Frag) (mg : PySem.Str → Option Value) (base : Heap) (C : Addr) (x : PySem.Str) (k : Nat) (sp : Sp) : Prop where
  ex : ∃ g, PySem.W.findIn K (.ref C) x = some (some (.ref g)) ∧ PySem.W.isFn K (.ref g) = true ∧ PySem.W.selfFirst K C = true ∧ FnR P w K mg base CX0 k g sp
theorem mk_bin {x qual : PySem.Str} {st : Stmt} {ps : List PySem.Str} {k : Nat} {sp : Sp} (F : BinF K C x qual st)
    (hb : ∀ (kV doc pm : Value) (an : Option Addr) (cdv ct : Value) (us : List Value), us.length = ps.length → bindArgs (PySem.W.fnOf x qual (defArgs st) (defBody st) (defScope st) .none kV doc pm an cdv ct) ⟨us, []⟩ = pure (ps.zip us))
    (h : ∀ f fd, FunD K x qual (defArgs st) (defBody st) (defScope st) [] [] f fd → FnOk P w K mg base CX0 k f fd ps sp) : Bin P w K mg base C x k sp := by
  obtain ⟨g, fd, h1, h2, h3, F⟩ := F.ex
  exact ⟨g, h1, h2, h3, raw0 (h g fd F) (F.bindsN hb)⟩
/-- the reading of a binary operator -/
def rBin (C : Addr) (sp : Sp) : V → V → Hp → VK → Prop := fun x y H Q => ∃ a b dx dy fs gs, x = .ref a ∧ y = .ref b ∧ H a = some (.ins C dx fs) ∧ H b = some (.ins C dy gs) ∧ sp [x, y] H Q E0
theorem op_bin {X : Cx} {op : Operator} {x : PySem.Str} {j k : Nat} {sp : Sp} (c : Bin P w K mg base C x j sp) (hr : Room k X.A) (hx : PySem.dunder op.info.2 = x := by rfl) (hj : j ≤ k := by decide) (hP : X.prog = P := by rfl) (hw : X.w = w := by rfl) (hK : X.K = K := by rfl) (hM : X.mg = mg := by rfl) (hB : X.base = base := by rfl) : OpR X (binaryOp op) (rBin C sp) := by
  subst hP hw hK hM hB hx
  obtain ⟨g, h1, h2, h3, F⟩ := c.ex
  rintro pins s σ H x y v u Q I rx ry ⟨a, b, dx, dy, fs, gs, rfl, rfl, ha, hb, hq⟩
  cases rx
  cases ry
  obtain ⟨_, ⟨_, J, _⟩⟩ := (ins_get I.hok ha).imp fun _ z => z.1.look
  obtain ⟨_, ⟨_, J', _⟩⟩ := (ins_get I.hok hb).imp fun _ z => z.1.look
  obtain ⟨m, hF⟩ := I.fr
  refine PySem.W.binop_K hF I.ok.mod.kin J J'.type h3 h1 h2 ?_
  refine wpAny_call (codeAny_mono (run_fnR (Q := Q) (us := [.ref a, .ref b]) (vs := [.ref a, .ref b]) F (hr.mono hj) pass0 I (.cons rfl (.cons rfl .nil)) hq) fun r s' hq' => ?_)
  cases r with
  | error e => exact hq'
  | ok fl =>
    cases fl with
    | ret u =>
      have hq' : EP X pins σ Q u s' := hq'
      show PySem.W.CmpBack (EP X pins σ Q) u s'
      have hq2 := hq'
      obtain ⟨v, H', I', rv, q⟩ := hq'
      cases u <;> first | exact hq2 | (cases v <;> first | exact (show False from (by obtain ⟨t, e⟩ := rv; exact nomatch e)).elim | exact absurd rv (fun z => nomatch z))
    | _ => exact False.elim hq'
theorem tv_bin {α β γ : Type} {O : List Addr} {σ : St} {G : Hp} {r : Rl α} {r2 : Rl β} {q : Rl γ} {x : α} {y : β} {ta tb : TE} {pr : α × β × Unit → Prop} {f : α × β × Unit → γ} [Mo r] (h : Tv O ta σ G r x) (g : Tv O tb σ G r2 y) (h1 : InsR C r) (h2 : InsR C r2) (p : pr (x, y, ())) :
    Tv O (tOp (rBin C (spP (raC r (raC r2 raN)) pr q f)) ta tb) σ G q (f (x, y, ())) := fun H w Q k =>
  h H w _ fun v H1 s1 e1 => g H1 (w.same s1) _ fun u H2 s2 e2 => by
    obtain ⟨a, dx, fs, ev, ea⟩ := h1 _ _ _ e1
    obtain ⟨b, dy, gs, eu, eb⟩ := h2 _ _ _ e2
    subst ev eu
    refine ⟨a, b, dx, dy, fs, gs, rfl, rfl, s2 _ _ (wo_le _ _ ea), wo_le _ _ eb, O, (x, y, ()), ((w.same s1).same s2).dm, ⟨_, _, rfl, Mo.mo (same_wo s2) e1, _, [], rfl, e2, rfl⟩, p, fun v' H3 s3 h3 => k v' H3 ((s1.trans s2).trans s3) h3⟩
/-- == of two instances that are equal -/
structure Eqo (P : Program) (w : World) (K : PySem.W.Frag) (mg : PySem.Str → Option Value) (base : Heap) (C : Addr) (k : Nat) (sp : Sp) : Prop where
  ex : ∃ g fd, PySem.W.findIn K (.ref C) "__eq__" = some (some (.ref g)) ∧ PySem.W.isFn K (.ref g) = true ∧ Binds K fd ["self", "other"] [] ∧ FnOk P w K mg base CX0 k g fd ["self", "other"] sp
theorem mk_eqo {x qual : PySem.Str} {st : Stmt} {k : Nat} {sp : Sp} (F : EqF K C x qual st)
    (hb : ∀ (kV doc pm : Value) (an : Option Addr) (cdv ct : Value) (us : List Value), us.length = (["self", "other"] : List PySem.Str).length → bindArgs (PySem.W.fnOf x qual (defArgs st) (defBody st) (defScope st) .none kV doc pm an cdv ct) ⟨us, []⟩ = pure ((["self", "other"] : List PySem.Str).zip us))
    (h : ∀ f fd, FunD K x qual (defArgs st) (defBody st) (defScope st) [] [] f fd → FnOk P w K mg base CX0 k f fd ["self", "other"] sp) : Eqo P w K mg base C k sp := by
  obtain ⟨g, fd, h1, h2, F⟩ := F.ex
  exact ⟨g, fd, h1, h2, F.bindsN hb, h g fd F⟩
end
end Nb
set_option Elab.async false
set_option linter.all false
set_option maxRecDepth 100000
set_option maxHeartbeats 4000000
namespace Nb
open PySem L2
open PyProof.Rows (envOfC)
/-! ### what the head tells of properties, by a list of its own -/
structure PrD where
  C : PySem.Str
  m : PySem.Str
  qual : PySem.Str
  st : Stmt
/-- the property's function -/
def pgA (K : PySem.W.Frag) (d : PrD) : Addr := match PySem.W.recIn K (He.ma K (He.ga K d.C) d.m) "property" with
  | some (.ref g :: _) => g
  | _ => 0
def fnA (K : PySem.W.Frag) (g : Addr) : He.FnW := match K.lookup g with
  | some ⟨_, _, .func own, _⟩ => some (own.name, own.qualname, own.params, own.body, own.scope, own.globals, own.closure, own.builtins)
  | _ => none
def PrD.val (d : PrD) : He.FnW := some (d.m, d.qual, defArgs d.st, .stmts (defBody d.st), defScope d.st, mainGlobals, [], builtinsNs)
def okA (K : PySem.W.Frag) (g : Addr) (q : PySem.Str) : Bool := PySem.W.keepIn K (.ref g) && (match K.lookup g with
  | some ⟨_, _, .func fd, _⟩ => PySem.W.codeIn K fd.code q && He.dflB K fd.defaults []
  | _ => false)
def propB (K : PySem.W.Frag) (d : PrD) : Bool := He.eqO (PySem.W.findIn K (.ref (He.ga K d.C)) d.m) (some (some (.ref (He.ma K (He.ga K d.C) d.m)))) && (decide (PySem.W.specialIn K (.ref (He.ma K (He.ga K d.C) d.m)) "__get__" = some (some (.builtin "property.__get__"))) &&
  (decide (PySem.W.takesIn K (.ref (He.ma K (He.ga K d.C) d.m)) = some true) && ((match PySem.W.recIn K (He.ma K (He.ga K d.C) d.m) "property" with
    | some (.ref _ :: _) => true
    | _ => false) && okA K (pgA K d) d.qual)))
theorem pr_one {K : PySem.W.Frag} {d : PrD} (e : fnA K (pgA K d) = d.val) (h : propB K d = true) : PrF K (He.ga K d.C) d.m d.qual d.st := by
  obtain ⟨h1, h⟩ := He.ba h
  obtain ⟨h2, h⟩ := He.ba h
  obtain ⟨h3, h⟩ := He.ba h
  obtain ⟨h4, h5⟩ := He.ba h
  have hr : ∃ rest, PySem.W.recIn K (He.ma K (He.ga K d.C) d.m) "property" = some (.ref (pgA K d) :: rest) := by
    unfold pgA
    revert h4
    cases PySem.W.recIn K (He.ma K (He.ga K d.C) d.m) "property" with
    | none => exact fun z => nomatch z
    | some l =>
      cases l with
      | nil => exact fun z => nomatch z
      | cons u rest =>
        cases u with
        | ref g => exact fun _ => ⟨rest, rfl⟩
        | _ => exact fun z => nomatch z
  have hp : PropOf K (He.ga K d.C) d.m (He.ma K (He.ga K d.C) d.m) (pgA K d) := ⟨He.eqO_ok h1, of_decide_eq_true h2, of_decide_eq_true h3, hr⟩
  obtain ⟨kp, h6⟩ := He.ba h5
  unfold fnA at e
  generalize pgA K d = g at e kp h6 hp
  cases q : K.lookup g with
  | none =>
    rw [q] at h6
    cases h6
  | some o =>
    obtain ⟨oc, od, dt, osl⟩ := o
    rw [q] at h6 e
    cases dt with
    | func fd =>
      obtain ⟨m1, m2, m3, m4, m5, m6, m7, n8, n9, n10, n11, n12, n13, n14, m15⟩ := fd
      have e2 : (some (m1, m2, m3, m4, m5, m6, m7, m15) : He.FnW) = some (d.m, d.qual, defArgs d.st, .stmts (defBody d.st), defScope d.st, mainGlobals, [], builtinsNs) := e
      simp only [Prod.mk.injEq, Option.some.injEq] at e2
      obtain ⟨z1, z2, z3, z4, z5, z6, z7, z8⟩ := e2
      subst z1 z2 z3 z4 z5 z6 z7 z8
      obtain ⟨k1, k2⟩ := He.ba (show (PySem.W.codeIn K n13 d.qual && He.dflB K n8 []) = true from h6)
      exact ⟨_, g, _, hp, ⟨oc, od, n8, n9, n10, n11, n12, n13, n14, osl, rfl, q, k1, He.dflB_ok k2, .inl rfl⟩, kp⟩
    | _ => cases h6
/-! ### more of it, as one Bool -/
def oexM (C : Addr) (mro : List Value) (l : List (Option Value)) : Bool := match mro, l with
  | .ref C' :: bm, [_, _, _, _, some (.builtin n), _] => decide (C' = C) && (decide (n = "ValueError.__new__") && PySem.HandSPX.refsVE bm)
  | _, _ => false
theorem oexM_ok {C : Addr} {mro : List Value} {l : List (Option Value)} (h : oexM C mro l = true) : ∃ bm k0 k1 k2 k3 k5, mro = .ref C :: bm ∧ l = [k0, k1, k2, k3, some (.builtin "ValueError.__new__"), k5] ∧ PySem.HandSPX.refsVE bm = true := by
  unfold oexM at h
  split at h
  · rename_i C' bm k0 k1 k2 k3 n k5
    obtain ⟨y1, y⟩ := He.ba h
    obtain ⟨y2, y3⟩ := He.ba y
    rw [of_decide_eq_true y1, of_decide_eq_true y2]
    exact ⟨_, _, _, _, _, _, rfl, rfl, y3⟩
  · cases h
def oexB (K : PySem.W.Frag) (C : Addr) : Bool := (match K.lookup C with
  | some ⟨.type t, _, .cls cd, sl⟩ => decide (t = "type") && (cd.hasDict && (!cd.hasDel && oexM C cd.mro sl.toList))
  | _ => false) && (He.eqO (PySem.W.findIn K (.ref C) "__setattr__") (some (some (.builtin "object.__setattr__"))) && (decide (PySem.W.subIn K (.ref C) (.type "BaseException") = some true) && (decide (PySem.W.typeIn K (.ref C) = some (.type "type")) && PySem.W.keepIn K (.ref C))))
theorem oexB_ok {K : PySem.W.Frag} {C : Addr} (h : oexB K C = true) : OexC K C := by
  obtain ⟨h1, h⟩ := He.ba h
  obtain ⟨h2, h⟩ := He.ba h
  obtain ⟨h3, h⟩ := He.ba h
  obtain ⟨h4, h5⟩ := He.ba h
  refine ⟨?_, He.eqO_ok h2, of_decide_eq_true h3, of_decide_eq_true h4, h5⟩
  cases q : K.lookup C with
  | none =>
    rw [q] at h1
    cases h1
  | some o =>
    obtain ⟨oc, od, dt, ⟨l⟩⟩ := o
    rw [q] at h1
    cases oc with
    | type t =>
      cases dt with
      | cls cd =>
        obtain ⟨z1, z⟩ := He.ba h1
        obtain ⟨z2, z⟩ := He.ba z
        obtain ⟨z3, z⟩ := He.ba z
        obtain ⟨_, _, mro, _, _, hd, _, _, _, _, del⟩ := cd
        have z2 : hd = true := z2
        have z3 : (!del) = true := z3
        have et : t = "type" := of_decide_eq_true z1
        have ed : del = false := by
          cases del with
          | false => rfl
          | true => cases z3
        subst et ed z2
        obtain ⟨bm, k0, k1, k2, k3, k5, e1, e2, y3⟩ := oexM_ok (show oexM C mro l = true from z)
        subst e1 e2
        exact ⟨_, _, _, _, _, _, _, _, _, _, _, _, _, _, _, rfl, y3⟩
      | _ => cases h1
    | _ => cases h1
abbrev gT (K : PySem.W.Frag) : Addr := He.ga K "Table"
abbrev gP (K : PySem.W.Frag) : Addr := He.ga K "Plan"
abbrev gB (K : PySem.W.Frag) : Addr := He.ga K "BadCount"
def exL (K : PySem.W.Frag) : List Bool := [
  He.eqO (PySem.W.findIn K (.ref (gT K)) "__sub__") (some (some (.ref (He.ma K (gT K) "__sub__")))), PySem.W.isFn K (.ref (He.ma K (gT K) "__sub__")), PySem.W.selfFirst K (gT K),
  He.eqO (PySem.W.findIn K (.ref (gP K)) "__call__") (some (some (.ref (He.ma K (gP K) "__call__")))), PySem.W.isFn K (.ref (He.ma K (gP K) "__call__")), PySem.W.fnIn K (He.ma K (gP K) "__call__"),
  He.eqO (PySem.W.findIn K (.ref (gP K)) "__eq__") (some (some (.ref (He.ma K (gP K) "__eq__")))), PySem.W.isFn K (.ref (He.ma K (gP K) "__eq__")),
  He.eqO (PySem.W.findIn K (.ref (gP K)) "__class__") (some (some (.builtin "object.__class__"))), He.eqO (PySem.W.specialIn K (.builtin "object.__class__") "__get__") (some (some (.builtin "getset_descriptor.__get__"))),
  decide (PySem.W.takesIn K (.builtin "object.__class__") = some true), decide (PySem.W.mroIn K (gP K) (.type "object") = some true), decide (PySem.W.kitOne K (.ref (gP K)) (.ref (gP K)) = some true),
  He.tupB K "MOST_ROUNDS" [.int 8, .int 8, .int 5, .int 4, .int 3], He.tupB K "WHOLE_SHARE" [.int 1, .int 1], He.tupB K "NOTHING" [.int 0, .int 1],
  oexB K (gB K), xfB K (gB K), He.eqO (PySem.W.findIn K (.ref (gB K)) "__init__") (some (some (.ref (He.ma K (gB K) "__init__")))), decide (PySem.W.typeIn K (.ref (He.ma K (gB K) "__init__")) = some (.type "function"))]
structure ExOk (K : PySem.W.Frag) : Prop where
  s1 : PySem.W.findIn K (.ref (gT K)) "__sub__" = some (some (.ref (He.ma K (gT K) "__sub__")))
  s2 : PySem.W.isFn K (.ref (He.ma K (gT K) "__sub__")) = true
  s3 : PySem.W.selfFirst K (gT K) = true
  c1 : PySem.W.findIn K (.ref (gP K)) "__call__" = some (some (.ref (He.ma K (gP K) "__call__")))
  c2 : PySem.W.isFn K (.ref (He.ma K (gP K) "__call__")) = true
  c3 : PySem.W.fnIn K (He.ma K (gP K) "__call__") = true
  e1 : PySem.W.findIn K (.ref (gP K)) "__eq__" = some (some (.ref (He.ma K (gP K) "__eq__")))
  e2 : PySem.W.isFn K (.ref (He.ma K (gP K) "__eq__")) = true
  i1 : PySem.W.findIn K (.ref (gP K)) "__class__" = some (some (.builtin "object.__class__"))
  i2 : PySem.W.specialIn K (.builtin "object.__class__") "__get__" = some (some (.builtin "getset_descriptor.__get__"))
  i3 : PySem.W.takesIn K (.builtin "object.__class__") = some true
  i4 : PySem.W.mroIn K (gP K) (.type "object") = some true
  i5 : PySem.W.kitOne K (.ref (gP K)) (.ref (gP K)) = some true
  t1 : ∀ H, SqT K H (He.ga K "MOST_ROUNDS") [.int 8, .int 8, .int 5, .int 4, .int 3]
  t2 : ∀ H, SqT K H (He.ga K "WHOLE_SHARE") [.int 1, .int 1]
  t3 : ∀ H, SqT K H (He.ga K "NOTHING") [.int 0, .int 1]
  o : OexC K (gB K)
  x : XfC K (gB K)
  b1 : PySem.W.findIn K (.ref (gB K)) "__init__" = some (some (.ref (He.ma K (gB K) "__init__")))
  b2 : PySem.W.typeIn K (.ref (He.ma K (gB K) "__init__")) = some (.type "function")
theorem ex_ok {K : PySem.W.Frag} (h : (exL K).all id = true) : ExOk K := by
  have g : ∀ {i : Nat} {b : Bool}, (exL K)[i]? = some b → b = true := fun {i b} hi => List.all_eq_true.mp h b (List.mem_of_getElem? hi)
  exact { s1 := He.eqO_ok (g (i := 0) rfl), s2 := g (i := 1) rfl, s3 := g (i := 2) rfl, c1 := He.eqO_ok (g (i := 3) rfl), c2 := g (i := 4) rfl, c3 := g (i := 5) rfl, e1 := He.eqO_ok (g (i := 6) rfl), e2 := g (i := 7) rfl,
          i1 := He.eqO_ok (g (i := 8) rfl), i2 := He.eqO_ok (g (i := 9) rfl), i3 := of_decide_eq_true (g (i := 10) rfl), i4 := of_decide_eq_true (g (i := 11) rfl), i5 := of_decide_eq_true (g (i := 12) rfl),
          t1 := fun H => He.tupB_ok (g (i := 13) rfl) H, t2 := fun H => He.tupB_ok (g (i := 14) rfl) H, t3 := fun H => He.tupB_ok (g (i := 15) rfl) H, o := oexB_ok (g (i := 16) rfl), x := xfB_ok (g (i := 17) rfl),
          b1 := He.eqO_ok (g (i := 18) rfl), b2 := of_decide_eq_true (g (i := 19) rfl) }
def fas0 : List He.Fa := [.glo "is_integer_value",
  .glo "parts_of",
  .glo "common_divisor",
  .glo "fraction",
  .glo "sum_of_two",
  .glo "product_of_two",
  .glo "opposite",
  .glo "order_of",
  .glo "add",
  .glo "sub",
  .glo "div",
  .glo "negate",
  .glo "compare",
  .glo "total",
  .glo "check_some",
  .glo "farthest_value",
  .glo "least",
  .glo "greatest",
  .glo "dot",
  .glo "check_count_rows",
  .glo "check_shape_rows",
  .glo "count_texts",
  .glo "next_texts",
  .glo "most_rounds",
  .glo "letters"]
def fas1 : List He.Fa := [.glo "rows_of",
  .glo "beginnings_of",
  .glo "check_count_aid_stakes",
  .glo "same_shape_aid_stakes",
  .glo "check_shapes_aid_stakes",
  .glo "check_group",
  .glo "check_same_shape",
  .glo "check_size",
  .glo "check_shapes_plans",
  .glo "share_parts",
  .glo "is_sharing",
  .glo "sharing_at",
  .glo "inner_of",
  .glo "row_table",
  .glo "misses_table",
  .glo "mean_under",
  .glo "least_misses",
  .glo "same_shape_papers",
  .glo "check_shape_papers",
  .glo "slack_table",
  .glo "least_slack",
  .glo "worth",
  .glo "is_value_paper",
  .glo "height",
  .glo "poured"]
def fas2 : List He.Fa := [.glo "reached_places",
  .glo "even_chances",
  .glo "cut",
  .glo "fold_layers",
  .glo "floors_of",
  .glo "wide_fold",
  .glo "wide_keeper",
  .glo "wide_breaker",
  .glo "useful",
  .glo "turned",
  .glo "grown",
  .glo "start_state",
  .glo "switch_table",
  .glo "switch_distance",
  .glo "switch_chooser",
  .glo "switch_foe",
  .glo "_law_store",
  .glo "_law_mixed",
  .glo "_law_take",
  .glo "_law_edge",
  .glo "_law_power",
  .glo "_law_gcd",
  .glo "_law_low",
  .glo "_law_plus",
  .glo "_law_minus"]
def fas3 : List He.Fa := [.glo "_law_times",
  .glo "_law_below",
  .glo "_law_sum",
  .glo "_law_lowest",
  .glo "_law_highest",
  .glo "_law_dress",
  .glo "_law_dressed",
  .glo "_law_bad_count",
  .glo "_law_alike",
  .glo "_law_most",
  .glo "_law_shape",
  .glo "_law_rounds",
  .glo "_law_index",
  .glo "_law_misses_on",
  .glo "_law_weights",
  .glo "_law_plan_shares",
  .glo "_law_plan",
  .glo "_law_row_of",
  .glo "_law_rows",
  .glo "_law_begins",
  .glo "_law_cells_of",
  .glo "_law_new_plan",
  .glo "_law_unlike",
  .glo "_law_bad_lists",
  .glo "_law_helper_list"]
def fas4 : List He.Fa := [.glo "_law_plans",
  .glo "_law_least_row",
  .glo "_law_switched",
  .glo "_law_shares_of",
  .glo "_law_chance_of",
  .glo "_law_worth_of",
  .glo "_law_fails",
  .glo "_law_shown",
  .glo "_law_doors",
  .glo "law",
  .glo "MOST_ROUNDS",
  .glo "WHOLE_SHARE",
  .glo "NOTHING",
  .glo "Table",
  .glo "Plan",
  .glo "BadCount",
  .glo "NoHelper",
  .glo "Mismatch",
  .free "isinstance",
  .free "int",
  .free "bool",
  .free "str",
  .free "list",
  .free "tuple",
  .free "len"]
def fas5 : List He.Fa := [.free "range",
  .free "zip",
  .free "enumerate",
  .free "reversed",
  .free "sum",
  .free "min",
  .free "max",
  .free "abs",
  .free "all",
  .int "WIDEST" 5,
  .int "MOST_HELPERS" 5,
  .int "MOST_SWITCHES" 8,
  .str "OUTCOMES" "01234",
  .cls "Table",
  .mkr "Table",
  .noat "Table" "own_width",
  .noat "Table" "own_rounds",
  .noat "Table" "own_cells",
  .cls "Plan",
  .mkr "Plan",
  .noat "Plan" "held_width",
  .noat "Plan" "held_rounds",
  .noat "Plan" "held_shares",
  .noat "Plan" "held_places",
  .noat "BadCount" "found"]
def fas6 : List He.Fa := [.noat "BadCount" "low",
  .noat "BadCount" "high",
  .exc "NoHelper",
  .exc "Mismatch",
  .exm "BadCount" "BadCount" true,
  .exm "NoHelper" "BadCount" false,
  .exm "NoHelper" "NoHelper" true,
  .exm "Mismatch" "BadCount" false,
  .exm "Mismatch" "NoHelper" false,
  .exm "Mismatch" "Mismatch" true,
  .keep "BadCount"]
def fas : List He.Fa := fas0 ++ fas1 ++ fas2 ++ fas3 ++ fas4 ++ fas5 ++ fas6
def fns0 : List He.DefD := [⟨("is_integer_value", none), "is_integer_value", "is_integer_value", defArgs s_is_integer_value, defBody s_is_integer_value, defScope s_is_integer_value, [], []⟩,
  ⟨("parts_of", none), "parts_of", "parts_of", defArgs s_parts_of, defBody s_parts_of, defScope s_parts_of, [], []⟩,
  ⟨("common_divisor", none), "common_divisor", "common_divisor", defArgs s_common_divisor, defBody s_common_divisor, defScope s_common_divisor, [], []⟩,
  ⟨("fraction", none), "fraction", "fraction", defArgs s_fraction, defBody s_fraction, defScope s_fraction, [], []⟩,
  ⟨("sum_of_two", none), "sum_of_two", "sum_of_two", defArgs s_sum_of_two, defBody s_sum_of_two, defScope s_sum_of_two, [], []⟩,
  ⟨("product_of_two", none), "product_of_two", "product_of_two", defArgs s_product_of_two, defBody s_product_of_two, defScope s_product_of_two, [], []⟩,
  ⟨("opposite", none), "opposite", "opposite", defArgs s_opposite, defBody s_opposite, defScope s_opposite, [], []⟩,
  ⟨("order_of", none), "order_of", "order_of", defArgs s_order_of, defBody s_order_of, defScope s_order_of, [], []⟩,
  ⟨("add", none), "add", "add", defArgs s_add, defBody s_add, defScope s_add, [], []⟩,
  ⟨("sub", none), "sub", "sub", defArgs s_sub, defBody s_sub, defScope s_sub, [], []⟩,
  ⟨("div", none), "div", "div", defArgs s_div, defBody s_div, defScope s_div, [], []⟩,
  ⟨("negate", none), "negate", "negate", defArgs s_negate, defBody s_negate, defScope s_negate, [], []⟩,
  ⟨("compare", none), "compare", "compare", defArgs s_compare, defBody s_compare, defScope s_compare, [], []⟩,
  ⟨("total", none), "total", "total", defArgs s_total, defBody s_total, defScope s_total, [], []⟩,
  ⟨("check_some", none), "check_some", "check_some", defArgs s_check_some, defBody s_check_some, defScope s_check_some, [], []⟩,
  ⟨("farthest_value", none), "farthest_value", "farthest_value", defArgs s_farthest_value, defBody s_farthest_value, defScope s_farthest_value, [], []⟩,
  ⟨("least", none), "least", "least", defArgs s_least, defBody s_least, defScope s_least, [], []⟩,
  ⟨("greatest", none), "greatest", "greatest", defArgs s_greatest, defBody s_greatest, defScope s_greatest, [], []⟩,
  ⟨("dot", none), "dot", "dot", defArgs s_dot, defBody s_dot, defScope s_dot, [], []⟩,
  ⟨("check_count_rows", none), "check_count", "check_count", defArgs s_check_count_rows, defBody s_check_count_rows, defScope s_check_count_rows, [], []⟩,
  ⟨("check_shape_rows", none), "check_shape", "check_shape", defArgs s_check_shape_rows, defBody s_check_shape_rows, defScope s_check_shape_rows, [], []⟩,
  ⟨("count_texts", none), "count_texts", "count_texts", defArgs s_count_texts, defBody s_count_texts, defScope s_count_texts, [], []⟩,
  ⟨("next_texts", none), "next_texts", "next_texts", defArgs s_next_texts, defBody s_next_texts, defScope s_next_texts, [], []⟩,
  ⟨("most_rounds", none), "most_rounds", "most_rounds", defArgs s_most_rounds, defBody s_most_rounds, defScope s_most_rounds, [], []⟩,
  ⟨("letters", none), "letters", "letters", defArgs s_letters, defBody s_letters, defScope s_letters, [], []⟩]
def fns1 : List He.DefD := [⟨("rows_of", none), "rows_of", "rows_of", defArgs s_rows_of, defBody s_rows_of, defScope s_rows_of, [], [("width", .int 2)]⟩,
  ⟨("beginnings_of", none), "beginnings_of", "beginnings_of", defArgs s_beginnings_of, defBody s_beginnings_of, defScope s_beginnings_of, [], [("width", .int 2)]⟩,
  ⟨("check_count_aid_stakes", none), "check_count", "check_count", defArgs s_check_count_aid_stakes, defBody s_check_count_aid_stakes, defScope s_check_count_aid_stakes, [], []⟩,
  ⟨("same_shape_aid_stakes", none), "same_shape", "same_shape", defArgs s_same_shape_aid_stakes, defBody s_same_shape_aid_stakes, defScope s_same_shape_aid_stakes, [], []⟩,
  ⟨("check_shapes_aid_stakes", none), "check_shapes", "check_shapes", defArgs s_check_shapes_aid_stakes, defBody s_check_shapes_aid_stakes, defScope s_check_shapes_aid_stakes, [], []⟩,
  ⟨("check_group", none), "check_group", "check_group", defArgs s_check_group, defBody s_check_group, defScope s_check_group, [], []⟩,
  ⟨("check_same_shape", none), "check_same_shape", "check_same_shape", defArgs s_check_same_shape, defBody s_check_same_shape, defScope s_check_same_shape, [], []⟩,
  ⟨("check_size", none), "check_size", "check_size", defArgs s_check_size, defBody s_check_size, defScope s_check_size, [], []⟩,
  ⟨("check_shapes_plans", none), "check_shapes", "check_shapes", defArgs s_check_shapes_plans, defBody s_check_shapes_plans, defScope s_check_shapes_plans, [], []⟩,
  ⟨("share_parts", none), "share_parts", "share_parts", defArgs s_share_parts, defBody s_share_parts, defScope s_share_parts, [], []⟩,
  ⟨("is_sharing", none), "is_sharing", "is_sharing", defArgs s_is_sharing, defBody s_is_sharing, defScope s_is_sharing, [], []⟩,
  ⟨("sharing_at", none), "sharing_at", "sharing_at", defArgs s_sharing_at, defBody s_sharing_at, defScope s_sharing_at, [], []⟩,
  ⟨("inner_of", none), "inner_of", "inner_of", defArgs s_inner_of, defBody s_inner_of, defScope s_inner_of, [], []⟩,
  ⟨("row_table", none), "row_table", "row_table", defArgs s_row_table, defBody s_row_table, defScope s_row_table, [], []⟩,
  ⟨("misses_table", none), "misses_table", "misses_table", defArgs s_misses_table, defBody s_misses_table, defScope s_misses_table, [], []⟩,
  ⟨("mean_under", none), "mean_under", "mean_under", defArgs s_mean_under, defBody s_mean_under, defScope s_mean_under, [], []⟩,
  ⟨("least_misses", none), "least_misses", "least_misses", defArgs s_least_misses, defBody s_least_misses, defScope s_least_misses, [], []⟩,
  ⟨("same_shape_papers", none), "same_shape", "same_shape", defArgs s_same_shape_papers, defBody s_same_shape_papers, defScope s_same_shape_papers, [], []⟩,
  ⟨("check_shape_papers", none), "check_shape", "check_shape", defArgs s_check_shape_papers, defBody s_check_shape_papers, defScope s_check_shape_papers, [], []⟩,
  ⟨("slack_table", none), "slack_table", "slack_table", defArgs s_slack_table, defBody s_slack_table, defScope s_slack_table, [], []⟩,
  ⟨("least_slack", none), "least_slack", "least_slack", defArgs s_least_slack, defBody s_least_slack, defScope s_least_slack, [], []⟩,
  ⟨("worth", none), "worth", "worth", defArgs s_worth, defBody s_worth, defScope s_worth, [], []⟩,
  ⟨("is_value_paper", none), "is_value_paper", "is_value_paper", defArgs s_is_value_paper, defBody s_is_value_paper, defScope s_is_value_paper, [], []⟩,
  ⟨("height", none), "height", "height", defArgs s_height, defBody s_height, defScope s_height, [], []⟩,
  ⟨("poured", none), "poured", "poured", defArgs s_poured, defBody s_poured, defScope s_poured, [], []⟩]
def fns2 : List He.DefD := [⟨("reached_places", none), "reached_places", "reached_places", defArgs s_reached_places, defBody s_reached_places, defScope s_reached_places, [], []⟩,
  ⟨("even_chances", none), "even_chances", "even_chances", defArgs s_even_chances, defBody s_even_chances, defScope s_even_chances, [], []⟩,
  ⟨("cut", none), "cut", "cut", defArgs s_cut, defBody s_cut, defScope s_cut, [], []⟩,
  ⟨("fold_layers", none), "fold_layers", "fold_layers", defArgs s_fold_layers, defBody s_fold_layers, defScope s_fold_layers, [], []⟩,
  ⟨("floors_of", none), "floors_of", "floors_of", defArgs s_floors_of, defBody s_floors_of, defScope s_floors_of, [], []⟩,
  ⟨("wide_fold", none), "wide_fold", "wide_fold", defArgs s_wide_fold, defBody s_wide_fold, defScope s_wide_fold, [], []⟩,
  ⟨("wide_keeper", none), "wide_keeper", "wide_keeper", defArgs s_wide_keeper, defBody s_wide_keeper, defScope s_wide_keeper, [], []⟩,
  ⟨("wide_breaker", none), "wide_breaker", "wide_breaker", defArgs s_wide_breaker, defBody s_wide_breaker, defScope s_wide_breaker, [], []⟩,
  ⟨("useful", none), "useful", "useful", defArgs s_useful, defBody s_useful, defScope s_useful, [], []⟩,
  ⟨("turned", none), "turned", "turned", defArgs s_turned, defBody s_turned, defScope s_turned, [], []⟩,
  ⟨("grown", none), "grown", "grown", defArgs s_grown, defBody s_grown, defScope s_grown, [], []⟩,
  ⟨("start_state", none), "start_state", "start_state", defArgs s_start_state, defBody s_start_state, defScope s_start_state, [], []⟩,
  ⟨("switch_table", none), "switch_table", "switch_table", defArgs s_switch_table, defBody s_switch_table, defScope s_switch_table, [], [("switches", .int 1)]⟩,
  ⟨("switch_distance", none), "switch_distance", "switch_distance", defArgs s_switch_distance, defBody s_switch_distance, defScope s_switch_distance, [], [("switches", .int 1)]⟩,
  ⟨("switch_chooser", none), "switch_chooser", "switch_chooser", defArgs s_switch_chooser, defBody s_switch_chooser, defScope s_switch_chooser, [], [("switches", .int 1)]⟩,
  ⟨("switch_foe", none), "switch_foe", "switch_foe", defArgs s_switch_foe, defBody s_switch_foe, defScope s_switch_foe, [], [("switches", .int 1)]⟩,
  ⟨("_law_store", none), "_law_store", "_law_store", defArgs s__law_store, defBody s__law_store, defScope s__law_store, [], []⟩,
  ⟨("_law_mixed", none), "_law_mixed", "_law_mixed", defArgs s__law_mixed, defBody s__law_mixed, defScope s__law_mixed, [], []⟩,
  ⟨("_law_take", none), "_law_take", "_law_take", defArgs s__law_take, defBody s__law_take, defScope s__law_take, [], []⟩,
  ⟨("_law_edge", none), "_law_edge", "_law_edge", defArgs s__law_edge, defBody s__law_edge, defScope s__law_edge, [], []⟩,
  ⟨("_law_power", none), "_law_power", "_law_power", defArgs s__law_power, defBody s__law_power, defScope s__law_power, [], []⟩,
  ⟨("_law_gcd", none), "_law_gcd", "_law_gcd", defArgs s__law_gcd, defBody s__law_gcd, defScope s__law_gcd, [], []⟩,
  ⟨("_law_low", none), "_law_low", "_law_low", defArgs s__law_low, defBody s__law_low, defScope s__law_low, [], []⟩,
  ⟨("_law_plus", none), "_law_plus", "_law_plus", defArgs s__law_plus, defBody s__law_plus, defScope s__law_plus, [], []⟩,
  ⟨("_law_minus", none), "_law_minus", "_law_minus", defArgs s__law_minus, defBody s__law_minus, defScope s__law_minus, [], []⟩]
def fns3 : List He.DefD := [⟨("_law_times", none), "_law_times", "_law_times", defArgs s__law_times, defBody s__law_times, defScope s__law_times, [], []⟩,
  ⟨("_law_below", none), "_law_below", "_law_below", defArgs s__law_below, defBody s__law_below, defScope s__law_below, [], []⟩,
  ⟨("_law_sum", none), "_law_sum", "_law_sum", defArgs s__law_sum, defBody s__law_sum, defScope s__law_sum, [], []⟩,
  ⟨("_law_lowest", none), "_law_lowest", "_law_lowest", defArgs s__law_lowest, defBody s__law_lowest, defScope s__law_lowest, [], []⟩,
  ⟨("_law_highest", none), "_law_highest", "_law_highest", defArgs s__law_highest, defBody s__law_highest, defScope s__law_highest, [], []⟩,
  ⟨("_law_dress", none), "_law_dress", "_law_dress", defArgs s__law_dress, defBody s__law_dress, defScope s__law_dress, [], []⟩,
  ⟨("_law_dressed", none), "_law_dressed", "_law_dressed", defArgs s__law_dressed, defBody s__law_dressed, defScope s__law_dressed, [], []⟩,
  ⟨("_law_bad_count", none), "_law_bad_count", "_law_bad_count", defArgs s__law_bad_count, defBody s__law_bad_count, defScope s__law_bad_count, [], []⟩,
  ⟨("_law_alike", none), "_law_alike", "_law_alike", defArgs s__law_alike, defBody s__law_alike, defScope s__law_alike, [], []⟩,
  ⟨("_law_most", none), "_law_most", "_law_most", defArgs s__law_most, defBody s__law_most, defScope s__law_most, [], []⟩,
  ⟨("_law_shape", none), "_law_shape", "_law_shape", defArgs s__law_shape, defBody s__law_shape, defScope s__law_shape, [], []⟩,
  ⟨("_law_rounds", none), "_law_rounds", "_law_rounds", defArgs s__law_rounds, defBody s__law_rounds, defScope s__law_rounds, [], []⟩,
  ⟨("_law_index", none), "_law_index", "_law_index", defArgs s__law_index, defBody s__law_index, defScope s__law_index, [], []⟩,
  ⟨("_law_misses_on", none), "_law_misses_on", "_law_misses_on", defArgs s__law_misses_on, defBody s__law_misses_on, defScope s__law_misses_on, [], []⟩,
  ⟨("_law_weights", none), "_law_weights", "_law_weights", defArgs s__law_weights, defBody s__law_weights, defScope s__law_weights, [], []⟩,
  ⟨("_law_plan_shares", none), "_law_plan_shares", "_law_plan_shares", defArgs s__law_plan_shares, defBody s__law_plan_shares, defScope s__law_plan_shares, [], []⟩,
  ⟨("_law_plan", none), "_law_plan", "_law_plan", defArgs s__law_plan, defBody s__law_plan, defScope s__law_plan, [], []⟩,
  ⟨("_law_row_of", none), "_law_row_of", "_law_row_of", defArgs s__law_row_of, defBody s__law_row_of, defScope s__law_row_of, [], []⟩,
  ⟨("_law_rows", none), "_law_rows", "_law_rows", defArgs s__law_rows, defBody s__law_rows, defScope s__law_rows, [], []⟩,
  ⟨("_law_begins", none), "_law_begins", "_law_begins", defArgs s__law_begins, defBody s__law_begins, defScope s__law_begins, [], []⟩,
  ⟨("_law_cells_of", none), "_law_cells_of", "_law_cells_of", defArgs s__law_cells_of, defBody s__law_cells_of, defScope s__law_cells_of, [], []⟩,
  ⟨("_law_new_plan", none), "_law_new_plan", "_law_new_plan", defArgs s__law_new_plan, defBody s__law_new_plan, defScope s__law_new_plan, [], []⟩,
  ⟨("_law_unlike", none), "_law_unlike", "_law_unlike", defArgs s__law_unlike, defBody s__law_unlike, defScope s__law_unlike, [], []⟩,
  ⟨("_law_bad_lists", none), "_law_bad_lists", "_law_bad_lists", defArgs s__law_bad_lists, defBody s__law_bad_lists, defScope s__law_bad_lists, [], []⟩,
  ⟨("_law_helper_list", none), "_law_helper_list", "_law_helper_list", defArgs s__law_helper_list, defBody s__law_helper_list, defScope s__law_helper_list, [], []⟩]
def fns4 : List He.DefD := [⟨("_law_plans", none), "_law_plans", "_law_plans", defArgs s__law_plans, defBody s__law_plans, defScope s__law_plans, [], []⟩,
  ⟨("_law_least_row", none), "_law_least_row", "_law_least_row", defArgs s__law_least_row, defBody s__law_least_row, defScope s__law_least_row, [], []⟩,
  ⟨("_law_switched", none), "_law_switched", "_law_switched", defArgs s__law_switched, defBody s__law_switched, defScope s__law_switched, [], []⟩,
  ⟨("_law_shares_of", none), "_law_shares_of", "_law_shares_of", defArgs s__law_shares_of, defBody s__law_shares_of, defScope s__law_shares_of, [], []⟩,
  ⟨("_law_chance_of", none), "_law_chance_of", "_law_chance_of", defArgs s__law_chance_of, defBody s__law_chance_of, defScope s__law_chance_of, [], []⟩,
  ⟨("_law_worth_of", none), "_law_worth_of", "_law_worth_of", defArgs s__law_worth_of, defBody s__law_worth_of, defScope s__law_worth_of, [], []⟩,
  ⟨("_law_fails", none), "_law_fails", "_law_fails", defArgs s__law_fails, defBody s__law_fails, defScope s__law_fails, [], []⟩,
  ⟨("_law_shown", none), "_law_shown", "_law_shown", defArgs s__law_shown, defBody s__law_shown, defScope s__law_shown, [], []⟩,
  ⟨("_law_doors", none), "_law_doors", "_law_doors", defArgs s__law_doors, defBody s__law_doors, defScope s__law_doors, [], []⟩,
  ⟨("law", none), "law", "law", defArgs s_law, defBody s_law, defScope s_law, [], []⟩,
  ⟨("Table", some "__init__"), "__init__", "Table.__init__", defArgs s_Table___init__, defBody s_Table___init__, defScope s_Table___init__, [], []⟩,
  ⟨("Table", some "__sub__"), "__sub__", "Table.__sub__", defArgs s_Table___sub__, defBody s_Table___sub__, defScope s_Table___sub__, [], []⟩,
  ⟨("Plan", some "__init__"), "__init__", "Plan.__init__", defArgs s_Plan___init__, defBody s_Plan___init__, defScope s_Plan___init__, [], []⟩,
  ⟨("Plan", some "__call__"), "__call__", "Plan.__call__", defArgs s_Plan___call__, defBody s_Plan___call__, defScope s_Plan___call__, [], []⟩,
  ⟨("Plan", some "__eq__"), "__eq__", "Plan.__eq__", defArgs s_Plan___eq__, defBody s_Plan___eq__, defScope s_Plan___eq__, [], []⟩,
  ⟨("BadCount", some "__init__"), "__init__", "BadCount.__init__", defArgs s_BadCount___init__, defBody s_BadCount___init__, defScope s_BadCount___init__, [], []⟩]
def fns : List He.DefD := fns0 ++ fns1 ++ fns2 ++ fns3 ++ fns4
def prs : List PrD := [⟨"Table", "width", "Table.width", s_Table_width⟩,
  ⟨"Table", "rounds", "Table.rounds", s_Table_rounds⟩,
  ⟨"Table", "cells", "Table.cells", s_Table_cells⟩,
  ⟨"Plan", "width", "Plan.width", s_Plan_width⟩,
  ⟨"Plan", "rounds", "Plan.rounds", s_Plan_rounds⟩,
  ⟨"Plan", "shares", "Plan.shares", s_Plan_shares⟩]
def exB (K : PySem.W.Frag) : Bool := (exL K).all id && prs.all fun d => propB K d
abbrev pfn (K : PySem.W.Frag) : List He.FnW := prs.map fun d => fnA K (pgA K d)
theorem pr_ok {K : PySem.W.Frag} (h : pfn K = prs.map PrD.val ∧ (prs.all fun d => propB K d) = true) (i : Nat) {d : PrD} (hd : prs[i]? = some d) : PrF K (He.ga K d.C) d.m d.qual d.st := by
  have e2 : (pfn K)[i]? = (prs.map PrD.val)[i]? := by rw [h.1]
  unfold pfn at e2
  rw [List.getElem?_map, List.getElem?_map, hd] at e2
  exact pr_one (Option.some.inj e2) (List.all_eq_true.mp h.2 d (List.mem_of_getElem? hd))
end Nb
set_option Elab.async false
set_option linter.all false
set_option maxRecDepth 100000
set_option maxHeartbeats 4000000
namespace Nb
open PySem PySem.W PySem.Calls PyProof.Rows
/-! ### a small part of the heap, its addresses and objects laid bare -/
def frO {α : Type} (o : Obj) (k : Obj → α) : α := match o with
  | ⟨c, d, dt, sl⟩ => match dt with
    | .func fd => k ⟨c, d, .func fd, sl⟩
    | .cls cd => k ⟨c, d, .cls cd, sl⟩
    | .dict es n => k ⟨c, d, .dict es n, sl⟩
    | .fields vs => k ⟨c, d, .fields vs, sl⟩
    | .seq its n => k ⟨c, d, .seq its n, sl⟩
    | dt => k ⟨c, d, dt, sl⟩
theorem frO_eq {α : Type} (o : Obj) (k : Obj → α) : frO o k = k o := by
  obtain ⟨c, d, dt, sl⟩ := o
  cases dt <;> rfl
def frL {α : Type} : List (Addr × Obj) → (List (Addr × Obj) → α) → α
  | [], k => k []
  | (a, o) :: r, k => HandSHeadRun.frNat a fun a => frO o fun o => frL r fun r => k ((a, o) :: r)
theorem frL_eq {α : Type} : ∀ (l : List (Addr × Obj)) (k : List (Addr × Obj) → α), frL l k = k l
  | [], k => rfl
  | (a, o) :: r, k => by
    show (HandSHeadRun.frNat a fun a => frO o fun o => frL r fun r => k ((a, o) :: r)) = _
    rw [HandSHeadRun.frNat_eq, frO_eq, frL_eq r]
def frA {α : Type} : List Addr → (List Addr → α) → α
  | [], k => k []
  | a :: r, k => HandSHeadRun.frNat a fun a => frA r fun r => k (a :: r)
theorem frA_eq {α : Type} : ∀ (l : List Addr) (k : List Addr → α), frA l k = k l
  | [], k => rfl
  | a :: r, k => by
    show (HandSHeadRun.frNat a fun a => frA r fun r => k (a :: r)) = _
    rw [HandSHeadRun.frNat_eq, frA_eq r]
def refsM (o : Option Obj) : List Addr := match o with
  | some ⟨_, _, .dict es _, _⟩ => es.toList.flatMap fun e => He.refV e.val
  | _ => []
def refsF (o : Option Obj) : List Addr := match o with
  | some ⟨_, _, .func fd, _⟩ => He.refV fd.code ++ He.refV fd.kwdefaults
  | some ⟨_, _, .cls cd, _⟩ => [cd.ns]
  | _ => []
def refsP (o : Option Obj) : List Addr := match o with
  | some ⟨_, _, .func fd, _⟩ => He.refV fd.code
  | some ⟨.type t, _, .fields vs, _⟩ => if t = "property" then vs.toList.flatMap He.refV else []
  | _ => []
def frag {α : Type} (g : Addr → Option Obj) (k : PySem.W.Frag → α) : α :=
  frA (refsM (g mainGlobals)) fun l1 => frA (l1.flatMap fun a => refsF (g a)) fun l2 => frA (l2.flatMap fun a => refsM (g a)) fun l3 => frA (l3.flatMap fun a => refsP (g a)) fun l4 => frA (l4.flatMap fun a => refsP (g a)) fun l5 =>
    frL (He.frG g (mainGlobals :: (l1 ++ (l2 ++ (l3 ++ (l4 ++ l5)))))) k
def asQ (g : Addr → Option Obj) : List Addr :=
  let l1 := refsM (g mainGlobals)
  let l2 := l1.flatMap fun a => refsF (g a)
  let l3 := l2.flatMap fun a => refsM (g a)
  let l4 := l3.flatMap fun a => refsP (g a)
  let l5 := l4.flatMap fun a => refsP (g a)
  mainGlobals :: (l1 ++ (l2 ++ (l3 ++ (l4 ++ l5))))
abbrev KQ (g : Addr → Option Obj) : PySem.W.Frag := He.frG g (asQ g)
theorem frag_eq {α : Type} (g : Addr → Option Obj) (k : PySem.W.Frag → α) : frag g k = k (KQ g) := by
  unfold frag
  rw [frA_eq, frA_eq, frA_eq, frA_eq, frA_eq, frL_eq]
  rfl
def tabB (g : Addr → Option Obj) (K : PySem.W.Frag) : Bool := PySem.W.codeHdIn K (He.cT K ("_law_doors", none)).1 (He.cT K ("_law_doors", none)).2 && ((K.lookup (He.cT K ("_law_doors", none)).2).isNone && (match g (He.cT K ("_law_doors", none)).2 with
  | some o => He.emptyTab o
  | none => false))
/-! the five looks -/
def ob1 (g : Addr → Option Obj) : Bool := frag g fun K => fas.all fun f => f.ok K
def ob2 (g : Addr → Option Obj) : Bool := frag g fun K => fns.all fun d => d.ok K
def ob3 (g : Addr → Option Obj) : List He.FnW := frag g fun K => fns.map fun d => He.fnW K d.at_
def ob4 (g : Addr → Option Obj) : Bool := frag g fun K => exB K && tabB g K
def ob5 (g : Addr → Option Obj) : List He.FnW := frag g pfn
abbrev AlQ : Type := Bool × Bool × List He.FnW × Bool × List He.FnW
def obQ (g : Addr → Option Obj) : AlQ := (ob1 g, ob2 g, ob3 g, ob4 g, ob5 g)
def vaQ : AlQ := (true, true, fns.map He.DefD.val, true, prs.map PrD.val)
structure SaysQ (h : Heap) (K : PySem.W.Frag) : Prop where
  d : He.SaysD fas fns K
  ex : exB K = true
  p : pfn K = prs.map PrD.val
  hd : PySem.W.codeHdIn K (He.cT K ("_law_doors", none)).1 (He.cT K ("_law_doors", none)).2 = true
  out : K.lookup (He.cT K ("_law_doors", none)).2 = none
  emp : h.get? (He.cT K ("_law_doors", none)).2 = some { cls := .none, data := .fields #[] }
theorem saysQ_of {h : Heap} (e : obQ h.get? = vaQ) : SaysQ h (KQ h.get?) := by
  have e1 : ob1 h.get? = true := congrArg (fun z : AlQ => z.1) e
  have e2 : ob2 h.get? = true := congrArg (fun z : AlQ => z.2.1) e
  have e3 : ob3 h.get? = fns.map He.DefD.val := congrArg (fun z : AlQ => z.2.2.1) e
  have e4 : ob4 h.get? = true := congrArg (fun z : AlQ => z.2.2.2.1) e
  have e5 : ob5 h.get? = prs.map PrD.val := congrArg (fun z : AlQ => z.2.2.2.2) e
  unfold ob1 at e1
  unfold ob2 at e2
  unfold ob3 at e3
  unfold ob4 at e4
  unfold ob5 at e5
  rw [frag_eq] at e1 e2 e3 e4 e5
  obtain ⟨e6, e7⟩ := He.ba e4
  obtain ⟨e8, e9⟩ := He.ba e7
  obtain ⟨e10, e11⟩ := He.ba e9
  refine ⟨?_, e6, e5, e8, ?_, ?_⟩
  · show He.obsD fas fns (KQ h.get?) = He.valD fns
    unfold He.obsD He.valD
    rw [e1, e2, e3]
    rfl
  · exact Option.isNone_iff_eq_none.mp e10
  · revert e11
    cases h.get? (He.cT (KQ h.get?) ("_law_doors", none)).2 with
    | none => exact fun z => nomatch z
    | some o => exact fun z => by rw [He.emptyTab_eq z]
def hookQ : PySem.W.Hook where
  α := AlQ
  obs := fun s => obQ s.heap.get?
  val := fun _ => vaQ
  says := fun _ h => ∃ K : PySem.W.Frag, K.In h ∧ SaysQ h K
  of := fun _ _ e => ⟨_, He.frG_in, saysQ_of e⟩
  keeps := fun _ _ _ ⟨K, hK, c⟩ k => ⟨K, PySem.W.Frag.In.keeps hK k, c.d, c.ex, c.p, c.hd, c.out, k _ _ c.emp⟩
theorem obQ_eq {s : SharedT} : obQ (HandSHeadRun.getT s) = hookQ.obs s.abs := by
  have e : HandSHeadRun.getT s = s.abs.heap.get? := funext (HandSHeadRun.getT_eq s)
  rw [e] <;> rfl
end Nb
set_option Elab.async false
set_option linter.all false
set_option maxRecDepth 100000
set_option maxHeartbeats 0
namespace Nb
open PySem PySem.W PySem.Calls PyProof.Rows
abbrev R0 : OpenRow := OpenLaw.row PySem.Challenge.rw_notbehind_k69_whole_switch_distance_show
abbrev qv : Program := view R0.prog [151]
def names0 : List PySem.Str := ["NotBehindError", "BadNumber", "DivisionByZero", "BadCount", "BadSize", "BadRow", "BadShare", "Mismatch", "NoHelper", "is_integer_value", "parts_of", "common_divisor", "fraction", "sum_of_two", "product_of_two", "opposite", "order_of", "add", "sub", "mul", "div", "negate", "compare", "total", "check_some", "farthest_value", "least", "greatest", "dot", "OUTCOMES"]
def names1 : List PySem.Str := ["WIDEST", "MOST_ROUNDS", "check_count", "check_count_rows", "check_shape", "check_shape_rows", "has_only", "check_text", "check_row", "count_texts", "next_texts", "index_of", "most_rounds", "letters", "rows_of", "beginnings_of", "MOST_HELPERS", "check_count_aid_stakes", "same_shape", "same_shape_aid_stakes", "check_shapes", "check_shapes_aid_stakes", "check_group", "check_same_shape", "Table", "WHOLE_SHARE", "check_size", "check_shapes_plans", "share_parts", "is_sharing"]
def names2 : List PySem.Str := ["sharing_at", "Plan", "NOTHING", "inner_of", "row_table", "misses_table", "mean_under", "least_misses", "same_shape_papers", "check_shape_papers", "slack_table", "least_slack", "worth", "is_value_paper", "height", "poured", "reached_places", "even_chances", "cut", "fold_layers", "floors_of", "wide_fold", "wide_keeper", "wide_breaker", "MOST_SWITCHES", "useful", "turned", "grown", "start_state", "switch_table"]
def names3 : List PySem.Str := ["switch_distance", "switch_chooser", "switch_foe", "_law_store", "_law_mixed", "_law_take", "_law_edge", "_law_power", "_law_gcd", "_law_low", "_law_plus", "_law_minus", "_law_times", "_law_below", "_law_sum", "_law_lowest", "_law_highest", "_law_dress", "_law_dressed", "_law_bad_count", "_law_alike", "_law_most", "_law_shape", "_law_rounds", "_law_index", "_law_misses_on", "_law_weights", "_law_plan_shares", "_law_plan", "_law_row_of"]
def names4 : List PySem.Str := ["_law_rows", "_law_begins", "_law_cells_of", "_law_new_plan", "_law_unlike", "_law_bad_lists", "_law_helper_list", "_law_plans", "_law_least_row", "_law_switched", "_law_shares_of", "_law_chance_of", "_law_worth_of", "_law_fails", "_law_shown", "_law_doors"]
def names : List PySem.Str := names0 ++ names1 ++ names2 ++ names3 ++ names4
/-- the state behind the top -/
noncomputable abbrev endQ (w : World) (os : OsState) : Option SharedT := HandSHeadRun.endF (HandSHeadRun.stepQ (HandSHeadRun.denQ HandSHeadRun.tabQ) R0.prog w) 8000 R0.prog w os
end Nb
set_option Elab.async false
set_option linter.all false
set_option maxRecDepth 100000
set_option maxHeartbeats 0
namespace Nb
open PySem PySem.W PySem.Calls PyProof.Rows
theorem run0 (w : World) (os : OsState) : (endQ w os).map (fun s => (HandSHeadRun.looksF R0.prog (boot_heap w.params) s.abs, HandSHeadRun.seenQ qv names (importedModules R0.prog.main.body) (fun s => xlAt qv [] s && recOk R0.toRowW.records s) s.abs)) = some (true, openGood qv names) := by
  kernel_rfl
end Nb
set_option Elab.async false
set_option linter.all false
set_option maxRecDepth 100000
set_option maxHeartbeats 0
namespace Nb
open PySem PySem.W PySem.Calls PyProof.Rows
theorem run1 (w : World) (os : OsState) : (endQ w os).map (fun s => ob1 (HandSHeadRun.getT s)) = some (true) := by
  kernel_rfl
end Nb
set_option Elab.async false
set_option linter.all false
set_option maxRecDepth 100000
set_option maxHeartbeats 0
namespace Nb
open PySem PySem.W PySem.Calls PyProof.Rows
theorem run2 (w : World) (os : OsState) : (endQ w os).map (fun s => ob2 (HandSHeadRun.getT s)) = some (true) := by
  kernel_rfl
end Nb
set_option Elab.async false
set_option linter.all false
set_option maxRecDepth 100000
set_option maxHeartbeats 0
namespace Nb
open PySem PySem.W PySem.Calls PyProof.Rows
theorem run3 (w : World) (os : OsState) : (endQ w os).map (fun s => ob3 (HandSHeadRun.getT s)) = some (fns.map He.DefD.val) := by
  kernel_rfl
end Nb
set_option Elab.async false
set_option linter.all false
set_option maxRecDepth 100000
set_option maxHeartbeats 0
namespace Nb
open PySem PySem.W PySem.Calls PyProof.Rows
theorem run4 (w : World) (os : OsState) : (endQ w os).map (fun s => ob4 (HandSHeadRun.getT s)) = some (true) := by
  kernel_rfl
end Nb
set_option Elab.async false
set_option linter.all false
set_option maxRecDepth 100000
set_option maxHeartbeats 0
namespace Nb
open PySem PySem.W PySem.Calls PyProof.Rows
theorem run5 (w : World) (os : OsState) : (endQ w os).map (fun s => ob5 (HandSHeadRun.getT s)) = some (prs.map PrD.val) := by
  kernel_rfl
end Nb
set_option Elab.async false
set_option linter.all false
set_option maxRecDepth 100000
set_option maxHeartbeats 4000000
namespace Nb
open PySem PySem.W PySem.Calls PyProof.Rows
theorem map_two {α β γ : Type} {o : Option α} {f : α → β} {g : α → γ} {a : β} {b : γ} (h1 : o.map f = some a) (h2 : o.map g = some b) : o.map (fun s => (f s, g s)) = some (a, b) := by
  cases o with
  | none => cases h1
  | some s =>
    have e1 : f s = a := Option.some.inj h1
    have e2 : g s = b := Option.some.inj h2
    show some (f s, g s) = _
    rw [e1, e2]
theorem head_run (w : World) : HandSHeadRun.RunEq R0 qv hookQ (fun s => obQ (HandSHeadRun.getT s)) 8000 names w := fun os => by
  have h := map_two (run0 w os) (map_two (run1 w os) (map_two (run2 w os) (map_two (run3 w os) (map_two (run4 w os) (run5 w os)))))
  have e := Option.map_eq_some_iff.mp h
  obtain ⟨s, hs, hv⟩ := e
  refine Option.map_eq_some_iff.mpr ⟨s, hs, ?_⟩
  have c1 := congrArg (fun z => z.1.1) hv
  have c2 := congrArg (fun z => z.1.2) hv
  have b1 : ob1 (HandSHeadRun.getT s) = true := congrArg (fun z => z.2.1) hv
  have b2 : ob2 (HandSHeadRun.getT s) = true := congrArg (fun z => z.2.2.1) hv
  have b3 : ob3 (HandSHeadRun.getT s) = fns.map He.DefD.val := congrArg (fun z => z.2.2.2.1) hv
  have b4 : ob4 (HandSHeadRun.getT s) = true := congrArg (fun z => z.2.2.2.2.1) hv
  have b5 : ob5 (HandSHeadRun.getT s) = prs.map PrD.val := congrArg (fun z => z.2.2.2.2.2) hv
  refine Prod.ext c1 (Prod.ext c2 ?_)
  show (ob1 (HandSHeadRun.getT s), ob2 (HandSHeadRun.getT s), ob3 (HandSHeadRun.getT s), ob4 (HandSHeadRun.getT s), ob5 (HandSHeadRun.getT s)) = vaQ
  rw [b1, b2, b3, b4, b5]
  rfl
end Nb
set_option Elab.async false
set_option linter.all false
set_option maxRecDepth 100000
set_option maxHeartbeats 2000000
namespace Nb
open PySem L2
open PyProof.Rows (envOfC)
open PySem.Spec PyProof.Rows
/-! ### zip of a text and a tuple of one length -/
def ItST (K : PySem.W.Frag) (x : PySem.Str) (b : Addr) : It :=
  ⟨fun i H => ∃ (ys : List V) (c : Nat) (y : V), SqT K H b ys ∧ x.cps[i]? = some c ∧ ys[i]? = some y ∧ ys.length = x.cps.size,
    fun i H v H' => ∃ (T : Addr) (c : Nat) (y : V), v = .ref T ∧ H T = none ∧ H' = upd H T (.tup [.str ⟨#[c]⟩, y]) ∧ x.cps[i]? = some c ∧ ∀ ys, SqT K H b ys → ys[i]? = some y,
    fun i H => ∃ ys : List V, SqT K H b ys ∧ ys.length = x.cps.size ∧ i = x.cps.size⟩
theorem five {p : Addr → Prop} {a b c d e : Addr} (pa : p a) (pb : p b) (pc : p c) (pd : p d) (pe : p e) : ∀ q, q ∈ [a, b, c, d, e] → p q := fun q hq => by
  simp only [List.mem_cons, List.not_mem_nil, or_false] at hq
  rcases hq with rfl | rfl | rfl | rfl | rfl <;> assumption
theorem out5 {a b c d e q : Addr} (hq : q ∉ [a, b, c, d, e]) : q ≠ a ∧ q ≠ b ∧ q ≠ c ∧ q ≠ d ∧ q ≠ e := by
  simpa only [List.mem_cons, List.not_mem_nil, or_false, not_or] using hq
/-- what stands on the heap while a text and a tuple are drawn from together -/
def StST (x : PySem.Str) (t : Tok) (b z TI TO i1 i2 : Addr) (i : Nat) (h : Heap) : Prop :=
  IsZip h z TI TO .none ∧ IsTupOf2 h TI (.ref i1) (.ref i2) ∧ (∃ x y, IsTupOf2 h TO x y) ∧ h.IsStrIter i1 (strIterType x) x t i ∧ h.IsTupleIter i2 b i
theorem turn_ST {P : Program} {w : World} {K : PySem.W.Frag} {elts : List Expr} {kk : Nat} {tpos : Pos} {x : PySem.Str} {t : Tok} {b z TI TO i1 i2 : Addr} (S : ZipSep2 z TI TO i1 i2 [i1] [i2, b]) (hb : b ≠ i2) :
    Turn P w K (.Tuple elts kk tpos) (ItST K x b) [z, TI, TO, i1, i2] z (StST x t b z TI TO i1 i2) where
  mem := List.mem_cons_self
  obj := fun n h st => by
    obtain ⟨zipped, inner, ⟨_, _, outer⟩, ⟨_, at1, _, data1⟩, ⟨_, at2, _, data2⟩⟩ := st
    exact five ⟨_, zipped, fun _ z => nomatch z⟩ ⟨_, inner, fun _ z => nomatch z⟩ ⟨_, outer, fun _ z => nomatch z⟩ ⟨_, at1, fun _ z => nomatch data1.symm.trans z⟩ ⟨_, at2, fun _ z => nomatch data2.symm.trans z⟩
  keep := fun n h h' st same => by
    obtain ⟨zipped, inner, ⟨l, r, outer⟩, ⟨o, at1, is1⟩, second⟩ := st
    exact ⟨same z (by simp) _ zipped, same TI (by simp) _ inner, ⟨l, r, same TO (by simp) _ outer⟩, ⟨o, same i1 (by simp) o at1, is1⟩, second.at fun o q => same i2 (by simp) o q⟩
  item := by
    intro X eP ew eK calm n pins s σ H E I free st going
    subst eP ew eK
    obtain ⟨zipped, inner, ⟨l, r, outer⟩, first, second⟩ := st
    obtain ⟨ys, c, y, holdsT, sign, entry, lens⟩ := going
    obtain ⟨its, likes, atT, _⟩ := I.tuple holdsT
    obtain ⟨u, atU, likeU⟩ := likes.get entry
    have below : z < s.heap.objs.size := Heap.lt_size zipped
    have still : X.A.in1.handled = none := I.ok.hd calm
    have draw1 : Draws X.prog X.w X.A.in1 i1 [i1] x.cps.size _ _ := Draws.text still i1 x t
    have draw2 : Draws X.prog X.w X.A.in1 i2 [i2, b] its.toArray.size _ _ := Draws.tuple still i2 b hb its.toArray
    have in1 : n < x.cps.size := (Array.getElem?_eq_some_iff.mp sign).1
    have in2 : n < its.toArray.size := by
      rw [List.size_toArray, ← likes.length, lens]
      exact in1
    refine wpAny_pyNext_zipD2_item S draw1 draw2 zipped inner outer first ⟨second, atT⟩ in1 in2 fun v1 v2 h' tk drawn1 drawn2 zipped' outer' first' second' fresh grown same => ?_
    obtain ⟨c', u', sign', ev⟩ := drawn1
    obtain rfl : c = c' := Option.some.inj (sign.symm.trans sign')
    subst ev
    have drawn2 : its.toArray[n]? = some v2 := drawn2
    obtain rfl : v2 = u := Option.some.inj (drawn2.symm.trans (by simpa using atU))
    refine ⟨_, rfl, wpAny_letOwnedTupleGo_zip (s := { s with heap := h', toks := tk }) zipped' fun h'' zipped'' sb => ?_⟩
    have pairAt : h''.get? s.heap.objs.size = some { cls := .type "tuple", data := .seq #[.str ⟨#[c]⟩ u', v2] } := (sb.2 _ (Nat.ne_of_gt below)).trans fresh
    have new : ObjOk X.prog X.w (upd H s.heap.objs.size (.tup [.str ⟨#[c]⟩, y])) h'' s.heap.objs.size (.tup [.str ⟨#[c]⟩, y]) :=
      ⟨by show 2 ≤ sizeLine; decide, [.str ⟨#[c]⟩ u', v2], .cons ⟨u', rfl⟩ (.cons likeU .nil), ⟨_, pairAt, rfl, _, rfl⟩⟩
    have I1 : Inv X pins σ (upd H s.heap.objs.size (.tup [.str ⟨#[c]⟩, y])) { s with heap := h'', toks := tk } :=
      I.turnedNew (t' := tk) (ch := [z, TI, TO, i1, i2]) (fun q o off at' => by
        obtain ⟨nz, _, nTO, n1, n2⟩ := out5 off
        exact (sb.2 q nz).trans (same q o nz nTO (by simpa using n1) (by simpa using n2) at')) free (Nat.le_refl _) new
    refine ⟨.ref s.heap.objs.size, _, I1, rfl, ⟨_, c, y, rfl, I.hok.fresh (Nat.le_refl _), rfl, sign, fun l hl => by rw [I.tuple_inj hl holdsT]; exact entry⟩, ⟨zipped'', ?_, ⟨.str ⟨#[c]⟩ u', v2, ?_⟩, ?_, ?_⟩, fun q hq => ?_⟩
    · exact (sb.2 _ S.TIz).trans (same _ _ S.TIz S.TITO S.TIi1 S.TIi2 inner)
    · exact (sb.2 _ S.TOz).trans outer'
    · obtain ⟨o, at1, is1⟩ := first'
      exact ⟨o, (sb.2 _ (Ne.symm S.zi1)).trans at1, is1⟩
    · exact second'.1.at fun o q => (sb.2 _ (Ne.symm S.zi2)).trans q
    · have small : ∀ q, q ∈ [z, TI, TO, i1, i2] → q < s.heap.objs.size := five below (Heap.lt_size inner) (Heap.lt_size outer) (first.elim fun _ z => Heap.lt_size z.1) (second.elim fun _ z => Heap.lt_size z.1)
      rw [upd_ne (Nat.ne_of_lt (small q hq))]
      exact (free q hq).1
  done := by
    intro X eP ew eK calm n pins s σ H E I free st ending
    subst eP ew eK
    obtain ⟨zipped, inner, ⟨l, r, outer⟩, first, second⟩ := st
    obtain ⟨ys, holdsT, lens, here⟩ := ending
    obtain ⟨its, likes, atT, _⟩ := I.tuple holdsT
    have still : X.A.in1.handled = none := I.ok.hd calm
    have draw1 : Draws X.prog X.w X.A.in1 i1 [i1] x.cps.size _ _ := Draws.text still i1 x t
    have draw2 : Draws X.prog X.w X.A.in1 i2 [i2, b] its.toArray.size _ _ := Draws.tuple still i2 b hb its.toArray
    have here2 : n = its.toArray.size := by rw [List.size_toArray, ← likes.length, lens, here]
    exact wpAny_pyNext_zipD2_end S draw1 draw2 zipped inner outer first ⟨second, atT⟩ (Nat.le_of_eq here) (Nat.le_of_eq here2) (.inl here) fun h' tk same => ⟨rfl, I.turnedL (t' := tk) (ch := [z, TI, TO, i1, i2]) (fun q o off at' => by
      obtain ⟨nz, nTI, nTO, n1, n2⟩ := out5 off
      exact same q o nz nTO (by simpa using n1) (by simpa using n2) at') free⟩
  self := fun A n s Q E st after => wpAny_pyIter_zip (And.left st) after
def iZipST (K : PySem.W.Frag) (ta : TA) : TI := fun σ H R => ta σ H fun vs H1 => ∃ x b ys, vs = [.str x, .ref b] ∧ SqT K H1 b ys ∧ R (ItST K x b) H1
theorem pizST {X : Cx} {K : PySem.W.Frag} {one two : Expr} {ta : TA} {p pos tpos : Pos} {elts : List Expr} {kk : Nat} (hK : X.K = K) (hm : X.mg "zip" = none) (args : PA X [one, two] ta) (glob : Gl X "zip" := by rfl)
    (starred : starEach [one, two] X.env = (false, eval one X.env) :: starEach [two] X.env := by rfl) (noneStarred : (backTo pos (starEach [two] X.env)).any (·.1) = false := by rfl) :
    PI X (.Tuple elts kk tpos) (.Call (.Name "zip" p) [one, two] [] pos) (iZipST K ta) := by
  subst hK
  constructor
  intro pins s σ H R I goal
  refine Call_ (ld_blt I glob hm PyProof.Rows.boot_zip ?_)
  refine PyProof.Rows.callWith_type1 (thn (args.run pos pins s σ H _ I goal) fun us s1 came => ?_) starred noneStarred
  obtain ⟨vs, H1, I1, likes, x, b, ys, ex, holdsT, q⟩ := came
  subst ex
  cases likes with
  | cons like1 more =>
    cases more with
    | cons like2 none' =>
      cases none'
      obtain ⟨t, rfl⟩ := like1
      cases like2
      generalize en : s1.heap.objs.size = n at *
      have new5 : ∀ c, c ∈ [n + 4, n + 2, n + 3, n, n + 1] → FpOk X pins H1 c := fun c hc => by
        have up : s1.heap.objs.size ≤ c := by
          revert c
          rw [en]
          exact five (Nat.le_add_right _ _) (Nat.le_add_right _ _) (Nat.le_add_right _ _) (Nat.le_refl _) (Nat.le_add_right _ _)
        exact I1.fpOk up (I1.hok.fresh up)
      obtain ⟨its, _, atT, _⟩ := I1.tuple holdsT
      have low : b < n := by
        rw [← en]
        exact (id atT).elim fun _ z => Heap.lt_size z.1
      have apart : ∀ k, n + k ≠ b := fun k => Nat.ne_of_gt (Nat.lt_of_lt_of_le low (Nat.le_add_right _ _))
      refine zip_begins2 (begins_text x t) (begins_tuple b its.toArray) trivial atT fun h' zipped inner outer first second grown same => wpAny_pyIter_zip zipped ?_
      have I2 : Inv X pins σ H1 { s1 with heap := h', toks := s1.toks } := I1.kept same
      rw [en] at zipped inner outer first second
      rw [en]
      refine ⟨n + 4, [n + 4, n + 2, n + 3, n, n + 1], _, _, H1, rfl, I2, turn_ST (x := x) (t := t) (b := b) ?_ (Ne.symm (apart 1)), ⟨zipped, inner, ⟨.none, .none, outer⟩, ⟨_, first, rfl, rfl⟩, ⟨_, second, rfl, rfl⟩⟩, new5, q⟩
      constructor <;> simp <;> first | exact apart _ | exact apart 0 | exact ⟨by omega, apart _⟩ | omega
section
variable {α : Type} {O : List Addr} {σ : L2.St} {G : Hp} {q : Rl α} {ta tb : TE} {K : PySem.W.Frag} {ds : List Nat} {ys : List α}
theorem walk_ST {x : PySem.Str} {b : Addr} {ys : List V} (hl : ys.length = x.cps.size) : Walk (ItST K x b) x.cps.size (fun H => SqT K H b ys) (fun i H v H' => ∃ (T : Addr) (c : Nat) (y : V), v = .ref T ∧ H T = none ∧ H' = upd H T (.tup [.str ⟨#[c]⟩, y]) ∧ x.cps[i]? = some c ∧ ys[i]? = some y) where
  goes := fun i H hi h => ⟨ys, x.cps[i], ys[i]'(by omega), h, by simp [hi], by simp, hl⟩
  stops := fun H h => ⟨ys, h, hl, rfl⟩
  yields := fun i H v H' hi h ⟨T, c, y, e1, e2, e3, e4, e5⟩ => ⟨T, c, y, e1, e2, e3, e4, e5 _ h⟩
theorem it_zipST [Mo q] (h : Tv O ta σ G qX ds) (g : Tv O tb σ G (qT K q) ys) (hl : ds.length = ys.length) : Tit O (iZipST K (tCons ta (tCons tb tNil))) σ G (qP K qX q) ((ds.map fun d => [d]).zip ys) := fun H w R k =>
  h H w _ fun v H1 s1 h1 => g H1 (w.same s1) _ fun u H2 s2 h2 => by
    obtain ⟨us, ⟨b, eu, hs2⟩, hp2⟩ := h2
    have w2 := (w.same s1).same s2
    refine ⟨tx ds, b, us, by rw [show v = .str (tx ds) from h1, eu], same_sqT wo_le hs2, ?_⟩
    have hsz : (tx ds).cps.size = ds.length := by
      show ((ds.map fun d => 48 + d).toArray).size = _
      simp
    have en : ((ds.map fun d => [d]).zip ys).length = (tx ds).cps.size := by rw [List.length_zip, List.length_map, hsz]; omega
    refine k _ _ _ (wo H2 O) H2 (s1.trans s2) w2.le w2.up (by rw [en]; exact walk_ST (by rw [Paired.len hp2, hsz, hl])) (fun H'' s => same_sqT s hs2) ?_
    rintro i Ha v' Hb O1 G1 hi sg w1 ⟨T, c, y, rfl, hT, rfl, e1, e2⟩
    obtain ⟨yy, hy, hq⟩ := Paired.at' hp2 e2
    have hi2 : i < ds.length := by rw [List.length_zip, List.length_map] at hi; omega
    have ec : c = 48 + ds[i] := by
      have : (tx ds).cps[i]? = some (48 + ds[i]) := by
        show ((ds.map fun d => 48 + d).toArray)[i]? = _
        simp [hi2]
      rw [this] at e1
      exact (Option.some.inj e1).symm
    obtain ⟨a1, a2, a3, a4⟩ := pair_new (K := K) (r := qX) (q := q) (x := [ds[i]]) (u := .str ⟨#[c]⟩) (v := y) w1 hT (by rw [ec]; rfl) (Mo.mo sg hq)
    refine ⟨([ds[i]], yy), _, ?_, a1, a2, a3, a4⟩
    rw [List.getElem?_zip_eq_some]
    exact ⟨by simp [hi2], hy⟩
end
end Nb
set_option Elab.async false
set_option linter.all false
set_option maxRecDepth 100000
set_option maxHeartbeats 2000000
namespace Nb
open PySem L2
open PyProof.Rows (envOfC)
/-! ### the store of draws: an owned list of ints; what is drawn is not told, only what it keeps -/
structure SGood (a0 a1 a2 : Int) (rest : List Int) : Prop where
  h0 : 0 ≤ a0
  h1 : 0 ≤ a1
  h2 : 0 ≤ a2
  h3 : a2 < 2305843009213693951
  l : rest.length ≤ 63
def Sto (H : Hp) (a : Addr) : Prop := ∃ (a0 a1 a2 a3 a4 : Int) (rest : List Int), H a = some (.lst ((a0 :: a1 :: a2 :: a3 :: a4 :: rest).map V.int)) ∧ SGood a0 a1 a2 rest
theorem Sto.on {H H' : Hp} {a : Addr} (h : Sto H a) (s : Same H H') : Sto H' a := by
  obtain ⟨a0, a1, a2, a3, a4, rest, e, g⟩ := h
  exact ⟨a0, a1, a2, a3, a4, rest, s _ _ e, g⟩
theorem Sto.ne {H : Hp} {a : Addr} (h : Sto H a) : H a ≠ none := by
  obtain ⟨_, _, _, _, _, _, e, _⟩ := h
  rw [e]
  simp
theorem sb_wo {O : List Addr} {H H' : Hp} {a : Addr} (s : Sb a H H') : Same (wo H (a :: O)) (wo H' (a :: O)) := fun b o e => by
  obtain ⟨h1, h2⟩ := wo_some e
  rw [wo_out h1]
  exact s b o (fun z => h1 (by rw [z]; exact List.mem_cons_self)) h2
theorem Wd.sb {O : List Addr} {G H H' : Hp} {a : Addr} (w : Wd (a :: O) G H) (s : Sb a H H') (h : H' a ≠ none) : Wd (a :: O) G H' := ⟨w.le.trans (sb_wo s), fun b hb => by
  by_cases e : b = a
  · rw [e]; exact h
  · intro z
    cases q : H b with
    | none => exact w.dm b hb q
    | some u => rw [s b u e q] at z; cases z⟩
/-- a promise of a def that draws -/
def spS {α β : Type} (ra : RA α) (pr : α → Prop) (r : Rl β) (Y : α → β → Prop) : Sp := fun vs H Q _ =>
  ∃ (O : List Addr) (a : Addr) (ws : List V) (x : α), vs = .ref a :: ws ∧ a ∉ O ∧ Dom (a :: O) H ∧ Sto H a ∧ ra (wo H (a :: O)) ws x ∧ pr x ∧ ∀ v H' y, Sb a H H' → Sto H' a → Y x y → r (wo H' (a :: O)) v y → Q v H'
def Tn {β : Type} (a : Addr) (O : List Addr) (te : TE) (σ : St) (G : Hp) (r : Rl β) (Y : β → Prop) : Prop :=
  ∀ H, a ∉ O → Wd (a :: O) G H → Sto H a → ∀ Q : VK, (∀ v H' y, Sb a H H' → Sto H' a → Y y → r (wo H' (a :: O)) v y → Q v H') → te σ H Q
def Tan {β : Type} (a : Addr) (O : List Addr) (t : TA) (σ : St) (G : Hp) (ra : RA β) (Y : β → Prop) : Prop :=
  ∀ H, a ∉ O → Wd (a :: O) G H → Sto H a → ∀ Q : List V → Hp → Prop, (∀ vs H' y, Sb a H H' → Sto H' a → Y y → ra (wo H' (a :: O)) vs y → Q vs H') → t σ H Q
def Tnt (a : Addr) (O : List Addr) (t : TT) (σ : St) (G : Hp) (Y : Bool → Prop) : Prop :=
  ∀ H, a ∉ O → Wd (a :: O) G H → Sto H a → ∀ Q : Bool → Hp → Prop, (∀ b H', Sb a H H' → Sto H' a → Y b → Q b H') → t σ H Q
section
variable {α β γ : Type} {a : Addr} {O : List Addr} {σ : St} {G H : Hp} {r : Rl α} {q : Rl β} {x : α} {y : β} {ta tb te : TE} {K : PySem.W.Frag} {Y : α → Prop} {Z : β → Prop} {D : Ends} {t1 t2 : TS}
theorem tn_of (h : Tv (a :: O) te σ G r x) (hx : Y x) : Tn a O te σ G r Y := fun H _ w st Q k => h H w Q fun v H' s hv => k v H' x (Sb.of s) (st.on s) hx hv
theorem Tn.mono (h : Tn a O te σ G r Y) {Y' : α → Prop} (i : ∀ x, Y x → Y' x) : Tn a O te σ G r Y' := fun H n w st Q k => h H n w st Q fun v H' y s st' hy hv => k v H' y s st' (i _ hy) hv
theorem Tn.sub (h : Tn a O te σ G r Y) (f : α → β) (c : ∀ G v x, Y x → r G v x → q G v (f x)) (i : ∀ x, Y x → Z (f x)) : Tn a O te σ G q Z := fun H n w st Q k => h H n w st Q fun v H' y s st' hy hv => k v H' (f y) s st' (i _ hy) (c _ _ _ hy hv)
theorem tan_of {ra : RA α} {t : TA} (h : Ta (a :: O) t σ G ra x) (hx : Y x) : Tan a O t σ G ra Y := fun H _ w st Q k => h H w Q fun v H' s hv => k v H' x (Sb.of s) (st.on s) hx hv
theorem tan_c {ra : RA β} {t : TA} [Mo r] (h : Tn a O te σ G r Y) (g : Tan a O t σ G ra Z) : Tan a O (tCons te t) σ G (raC r ra) fun p => Y p.1 ∧ Z p.2 := fun H n w st Q k =>
  h H n w st _ fun v H1 y1 s1 st1 hy1 hv1 => g H1 n (w.sb s1 st1.ne) st1 _ fun vs H2 y2 s2 st2 hy2 hv2 => k _ _ (y1, y2) (s1.trans s2) st2 ⟨hy1, hy2⟩ ⟨v, vs, rfl, Mo.mo (sb_wo s2) hv1, hv2⟩
/-- f(store, ..) -/
theorem tn_callS {ra : RA α} {pr : α → Prop} {F : α → β → Prop} {t : TA} {i : Nat} {E : XK} (hi : σ[i]? = some (some (.ref a))) (h : Ta (a :: O) t σ G ra x) (p : pr x) : Tn a O (tCall (spS ra pr q F) [] E (tCons (tVar i) t)) σ G q (F x) := fun H n w st Q k =>
  ⟨_, hi, h H w _ fun vs H1 s1 h1 => by
    show spS ra pr q F ((.ref a :: vs) ++ []) H1 Q E
    rw [List.append_nil]
    exact ⟨O, a, vs, x, rfl, n, (w.same s1).dm, st.on s1, h1, p, fun v H2 y s2 st2 hy hv => k v H2 y ((Sb.of s1).trans s2) st2 hy hv⟩⟩
/-- f(store, ..), the arguments draw too -/
theorem tn_callN {ra : RA α} {pr : α → Prop} {F : α → β → Prop} {t : TA} {i : Nat} {E : XK} (hi : σ[i]? = some (some (.ref a))) (h : Tan a O t σ G ra Y) (p : ∀ x, Y x → pr x) : Tn a O (tCall (spS ra pr q F) [] E (tCons (tVar i) t)) σ G q (fun y => ∃ x, Y x ∧ F x y) := fun H n w st Q k =>
  ⟨_, hi, h H n w st _ fun vs H1 x s1 st1 hx h1 => by
    show spS ra pr q F ((.ref a :: vs) ++ []) H1 Q E
    rw [List.append_nil]
    exact ⟨O, a, vs, x, rfl, n, (w.sb s1 st1.ne).dm, st1, h1, p x hx, fun v H2 y s2 st2 hy hv => k v H2 y (s1.trans s2) st2 ⟨x, hx, hy⟩ hv⟩⟩
/-- a pure call, its arguments draw -/
theorem tn_callP {ra : RA α} {pr : α → Prop} {f : α → β} {t : TA} {E : XK} (h : Tan a O t σ G ra Y) (p : ∀ x, Y x → pr x) : Tn a O (tCall (spP ra pr q f) [] E t) σ G q (fun y => ∃ x, Y x ∧ y = f x) := fun H n w st Q k =>
  h H n w st _ fun vs H1 x s1 st1 hx h1 => by
    show spP ra pr q f (vs ++ []) H1 Q E
    rw [List.append_nil]
    exact ⟨a :: O, x, (w.sb s1 st1.ne).dm, h1, p x hx, fun v H2 s2 h2 => k v H2 _ (s1.trans (Sb.of s2)) (st1.on s2) ⟨x, hx, rfl⟩ h2⟩
/-- an operator, its operands draw -/
theorem tn_op {p : Rl γ} {W : γ → Prop} {rd : V → V → Hp → VK → Prop} [Mo r] (h : Tn a O ta σ G r Y) (g : Tn a O tb σ G q Z) (hrd : ∀ H' v u y z, Y y → Z z → Dom (a :: O) H' → r (wo H' (a :: O)) v y → q (wo H' (a :: O)) u z → ∀ Q : VK, (∀ w' H'' x, Same H' H'' → W x → p (wo H'' (a :: O)) w' x → Q w' H'') → rd v u H' Q) :
    Tn a O (tOp rd ta tb) σ G p W := fun H n w st Q k =>
  h H n w st _ fun v H1 y1 s1 st1 hy1 hv1 => g H1 n (w.sb s1 st1.ne) st1 _ fun u H2 y2 s2 st2 hy2 hv2 =>
    hrd H2 v u y1 y2 hy1 hy2 ((w.sb s1 st1.ne).sb s2 st2.ne).dm (Mo.mo (sb_wo s2) hv1) hv2 Q fun w' H3 x s3 hx hw => k w' H3 x ((s1.trans s2).trans (Sb.of s3)) (st2.on s3) hx hw
/-- xs[e], e drawn -/
theorem tn_ixL {xs : List α} {Z : Nat → Prop} [Mo r] (h : Tv (a :: O) ta σ G (qL K r) xs) (g : Tn a O tb σ G qN Z) (hz : ∀ i, Z i → ∃ x, xs[i]? = some x ∧ Y x) : Tn a O (tOp (rIxL K) ta tb) σ G r Y :=
  tn_op (r := qL K r) (Y := fun x => x = xs) (tn_of h rfl) g fun H' v u y z hy hz' d hv hu Q k => by
    subst hy
    obtain ⟨x, hx, hyx⟩ := hz z hz'
    obtain ⟨vs, ⟨b, ev, hs⟩, hp⟩ := hv
    obtain ⟨w', e1, e2⟩ := Paired.at hp hx
    exact ⟨b, vs, (z : Int), w', ev, hu, same_sqL wo_le hs, atI_nat e1, k _ _ x (Same.refl _) hyx e2⟩
theorem tn_opJ {g : Int → Int → Int} {Y Z W : Int → Prop} (ha : Tn a O ta σ G qI Y) (hb : Tn a O tb σ G qI Z) (hw : ∀ i j, Y i → Z j → W (g i j)) : Tn a O (tOp (rI0 fun i j => .int (g i j)) ta tb) σ G qI W :=
  tn_op ha hb fun H' v u i j hi hj d hv hu Q k => ⟨i, j, hv, hu, k _ _ _ (Same.refl _) (hw i j hi hj) rfl⟩
/-! statements -/
theorem st_asgNL {i : Nat} (n : a ∉ O) (w : Wd (a :: O) G H) (st : Sto H a) (h : Tn a O te σ G r Y) (k : ∀ v G' H' y, Same G G' → Wd (a :: O) G' H' → Sb a H H' → Sto H' a → Y y → Has r G' v y → D.nx (σ.set i (some v)) H') : tAsg te (gName i) D σ H :=
  h H n w st _ fun v H1 y s1 st1 hy h1 => k v _ H1 y ((w.sb s1 st1.ne).le) (w.sb s1 st1.ne).up s1 st1 hy ⟨h1⟩
theorem st_asgN {i : Nat} (n : a ∉ O) (w : Wd (a :: O) G H) (st : Sto H a) (h : Tn a O te σ G r Y) (k : ∀ v G' H' y, Same G G' → Wd (a :: O) G' H' → Sb a H H' → Sto H' a → Y y → Has r G' v y → t2 D (σ.set i (some v)) H') : tSeq (tAsg te (gName i)) t2 D σ H := st_asgNL (D := { D with nx := t2 D }) n w st h k
theorem st_retN (n : a ∉ O) (w : Wd (a :: O) G H) (st : Sto H a) (h : Tn a O te σ G r Y) (k : ∀ v H' y, Sb a H H' → Sto H' a → Y y → r (wo H' (a :: O)) v y → D.rt v H') : tRet te D σ H := h H n w st _ k
theorem st_ifN {c : TT} {B : Bool → Prop} (n : a ∉ O) (w : Wd (a :: O) G H) (st : Sto H a) (h : Tnt a O c σ G B) (h1 : B true → ∀ H', Sb a H H' → Wd (a :: O) G H' → Sto H' a → t1 { D with nx := t2 D } σ H') (h2 : B false → ∀ H', Sb a H H' → Wd (a :: O) G H' → Sto H' a → t2 D σ H') : tSeq (tIfS c t1 tNext) t2 D σ H :=
  h H n w st _ fun b H1 s1 st1 hb => by
    cases b with
    | true => exact iteT (h1 hb _ s1 (w.sb s1 st1.ne) st1)
    | false => exact iteF (h2 hb _ s1 (w.sb s1 st1.ne) st1)
/-- a test that is not told -/
theorem tnt_opB {g : Int → Int → Bool} {Y Z : Int → Prop} (ha : Tn a O ta σ G qI Y) (hb : Tn a O tb σ G qI Z) : Tnt a O (tTest (tOp (rI0 fun i j => .bl (g i j)) ta tb)) σ G fun b => ∃ i j, Y i ∧ Z j ∧ b = g i j := fun H n w st Q k =>
  ha H n w st _ fun v H1 i s1 st1 hi h1 => hb H1 n (w.sb s1 st1.ne) st1 _ fun u H2 j s2 st2 hj h2 => ⟨i, j, h1, h2, _, rfl, k _ _ (s1.trans s2) st2 ⟨i, j, hi, hj, rfl⟩⟩
theorem tnt_eqI {Y Z : Int → Prop} (ha : Tn a O ta σ G qI Y) (hb : Tn a O tb σ G qI Z) : Tnt a O (tTest (tOp rEq ta tb)) σ G fun b => ∃ i j, Y i ∧ Z j ∧ b = decide (i = j) := fun H n w st Q k =>
  ha H n w st _ fun v H1 i s1 st1 hi h1 => hb H1 n (w.sb s1 st1.ne) st1 _ fun u H2 j s2 st2 hj h2 => by
    cases h1
    cases h2
    refine ⟨rfl, _, rfl, ?_⟩
    have e : decide (V.int i = V.int j) = decide (i = j) := by
      by_cases z : i = j
      · rw [z, decide_eq_true rfl, decide_eq_true rfl]
      · rw [decide_eq_false z, decide_eq_false (fun q => z (V.int.inj q))]
    rw [e]
    exact k _ _ (s1.trans s2) st2 ⟨i, j, hi, hj, rfl⟩
/-- pure things, the store stays as it is -/
theorem Same.sto {H' : Hp} (st : Sto H a) (s : Same H H') : Sto H' a := st.on s
end
/-! ### comprehensions that draw -/
section
variable {α β : Type} {a : Addr} {O : List Addr} {σ : St} {G H : Hp} {r : Rl α} {q : Rl β} {te : TE} {xs : List α} {Y : α → β → Prop}
theorem tn_map {wi : TI} {g : TG} {vs : List Nat} {E : Hp → α → St → St → Prop} [Mo q] (hi : Tit (a :: O) wi σ G r xs) (hg : Tg g r E) (ho : Own E vs) (hz : xs.length < 10000)
    (he : ∀ (D : Addr) (i : Nat) (x : α) (G1 : Hp) (σ2 : St), xs[i]? = some x → Same G G1 → E G1 x (wipe σ vs) σ2 → Tn a (D :: O) te σ2 G1 q (Y x)) : Tn a O (tLc wi g tYes te vs) σ G (qLs q) (fun ys => Paired Y xs ys) := by
  intro H n w st Q k
  refine hi H w _ fun It Gd Yw G' H' sh sg w' wk hgd hy => ?_
  intro D hD
  have st' := st.on sh
  have na : a ≠ D := fun z => st'.ne (by rw [z]; exact hD)
  have nD : a ∉ D :: O := by
    simp only [List.mem_cons, not_or]
    exact ⟨na, n⟩
  -- the list and the store change places in the owned list
  have swap : ∀ {G1 H1 : Hp}, Wd (D :: a :: O) G1 H1 → Wd (a :: D :: O) G1 H1 := fun w => ⟨fun b o e => by
    obtain ⟨h1, h2⟩ := wo_some (w.le _ _ e)
    rw [wo_out (by simp only [List.mem_cons, not_or] at h1 ⊢; exact ⟨h1.2.1, h1.1, h1.2.2⟩)]
    exact h2, fun b hb => w.dm b (by simp only [List.mem_cons] at hb ⊢; rcases hb with e | e | e <;> simp [e])⟩
  have w0 := swap (w'.own (o := .lst []) hD)
  have e0 : ∀ b o, H' b = some o → upd H' D (.lst []) b = some o := fun b o e => by rw [upd_ne (ne_of_none e hD)]; exact e
  refine walk_hp wk (fun i H1 => ∃ G1 acc ys, Same G' G1 ∧ Wd (a :: D :: O) G1 H1 ∧ (∀ b o, b ≠ a → b ≠ D → H' b = some o → H1 b = some o) ∧ Sto H1 a ∧ H1 D = some (.lst acc) ∧ Paired (q G1) acc ys ∧ Paired Y (xs.take i) ys ∧ acc.length ≤ i) ?_ (fun i H1 _ ⟨G1, acc, ys, s1, w1, _⟩ => hgd _ (s1.trans w1.to)) ?_ ?_
  · exact ⟨G', [], [], Same.refl _, w0, fun b o _ _ e => e0 b o e, st'.on e0, upd_same, .nil, .nil, Nat.le_refl _⟩
  · rintro i v H1 H2 hlt ⟨G1, acc, ys, s1, w1, kp, st1, eD, pr, py, hl⟩ yv
    obtain ⟨x, G2, hx, sh2, sg2, w2, hh⟩ := hy i H1 v H2 (a :: D :: O) G1 hlt s1 w1 yv
    refine hg (a :: D :: O) G2 H2 (wipe σ vs) v x _ w2 hh fun σ2 e => ⟨by rw [ho _ _ _ _ e, wipe_wipe], ?_⟩
    refine yes_go ?_
    refine he D i x G2 σ2 hx ((sg.trans s1).trans sg2) e H2 nD w2 (st1.on sh2) _ fun u H4 y s4 st4 hy4 hu => ?_
    have eD4 : H4 D = some (.lst acc) := s4 _ _ (Ne.symm na) (sh2 _ _ eD)
    have w4 := w2.sb s4 st4.ne
    have sg4 : Same G2 (wo H4 (a :: D :: O)) := w4.le
    refine ⟨acc, eD4, Nat.lt_of_le_of_lt hl (by rw [sizeLine_eq]; omega), wo H4 (a :: D :: O), acc ++ [u], ys ++ [y], (s1.trans sg2).trans sg4, w4.up.set (List.mem_cons_of_mem _ List.mem_cons_self), fun b o h1 h2 e => ?_, ?_, upd_same, ?_, ?_, by rw [List.length_append, List.length_singleton]; omega⟩
    · rw [upd_ne h2]
      exact s4 _ _ h1 (sh2 _ _ (kp b o h1 h2 e))
    · obtain ⟨a0, a1, a2, a3, a4, rest, ea, gd⟩ := st4
      exact ⟨a0, a1, a2, a3, a4, rest, by rw [upd_ne na]; exact ea, gd⟩
    · exact Paired.snoc (paired_mono (fun _ _ z => Mo.mo (sg2.trans sg4) z) pr) hu
    · rw [List.take_add_one, hx]
      exact Paired.snoc py hy4
  · rintro H1 ⟨G1, acc, ys, s1, w1, kp, st1, eD, pr, py, hl⟩
    rw [List.take_length] at py
    refine k (.ref D) H1 ys (fun b o h1 e => ?_) st1 py ⟨D, acc, rfl, ?_, paired_mono (fun _ _ z => Mo.mo (w1.le.trans fun b o e => ?_) z) pr⟩
    · have e' := sh _ _ e
      exact kp b o h1 (ne_of_none e' hD) e'
    · rw [wo_out (by simp only [List.mem_cons, not_or]; exact ⟨Ne.symm na, fun z => (w'.dm D (List.mem_cons_of_mem _ z)) hD⟩)]
      exact eD
    · obtain ⟨h1, h2⟩ := wo_some e
      rw [wo_out (by simp only [List.mem_cons, not_or] at h1 ⊢; exact ⟨h1.1, h1.2.2⟩)]
      exact h2
end
end Nb
set_option Elab.async false
set_option linter.all false
set_option maxRecDepth 100000
set_option maxHeartbeats 2000000
namespace Nb
open PySem L2
open PyProof.Rows (envOfC)
/-! ### expressions that leave the heap as it is, told value by value (the store's own defs) -/
def Tx (te : TE) (σ : St) (H : Hp) (v : V) : Prop := ∀ Q : VK, Q v H → te σ H Q
def Txt (t : TT) (σ : St) (H : Hp) (b : Bool) : Prop := ∀ Q : Bool → Hp → Prop, Q b H → t σ H Q
section
variable {a : Addr} {σ : St} {H : Hp} {ta tb te to ti : TE} {K : PySem.W.Frag} {D : Ends} {t1 t2 : TS} {v : V} {i j z : Int} {xs : List V} {n : Nat}
theorem tx_v (h : σ[n]? = some (some v)) : Tx (tVar n) σ H v := fun Q q => ⟨v, h, q⟩
theorem tx_i : Tx (tC v) σ H v := fun Q q => q
theorem tx_opJ {g : Int → Int → V} (ha : Tx ta σ H (.int i)) (hb : Tx tb σ H (.int j)) : Tx (tOp (rI0 g) ta tb) σ H (g i j) := fun Q q => ha _ (hb _ ⟨i, j, rfl, rfl, q⟩)
theorem tx_opI {g : Int → Int → V} {C : Int → Int → Prop} (ha : Tx ta σ H (.int i)) (hb : Tx tb σ H (.int j)) (hc : C i j) : Tx (tOp (rI C g) ta tb) σ H (g i j) := fun Q q => ha _ (hb _ ⟨i, j, rfl, rfl, hc, q⟩)
theorem tx_ix (ha : Tx ta σ H (.ref a)) (e : H a = some (.lst xs)) (hb : Tx tb σ H (.int z)) (hx : atI xs z = some v) : Tx (tOp (rIxL K) ta tb) σ H v := fun Q q => ha _ (hb _ ⟨a, xs, z, v, rfl, rfl, SqL.of e, hx, q⟩)
theorem tx_int (h : Tx te σ H (.int i)) : Tx (tCB rInt1 (tCons te tNil)) σ H (.int i) := fun Q q => h _ (.inl ⟨i, rfl, q⟩)
theorem tx_abs (h : Tx te σ H (.int i)) : Tx (tCB rAbs (tCons te tNil)) σ H (.int (i.natAbs : Int)) := fun Q q => h _ ⟨i, rfl, by
  have e : (if i < 0 then -i else i) = (i.natAbs : Int) := by split <;> omega
  show Q (.int (if i < 0 then -i else i)) H
  rw [e]
  exact q⟩
theorem tx_lenL (h : Tx te σ H (.ref a)) (e : H a = some (.lst xs)) : Tx (tCB (rLen K) (tCons te tNil)) σ H (.int (xs.length : Int)) := fun Q q => h _ ⟨.ref a, xs.length, rfl, lenV_L (O := []) ⟨a, rfl, SqL.of (by rw [wo_out (by simp)]; exact e)⟩, q⟩
theorem txt_opJ {g : Int → Int → Bool} (ha : Tx ta σ H (.int i)) (hb : Tx tb σ H (.int j)) : Txt (tTest (tOp (rI0 fun i j => .bl (g i j)) ta tb)) σ H (g i j) := fun Q q => ha _ (hb _ ⟨i, j, rfl, rfl, _, rfl, q⟩)
theorem txt_eq (ha : Tx ta σ H (.int i)) (hb : Tx tb σ H (.int j)) : Txt (tTest (tOp rEq ta tb)) σ H (decide (i = j)) := fun Q q => ha _ (hb _ ⟨rfl, _, rfl, by
  have e : decide (V.int i = V.int j) = decide (i = j) := by
    by_cases z : i = j
    · rw [z, decide_eq_true rfl, decide_eq_true rfl]
    · rw [decide_eq_false z, decide_eq_false (fun q => z (V.int.inj q))]
  rw [e]
  exact q⟩)
theorem txt_and {t u : TT} {b c : Bool} (h : Txt t σ H b) (g : b = true → Txt u σ H c) : Txt (tAnd t u) σ H (b && c) := fun Q q => h _ (by
  cases b with
  | true => exact iteT (g rfl _ q)
  | false => exact iteF q)
theorem txt_or {t u : TT} {b c : Bool} (h : Txt t σ H b) (g : b = false → Txt u σ H c) : Txt (tOr t u) σ H (b || c) := fun Q q => h _ (by
  cases b with
  | true => exact iteT q
  | false => exact iteF (g rfl _ q))
theorem Txt.eq {t : TT} {b c : Bool} (h : Txt t σ H b) (e : b = c) : Txt t σ H c := e ▸ h
theorem sx_asgL {k : Nat} (h : Tx te σ H v) (q : D.nx (σ.set k (some v)) H) : tAsg te (gName k) D σ H := h _ q
theorem sx_asg {k : Nat} (h : Tx te σ H v) (q : t2 D (σ.set k (some v)) H) : tSeq (tAsg te (gName k)) t2 D σ H := h _ q
theorem ixN_nat {m k : Nat} (h : k < m) : ixN m (k : Int) = some k := by
  unfold ixN
  rw [if_pos (by omega), if_pos (by omega), Int.toNat_natCast]
theorem sx_putL {k : Nat} (h : Tx te σ H v) (ho : Tx to σ H (.ref a)) (hi : Tx ti σ H (.int (k : Int))) (e : H a = some (.lst xs)) (hk : k < xs.length) (q : D.nx σ (upd H a (.lst (xs.set k v)))) : tAsg te (gSub to ti rSetL) D σ H :=
  h _ (ho _ (hi _ ⟨a, xs, (k : Int), k, rfl, rfl, e, ixN_nat hk, q⟩))
theorem sx_put {k : Nat} (h : Tx te σ H v) (ho : Tx to σ H (.ref a)) (hi : Tx ti σ H (.int (k : Int))) (e : H a = some (.lst xs)) (hk : k < xs.length) (q : t2 D σ (upd H a (.lst (xs.set k v)))) : tSeq (tAsg te (gSub to ti rSetL)) t2 D σ H := sx_putL (D := { D with nx := t2 D }) h ho hi e hk q
theorem sx_if {c : TT} {b : Bool} (h : Txt c σ H b) (h1 : b = true → t1 { D with nx := t2 D } σ H) (h2 : b = false → t2 D σ H) : tSeq (tIfS c t1 tNext) t2 D σ H := h _ (by
  cases b with
  | true => exact iteT (h1 rfl)
  | false => exact iteF (h2 rfl))
theorem sx_ifE {c : TT} {b : Bool} (h : Txt c σ H b) (h1 : b = true → t1 D σ H) (h2 : b = false → t2 D σ H) : tIfS c t1 t2 D σ H := h _ (by
  cases b with
  | true => exact iteT (h1 rfl)
  | false => exact iteF (h2 rfl))
theorem sx_ifJ {c : TT} {b : Bool} (J : St → Hp → Prop) (h : Txt c σ H b) (h1 : b = true → ∀ N : St → Hp → Prop, (∀ σ' H', J σ' H' → N σ' H') → t1 { D with nx := N } σ H) (h2 : b = false → J σ H) (h3 : ∀ σ' H', J σ' H' → t2 D σ' H') : tSeq (tIfS c t1 tNext) t2 D σ H := h _ (by
  cases b with
  | true => exact iteT (h1 rfl _ h3)
  | false => exact iteF (h3 _ _ (h2 rfl)))
theorem sx_ret (h : Tx te σ H v) (q : D.rt v H) : tRet te D σ H := h _ q
end
section
variable {P : Program} {w : World} {K : PySem.W.Frag} {mg : PySem.Str → Option Value} {base : Heap} {x qual : PySem.Str} {params : Arguments} {body : List Stmt} {scope : Scope} {dvs : List V} {kws : List (PySem.Str × V)} {f : Addr} {fd : FuncData} {N ps : List PySem.Str} {k : Nat} {sp : Sp}
theorem def_S {α β : Type} {ra : RA α} {pr : α → Prop} {r : Rl β} {Y : α → β → Prop} {n : Nat} [LenA ra n] (F : FunD K x qual params body scope dvs kws f fd) (S : FnScope N ps scope) (hn : ps.length = n + 1)
    (hbody : ∀ (cdv : Value) (A : Around) (outer : List Env) (s : Shared) (H : Hp) (E : XK) (O : List Addr) (G : Hp) (b : Addr) (vs : List V) (a : α), Room k (A.deeper (envOfC qual scope s.heap.objs.size f cdv)) → b ∉ O → Wd (b :: O) G H → Sto H b → ra G vs a → pr a →
      ∀ Q : VK, (∀ v H' y, Sb b H H' → Sto H' b → Y a y → r (wo H' (b :: O)) v y → Q v H') → ∃ t, PSs (Bx P w K mg base N qual scope f cdv A outer s H E) body t ∧ t { nx := fun _ H' => Q .non H', rt := Q } (start N (.ref b :: vs)) H) :
    FnOk P w K mg base CX0 (k + 1) f fd ps (spS ra pr r Y) := by
  refine F.ok S (fun vs H Q E h => ?_) (fun cdv A outer s H vs Q E hr h => ?_)
  · obtain ⟨O, b, ws, a, e, _, _, _, h, _⟩ := h
    subst e
    rw [List.length_cons, LenA.len _ _ _ h, hn]
  · obtain ⟨O, b, ws, a, e, nb, d, st, h, hp, q⟩ := h
    subst e
    obtain ⟨t, h1, h2⟩ := hbody cdv A outer s H E O _ b ws a hr nb (Wd.here d) st h hp Q q
    exact ⟨t, h1.nox, h2⟩
end
section
variable {α β γ : Type} {a : Addr} {O : List Addr} {σ : St} {G H : Hp} {te ta tb : TE} {Y : Int → Prop}
theorem tn_int (h : Tn a O te σ G qI Y) : Tn a O (tCB rInt1 (tCons te tNil)) σ G qI Y := fun H n w st Q k =>
  h H n w st _ fun v H1 y s1 st1 hy hv => .inl ⟨y, by rw [show v = .int y from hv], k _ _ y s1 st1 hy rfl⟩
theorem tn_opI {C : Int → Int → Prop} {g : Int → Int → Int} {Y Z W : Int → Prop} (ha : Tn a O ta σ G qI Y) (hb : Tn a O tb σ G qI Z) (hc : ∀ i j, Y i → Z j → C i j ∧ W (g i j)) : Tn a O (tOp (L2.rI C fun i j => .int (g i j)) ta tb) σ G qI W :=
  tn_op ha hb fun H' v u i j hi hj d hv hu Q k => ⟨i, j, hv, hu, (hc i j hi hj).1, k _ _ _ (Same.refl _) (hc i j hi hj).2 rfl⟩
end
section
variable {α β : Type} {a C : Addr} {O : List Addr} {σ : St} {G H : Hp} {K : PySem.W.Frag} {q : Rl β} {Y : α → Prop}
theorem tn_make {ra : RA α} {pr : α → Prop} {f : α → β} {t : TA} [MoA ra] (h : Tan a O t σ G ra Y) (p : ∀ x, Y x → pr x) : Tn a O (tMake C (spI C ra pr q f) [] E0 t) σ G q fun y => ∃ x, Y x ∧ y = f x := fun H n w st Q k =>
  h H n w st _ fun vs H1 x s1 st1 hx h1 p0 dx hp hd hne => by
    have n1 : ∀ b o, H1 b = some o → upd (upd H1 dx (.own p0)) p0 (.ins C dx []) b = some o := fun b o e => by
      rw [upd_ne (ne_of_none e hp), upd_ne (ne_of_none e hd)]
      exact e
    have dm := (w.sb s1 st1.ne).dm
    rw [List.append_nil]
    refine ⟨a :: O, p0, dx, vs, x, rfl, dom_new dm hp, upd_same, fun b hb => ?_, MoA.mo (fun b o e => ?_) h1, p x hx, fun H' sb hq => ?_⟩
    · rcases List.mem_cons.mp hb with e | e
      · rw [e, upd_same]
        simp
      · intro z
        cases q : H1 b with
        | none => exact dm b e q
        | some u => rw [n1 _ _ q] at z; cases z
    · obtain ⟨e1, e2⟩ := wo_some e
      rw [wo_out (by simp only [List.mem_cons, not_or]; exact ⟨ne_of_none e2 hp, by simpa using e1⟩)]
      exact n1 _ _ e2
    · have s2 : Same H1 H' := fun b o e => sb b o (ne_of_none e hp) (n1 b o e)
      exact ⟨rfl, k _ _ _ (s1.trans (Sb.of s2)) (st1.on s2) ⟨x, hx, rfl⟩ hq⟩
end
/-! lists written out -/
def raE {α : Type} (q : Rl α) (n : Nat) : RA (List α) := fun G vs xs => Paired (q G) vs xs ∧ xs.length = n
instance {α : Type} (q : Rl α) (n : Nat) : LenA (raE q n) n := ⟨fun G vs xs h => by rw [Paired.len h.1, h.2]⟩
instance {α : Type} (q : Rl α) (n : Nat) [Mo q] : MoA (raE q n) := ⟨fun s h => ⟨paired_mono (fun _ _ z => Mo.mo s z) h.1, h.2⟩⟩
section
variable {α : Type} {O : List Addr} {σ : St} {G H : Hp} {K : PySem.W.Frag} {q : Rl α} {te : TE} {t : TA} {x : α} {xs : List α} {n : Nat}
theorem ta_e0 : Ta O tNil σ G (raE q 0) [] := fun H w Q k => k [] H (Same.refl _) ⟨.nil, rfl⟩
theorem ta_e [Mo q] (h : Tv O te σ G q x) (g : Ta O t σ G (raE q n) xs) : Ta O (tCons te t) σ G (raE q (n + 1)) (x :: xs) := fun H w Q k =>
  ta_c h g H w Q fun vs H' s hh => by
    obtain ⟨v, ws, e, h1, h2, h3⟩ := hh
    subst e
    exact k _ H' s ⟨.cons h1 h2, by rw [List.length_cons, h3]⟩
theorem tv_lstE [Mo q] (h : Ta O t σ G (raE q n) xs) (hn : n ≤ 1000) : Tv O (tLst t) σ G (qL K q) xs := tv_lst h hn fun G v vs hv hx => ⟨vs, hv, hx.1⟩
end
section
variable {α : Type} {a : Addr} {O : List Addr} {σ : St} {G H : Hp} {D : Ends} {t1 t2 : TS}
theorem st_ifNJ {c : TT} {B : Bool → Prop} (J : St → Hp → Prop) (n : a ∉ O) (w : Wd (a :: O) G H) (st : Sto H a) (h : Tnt a O c σ G B) (h1 : B true → ∀ H', Sb a H H' → Wd (a :: O) G H' → Sto H' a → ∀ N : St → Hp → Prop, (∀ σ' H', J σ' H' → N σ' H') → t1 { D with nx := N } σ H') (h2 : B false → ∀ H', Sb a H H' → Wd (a :: O) G H' → Sto H' a → J σ H')
    (h3 : ∀ σ' H', J σ' H' → t2 D σ' H') : tSeq (tIfS c t1 tNext) t2 D σ H :=
  st_ifN n w st h (fun hb H' s w' st' => h1 hb H' s w' st' _ h3) fun hb H' s w' st' => h3 _ _ (h2 hb H' s w' st')
end
theorem Wd.sub {O O' : List Addr} {G H : Hp} (w : Wd O G H) (h : ∀ x, x ∈ O' → x ∈ O) : Wd O' G H := ⟨fun b o e => by
  obtain ⟨h1, h2⟩ := wo_some (w.le _ _ e)
  rw [wo_out (fun z => h1 (h _ z))]
  exact h2, fun b hb => w.dm b (h _ hb)⟩
section
variable {α β : Type} {a : Addr} {O : List Addr} {σ : St} {G H : Hp} {r : Rl α} {q : Rl β} {te : TE} {xs : List α} {Y : α → β → Prop}
/-- the list that a comprehension makes, still owned -/
theorem tn_mapO {wi : TI} {g : TG} {vs : List Nat} {E : Hp → α → St → St → Prop} [Mo q] (n : a ∉ O) (w : Wd (a :: O) G H) (st : Sto H a) (hi : Tit (a :: O) wi σ G r xs) (hg : Tg g r E) (ho : Own E vs) (hz : xs.length < 10000)
    (he : ∀ (D : Addr) (i : Nat) (x : α) (G1 : Hp) (σ2 : St), xs[i]? = some x → Same G G1 → E G1 x (wipe σ vs) σ2 → Tn a (D :: O) te σ2 G1 q (Y x)) (Q : VK)
    (k : ∀ p G' H' acc ys, H p = none → a ∉ p :: O → Same G G' → Wd (a :: p :: O) G' H' → Sb a H H' → Sto H' a → Paired Y xs ys → H' p = some (.lst acc) → Paired (q G') acc ys → Q (.ref p) H') : tLc wi g tYes te vs σ H Q := by
  refine hi H w _ fun It Gd Yw G' H' sh sg w' wk hgd hy => ?_
  intro D hD
  have st' := st.on sh
  have na : a ≠ D := fun z => st'.ne (by rw [z]; exact hD)
  have nD : a ∉ D :: O := by
    simp only [List.mem_cons, not_or]
    exact ⟨na, n⟩
  have hD0 : H D = none := by
    cases e : H D with
    | none => rfl
    | some o => rw [sh _ _ e] at hD; cases hD
  have swap : ∀ {G1 H1 : Hp}, Wd (D :: a :: O) G1 H1 → Wd (a :: D :: O) G1 H1 := fun w => w.sub fun x hx => by simp only [List.mem_cons] at hx ⊢; rcases hx with e | e | e <;> simp [e]
  have w0 := swap (w'.own (o := .lst []) hD)
  have e0 : ∀ b o, H' b = some o → upd H' D (.lst []) b = some o := fun b o e => by rw [upd_ne (ne_of_none e hD)]; exact e
  refine walk_hp wk (fun i H1 => ∃ G1 acc ys, Same G' G1 ∧ Wd (a :: D :: O) G1 H1 ∧ (∀ b o, b ≠ a → b ≠ D → H' b = some o → H1 b = some o) ∧ Sto H1 a ∧ H1 D = some (.lst acc) ∧ Paired (q G1) acc ys ∧ Paired Y (xs.take i) ys ∧ acc.length ≤ i) ?_ (fun i H1 _ ⟨G1, acc, ys, s1, w1, _⟩ => hgd _ (s1.trans w1.to)) ?_ ?_
  · exact ⟨G', [], [], Same.refl _, w0, fun b o _ _ e => e0 b o e, st'.on e0, upd_same, .nil, .nil, Nat.le_refl _⟩
  · rintro i v H1 H2 hlt ⟨G1, acc, ys, s1, w1, kp, st1, eD, pr, py, hl⟩ yv
    obtain ⟨x, G2, hx, sh2, sg2, w2, hh⟩ := hy i H1 v H2 (a :: D :: O) G1 hlt s1 w1 yv
    refine hg (a :: D :: O) G2 H2 (wipe σ vs) v x _ w2 hh fun σ2 e => ⟨by rw [ho _ _ _ _ e, wipe_wipe], ?_⟩
    refine yes_go ?_
    refine he D i x G2 σ2 hx ((sg.trans s1).trans sg2) e H2 nD w2 (st1.on sh2) _ fun u H4 y s4 st4 hy4 hu => ?_
    have eD4 : H4 D = some (.lst acc) := s4 _ _ (Ne.symm na) (sh2 _ _ eD)
    have w4 := w2.sb s4 st4.ne
    have sg4 : Same G2 (wo H4 (a :: D :: O)) := w4.le
    refine ⟨acc, eD4, Nat.lt_of_le_of_lt hl (by rw [sizeLine_eq]; omega), wo H4 (a :: D :: O), acc ++ [u], ys ++ [y], (s1.trans sg2).trans sg4, w4.up.set (List.mem_cons_of_mem _ List.mem_cons_self), fun b o h1 h2 e => ?_, ?_, upd_same, ?_, ?_, by rw [List.length_append, List.length_singleton]; omega⟩
    · rw [upd_ne h2]
      exact s4 _ _ h1 (sh2 _ _ (kp b o h1 h2 e))
    · obtain ⟨a0, a1, a2, a3, a4, rest, ea, gd⟩ := st4
      exact ⟨a0, a1, a2, a3, a4, rest, by rw [upd_ne na]; exact ea, gd⟩
    · exact Paired.snoc (paired_mono (fun _ _ z => Mo.mo (sg2.trans sg4) z) pr) hu
    · rw [List.take_add_one, hx]
      exact Paired.snoc py hy4
  · rintro H1 ⟨G1, acc, ys, s1, w1, kp, st1, eD, pr, py, hl⟩
    rw [List.take_length] at py
    refine k D G1 H1 acc ys hD0 nD (sg.trans s1) w1 (fun b o h1 e => ?_) st1 py eD pr
    have e' := sh _ _ e
    exact kp b o h1 (ne_of_none e' hD) e'
end
section
variable {O : List Addr} {σ : St} {G H : Hp} {D : Ends} {t0 t1 t2 : TS}
theorem st_ifEJ {c : TT} {b : Bool} (J : St → Hp → Prop) (w : Wd O G H) (h : Tt O c σ G b) (h1 : b = true → ∀ H', Same H H' → Wd O G H' → ∀ N : St → Hp → Prop, (∀ σ' H', J σ' H' → N σ' H') → t0 { D with nx := N } σ H') (h2 : b = false → ∀ H', Same H H' → Wd O G H' → ∀ N : St → Hp → Prop, (∀ σ' H', J σ' H' → N σ' H') → t1 { D with nx := N } σ H')
    (h3 : ∀ σ' H', J σ' H' → t2 D σ' H') : tSeq (tIfS c t0 t1) t2 D σ H := h H w _ fun H' s => by
  cases b with
  | true => exact iteT (h1 rfl H' s (w.same s) _ h3)
  | false => exact iteF (h2 rfl H' s (w.same s) _ h3)
end
section
variable {α β : Type} {a : Addr} {O : List Addr} {σ : St} {G H : Hp} {r : Rl α} {q : Rl β} {te : TE} {xs : List α} {Y : α → β → Prop} {D : Ends} {t2 : TS} {i : Nat}
theorem st_mapOL {wi : TI} {g : TG} {vs : List Nat} {E : Hp → α → St → St → Prop} [Mo q] (n : a ∉ O) (w : Wd (a :: O) G H) (st : Sto H a) (hi : Tit (a :: O) wi σ G r xs) (hg : Tg g r E) (ho : Own E vs) (hz : xs.length < 10000)
    (he : ∀ (D : Addr) (i : Nat) (x : α) (G1 : Hp) (σ2 : St), xs[i]? = some x → Same G G1 → E G1 x (wipe σ vs) σ2 → Tn a (D :: O) te σ2 G1 q (Y x))
    (k : ∀ p G' H' acc ys, H p = none → a ∉ p :: O → Same G G' → Wd (a :: p :: O) G' H' → Sb a H H' → Sto H' a → Paired Y xs ys → H' p = some (.lst acc) → Paired (q G') acc ys → D.nx (σ.set i (some (.ref p))) H') : tAsg (tLc wi g tYes te vs) (gName i) D σ H :=
  tn_mapO n w st hi hg ho hz he _ k
theorem st_mapO {wi : TI} {g : TG} {vs : List Nat} {E : Hp → α → St → St → Prop} [Mo q] (n : a ∉ O) (w : Wd (a :: O) G H) (st : Sto H a) (hi : Tit (a :: O) wi σ G r xs) (hg : Tg g r E) (ho : Own E vs) (hz : xs.length < 10000)
    (he : ∀ (D : Addr) (i : Nat) (x : α) (G1 : Hp) (σ2 : St), xs[i]? = some x → Same G G1 → E G1 x (wipe σ vs) σ2 → Tn a (D :: O) te σ2 G1 q (Y x))
    (k : ∀ p G' H' acc ys, H p = none → a ∉ p :: O → Same G G' → Wd (a :: p :: O) G' H' → Sb a H H' → Sto H' a → Paired Y xs ys → H' p = some (.lst acc) → Paired (q G') acc ys → t2 D (σ.set i (some (.ref p))) H') : tSeq (tAsg (tLc wi g tYes te vs) (gName i)) t2 D σ H :=
  st_mapOL (D := { D with nx := t2 D }) n w st hi hg ho hz he k
end
end Nb
set_option Elab.async false
set_option linter.all false
set_option maxRecDepth 100000
set_option maxHeartbeats 2000000
namespace Nb
open PySem L2
open PyProof.Rows (envOfC)
/-! ### loops whose range is drawn, appending what is drawn -/
def Tnit {α : Type} (a : Addr) (O : List Addr) (wi : TI) (σ : St) (G : Hp) (r : Rl α) (Yn : List α → Prop) : Prop :=
  ∀ H, a ∉ O → Wd (a :: O) G H → Sto H a → ∀ R : It → Hp → Prop,
    (∀ (J : It) (Gd : Hp → Prop) (Y : Nat → Hp → V → Hp → Prop) (G' H' : Hp) (xs : List α), Yn xs → Sb a H H' → Sto H' a → Same G G' → Wd (a :: O) G' H' → Walk J xs.length Gd Y → (∀ H'', Same G' H'' → Gd H'') →
      (∀ i H1 v H2 O1 G1, i < xs.length → Same G' G1 → Wd O1 G1 H1 → Y i H1 v H2 → ∃ x G2, xs[i]? = some x ∧ Same H1 H2 ∧ Same G1 G2 ∧ Wd O1 G2 H2 ∧ Has r G2 v x) → R J H') → wi σ H R
section
variable {α β γ : Type} {a : Addr} {O : List Addr} {σ : St} {G H : Hp} {r : Rl α} {q : Rl β} {te ta tb : TE} {K : PySem.W.Frag} {D : Ends} {t0 t1 t2 : TS}
theorem nit_rng1 {Z : Nat → Prop} (h : Tn a O te σ G qI fun i => ∃ n : Nat, i = n ∧ n < 1000000 ∧ Z n) : Tnit a O (iRng1 (tCons te tNil)) σ G qN fun xs => ∃ n, Z n ∧ xs = List.range n := fun H nb w st R k =>
  h H nb w st _ fun v H1 i s1 st1 hy h1 => by
    obtain ⟨n, rfl, hn, hz⟩ := hy
    refine ⟨(n : Int), by rw [show v = .int (n : Int) from h1], by omega, by omega, ?_⟩
    have w1 := w.sb s1 st1.ne
    refine k _ _ _ (wo H1 (a :: O)) H1 (List.range n) ⟨n, hz, rfl⟩ s1 st1 w1.le w1.up (by rw [List.length_range]; exact walk_range) (fun _ _ => trivial) ?_
    rintro i Ha v Hb O1 G1 hi sg w1 ⟨rfl, e⟩
    rw [List.length_range] at hi
    refine ⟨i, G1, by simp [hi], Same.refl _, Same.refl _, w1, ⟨?_⟩⟩
    rw [e]
    show V.int (0 + (i : Int)) = V.int (i : Int)
    rw [Int.zero_add]
theorem st_forN {wi : TI} {g : TG} {tb t2 : TS} {D : Ends} {E : Hp → α → St → St → Prop} {Yn : List α → Prop} (n : a ∉ O) (w : Wd (a :: O) G H) (st : Sto H a) (hi : Tnit a O wi σ G r Yn) (hg : Tg g r E) (J : List α → Nat → St → Hp → Hp → Prop)
    (h0 : ∀ xs G' H', Yn xs → Same G G' → Sb a H H' → Sto H' a → Wd (a :: O) G' H' → J xs 0 σ G' H')
    (hs : ∀ xs i x σ1 G1 H1 G2 H2 σ2, Yn xs → xs[i]? = some x → J xs i σ1 G1 H1 → Same G G1 → Same G1 G2 → Same H1 H2 → Wd (a :: O) G2 H2 → E G2 x σ1 σ2 →
      ∀ N : St → Hp → Prop, (∀ σ' G' H', Same G2 G' → Wd (a :: O) G' H' → J xs (i + 1) σ' G' H' → N σ' H') → tb { nx := N, rt := D.rt, ct := N, bk := t2 D } σ2 H2)
    (hd : ∀ xs σ' G' H', Yn xs → Same G G' → Wd (a :: O) G' H' → J xs xs.length σ' G' H' → t2 D σ' H') : tSeq (tFor wi g tb) t2 D σ H := by
  refine hi H n w st _ fun It Gd Y G' H' xs yn sh st' sg w' wk hgd hy => ?_
  refine for_it wk (fun i σ1 H1 => ∃ G1, Same G' G1 ∧ Wd (a :: O) G1 H1 ∧ J xs i σ1 G1 H1) ⟨G', Same.refl _, w', h0 xs G' H' yn sg sh st' w'⟩ (fun i σ1 H1 _ ⟨G1, s1, w1, _⟩ => hgd _ (s1.trans w1.to)) ?_ (fun σ1 H1 ⟨G1, s1, w1, j⟩ => hd xs σ1 G1 H1 yn (sg.trans s1) w1 j)
  rintro i v σ1 H1 H2 hlt ⟨G1, s1, w1, j⟩ y
  obtain ⟨x, G2, hx, sh2, sg2, w2, hh⟩ := hy i H1 v H2 (a :: O) G1 hlt s1 w1 y
  refine hg (a :: O) G2 H2 σ1 v x _ w2 hh fun σ2 e => ?_
  exact hs xs i x σ1 G1 H1 G2 H2 σ2 yn hx j (sg.trans s1) sg2 sh2 w2 e _ fun σ' G'' H'' sg' w'' j' => ⟨G'', (s1.trans sg2).trans sg', w'', j'⟩
/-- x.append(e), e drawn -/
theorem st_appNL {j : Nat} {p : Addr} {acc : List V} {Y : β → Prop} (n : a ∉ p :: O) (w : Wd (a :: p :: O) G H) (st : Sto H a) (hj : σ[j]? = some (some (.ref p))) (e : H p = some (.lst acc)) (hz : acc.length < 10000) (h : ∀ Q : VK, (∀ v H' y, Sb a H H' → Sto H' a → Y y → q (wo H' (a :: p :: O)) v y → Q v H') → te σ H Q)
    (k : ∀ v G' H' y, Same G G' → Wd (a :: p :: O) G' H' → Sto H' a → (∀ b o, b ≠ a → b ≠ p → H b = some o → H' b = some o) → Y y → q G' v y → H' p = some (.lst (acc ++ [v])) → D.nx σ H') : tDrop (tBM K "list" rAppend (tVar j) (tCons te tNil)) D σ H := by
  refine ⟨_, hj, .inl ⟨rfl, acc, SqL.of e⟩, h _ fun v H1 y s1 st1 hy h1 => ?_⟩
  have np : p ≠ a := fun z => n (by rw [z]; exact List.mem_cons_self)
  refine ⟨p, acc, v, rfl, rfl, s1 _ _ np e, by rw [sizeLine_eq]; omega, ?_⟩
  have w1 := w.sb s1 st1.ne
  refine k v _ _ y w1.le (w1.up.set (List.mem_cons_of_mem _ List.mem_cons_self)) ?_ (fun b o h1 h2 z => ?_) hy h1 upd_same
  · obtain ⟨a0, a1, a2, a3, a4, rest, ea, gd⟩ := st1
    exact ⟨a0, a1, a2, a3, a4, rest, by rw [upd_ne (Ne.symm np)]; exact ea, gd⟩
  · rw [upd_ne h2]
    exact s1 _ _ h1 z
theorem tnt_of {t : TT} {b : Bool} (h : Tt (a :: O) t σ G b) : Tnt a O t σ G fun c => c = b := fun H _ w st Q k => h H w _ fun H1 s1 => k _ _ (Sb.of s1) (st.on s1) rfl
theorem tnt_and {t u : TT} {A B : Bool → Prop} (h : Tnt a O t σ G A) (g : A true → Tnt a O u σ G B) : Tnt a O (tAnd t u) σ G fun b => b = true → A true ∧ B true := fun H n w st Q k => h H n w st _ fun b H1 s1 st1 hb => by
  cases b with
  | true => exact iteT (g hb H1 n (w.sb s1 st1.ne) st1 _ fun c H2 s2 st2 hc => k _ _ (s1.trans s2) st2 fun z => by cases z; exact ⟨hb, hc⟩)
  | false => exact iteF (k _ _ s1 st1 fun z => nomatch z)
theorem st_ifNE {c : TT} {B : Bool → Prop} (n : a ∉ O) (w : Wd (a :: O) G H) (st : Sto H a) (h : Tnt a O c σ G B) (h1 : B true → ∀ H', Sb a H H' → Wd (a :: O) G H' → Sto H' a → t0 D σ H') (h2 : B false → ∀ H', Sb a H H' → Wd (a :: O) G H' → Sto H' a → t1 D σ H') : tIfS c t0 t1 D σ H :=
  h H n w st _ fun b H1 s1 st1 hb => by
    cases b with
    | true => exact iteT (h1 hb _ s1 (w.sb s1 st1.ne) st1)
    | false => exact iteF (h2 hb _ s1 (w.sb s1 st1.ne) st1)
end
end Nb
set_option Elab.async false
set_option linter.all false
namespace Nb
/-! ### fractions: what the program's arithmetic makes of core's Rat -/
def Sm (i : Int) : Prop := i.natAbs < 2 ^ 4000
def Bq (x : Rat) : Prop := Sm x.num ∧ Sm x.den
theorem gcd_step (a b : Int) : Int.gcd b (a % b) = Int.gcd a b := by
  have e : a % b = a - b * (a / b) := by have := Int.mul_ediv_add_emod a b; omega
  rw [e, Int.gcd_comm a b]
  rw [show a - b * (a / b) = a + b * (-(a / b)) by rw [Int.mul_neg]; omega]
  exact Int.gcd_add_mul_left_right _ _ _
theorem gcd_pos {a b : Int} (h : 0 < b) : 0 < (Int.gcd a b : Int) := by
  have : 0 < Int.gcd a b := Int.gcd_pos_of_ne_zero_right _ (by omega)
  omega
theorem gcd_le {a b : Int} (h : 0 < b) : (Int.gcd a b : Int) ≤ b := Int.le_of_dvd h (Int.gcd_dvd_right _ _)
theorem Sm.le {a b : Int} (h : Sm b) (h0 : 0 ≤ a) (h1 : a ≤ b) : Sm a := Nat.lt_of_le_of_lt (by omega) h
theorem Sm.nat {n : Nat} (h : n < 2 ^ 4000) : Sm (n : Int) := h
theorem sm_small {i : Int} (h : i.natAbs < 1000000000000) : Sm i := Nat.lt_trans h (by decide +kernel)
/-- the two parts of a fraction, brought down -/
theorem low_num {p q : Int} (h : 0 < q) : p / (Int.gcd p q : Int) = (mkRat p q.toNat).num := by
  rw [Rat.num_mkRat, if_neg (by omega)]
  have e : (Int.gcd p q : Nat) = q.toNat.gcd p.natAbs := by
    rw [Int.gcd_eq_natAbs_gcd_natAbs, Nat.gcd_comm]
    congr 1
    omega
  rw [e]
theorem low_den {p q : Int} (h : 0 < q) : q / (Int.gcd p q : Int) = ((mkRat p q.toNat).den : Int) := by
  rw [Rat.den_mkRat, if_neg (by omega)]
  have e : (Int.gcd p q : Nat) = q.toNat.gcd p.natAbs := by
    rw [Int.gcd_eq_natAbs_gcd_natAbs, Nat.gcd_comm]
    congr 1
    omega
  rw [e, Int.natCast_ediv]
  congr 1
  omega
theorem den_pos (x : Rat) : 0 < (x.den : Int) := by have := x.den_pos; omega
theorem mkRat_nd (x : Rat) : mkRat x.num (x.den : Int).toNat = x := by rw [Int.toNat_natCast, Rat.mkRat_self]
theorem mkRat_int (i : Int) : mkRat i (1 : Int).toNat = (i : Rat) := by
  rw [show (1 : Int).toNat = 1 from rfl, Rat.mkRat_eq_div]
  show (i : Rat) / 1 = i
  grind
/-- the sum, by the two branches -/
theorem add_one {x y : Rat} (h : Int.gcd (x.den : Int) y.den = 1) : x.num * y.den + y.num * x.den = (x + y).num ∧ (x.den : Int) * y.den = ((x + y).den : Int) := by
  have e : x.den.gcd y.den = 1 := h
  have k : (x + y) = Rat.add x y := rfl
  rw [k]
  unfold Rat.add
  rw [dif_pos e]
  exact ⟨rfl, Int.natCast_mul _ _ ▸ rfl⟩
theorem add_num {x y : Rat} (h : ¬ (Int.gcd (x.den : Int) y.den : Int) = 1) :
    (x.num * ((y.den : Int) / (Int.gcd (x.den : Int) y.den : Int)) + y.num * ((x.den : Int) / (Int.gcd (x.den : Int) y.den : Int))) /
      (Int.gcd (x.num * ((y.den : Int) / (Int.gcd (x.den : Int) y.den : Int)) + y.num * ((x.den : Int) / (Int.gcd (x.den : Int) y.den : Int))) (Int.gcd (x.den : Int) y.den : Int) : Int) = (x + y).num ∧
    ((x.den : Int) / (Int.gcd (x.den : Int) y.den : Int)) * ((y.den : Int) /
      (Int.gcd (x.num * ((y.den : Int) / (Int.gcd (x.den : Int) y.den : Int)) + y.num * ((x.den : Int) / (Int.gcd (x.den : Int) y.den : Int))) (Int.gcd (x.den : Int) y.den : Int) : Int)) = ((x + y).den : Int) := by
  have e : ¬ x.den.gcd y.den = 1 := fun z => h (by show ((x.den.gcd y.den : Nat) : Int) = 1; rw [z]; rfl)
  have k : (x + y) = Rat.add x y := rfl
  have eg : Int.gcd (x.den : Int) y.den = x.den.gcd y.den := rfl
  rw [k]
  unfold Rat.add
  rw [dif_neg e]
  dsimp only
  rw [Rat.maybeNormalize_eq]
  simp only [eg, ← Int.natCast_ediv]
  refine ⟨?_, ?_⟩
  · rw [Int.gcd_eq_natAbs_gcd_natAbs]
    rfl
  · rw [Int.gcd_eq_natAbs_gcd_natAbs]
    simp only [Int.natAbs_natCast]
    rw [← Int.natCast_mul]
    congr 1
    rw [Nat.mul_div_assoc]
    exact Nat.dvd_trans (Nat.gcd_dvd_right _ _) (Nat.gcd_dvd_right _ _)
theorem mul_parts (x y : Rat) : (x.num / (Int.gcd x.num y.den : Int)) * (y.num / (Int.gcd y.num x.den : Int)) = (x * y).num ∧ ((x.den : Int) / (Int.gcd y.num x.den : Int)) * ((y.den : Int) / (Int.gcd x.num y.den : Int)) = ((x * y).den : Int) := by
  have k : (x * y) = Rat.mul x y := rfl
  rw [k]
  unfold Rat.mul
  dsimp only
  refine ⟨?_, ?_⟩
  · rw [Int.divExact_eq_ediv, Int.divExact_eq_ediv]
    rfl
  · rw [Nat.divExact_eq_div, Nat.divExact_eq_div]
    rw [Int.natCast_mul, Int.natCast_ediv, Int.natCast_ediv]
    rfl
/-- -1, 0, 1 -/
def cmpI (a b : Int) : Int := if a < b then -1 else if b < a then 1 else 0
def cmpQ (x y : Rat) : Int := if x < y then -1 else if y < x then 1 else 0
theorem mkRat_lt {p q a b : Int} (hq : 0 < q) (hb : 0 < b) : mkRat p q.toNat < mkRat a b.toNat ↔ p * b < a * q := by
  rw [Rat.mkRat_eq_div, Rat.mkRat_eq_div]
  have h1 : (0 : Rat) < (q.toNat : Rat) := by rw [Rat.natCast_pos]; omega
  have h2 : (0 : Rat) < (b.toNat : Rat) := by rw [Rat.natCast_pos]; omega
  rw [Rat.div_lt_iff h1]
  have e : (a : Rat) / (b.toNat : Rat) * (q.toNat : Rat) = ((a : Rat) * (q.toNat : Rat)) / (b.toNat : Rat) := by
    rw [Rat.div_def, Rat.div_def]; grind
  rw [e, Rat.lt_div_iff h2]
  have e1 : (q.toNat : Rat) = ((q : Int) : Rat) := by rw [← Rat.intCast_natCast]; congr 1; omega
  have e2 : (b.toNat : Rat) = ((b : Int) : Rat) := by rw [← Rat.intCast_natCast]; congr 1; omega
  rw [e1, e2, ← Rat.intCast_mul, ← Rat.intCast_mul, Rat.intCast_lt_intCast]
theorem cmp_eq {p q a b : Int} (hq : 0 < q) (hb : 0 < b) : cmpI (p * b) (a * q) = cmpQ (mkRat p q.toNat) (mkRat a b.toNat) := by
  unfold cmpI cmpQ
  simp only [mkRat_lt hq hb, mkRat_lt hb hq]
end Nb
set_option Elab.async false
set_option linter.all false
namespace Nb
/-! ### rows, beginnings -/
def nextL (n : Nat) (ts : List (List Nat)) : List (List Nat) := ts.flatMap fun t => (List.range n).map fun d => t ++ [d]
def rowsL (n : Nat) : Nat → List (List Nat)
  | 0 => [[]]
  | k + 1 => nextL n (rowsL n k)
def begL (n : Nat) : Nat → List (List Nat)
  | 0 => []
  | k + 1 => begL n k ++ rowsL n k
def mostR (n : Nat) : Nat := [8, 8, 5, 4, 3].getD (n - 1) 0
def Shape (n R : Nat) : Prop := 1 ≤ n ∧ n ≤ 5 ∧ R ≤ mostR n
theorem nextL_len (n : Nat) : ∀ ts : List (List Nat), (nextL n ts).length = ts.length * n
  | [] => by simp [nextL]
  | t :: ts => by
    have := nextL_len n ts
    unfold nextL at *
    rw [List.flatMap_cons, List.length_append, this, List.length_map, List.length_range, List.length_cons, Nat.succ_mul, Nat.add_comm]
theorem rowsL_len (n k : Nat) : (rowsL n k).length = n ^ k := by
  induction k with
  | zero => rfl
  | succ k ih => rw [rowsL, nextL_len, ih, Nat.pow_succ]
theorem nextL_at {n : Nat} {ts : List (List Nat)} {t : List Nat} (h : t ∈ nextL n ts) : ∃ u d, u ∈ ts ∧ d < n ∧ t = u ++ [d] := by
  unfold nextL at h
  rw [List.mem_flatMap] at h
  obtain ⟨u, hu, h⟩ := h
  rw [List.mem_map] at h
  obtain ⟨d, hd, e⟩ := h
  exact ⟨u, d, hu, List.mem_range.mp hd, e.symm⟩
theorem rowsL_at {n : Nat} : ∀ {k : Nat} {t : List Nat}, t ∈ rowsL n k → t.length = k ∧ ∀ d ∈ t, d < n
  | 0, t, h => by
    rw [show t = [] from by simpa [rowsL] using h]
    exact ⟨rfl, fun _ z => by cases z⟩
  | k + 1, t, h => by
    obtain ⟨u, d, hu, hd, rfl⟩ := nextL_at h
    obtain ⟨h1, h2⟩ := rowsL_at hu
    refine ⟨by rw [List.length_append, h1]; rfl, fun e he => ?_⟩
    rcases List.mem_append.mp he with q | q
    · exact h2 e q
    · rw [List.mem_singleton.mp q]
      exact hd
theorem pow_small {n R : Nat} (h : Shape n R) {k : Nat} (hk : k ≤ R) : n ^ k ≤ 256 := by
  obtain ⟨h1, h2, h3⟩ := h
  have e : n = 1 ∨ n = 2 ∨ n = 3 ∨ n = 4 ∨ n = 5 := by omega
  have up : n ^ k ≤ n ^ mostR n := Nat.pow_le_pow_right h1 (Nat.le_trans hk h3)
  refine Nat.le_trans up ?_
  rcases e with rfl | rfl | rfl | rfl | rfl <;> decide
theorem begL_len (n k : Nat) : (begL n k).length ≤ k * n ^ k + k := by
  induction k with
  | zero => simp [begL]
  | succ k ih =>
    rw [begL, List.length_append, rowsL_len]
    by_cases hn : n = 0
    · subst hn
      have : (0 : Nat) ^ k ≤ 1 := by cases k <;> simp
      have h2 : (0 : Nat) ^ (k + 1) = 0 := by simp
      rw [h2]
      cases k with
      | zero => simp [begL]
      | succ k => simp at *; omega
    · have h1 : n ^ k ≤ n ^ (k + 1) := Nat.pow_le_pow_right (by omega) (by omega)
      have h2 : k * n ^ k ≤ k * n ^ (k + 1) := Nat.mul_le_mul_left _ h1
      rw [Nat.succ_mul]
      omega

/-! ### where a text stands -/
def Dig (n : Nat) (t : List Nat) : Prop := ∀ d ∈ t, d < n
def ridx (n : Nat) (t : List Nat) : Nat := t.foldl (fun a d => a * n + d) 0
def bidx (n : Nat) (t : List Nat) : Nat := t.foldl (fun a d => a * n + 1 + d) 0
theorem ridx_snoc {n : Nat} {t : List Nat} {d : Nat} : ridx n (t ++ [d]) = ridx n t * n + d := by
  unfold ridx
  rw [List.foldl_append]
  rfl
theorem bidx_snoc {n : Nat} {t : List Nat} {d : Nat} : bidx n (t ++ [d]) = bidx n t * n + 1 + d := by
  unfold bidx
  rw [List.foldl_append]
  rfl
theorem flat_at {α β : Type} {f : α → List β} {n : Nat} (hf : ∀ x, (f x).length = n) : ∀ {xs : List α} {i d : Nat} {x : α}, xs[i]? = some x → d < n → (xs.flatMap f)[i * n + d]? = (f x)[d]?
  | [], _, _, _, h, _ => by simp at h
  | y :: ys, 0, d, x, h, hd => by
    cases (show some y = some x from h)
    rw [List.flatMap_cons, Nat.zero_mul, Nat.zero_add, List.getElem?_append_left (by rw [hf]; exact hd)]
  | y :: ys, i + 1, d, x, h, hd => by
    rw [List.flatMap_cons, List.getElem?_append_right (by rw [hf, Nat.succ_mul]; omega), hf]
    have e : (i + 1) * n + d - n = i * n + d := by rw [Nat.succ_mul]; omega
    rw [e]
    exact flat_at hf (by simpa using h) hd
theorem nextL_get {n : Nat} {ts : List (List Nat)} {i d : Nat} {t : List Nat} (h : ts[i]? = some t) (hd : d < n) : (nextL n ts)[i * n + d]? = some (t ++ [d]) := by
  unfold nextL
  rw [flat_at (f := fun t => (List.range n).map fun d => t ++ [d]) (n := n) (fun x => by rw [List.length_map, List.length_range]) h hd]
  simp [hd]
theorem snoc_cases {α : Type} (t : List α) : t = [] ∨ ∃ u d, t = u ++ [d] := by
  rcases List.eq_nil_or_concat t with h | ⟨u, d, h⟩
  · exact .inl h
  · exact .inr ⟨u, d, by rw [h, List.concat_eq_append]⟩
theorem Dig.snoc {n d : Nat} {u : List Nat} (h : Dig n (u ++ [d])) : Dig n u ∧ d < n := ⟨fun e he => h e (List.mem_append_left _ he), h d (by simp)⟩
theorem Dig.app {n d : Nat} {u : List Nat} (h : Dig n u) (hd : d < n) : Dig n (u ++ [d]) := fun e he => by
  rcases List.mem_append.mp he with q | q
  · exact h e q
  · rw [List.mem_singleton.mp q]
    exact hd
theorem rowsL_get {n : Nat} : ∀ {k : Nat} {t : List Nat}, t.length = k → Dig n t → (rowsL n k)[ridx n t]? = some t
  | 0, t, h, _ => by
    rw [List.length_eq_zero_iff.mp h]
    rfl
  | k + 1, t, h, hd => by
    rcases snoc_cases t with e | ⟨u, d, e⟩
    · rw [e] at h; cases h
    · subst e
      obtain ⟨h1, h2⟩ := hd.snoc
      rw [ridx_snoc, rowsL]
      exact nextL_get (rowsL_get (by rw [List.length_append] at h; simpa using h) h1) h2
theorem begL_succ_len (n k : Nat) : (begL n (k + 1)).length = (begL n k).length * n + 1 := by
  have st : ∀ j, (begL n (j + 1)).length = (begL n j).length + n ^ j := fun j => by
    show (begL n j ++ rowsL n j).length = _
    rw [List.length_append, rowsL_len]
  induction k with
  | zero => simp [begL, rowsL]
  | succ k ih =>
    have h := st k
    rw [ih] at h
    have h2 : ((begL n k).length * n + 1) * n = (begL n k).length * n + n ^ k * n := by rw [h, Nat.add_mul]
    rw [st (k + 1), ih, h2, Nat.pow_succ]
    omega
theorem bidx_eq {n : Nat} : ∀ {k : Nat} {t : List Nat}, t.length = k → bidx n t = (begL n k).length + ridx n t
  | 0, t, h => by
    rw [List.length_eq_zero_iff.mp h]
    rfl
  | k + 1, t, h => by
    rcases snoc_cases t with e | ⟨u, d, e⟩
    · rw [e] at h; cases h
    · subst e
      rw [bidx_snoc, ridx_snoc, begL_succ_len, bidx_eq (k := k) (by rw [List.length_append] at h; simpa using h), Nat.add_mul]
      omega
theorem begL_get {n : Nat} {t : List Nat} (hd : Dig n t) : ∀ {R : Nat}, t.length < R → (begL n R)[bidx n t]? = some t
  | 0, h => by omega
  | R + 1, h => by
    rw [begL]
    by_cases e : t.length = R
    · rw [bidx_eq e, List.getElem?_append_right (by omega)]
      rw [Nat.add_sub_cancel_left]
      exact rowsL_get e hd
    · have g := begL_get hd (R := R) (by omega)
      rw [List.getElem?_append_left (List.getElem?_eq_some_iff.mp g).1]
      exact g
theorem begL_at {n : Nat} : ∀ {R : Nat} {t : List Nat}, t ∈ begL n R → t.length < R ∧ Dig n t
  | 0, t, h => by cases h
  | R + 1, t, h => by
    rcases List.mem_append.mp h with h | h
    · have := begL_at h
      exact ⟨by omega, this.2⟩
    · have := rowsL_at h
      exact ⟨by omega, this.2⟩
/-- a place of the list, back to the text -/
theorem rowsL_idx {n k : Nat} {i : Nat} {t : List Nat} (h : (rowsL n k)[i]? = some t) : ridx n t = i := by
  induction k generalizing i t with
  | zero =>
    cases i with
    | zero => cases (show some [] = some t from h); rfl
    | succ i => simp [rowsL] at h
  | succ k ih =>
    have hn : 0 < n := by
      obtain ⟨u, d, _, hd, _⟩ := nextL_at (List.mem_of_getElem? h)
      omega
    have hi := (List.getElem?_eq_some_iff.mp h).1
    rw [rowsL, nextL_len] at hi
    have hq : i / n < (rowsL n k).length := Nat.div_lt_of_lt_mul (by rw [Nat.mul_comm]; exact hi)
    have hr : i % n < n := Nat.mod_lt _ hn
    have g := nextL_get (List.getElem?_eq_getElem hq) hr
    rw [Nat.mul_comm, Nat.div_add_mod] at g
    rw [rowsL, g] at h
    cases h
    rw [ridx_snoc, ih (List.getElem?_eq_getElem hq), Nat.mul_comm, Nat.div_add_mod]
theorem begL_idx {n : Nat} {i : Nat} {t : List Nat} : ∀ {R : Nat}, (begL n R)[i]? = some t → bidx n t = i
  | 0, h => by simp [begL] at h
  | R + 1, h => by
    rw [begL] at h
    by_cases hi : i < (begL n R).length
    · rw [List.getElem?_append_left hi] at h
      exact begL_idx h
    · rw [List.getElem?_append_right (by omega)] at h
      rw [bidx_eq (rowsL_at (List.mem_of_getElem? h)).1, rowsL_idx h]
      omega
/-! ### misses, means: functions of texts -/
def misP (p : List Nat → List Rat) : List Nat → List Nat → Rat → Rat
  | _, [], a => a
  | pre, d :: r, a => misP p (pre ++ [d]) r (a + (1 - (p pre).getD d 0))
def mis (p : List Nat → List Rat) (t : List Nat) : Rat := misP p [] t 0
theorem misP_snoc (p : List Nat → List Rat) (d : Nat) : ∀ (r pre : List Nat) (a : Rat), misP p pre (r ++ [d]) a = misP p pre r a + (1 - (p (pre ++ r)).getD d 0)
  | [], pre, a => by simp [misP]
  | e :: r, pre, a => by
    show misP p (pre ++ [e]) (r ++ [d]) _ = misP p (pre ++ [e]) r _ + _
    rw [misP_snoc p d r, List.append_assoc]
    rfl
theorem mis_nil (p : List Nat → List Rat) : mis p [] = 0 := rfl
theorem mis_snoc (p : List Nat → List Rat) (t : List Nat) (d : Nat) : mis p (t ++ [d]) = mis p t + (1 - (p t).getD d 0) := by
  unfold mis
  rw [misP_snoc]
  rfl
def dotR (xs ys : List Rat) : Rat := (xs.zip ys).foldl (fun a p => a + p.1 * p.2) 0
/-- a value at each text: at the rows c, ahead of them by step -/
def upF (n : Nat) (step : List Nat → List Rat → Rat) (c : List Nat → Rat) : Nat → List Nat → Rat
  | 0, t => c t
  | k + 1, t => step t ((List.range n).map fun d => upF n step c k (t ++ [d]))
theorem begL_n {n R : Nat} (h : Shape n R) : (begL n R).length * n ≤ 3000 := by
  have h1 := begL_succ_len n R
  have h2 : (begL n (R + 1)).length = (begL n R).length + n ^ R := by
    show (begL n R ++ rowsL n R).length = _
    rw [List.length_append, rowsL_len]
  have h3 : n ^ R ≤ 256 := pow_small h (Nat.le_refl _)
  have h4 : (begL n R).length ≤ R * n ^ R + R := begL_len n R
  have h5 : R ≤ 8 := by
    obtain ⟨a, b, c⟩ := h
    have : n = 1 ∨ n = 2 ∨ n = 3 ∨ n = 4 ∨ n = 5 := by omega
    rcases this with rfl | rfl | rfl | rfl | rfl <;> simp [mostR] at c <;> omega
  have h6 : R * n ^ R ≤ 8 * 256 := Nat.mul_le_mul h5 h3
  omega
theorem dropLast_snoc {t : List Nat} (h : t ≠ []) : ∃ d, t = t.dropLast ++ [d] := by
  rcases snoc_cases t with e | ⟨u, d, e⟩
  · exact absurd e h
  · exact ⟨d, by rw [e]; simp⟩
theorem bidx_up {n : Nat} {t : List Nat} {d : Nat} (hn : 0 < n) : bidx n t < bidx n (t ++ [d]) := by
  rw [bidx_snoc]
  have := Nat.le_mul_of_pos_right (bidx n t) hn
  omega
theorem bidx_inj {n R : Nat} {t u : List Nat} (ht : t.length < R) (hu : u.length < R) (dt : Dig n t) (du : Dig n u) (e : bidx n t = bidx n u) : t = u := by
  have h1 := begL_get dt ht
  have h2 := begL_get du hu
  rw [e, h2] at h1
  exact (Option.some.inj h1).symm
theorem begL_lt {n R : Nat} {t : List Nat} (ht : t.length < R) (dt : Dig n t) : bidx n t < (begL n R).length := (List.getElem?_eq_some_iff.mp (begL_get dt ht)).1
end Nb
set_option Elab.async false
set_option linter.all false
namespace Nb
/-! ### numbers with a common denominator -/
structure La (D b : Nat) (x : Rat) : Prop where
  d : 0 < D
  k : ∃ k : Int, x * (D : Rat) = (k : Rat) ∧ k.natAbs ≤ b * D
theorem La.add {D b c : Nat} {x y : Rat} (h : La D b x) (g : La D c y) : La D (b + c) (x + y) := by
  obtain ⟨d, k, e, l⟩ := h
  obtain ⟨_, j, e2, l2⟩ := g
  refine ⟨d, k + j, by rw [Rat.add_mul, e, e2, Rat.intCast_add], ?_⟩
  rw [Nat.add_mul]
  have := Int.natAbs_add_le k j
  omega
theorem La.neg {D b : Nat} {x : Rat} (h : La D b x) : La D b (-x) := by
  obtain ⟨d, k, e, l⟩ := h
  exact ⟨d, -k, by rw [Rat.neg_mul, e, Rat.intCast_neg], by rw [Int.natAbs_neg]; exact l⟩
theorem La.sub {D b c : Nat} {x y : Rat} (h : La D b x) (g : La D c y) : La D (b + c) (x - y) := by
  rw [Rat.sub_eq_add_neg]
  exact h.add g.neg
theorem La.mono {D b c : Nat} {x : Rat} (h : La D b x) (l : b ≤ c) : La D c x := ⟨h.d, let ⟨k, e, q⟩ := h.k; ⟨k, e, Nat.le_trans q (Nat.mul_le_mul_right _ l)⟩⟩
theorem La.up {D b m : Nat} {x : Rat} (h : La D b x) (hm : 0 < m) : La (D * m) b x := by
  obtain ⟨d, k, e, l⟩ := h
  refine ⟨Nat.mul_pos d hm, k * m, ?_, ?_⟩
  · rw [Rat.natCast_mul, ← Rat.mul_assoc, e, Rat.intCast_mul]
    rfl
  · rw [Int.natAbs_mul, Int.natAbs_natCast, ← Nat.mul_assoc]
    exact Nat.mul_le_mul_right _ l
theorem La.mul {D D' b c : Nat} {x y : Rat} (h : La D b x) (g : La D' c y) : La (D * D') (b * c) (x * y) := by
  obtain ⟨d, k, e, l⟩ := h
  obtain ⟨d', j, e2, l2⟩ := g
  refine ⟨Nat.mul_pos d d', k * j, ?_, ?_⟩
  · rw [Rat.natCast_mul, Rat.intCast_mul, ← e, ← e2]
    grind
  · rw [Int.natAbs_mul]
    have := Nat.mul_le_mul l l2
    have e3 : b * c * (D * D') = b * D * (c * D') := by
      rw [Nat.mul_assoc, Nat.mul_assoc, Nat.mul_left_comm c D D']
    omega
theorem La.div {D b n : Nat} {x : Rat} (h : La D b x) (hn : 0 < n) : La (D * n) b (x / (n : Rat)) := by
  obtain ⟨d, k, e, l⟩ := h
  have hz : (n : Rat) ≠ 0 := by
    intro z
    have : (0 : Rat) < (n : Rat) := Rat.natCast_pos.mpr hn
    rw [z] at this
    exact absurd this (by decide)
  refine ⟨Nat.mul_pos d hn, k, ?_, ?_⟩
  · rw [Rat.natCast_mul, ← e]
    grind
  · have : b * D ≤ b * (D * n) := Nat.mul_le_mul_left _ (Nat.le_mul_of_pos_right _ hn)
    omega
theorem La.zero {D : Nat} (h : 0 < D) (b : Nat) : La D b 0 := ⟨h, 0, by simp, by simp⟩
theorem La.one {D : Nat} (h : 0 < D) : La D 1 1 := ⟨h, D, by rw [Rat.one_mul]; rfl, by rw [Int.natAbs_natCast]; omega⟩
theorem La.bq {D b : Nat} {x : Rat} (h : La D b x) (h1 : D < 2 ^ 4000) (h2 : b * D < 2 ^ 4000) : Bq x := by
  obtain ⟨d, k, e, l⟩ := h
  have hz : (D : Rat) ≠ 0 := by
    intro z
    have : (0 : Rat) < (D : Rat) := Rat.natCast_pos.mpr d
    rw [z] at this
    exact absurd this (by decide)
  have ex : x = mkRat k D := by
    rw [Rat.mkRat_eq_div, ← e]
    grind
  constructor
  · show x.num.natAbs < 2 ^ 4000
    rw [ex, Rat.num_mkRat]
    rw [if_neg (by omega)]
    refine Nat.lt_of_le_of_lt ?_ (Nat.lt_of_le_of_lt l h2)
    exact Int.natAbs_ediv_le_natAbs _ _
  · show ((x.den : Int)).natAbs < 2 ^ 4000
    rw [Int.natAbs_natCast, ex, Rat.den_mkRat, if_neg (by omega)]
    exact Nat.lt_of_le_of_lt (Nat.div_le_self _ _) h1
/-! ### sums -/
def sumQ (xs : List Rat) : Rat := xs.foldl (· + ·) 0
theorem fold_add (xs : List Rat) (a : Rat) : xs.foldl (· + ·) a = a + xs.foldl (· + ·) 0 := by
  induction xs generalizing a with
  | nil => exact (Rat.add_zero a).symm
  | cons x xs ih =>
    rw [List.foldl_cons, List.foldl_cons, ih, ih (0 + x)]
    grind
theorem sumQ_cons (x : Rat) (xs : List Rat) : sumQ (x :: xs) = x + sumQ xs := by
  unfold sumQ
  rw [List.foldl_cons, fold_add]
  grind
theorem sumQ_nil : sumQ [] = 0 := rfl
theorem La.sum {D b : Nat} (hD : 0 < D) : ∀ {xs : List Rat}, (∀ x ∈ xs, La D b x) → La D (b * xs.length) (sumQ xs)
  | [], _ => La.zero hD _
  | x :: xs, h => by
    rw [sumQ_cons, List.length_cons, Nat.mul_succ, Nat.add_comm]
    exact (h x List.mem_cons_self).add (La.sum hD fun y hy => h y (List.mem_cons_of_mem _ hy))
theorem sum_split (p : Rat → Bool) : ∀ xs : List Rat, sumQ xs = sumQ (xs.filter p) + sumQ (xs.filter fun x => !p x)
  | [] => (Rat.add_zero 0).symm
  | x :: xs => by
    rw [sumQ_cons, sum_split p xs]
    by_cases h : p x = true
    · rw [List.filter_cons_of_pos h, List.filter_cons_of_neg (by simp [h]), sumQ_cons]
      grind
    · rw [List.filter_cons_of_neg h, List.filter_cons_of_pos (by simp [h]), sumQ_cons]
      grind
theorem len_split (p : Rat → Bool) : ∀ xs : List Rat, xs.length = (xs.filter p).length + (xs.filter fun x => !p x).length
  | [] => rfl
  | x :: xs => by
    rw [List.length_cons, len_split p xs]
    by_cases h : p x = true
    · rw [List.filter_cons_of_pos h, List.filter_cons_of_neg (by simp [h]), List.length_cons]
      omega
    · rw [List.filter_cons_of_neg h, List.filter_cons_of_pos (by simp [h]), List.length_cons]
      omega
theorem natCast_succ' (n : Nat) : ((n + 1 : Nat) : Rat) = (n : Rat) + 1 := by
  rw [Rat.natCast_add]
  rfl
theorem sum_ge {T : Rat} : ∀ {xs : List Rat}, (∀ x ∈ xs, T ≤ x) → T * (xs.length : Rat) ≤ sumQ xs
  | [], _ => by
    show T * ((0 : Nat) : Rat) ≤ 0
    have : ((0 : Nat) : Rat) = 0 := rfl
    rw [this]
    grind
  | x :: xs, h => by
    have h1 := h x List.mem_cons_self
    have h2 := sum_ge (T := T) (xs := xs) fun y hy => h y (List.mem_cons_of_mem _ hy)
    rw [sumQ_cons, List.length_cons, natCast_succ']
    grind
/-! ### the height -/
def topQ (xs : List Rat) : Rat := (1 + sumQ xs) / (xs.length : Rat)
def lowL (xs : List Rat) (h : Rat) : List Rat := xs.filter fun x => decide (x < h)
def hgtF : Nat → List Rat → Rat
  | 0, _ => 0
  | f + 1, xs => if (lowL xs (topQ xs)).length = xs.length then topQ xs else hgtF f (lowL xs (topQ xs))
def hgt (xs : List Rat) : Rat := hgtF xs.length xs
theorem len_pos {xs : List Rat} (h : xs ≠ []) : (0 : Rat) < (xs.length : Rat) := Rat.natCast_pos.mpr (List.length_pos_iff.mpr h)
theorem topQ_eq {xs : List Rat} (h : xs ≠ []) : topQ xs * (xs.length : Rat) = 1 + sumQ xs := by
  have := len_pos h
  unfold topQ
  have hz : (xs.length : Rat) ≠ 0 := by
    intro z
    rw [z] at this
    exact absurd this (by decide)
  grind
theorem low_ne {xs : List Rat} (h : xs ≠ []) : lowL xs (topQ xs) ≠ [] := by
  intro z
  have h1 : ∀ x ∈ xs, topQ xs ≤ x := fun x hx => by
    have : x ∉ lowL xs (topQ xs) := by rw [z]; simp
    unfold lowL at this
    rw [List.mem_filter] at this
    simp only [hx, true_and, decide_eq_true_eq] at this
    grind
  have h2 := sum_ge h1
  rw [topQ_eq h] at h2
  grind
theorem low_top {xs : List Rat} (h : xs ≠ []) : topQ (lowL xs (topQ xs)) ≤ topQ xs := by
  have hl := low_ne h
  have e1 := topQ_eq h
  have e2 := topQ_eq hl
  have hp := len_pos hl
  have s1 := sum_split (fun x => decide (x < topQ xs)) xs
  have s2 := len_split (fun x => decide (x < topQ xs)) xs
  have s3 : topQ xs * (((xs.filter fun x => !decide (x < topQ xs)).length : Nat) : Rat) ≤ sumQ (xs.filter fun x => !decide (x < topQ xs)) := sum_ge fun x hx => by
    have := (List.mem_filter.mp hx).2
    simp only [Bool.not_eq_true', decide_eq_false_iff_not] at this
    grind
  have s4 : (xs.length : Rat) = ((lowL xs (topQ xs)).length : Rat) + (((xs.filter fun x => !decide (x < topQ xs)).length : Nat) : Rat) := by
    rw [← Rat.natCast_add]
    exact congrArg _ s2
  have s5 : sumQ xs = sumQ (lowL xs (topQ xs)) + sumQ (xs.filter fun x => !decide (x < topQ xs)) := s1
  -- 1 + sum low ≤ top * len low
  have key : topQ (lowL xs (topQ xs)) * ((lowL xs (topQ xs)).length : Rat) ≤ topQ xs * ((lowL xs (topQ xs)).length : Rat) := by
    rw [e2]
    rw [s4, s5] at e1
    grind
  exact Rat.le_of_mul_le_mul_right key hp
theorem filter_filter_low {xs : List Rat} {h T : Rat} (l : h ≤ T) : lowL (lowL xs T) h = lowL xs h := by
  unfold lowL
  rw [List.filter_filter]
  congr 1
  funext x
  by_cases q : x < h
  · have : x < T := by grind
    simp [q, this]
  · simp [q]
theorem hgtF_spec : ∀ (f : Nat) (xs : List Rat), xs ≠ [] → xs.length ≤ f → hgtF f xs ≤ topQ xs ∧ lowL xs (hgtF f xs) ≠ [] ∧ hgtF f xs * ((lowL xs (hgtF f xs)).length : Rat) = 1 + sumQ (lowL xs (hgtF f xs))
  | 0, xs, h, l => absurd (List.length_eq_zero_iff.mp (by omega)) h
  | f + 1, xs, h, l => by
    unfold hgtF
    by_cases e : (lowL xs (topQ xs)).length = xs.length
    · rw [if_pos e]
      have e2 : lowL xs (topQ xs) = xs := by
        unfold lowL at e ⊢
        exact List.length_filter_eq_length_iff.mp e |> fun q => List.filter_eq_self.mpr q
      rw [e2]
      exact ⟨by grind, h, topQ_eq h⟩
    · rw [if_neg e]
      have hl := low_ne h
      have lt : (lowL xs (topQ xs)).length < xs.length := by
        have : (lowL xs (topQ xs)).length ≤ xs.length := List.length_filter_le _ _
        omega
      obtain ⟨i1, i2, i3⟩ := hgtF_spec f _ hl (by omega)
      have hle := low_top h
      have l2 : hgtF f (lowL xs (topQ xs)) ≤ topQ xs := by grind
      rw [filter_filter_low l2] at i2 i3
      exact ⟨l2, i2, i3⟩
theorem hgt_spec {xs : List Rat} (h : xs ≠ []) : lowL xs (hgt xs) ≠ [] ∧ hgt xs * ((lowL xs (hgt xs)).length : Rat) = 1 + sumQ (lowL xs (hgt xs)) := (hgtF_spec _ xs h (Nat.le_refl _)).2
theorem hgtF_more : ∀ (f g : Nat) (xs : List Rat), xs ≠ [] → xs.length ≤ f → xs.length ≤ g → hgtF f xs = hgtF g xs
  | 0, _, xs, h, l, _ => absurd (List.length_eq_zero_iff.mp (by omega)) h
  | _, 0, xs, h, _, l => absurd (List.length_eq_zero_iff.mp (by omega)) h
  | f + 1, g + 1, xs, h, l, l' => by
    unfold hgtF
    by_cases e : (lowL xs (topQ xs)).length = xs.length
    · rw [if_pos e, if_pos e]
    · rw [if_neg e, if_neg e]
      have : (lowL xs (topQ xs)).length ≤ xs.length := List.length_filter_le _ _
      exact hgtF_more f g _ (low_ne h) (by omega) (by omega)
/-- what the kept ones say -/
theorem hgt_low {xs : List Rat} (h : xs ≠ []) (e : ¬ (lowL xs (topQ xs)).length = xs.length) : hgt xs = hgt (lowL xs (topQ xs)) := by
  have hl := low_ne h
  have lt : (lowL xs (topQ xs)).length ≤ xs.length := List.length_filter_le _ _
  obtain ⟨m, hm⟩ : ∃ m, xs.length = m + 1 := ⟨xs.length - 1, by have := List.length_pos_iff.mpr h; omega⟩
  have e1 : hgt xs = hgtF (m + 1) xs := by unfold hgt; rw [hm]
  have e2 : hgtF (m + 1) xs = if (lowL xs (topQ xs)).length = xs.length then topQ xs else hgtF m (lowL xs (topQ xs)) := rfl
  rw [e1, e2, if_neg e]
  exact hgtF_more _ _ _ hl (by omega) (Nat.le_refl _)
theorem hgt_top {xs : List Rat} (h : xs ≠ []) (e : (lowL xs (topQ xs)).length = xs.length) : hgt xs = topQ xs := by
  obtain ⟨m, hm⟩ : ∃ m, xs.length = m + 1 := ⟨xs.length - 1, by have := List.length_pos_iff.mpr h; omega⟩
  have e1 : hgt xs = hgtF (m + 1) xs := by unfold hgt; rw [hm]
  have e2 : hgtF (m + 1) xs = if (lowL xs (topQ xs)).length = xs.length then topQ xs else hgtF m (lowL xs (topQ xs)) := rfl
  rw [e1, e2, if_pos e]
theorem hgtF_sub : ∀ (f : Nat) (xs : List Rat), xs ≠ [] → xs.length ≤ f → ∃ ys : List Rat, ys ≠ [] ∧ (∀ y ∈ ys, y ∈ xs) ∧ ys.length ≤ xs.length ∧ hgtF f xs = topQ ys
  | 0, xs, h, l => absurd (List.length_eq_zero_iff.mp (by omega)) h
  | f + 1, xs, h, l => by
    unfold hgtF
    by_cases e : (lowL xs (topQ xs)).length = xs.length
    · rw [if_pos e]
      exact ⟨xs, h, fun _ z => z, Nat.le_refl _, rfl⟩
    · rw [if_neg e]
      have l2 : (lowL xs (topQ xs)).length ≤ xs.length := List.length_filter_le _ _
      obtain ⟨ys, h1, h2, h3, h4⟩ := hgtF_sub f _ (low_ne h) (by omega)
      exact ⟨ys, h1, fun y hy => (List.mem_filter.mp (h2 y hy)).1, by omega, h4⟩
theorem hgt_sub {xs : List Rat} (h : xs ≠ []) : ∃ ys : List Rat, ys ≠ [] ∧ (∀ y ∈ ys, y ∈ xs) ∧ ys.length ≤ xs.length ∧ hgt xs = topQ ys := hgtF_sub _ xs h (Nat.le_refl _)
theorem la60 {D b k : Nat} {x : Rat} (h : La (D * k) b x) (h1 : 0 < k) (h5 : k ≤ 5) : La (D * 60) b x := by
  have : k = 1 ∨ k = 2 ∨ k = 3 ∨ k = 4 ∨ k = 5 := by omega
  rcases this with rfl | rfl | rfl | rfl | rfl
  · exact (by simpa [Nat.mul_assoc] using h.up (m := 60) (by decide))
  · exact (by simpa [Nat.mul_assoc] using h.up (m := 30) (by decide))
  · exact (by simpa [Nat.mul_assoc] using h.up (m := 20) (by decide))
  · exact (by simpa [Nat.mul_assoc] using h.up (m := 15) (by decide))
  · exact (by simpa [Nat.mul_assoc] using h.up (m := 12) (by decide))
theorem topQ_la {D b : Nat} {ys : List Rat} (h : ys ≠ []) (h5 : ys.length ≤ 5) (hl : ∀ y ∈ ys, La D b y) (hD : 0 < D) : La (D * 60) (1 + b * 5) (topQ ys) := by
  have h0 : 0 < ys.length := List.length_pos_iff.mpr h
  have s1 := (La.one hD).add (La.sum hD hl)
  have s2 : La D (1 + b * 5) (1 + sumQ ys) := s1.mono (by have := Nat.mul_le_mul_left b h5; omega)
  exact la60 (s2.div h0) h0 h5
theorem hgt_la {D b : Nat} {xs : List Rat} (h : xs ≠ []) (h5 : xs.length ≤ 5) (hl : ∀ y ∈ xs, La D b y) (hD : 0 < D) : La (D * 60) (1 + b * 5) (hgt xs) := by
  obtain ⟨ys, h1, h2, h3, h4⟩ := hgt_sub h
  rw [h4]
  exact topQ_la h1 (by omega) (fun y hy => hl y (h2 y hy)) hD
/-! ### what is poured, the even chances -/
def pourQ (xs : List Rat) : List Rat := xs.map fun x => if x < hgt xs then hgt xs - x else 0
theorem pour_sum (h : Rat) : ∀ xs : List Rat, sumQ (xs.map fun x => if x < h then h - x else 0) = h * ((lowL xs h).length : Rat) - sumQ (lowL xs h)
  | [] => by
    show (0 : Rat) = h * ((0 : Nat) : Rat) - 0
    have : ((0 : Nat) : Rat) = 0 := rfl
    rw [this]
    grind
  | x :: xs => by
    rw [List.map_cons, sumQ_cons, pour_sum h xs]
    unfold lowL
    by_cases e : x < h
    · rw [if_pos e, List.filter_cons_of_pos (by simpa using e), List.length_cons, sumQ_cons, natCast_succ']
      grind
    · rw [if_neg e, List.filter_cons_of_neg (by simpa using e)]
      grind
theorem pour_one {xs : List Rat} (h : xs ≠ []) : sumQ (pourQ xs) = 1 := by
  unfold pourQ
  rw [pour_sum]
  have := (hgt_spec h).2
  grind
def reachN (xs : List Rat) : Nat := (xs.filter fun x => decide (x ≤ hgt xs)).length
def evenQ (xs : List Rat) : List Rat := xs.map fun x => if x ≤ hgt xs then 1 / (reachN xs : Rat) else 0
theorem reach_pos {xs : List Rat} (h : xs ≠ []) : 0 < reachN xs := by
  obtain ⟨h1, _⟩ := hgt_spec h
  obtain ⟨x, hx⟩ := List.exists_mem_of_ne_nil _ h1
  obtain ⟨a, b⟩ := List.mem_filter.mp hx
  refine List.length_pos_of_mem (a := x) (List.mem_filter.mpr ⟨a, ?_⟩)
  simp only [decide_eq_true_eq] at b ⊢
  grind
theorem reach_le (xs : List Rat) : reachN xs ≤ xs.length := List.length_filter_le _ _
theorem even_sum (h c : Rat) : ∀ xs : List Rat, sumQ (xs.map fun x => if x ≤ h then c else 0) = c * ((xs.filter fun x => decide (x ≤ h)).length : Rat)
  | [] => by
    show (0 : Rat) = c * ((0 : Nat) : Rat)
    have : ((0 : Nat) : Rat) = 0 := rfl
    rw [this]
    grind
  | x :: xs => by
    rw [List.map_cons, sumQ_cons, even_sum h c xs]
    by_cases e : x ≤ h
    · rw [if_pos e, List.filter_cons_of_pos (by simpa using e), List.length_cons, natCast_succ']
      grind
    · rw [if_neg e, List.filter_cons_of_neg (by simpa using e)]
      grind
theorem inv_cancel {m : Nat} (h : 0 < m) : (1 / (m : Rat)) * (m : Rat) = 1 := by
  have h1 : (0 : Rat) < (m : Rat) := Rat.natCast_pos.mpr h
  have hz : (m : Rat) ≠ 0 := by
    intro z
    rw [z] at h1
    exact absurd h1 (by decide)
  grind
theorem even_one {xs : List Rat} (h : xs ≠ []) : sumQ (evenQ xs) = 1 := by
  unfold evenQ
  rw [even_sum]
  exact inv_cancel (reach_pos h)
/-- the height by the reached ones -/
theorem reach_eq_aux (h : Rat) : ∀ xs : List Rat, h * ((xs.filter fun x => decide (x ≤ h)).length : Rat) - sumQ (xs.filter fun x => decide (x ≤ h)) = h * ((lowL xs h).length : Rat) - sumQ (lowL xs h)
  | [] => rfl
  | x :: xs => by
    have ih := reach_eq_aux h xs
    unfold lowL at ih ⊢
    by_cases e : x < h
    · have e2 : x ≤ h := by grind
      rw [List.filter_cons_of_pos (by simpa using e2), List.filter_cons_of_pos (by simpa using e), List.length_cons, List.length_cons, sumQ_cons, sumQ_cons, natCast_succ', natCast_succ']
      grind
    · by_cases e2 : x ≤ h
      · have e3 : x = h := by grind
        rw [List.filter_cons_of_pos (by simpa using e2), List.filter_cons_of_neg (by simpa using e), List.length_cons, sumQ_cons, natCast_succ']
        grind
      · rw [List.filter_cons_of_neg (by simpa using e2), List.filter_cons_of_neg (by simpa using e)]
        exact ih
theorem reach_eq {xs : List Rat} (h : xs ≠ []) : hgt xs * (reachN xs : Rat) = 1 + sumQ (xs.filter fun x => decide (x ≤ hgt xs)) := by
  have h1 := reach_eq_aux (hgt xs) xs
  have h2 := (hgt_spec h).2
  unfold reachN
  grind
theorem sum_take_la {D b : Nat} (hD : 0 < D) {xs : List Rat} (h : ∀ x ∈ xs, La D b x) (i : Nat) : La D (b * xs.length) (sumQ (xs.take i)) :=
  (La.sum hD fun x hx => h x (List.mem_of_mem_take hx)).mono (Nat.mul_le_mul_left _ (by rw [List.length_take]; omega))
theorem la_bq {D b : Nat} {x : Rat} (h : La D b x) (hD : D < 2 ^ 3000) (hb : b ≤ 2 ^ 100) : Bq x := by
  refine h.bq (Nat.lt_trans hD (Nat.pow_lt_pow_right (by decide) (by decide))) ?_
  have h1 : b * D ≤ 2 ^ 100 * D := Nat.mul_le_mul_right _ hb
  have h2 : 2 ^ 100 * D < 2 ^ 100 * 2 ^ 3000 := Nat.mul_lt_mul_of_pos_left hD (Nat.pow_pos (by decide))
  have h3 : 2 ^ 100 * 2 ^ 3000 = 2 ^ 3100 := by rw [← Nat.pow_add]
  have h4 : 2 ^ 3100 < 2 ^ 4000 := Nat.pow_lt_pow_right (by decide) (by decide)
  omega
end Nb
set_option Elab.async false
set_option linter.all false
set_option maxRecDepth 100000
set_option maxHeartbeats 4000000
namespace Nb
open PySem L2
open PyProof.Rows (envOfC)
/-- a number, by its value: its parts are small -/
def qR (K : PySem.W.Frag) : Rl Rat := fun G v x => ∃ p q, qNu K G v (p, q) ∧ 0 < q ∧ Sm p ∧ Sm q ∧ x = mkRat p q.toNat
instance (K : PySem.W.Frag) : Mo (qR K) := ⟨fun s ⟨p, q, h, t⟩ => ⟨p, q, Mo.mo s h, t⟩⟩
theorem qR_of {K : PySem.W.Frag} {G : Hp} {v : V} {x : Rat} (b : Bq x) (h : qQ K G v x) : qR K G v x := ⟨x.num, x.den, .inr (qQ_pr h), den_pos x, b.1, b.2, (mkRat_nd x).symm⟩
theorem qR_int {K : PySem.W.Frag} {G : Hp} {v : V} {i : Int} (b : Sm i) (h : qI G v i) : qR K G v (i : Rat) := ⟨i, 1, .inl ⟨h, rfl⟩, by decide, b, sm_small (by decide), (mkRat_int i).symm⟩
section
variable {P : Program} {w : World} {K : PySem.W.Frag} {mg : PySem.Str → Option Value} {base : Heap}
theorem sc_is_integer_value : FnScope n_is_integer_value ["value"] (defScope s_is_integer_value) := ⟨rfl, rfl, rfl, by decide +kernel, rfl, by decide +kernel, by decide +kernel⟩
/-- an int, or not -/
def qIn (K : PySem.W.Frag) : Rl Bool := fun G v b => (b = true ∧ ∃ i, v = .int i) ∨ (b = false ∧ ∃ vs, qTv K G v vs)
instance (K : PySem.W.Frag) : Mo (qIn K) := ⟨fun s h => h.elim .inl fun ⟨a, vs, h⟩ => .inr ⟨a, vs, Mo.mo s h⟩⟩
theorem tv_isiA {O : List Addr} {σ : St} {G : Hp} {te : TE} {b : Bool} {n : String} {i t : Bool} (h : Tv O te σ G (qIn K) b) (hi : kitB "int" n = some i) (ht : kitB "tuple" n = some t) : Tv O (tCB (rIsi K) (tCons te (tCons (tC (.ty n)) tNil))) σ G qB (if b = true then i else t) := fun H w Q kk =>
  h H w _ fun v H1 s1 h1 => by
    rcases h1 with ⟨e, j, ev⟩ | ⟨e, vs, hv⟩
    · subst e ev
      exact ⟨.int j, .ty n, _, _, i, rfl, .ty n, .base (.int _), kit_ty hi, kk _ _ s1 rfl⟩
    · subst e
      exact ⟨v, .ty n, _, _, t, rfl, .ty n, ty_tup (Mo.mo wo_le hv), kit_ty ht, kk _ _ s1 rfl⟩
theorem ok_is_integer_value (T : Ctx P w K mg base) : Pro P w K mg base "is_integer_value" ["value"] 1 (spP (raC (qIn K) raN) (fun _ => True) qB fun x => x.1) := by
  refine mk_pro T.d_is_integer_value (fun _ _ _ _ _ _ us hl => match us, hl with | [_], _ => rfl) fun f fd F => ?_
  refine def1 F sc_is_integer_value rfl fun cdv A outer s H E O G 
    u b hr wd hu _ Q k => ⟨_, (pss_one (ps_ret (pe_and (c_isinstance (K := K) rfl T.n_isinstance (pa_cons (pv 0) (pa_cons (peTy T.n_int PyProof.Rows.boot_int) pa_nil))) (pe_one (pe_not (c_isinstance (K := K) rfl T.n_isinstance (pa_cons (pv 0) (pa_cons (peTy T.n_bool PyProof.Rows.boot_bool) pa_nil)))))))), ?_⟩
  refine st_ret wd (tv_and (tv_isiA (i := true) (t := false) (tv_v rfl hu) (by decide +kernel) (by decide +kernel)) fun _ => tv_not (tv_isiA (i := false) (t := false) (tv_v rfl hu) (by decide +kernel) (by decide +kernel))) fun v H' s hv => k v H' s ?_
  rw [show v = _ from hv]
  cases b <;> rfl
theorem sc_parts_of : FnScope n_parts_of ["value"] (defScope s_parts_of) := ⟨rfl, rfl, rfl, by decide +kernel, rfl, by decide +kernel, by decide +kernel⟩
theorem ok_parts_of (T : Ctx P w K mg base) : Pro P w K mg base "parts_of" ["value"] 2 (spP (raC (qNu K) raN) (fun x => 0 < x.1.2) (qPr K) fun x => x.1) := by
  refine mk_pro T.d_parts_of (fun _ _ _ _ _ _ us hl => match us, hl with | [_], _ => rfl) fun f fd F => ?_
  refine def1 F sc_parts_of rfl fun cdv A outer s H E O G 
    u a hr wd hu hp Q k => ⟨_, (pss_cons (ps_if (pt_val (pe_cl (ok_is_integer_value T) hr (pa_cons (pv 0) pa_nil))) (pss_one (ps_ret (pe_tup (pa_cons (pv 0) (pa_cons pe_int pa_nil))))) pss_nil)
      (pss_cons (ps_if (PW.pt (pw_or (pt_not (pt_val (c_isinstance (K := K) rfl T.n_isinstance (pa_cons (pv 0) (pa_cons (peTy T.n_tuple PyProof.Rows.boot_tuple) pa_nil))))) (pw_or1 (pt_cmpR op_ne (c_len (K := K) rfl T.n_len (pa_cons (pv 0) pa_nil)) pe_int (nomark _))))) pss_never pss_nil)
      (pss_cons (ps_asg (pv 0) (pgT (K := K) (n := 2) rfl rfl (pgs_cons (pg_name (i := 1) sc_parts_of.nd rfl (Or.inl rfl)) (pgs_cons (pg_name (i := 2) sc_parts_of.nd rfl (Or.inl rfl)) pgs_nil))))
      (pss_cons (ps_if (PW.pt (pw_or (pt_not (pt_val (pe_cl (ok_is_integer_value T) hr (pa_cons (pv 1) pa_nil)))) (pw_or (pt_not (pt_val (pe_cl (ok_is_integer_value T) hr (pa_cons (pv 2) pa_nil)))) (pw_or1 (pt_cmpR op_lt (pv 2) pe_int (nomark _)))))) pss_never pss_nil)
      (pss_one (ps_ret (pe_tup (pa_cons (pv 1) (pa_cons (pv 2) pa_nil))))))))), ?_⟩
  obtain ⟨p, q⟩ := a
  rcases hu.h with ⟨e, eq⟩ | h
  · have hb : Has (qIn K) G u true := ⟨.inl ⟨rfl, _, e⟩⟩
    have hi : Has qI G u p := ⟨e⟩
    refine st_if wd (tt_b (tv_call (ta_c (tv_v rfl hb) ta_n) trivial)) (fun _ H1 s1 w1 => ?_) (fun z => nomatch z)
    refine st_ret w1 (tv_pair (K := K) (tv_v rfl hi) tv_i) fun v H' s hv => k v H' (s1.trans s) ?_
    rw [show q = 1 from eq]
    exact hv
  · have hb : Has (qIn K) G u false := by
      obtain ⟨a, b, hv, _⟩ := h
      exact ⟨.inr ⟨rfl, _, hv⟩⟩
    have hh : Has (qPr K) G u (p, q) := ⟨h⟩
    refine st_if wd (tt_b (tv_call (ta_c (tv_v rfl hb) ta_n) trivial)) (fun z => nomatch z) (fun _ H1 s1 w1 => ?_)
    refine st_if w1 (tt_or (b := false) (tt_not (tt_b (tv_isi (k := true) (tv_v rfl hh) (by decide +kernel)))) fun _ => (tt_neI (tv_lenP (tv_v rfl hh)) tv_i).eq rfl) (fun z => nomatch z) (fun _ H2 s2 w2 => ?_)
    refine st_unp w2 (tv_v rfl hh) fun a b G3 H3 sg w3 s3 ha hb => ?_
    have ha2 : Has (qIn K) G3 a true := ⟨.inl ⟨rfl, _, ha.h⟩⟩
    have hb2 : Has (qIn K) G3 b true := ⟨.inl ⟨rfl, _, hb.h⟩⟩
    refine st_if w3 (tt_or (b := false) (tt_not (tt_b (tv_call (ta_c (tv_v rfl ha2) ta_n) trivial))) fun _ => tt_or (b := false) (tt_not (tt_b (tv_call (ta_c (tv_v rfl hb2) ta_n) trivial))) fun _ => tt_op0 (tv_v rfl hb) tv_i (by
      show V.bl (decide (q < 1)) = V.bl false
      rw [decide_eq_false (by have : 0 < q := hp; omega)])) (fun z => nomatch z) (fun _ H4 s4 w4 => ?_)
    exact st_ret w4 (tv_pair (K := K) (tv_v rfl ha) (tv_v rfl hb)) fun v H' s hv => k v H' ((((s1.trans s2).trans s3).trans s4).trans s) hv
theorem sc_common_divisor : FnScope n_common_divisor ["top", "bottom"] (defScope s_common_divisor) := ⟨rfl, rfl, rfl, by decide +kernel, rfl, by decide +kernel, by decide +kernel⟩
theorem ok_common_divisor (T : Ctx P w K mg base) : Pro P w K mg base "common_divisor" ["top", "bottom"] 1 (spP (raC qI (raC qI raN)) (fun x => 0 < x.2.1) qI fun x => (Int.gcd x.1 x.2.1 : Int)) := by
  refine mk_pro T.d_common_divisor (fun _ _ _ _ _ _ us hl => match us, hl with | [_, _], _ => rfl) fun f fd F => ?_
  refine def2 F sc_common_divisor rfl fun cdv A outer s H E O G 
    u v a b hr wd hu hv hp Q k => ⟨_, (pss_cons (ps_while PassesOwn.never (pt_cmpR op_ne (pv 1) pe_int (nomark _)) (pss_one (ps_par (i := 0) (j := 1) (by rfl) sc_common_divisor.nd rfl rfl (by decide) rfl rfl (pa_cons (pv 1) (pa_cons (pe_op op_mod (pv 0) (pv 1)) pa_nil)) (by rfl))))
      (pss_one (ps_ret (pv 0)))), ?_⟩
  have hp : 0 < b := hp
  refine st_whileS wd (fun m σ G1 H1 => ∃ p q : Int, σ = [some (.int p), some (.int q)] ∧ Same H H1 ∧ m = q.toNat ∧ 0 ≤ q ∧ (q = 0 → 0 < p) ∧ Int.gcd p q = Int.gcd a b) b.toNat ⟨a, b, by rw [show u = _ from hu.h, show v = _ from hv.h]; rfl, Same.refl _, rfl, by omega, fun z => by omega, rfl⟩ ?_
  rintro m σ G1 H1 ⟨p, q, rfl, sh, rfl, h0, h1, hg⟩ sg w1
  have hP : Has qI G1 (.int p) p := ⟨rfl⟩
  have hQ : Has qI G1 (.int q) q := ⟨rfl⟩
  refine ⟨_, tt_neI (tv_v rfl hQ) tv_i, fun H2 s2 w2 => ?_⟩
  by_cases hq : q = 0
  · rw [decide_eq_true hq, if_neg (by decide)]
    refine st_ret w2 (tv_v rfl hP) fun v H' s hv => k v H' ((sh.trans s2).trans s) ?_
    rw [show v = _ from hv]
    show V.int p = V.int (Int.gcd a b : Int)
    rw [← hg, hq, Int.gcd_zero_right]
    congr 1
    have := h1 hq
    omega
  · rw [decide_eq_false hq, if_pos (by decide)]
    intro N hN
    refine (ta_c (tv_v rfl hQ) (ta_c (tv_opI (tv_v rfl hP) (tv_v rfl hQ) (show 0 < q by omega)) ta_n)) H2 w2 _ fun vs H3 s3 h3 => ?_
    obtain ⟨c, d, rfl, e1, e2⟩ := ra2 h3
    have e1 : c = .int q := e1
    have e2 : d = .int (p % q) := e2
    subst e1 e2
    have h4 := Int.emod_nonneg p (show q ≠ 0 from hq)
    have h5 := Int.emod_lt_of_pos p (show 0 < q by omega)
    exact ⟨_, _, rfl, hN (p % q).toNat _ _ H3 (by omega) (w2.le.trans (same_wo s3)) (w2.same s3).up ⟨q, p % q, rfl, (sh.trans s2).trans s3, rfl, h4, fun _ => by omega, by rw [gcd_step, hg]⟩⟩
theorem sc_fraction : FnScope n_fraction ["value"] (defScope s_fraction) := ⟨rfl, rfl, rfl, by decide +kernel, rfl, by decide +kernel, by decide +kernel⟩
theorem ok_fraction (T : Ctx P w K mg base) : Pro P w K mg base "fraction" ["value"] 3 (spP (raC (qNu K) raN) (fun x => 0 < x.1.2 ∧ Sm x.1.2) (qQ K) fun x => mkRat x.1.1 x.1.2.toNat) := by
  refine mk_pro T.d_fraction (fun _ _ _ _ _ _ us hl => match us, hl with | [_], _ => rfl) fun f fd F => ?_
  refine def1 F sc_fraction rfl fun cdv A outer s H E O G 
    u a hr wd hu hp Q k => ⟨_, (pss_cons (ps_asg (pe_cl (ok_parts_of T) hr (pa_cons (pv 0) pa_nil)) (pgT (K := K) (n := 2) rfl rfl (pgs_cons (pg_name (i := 1) sc_fraction.nd rfl (Or.inl rfl)) (pgs_cons (pg_name (i := 2) sc_fraction.nd rfl (Or.inl rfl)) pgs_nil))))
      (pss_cons (ps_set (i := 3) sc_fraction.nd rfl (Or.inl rfl) (pe_cl (ok_common_divisor T) hr (pa_cons (pv 1) (pa_cons (pv 2) pa_nil))))
      (pss_one (ps_ret (pe_tup (pa_cons (pe_op op_fdivW (pv 1) (pv 3)) (pa_cons (pe_op op_fdivW (pv 2) (pv 3)) pa_nil))))))), ?_⟩
  obtain ⟨p, q⟩ := a
  have hp : 0 < q ∧ Sm q := hp
  refine st_unp wd (tv_call (ta_c (tv_v rfl hu) ta_n) hp.1) fun a b G1 H1 sg w1 s1 ha hb => ?_
  refine st_asg w1 (tv_call (ta_c (tv_v rfl ha) (ta_c (tv_v rfl hb) ta_n)) hp.1) fun c G2 H2 sg2 w2 s2 hc => ?_
  have ha2 := ha.mo sg2
  have hb2 := hb.mo sg2
  have hg := gcd_pos (a := p) hp.1
  have hd : CDivW p (Int.gcd p q : Int) := wide_div hg (hp.2.le (by omega) (gcd_le hp.1)) (by decide) (by decide)
  refine st_ret w2 (tv_pair (K := K) (tv_opI (tv_v rfl ha2) (tv_v rfl hc) hd) (tv_opI (tv_v rfl hb2) (tv_v rfl hc) hd)) fun v H' s hv => k v H' ((s1.trans s2).trans s) ?_
  exact pr_qQ hv (low_num hp.1) (low_den hp.1)
theorem sc_sum_of_two : FnScope n_sum_of_two ["left", "right"] (defScope s_sum_of_two) := ⟨rfl, rfl, rfl, by decide +kernel, rfl, by decide +kernel, by decide +kernel⟩
theorem ok_sum_of_two (T : Ctx P w K mg base) : Pro P w K mg base "sum_of_two" ["left", "right"] 2 (spP (raC (qQ K) (raC (qQ K) raN)) (fun x => Bq x.1 ∧ Bq x.2.1) (qQ K) fun x => x.1 + x.2.1) := by
  refine mk_pro T.d_sum_of_two (fun _ _ _ _ _ _ us hl => match us, hl with | [_, _], _ => rfl) fun f fd F => ?_
  refine def2 F sc_sum_of_two rfl fun cdv A outer s H E O G 
    u v x y hr wd hu hv hp Q k => ⟨_, (pss_cons (ps_asg (pv 0) (pgT (K := K) (n := 2) rfl rfl (pgs_cons (pg_name (i := 2) sc_sum_of_two.nd rfl (Or.inl rfl)) (pgs_cons (pg_name (i := 3) sc_sum_of_two.nd rfl (Or.inl rfl)) pgs_nil))))
      (pss_cons (ps_asg (pv 1) (pgT (K := K) (n := 2) rfl rfl (pgs_cons (pg_name (i := 4) sc_sum_of_two.nd rfl (Or.inl rfl)) (pgs_cons (pg_name (i := 5) sc_sum_of_two.nd rfl (Or.inl rfl)) pgs_nil))))
      (pss_cons (ps_set (i := 6) sc_sum_of_two.nd rfl (Or.inl rfl) (pe_cl (ok_common_divisor T) hr (pa_cons (pv 3) (pa_cons (pv 5) pa_nil))))
      (pss_cons (ps_if (pt_cmpR op_eq (pv 6) pe_int (nomark _)) (pss_one (ps_ret (pe_tup (pa_cons (pe_op op_add (pe_op op_mulW (pv 2) (pv 5)) (pe_op op_mulW (pv 4) (pv 3))) (pa_cons (pe_op op_mulW (pv 3) (pv 5)) pa_nil))))) pss_nil)
      (pss_cons (ps_set (i := 7) sc_sum_of_two.nd rfl (Or.inl rfl) (pe_op op_fdivW (pv 3) (pv 6)))
      (pss_cons (ps_set (i := 8) sc_sum_of_two.nd rfl (Or.inl rfl) (pe_op op_add (pe_op op_mulW (pv 2) (pe_op op_fdivW (pv 5) (pv 6))) (pe_op op_mulW (pv 4) (pv 7))))
      (pss_cons (ps_set (i := 9) sc_sum_of_two.nd rfl (Or.inl rfl) (pe_cl (ok_common_divisor T) hr (pa_cons (pv 8) (pa_cons (pv 6) pa_nil))))
      (pss_one (ps_ret (pe_tup (pa_cons (pe_op op_fdivW (pv 8) (pv 9)) (pa_cons (pe_op op_mulW (pv 7) (pe_op op_fdivW (pv 5) (pv 9))) pa_nil)))))))))))), ?_⟩
  have hx : Bq x := hp.1
  have hy : Bq y := hp.2
  have hu1 : Has (qPr K) G u (x.num, (x.den : Int)) := ⟨qQ_pr hu.h⟩
  refine st_unp wd (tv_v rfl hu1) fun a b G1 H1 g1 w1 s1 ha hb => ?_
  have hv1 : Has (qPr K) G1 v (y.num, (y.den : Int)) := ⟨qQ_pr (hv.mo g1).h⟩
  refine st_unp w1 (tv_v rfl hv1) fun c d G2 H2 g2 w2 s2 hc hd => ?_
  have ha2 := ha.mo g2
  have hb2 := hb.mo g2
  refine st_asg w2 (tv_call (ta_c (tv_v rfl hb2) (ta_c (tv_v rfl hd) ta_n)) (den_pos y)) fun e G3 H3 g3 w3 s3 he => ?_
  have ha3 := ha2.mo g3
  have hb3 := hb2.mo g3
  have hc3 := hc.mo g3
  have hd3 := hd.mo g3
  have m1 : ∀ {i j : Int}, Sm i → Sm j → CMulW i j := fun h1 h2 => wide_mul h1 h2 (by decide) (by decide) (by decide)
  refine st_if w3 (tt_eqI (tv_v rfl he) tv_i) (fun z H4 s4 w4 => ?_) (fun z H4 s4 w4 => ?_)
  · have z := of_decide_eq_true z
    refine st_ret w4 (tv_pair (K := K) (tv_opJ (tv_opI (tv_v rfl ha3) (tv_v rfl hd3) (m1 hx.1 hy.2)) (tv_opI (tv_v rfl hc3) (tv_v rfl hb3) (m1 hy.1 hx.2))) (tv_opI (tv_v rfl hb3) (tv_v rfl hd3) (m1 hx.2 hy.2))) fun v H' s hv => k v H' ((((s1.trans s2).trans s3).trans s4).trans s) ?_
    have z2 : Int.gcd (x.den : Int) y.den = 1 := by
      have z : (Int.gcd (x.den : Int) y.den : Int) = 1 := z
      omega
    exact pr_qQ hv (add_one z2).1 (add_one z2).2
  · have z := of_decide_eq_false z
    have hg := gcd_pos (a := (x.den : Int)) (den_pos y)
    have hgs : Sm (Int.gcd (x.den : Int) y.den : Int) := hy.2.le (by omega) (gcd_le (den_pos y))
    have dv : ∀ {i j : Int}, 0 < j → Sm j → CDivW i j := fun h1 h2 => wide_div h1 h2 (by decide) (by decide)
    have qs : ∀ {i j : Int}, 0 < i → Sm i → 0 < j → Sm (i / j) := fun {i j} h1 h2 h3 => h2.le (Int.ediv_nonneg (by omega) (by omega)) (Int.ediv_le_self _ (by omega))
    refine st_asg w4 (tv_opI (tv_v rfl hb3) (tv_v rfl he) (dv hg hgs)) fun f G5 H5 g5 w5 s5 hf => ?_
    have ha5 := ha3.mo g5
    have hc5 := hc3.mo g5
    have hd5 := hd3.mo g5
    have he5 := he.mo g5
    refine st_asg w5 (tv_opJ (tv_opI (tv_v rfl ha5) (tv_opI (tv_v rfl hd5) (tv_v rfl he5) (dv hg hgs)) (m1 hx.1 (qs (den_pos y) hy.2 hg))) (tv_opI (tv_v rfl hc5) (tv_v rfl hf) (m1 hy.1 (qs (den_pos x) hx.2 hg)))) fun r G6 H6 g6 w6 s6 hr6 => ?_
    have he6 := he5.mo g6
    refine st_asg w6 (tv_call (ta_c (tv_v rfl hr6) (ta_c (tv_v rfl he6) ta_n)) hg) fun n G7 H7 g7 w7 s7 hn => ?_
    have hr7 := hr6.mo g7
    have hf7 := (hf.mo g6).mo g7
    have hd7 := (hd5.mo g6).mo g7
    have hn1 := gcd_pos (a := x.num * ((y.den : Int) / (Int.gcd (x.den : Int) y.den : Int)) + y.num * ((x.den : Int) / (Int.gcd (x.den : Int) y.den : Int))) hg
    have hn2 := hgs.le (by omega) (gcd_le (a := x.num * ((y.den : Int) / (Int.gcd (x.den : Int) y.den : Int)) + y.num * ((x.den : Int) / (Int.gcd (x.den : Int) y.den : Int))) hg)
    refine st_ret w7 (tv_pair (K := K) (tv_opI (tv_v rfl hr7) (tv_v rfl hn) (dv hn1 hn2)) (tv_opI (tv_v rfl hf7) (tv_opI (tv_v rfl hd7) (tv_v rfl hn) (dv hn1 hn2)) (m1 (qs (den_pos x) hx.2 hg) (qs (den_pos y) hy.2 hn1)))) fun v H' s hv => k v H' (((((((s1.trans s2).trans s3).trans s4).trans s5).trans s6).trans s7).trans s) ?_
    exact pr_qQ hv (add_num z).1 (add_num z).2
end
end Nb
set_option Elab.async false
set_option linter.all false
set_option maxRecDepth 100000
set_option maxHeartbeats 4000000
namespace Nb
open PySem L2
open PyProof.Rows (envOfC)
theorem m_sm {i j : Int} (h1 : Sm i) (h2 : Sm j) : CMulW i j := wide_mul h1 h2 (by decide) (by decide) (by decide)
theorem d_sm {i j : Int} (h1 : 0 < j) (h2 : Sm j) : CDivW i j := wide_div h1 h2 (by decide) (by decide)
theorem q_sm {i j : Int} (h1 : 0 ≤ i) (h2 : Sm i) (h3 : 0 < j) : Sm (i / j) := h2.le (Int.ediv_nonneg (by omega) (by omega)) (Int.ediv_le_self _ (by omega))
theorem q_smN {i j : Int} (h2 : Sm i) (h3 : 0 < j) (hd : j ∣ i) : Sm (i / j) := by
  obtain ⟨k, rfl⟩ := hd
  rw [Int.mul_ediv_cancel_left _ (by omega)]
  unfold Sm at h2 ⊢
  refine Nat.lt_of_le_of_lt ?_ h2
  rw [Int.natAbs_mul]
  exact Nat.le_mul_of_pos_left _ (by omega)
section
variable {α β γ : Type} {O : List Addr} {σ : St} {G H : Hp} {x y : Rat} {ta tb te : TE} {K : PySem.W.Frag}
theorem tv_q (K : PySem.W.Frag) {a b : Int} (h1 : a = x.num) (h2 : b = x.den) : Tv O (tTup (tCons (tC (.int a)) (tCons (tC (.int b)) tNil))) σ G (qQ K) x := (tv_pair (K := K) tv_i tv_i).sub fun _ _ h => pr_qQ h h1 h2
theorem tv_RQ (b : Bq x) (h : Tv O te σ G (qQ K) x) : Tv O te σ G (qR K) x := h.sub fun _ _ z => qR_of b z
theorem tv_RI {i : Int} (b : Sm i) (h : Tv O te σ G qI i) : Tv O te σ G (qR K) (i : Rat) := h.sub fun _ _ z => qR_int b z
end
section
variable {P : Program} {w : World} {K : PySem.W.Frag} {mg : PySem.Str → Option Value} {base : Heap}
theorem sc_product_of_two : FnScope n_product_of_two ["left", "right"] (defScope s_product_of_two) := ⟨rfl, rfl, rfl, by decide +kernel, rfl, by decide +kernel, by decide +kernel⟩
theorem ok_product_of_two (T : Ctx P w K mg base) : Pro P w K mg base "product_of_two" ["left", "right"] 2 (spP (raC (qQ K) (raC (qQ K) raN)) (fun x => Bq x.1 ∧ Bq x.2.1) (qQ K) fun x => x.1 * x.2.1) := by
  refine mk_pro T.d_product_of_two (fun _ _ _ _ _ _ us hl => match us, hl with | [_, _], _ => rfl) fun f fd F => ?_
  refine def2 F sc_product_of_two rfl fun cdv A outer s H E O G 
    u v x y hr wd hu hv hp Q k => ⟨_, (pss_cons (ps_asg (pv 0) (pgT (K := K) (n := 2) rfl rfl (pgs_cons (pg_name (i := 2) sc_product_of_two.nd rfl (Or.inl rfl)) (pgs_cons (pg_name (i := 3) sc_product_of_two.nd rfl (Or.inl rfl)) pgs_nil))))
      (pss_cons (ps_asg (pv 1) (pgT (K := K) (n := 2) rfl rfl (pgs_cons (pg_name (i := 4) sc_product_of_two.nd rfl (Or.inl rfl)) (pgs_cons (pg_name (i := 5) sc_product_of_two.nd rfl (Or.inl rfl)) pgs_nil))))
      (pss_cons (ps_set (i := 6) sc_product_of_two.nd rfl (Or.inl rfl) (pe_cl (ok_common_divisor T) hr (pa_cons (pv 2) (pa_cons (pv 5) pa_nil))))
      (pss_cons (ps_set (i := 7) sc_product_of_two.nd rfl (Or.inl rfl) (pe_cl (ok_common_divisor T) hr (pa_cons (pv 4) (pa_cons (pv 3) pa_nil))))
      (pss_one (ps_ret (pe_tup (pa_cons (pe_op op_mulW (pe_op op_fdivW (pv 2) (pv 6)) (pe_op op_fdivW (pv 4) (pv 7))) (pa_cons (pe_op op_mulW (pe_op op_fdivW (pv 3) (pv 7)) (pe_op op_fdivW (pv 5) (pv 6))) pa_nil))))))))), ?_⟩
  have hx : Bq x := hp.1
  have hy : Bq y := hp.2
  have hu1 : Has (qPr K) G u (x.num, (x.den : Int)) := ⟨qQ_pr hu.h⟩
  refine st_unp wd (tv_v rfl hu1) fun a b G1 H1 g1 w1 s1 ha hb => ?_
  have hv1 : Has (qPr K) G1 v (y.num, (y.den : Int)) := ⟨qQ_pr (hv.mo g1).h⟩
  refine st_unp w1 (tv_v rfl hv1) fun c d G2 H2 g2 w2 s2 hc hd => ?_
  have ha2 := ha.mo g2
  have hb2 := hb.mo g2
  refine st_asg w2 (tv_call (ta_c (tv_v rfl ha2) (ta_c (tv_v rfl hd) ta_n)) (den_pos y)) fun e G3 H3 g3 w3 s3 he => ?_
  have hb3 := hb2.mo g3
  have hc3 := hc.mo g3
  refine st_asg w3 (tv_call (ta_c (tv_v rfl hc3) (ta_c (tv_v rfl hb3) ta_n)) (den_pos x)) fun f G4 H4 g4 w4 s4 hf => ?_
  have ha4 := (ha2.mo g3).mo g4
  have hb4 := hb3.mo g4
  have hc4 := hc3.mo g4
  have hd4 := (hd.mo g3).mo g4
  have he4 := he.mo g4
  have gx := gcd_pos (a := x.num) (den_pos y)
  have gy := gcd_pos (a := y.num) (den_pos x)
  have sx := hy.2.le (by omega) (gcd_le (a := x.num) (den_pos y))
  have sy := hx.2.le (by omega) (gcd_le (a := y.num) (den_pos x))
  have t1 : Sm (x.num / (Int.gcd x.num y.den : Int)) := q_smN hx.1 gx (Int.gcd_dvd_left _ _)
  have t2 : Sm (y.num / (Int.gcd y.num x.den : Int)) := q_smN hy.1 gy (Int.gcd_dvd_left _ _)
  refine st_ret w4 (tv_pair (K := K) (tv_opI (tv_opI (tv_v rfl ha4) (tv_v rfl he4) (d_sm gx sx)) (tv_opI (tv_v rfl hc4) (tv_v rfl hf) (d_sm gy sy)) (m_sm t1 t2))
    (tv_opI (tv_opI (tv_v rfl hb4) (tv_v rfl hf) (d_sm gy sy)) (tv_opI (tv_v rfl hd4) (tv_v rfl he4) (d_sm gx sx)) (m_sm (q_sm (by omega) hx.2 gy) (q_sm (by omega) hy.2 gx)))) fun v H' s hv => k v H' ((((s1.trans s2).trans s3).trans s4).trans s) ?_
  exact pr_qQ hv (mul_parts x y).1 (mul_parts x y).2
theorem sc_opposite : FnScope n_opposite ["parts"] (defScope s_opposite) := ⟨rfl, rfl, rfl, by decide +kernel, rfl, by decide +kernel, by decide +kernel⟩
theorem ok_opposite (T : Ctx P w K mg base) : Pro P w K mg base "opposite" ["parts"] 1 (spP (raC (qQ K) raN) (fun _ => True) (qQ K) fun x => -x.1) := by
  refine mk_pro T.d_opposite (fun _ _ _ _ _ _ us hl => match us, hl with | [_], _ => rfl) fun f fd F => ?_
  refine def1 F sc_opposite rfl fun cdv A outer s H E O G 
    u x hr wd hu _ Q k => ⟨_, (pss_one (ps_ret (pe_tup (pa_cons (pe_un un_neg (pe_ix (ixT (K := K) rfl) (pv 0) pe_int (fun _ _ => rfl))) (pa_cons (pe_ix (ixT (K := K) rfl) (pv 0) pe_int (fun _ _ => rfl)) pa_nil))))), ?_⟩
  have hu1 : Has (qPr K) G u (x.num, (x.den : Int)) := ⟨qQ_pr hu.h⟩
  refine st_ret wd (tv_pair (K := K) (tv_neg (tv_fst (tv_v rfl hu1))) (tv_snd (tv_v rfl hu1))) fun v H' s hv => k v H' s ?_
  exact pr_qQ hv rfl rfl
theorem sc_order_of : FnScope n_order_of ["left", "right"] (defScope s_order_of) := ⟨rfl, rfl, rfl, by decide +kernel, rfl, by decide +kernel, by decide +kernel⟩
theorem ok_order_of (T : Ctx P w K mg base) : Pro P w K mg base "order_of" ["left", "right"] 1 (spP (raC (qPr K) (raC (qPr K) raN)) (fun x => Sm x.1.1 ∧ Sm x.1.2 ∧ Sm x.2.1.1 ∧ Sm x.2.1.2) qI fun x => cmpI (x.1.1 * x.2.1.2) (x.2.1.1 * x.1.2)) := by
  refine mk_pro T.d_order_of (fun _ _ _ _ _ _ us hl => match us, hl with | [_, _], _ => rfl) fun f fd F => ?_
  refine def2 F sc_order_of rfl fun cdv A outer s H E O G 
    u v x y hr wd hu hv hp Q k => ⟨_, (pss_cons (ps_set (i := 2) sc_order_of.nd rfl (Or.inl rfl) (pe_op op_mulW (pe_ix (ixT (K := K) rfl) (pv 0) pe_int (fun _ _ => rfl)) (pe_ix (ixT (K := K) rfl) (pv 1) pe_int (fun _ _ => rfl))))
      (pss_cons (ps_set (i := 3) sc_order_of.nd rfl (Or.inl rfl) (pe_op op_mulW (pe_ix (ixT (K := K) rfl) (pv 1) pe_int (fun _ _ => rfl)) (pe_ix (ixT (K := K) rfl) (pv 0) pe_int (fun _ _ => rfl))))
      (pss_cons (ps_if (pt_cmpR op_lt (pv 2) (pv 3) (nomark _)) (pss_one (ps_ret (pe_un un_neg pe_int))) pss_nil)
      (pss_cons (ps_if (pt_cmpR op_gt (pv 2) (pv 3) (nomark _)) (pss_one (ps_ret pe_int)) pss_nil)
      (pss_one (ps_ret pe_int)))))), ?_⟩
  obtain ⟨a, b⟩ := x
  obtain ⟨c, d⟩ := y
  obtain ⟨h1, h2, h3, h4⟩ : Sm a ∧ Sm b ∧ Sm c ∧ Sm d := hp
  refine st_asg wd (tv_opI (tv_fst (tv_v rfl hu)) (tv_snd (tv_v rfl hv)) (m_sm h1 h4)) fun e G1 H1 g1 w1 s1 he => ?_
  refine st_asg w1 (tv_opI (tv_fst (tv_v rfl (hv.mo g1))) (tv_snd (tv_v rfl (hu.mo g1))) (m_sm h3 h2)) fun f G2 H2 g2 w2 s2 hf => ?_
  refine st_if w2 (tt_opB (tv_v rfl (he.mo g2)) (tv_v rfl hf)) (fun z H3 s3 w3 => ?_) (fun z H3 s3 w3 => ?_)
  · refine st_ret w3 (tv_neg tv_i) fun v H' s hv => k v H' (((s1.trans s2).trans s3).trans s) ?_
    rw [show v = _ from hv]
    show V.int (-1) = V.int (cmpI (a * d) (c * b))
    unfold cmpI
    rw [if_pos (of_decide_eq_true z)]
  · have z1 := of_decide_eq_false z
    refine st_if w3 (tt_opB (tv_v rfl (he.mo g2)) (tv_v rfl hf)) (fun z H4 s4 w4 => ?_) (fun z H4 s4 w4 => ?_)
    · refine st_ret w4 tv_i fun v H' s hv => k v H' ((((s1.trans s2).trans s3).trans s4).trans s) ?_
      rw [show v = _ from hv]
      show V.int 1 = V.int (cmpI (a * d) (c * b))
      unfold cmpI
      rw [if_neg z1, if_pos (of_decide_eq_true z)]
    · refine st_ret w4 tv_i fun v H' s hv => k v H' ((((s1.trans s2).trans s3).trans s4).trans s) ?_
      rw [show v = _ from hv]
      show V.int 0 = V.int (cmpI (a * d) (c * b))
      unfold cmpI
      rw [if_neg z1, if_neg (of_decide_eq_false z)]
/-- a number is brought down -/
theorem tv_fr {O : List Addr} {σ : St} {G : Hp} {te : TE} {x : Rat} {E : XK} (h : Tv O te σ G (qR K) x) : Tv O (tCall (spP (raC (qNu K) raN) (fun x => 0 < x.1.2 ∧ Sm x.1.2) (qQ K) fun x => mkRat x.1.1 x.1.2.toNat) [] E (tCons te tNil)) σ G (qQ K) x := fun H w Q k =>
  h H w _ fun v H1 s1 h1 => by
    obtain ⟨p, q, hn, h0, hp, hq, e⟩ := h1
    exact ⟨O, ((p, q), ()), (w.same s1).dm, ⟨v, [], rfl, hn, rfl⟩, ⟨h0, hq⟩, fun u H2 s2 h2 => k u H2 (s1.trans s2) (by rw [e]; exact h2)⟩
theorem sc_add : FnScope n_add ["left", "right"] (defScope s_add) := ⟨rfl, rfl, rfl, by decide +kernel, rfl, by decide +kernel, by decide +kernel⟩
theorem ok_add (T : Ctx P w K mg base) : Pro P w K mg base "add" ["left", "right"] 4 (spP (raC (qR K) (raC (qR K) raN)) (fun x => Bq x.1 ∧ Bq x.2.1) (qQ K) fun x => x.1 + x.2.1) := by
  refine mk_pro T.d_add (fun _ _ _ _ _ _ us hl => match us, hl with | [_, _], _ => rfl) fun f fd F => ?_
  refine def2 F sc_add rfl fun cdv A outer s H E O G 
    u v x y hr wd hu hv hp Q k => ⟨_, (pss_one (ps_ret (pe_cl (ok_sum_of_two T) hr (pa_cons (pe_cl (ok_fraction T) hr (pa_cons (pv 0) pa_nil)) (pa_cons (pe_cl (ok_fraction T) hr (pa_cons (pv 1) pa_nil)) pa_nil))))), ?_⟩
  exact st_ret wd (tv_call (ta_c (tv_fr (tv_v rfl hu)) (ta_c (tv_fr (tv_v rfl hv)) ta_n)) hp) k
theorem bq_neg {x : Rat} (h : Bq x) : Bq (-x) := ⟨by have := h.1; unfold Sm at *; rw [Rat.neg_num, Int.natAbs_neg]; exact this, h.2⟩
theorem sc_sub : FnScope n_sub ["left", "right"] (defScope s_sub) := ⟨rfl, rfl, rfl, by decide +kernel, rfl, by decide +kernel, by decide +kernel⟩
theorem ok_sub (T : Ctx P w K mg base) : Pro P w K mg base "sub" ["left", "right"] 4 (spP (raC (qR K) (raC (qR K) raN)) (fun x => Bq x.1 ∧ Bq x.2.1) (qQ K) fun x => x.1 - x.2.1) := by
  refine mk_pro T.d_sub (fun _ _ _ _ _ _ us hl => match us, hl with | [_, _], _ => rfl) fun f fd F => ?_
  refine def2 F sc_sub rfl fun cdv A outer s H E O G 
    u v x y hr wd hu hv hp Q k => ⟨_, (pss_one (ps_ret (pe_cl (ok_sum_of_two T) hr (pa_cons (pe_cl (ok_fraction T) hr (pa_cons (pv 0) pa_nil)) (pa_cons (pe_cl (ok_opposite T) hr (pa_cons (pe_cl (ok_fraction T) hr (pa_cons (pv 1) pa_nil)) pa_nil)) pa_nil))))), ?_⟩
  refine st_ret wd (tv_call (ta_c (tv_fr (tv_v rfl hu)) (ta_c (tv_call (ta_c (tv_fr (tv_v rfl hv)) ta_n) trivial) ta_n)) ⟨hp.1, bq_neg hp.2⟩) fun v H' s hv => k v H' s ?_
  have e : x - y = x + -y := Rat.sub_eq_add_neg x y
  show qQ K _ v (x - y)
  rw [e]
  exact hv
theorem inv_num {y : Rat} (h : 0 < y) : y⁻¹.num = y.den ∧ (y⁻¹.den : Int) = y.num := by
  have h2 : 0 < y.num := by
    have := (Rat.lt_iff 0 y).mp h
    rw [Rat.zero_num, Rat.zero_den] at this
    omega
  rw [Rat.num_inv, Rat.den_inv, if_neg (by omega), Int.sign_eq_one_of_pos h2]
  omega
theorem sc_div : FnScope n_div ["left", "right"] (defScope s_div) := ⟨rfl, rfl, rfl, by decide +kernel, rfl, by decide +kernel, by decide +kernel⟩
theorem ok_div (T : Ctx P w K mg base) : Pro P w K mg base "div" ["left", "right"] 4 (spP (raC (qR K) (raC (qR K) raN)) (fun x => Bq x.1 ∧ Bq x.2.1 ∧ 0 < x.2.1) (qQ K) fun x => x.1 / x.2.1) := by
  refine mk_pro T.d_div (fun _ _ _ _ _ _ us hl => match us, hl with | [_, _], _ => rfl) fun f fd F => ?_
  refine def2 F sc_div rfl fun cdv A outer s H E O G 
    u v x y hr wd hu hv hp Q k => ⟨_, (pss_cons (ps_set (i := 2) sc_div.nd rfl (Or.inl rfl) (pe_cl (ok_fraction T) hr (pa_cons (pv 0) pa_nil)))
      (pss_cons (ps_asg (pe_cl (ok_fraction T) hr (pa_cons (pv 1) pa_nil)) (pgT (K := K) (n := 2) rfl rfl (pgs_cons (pg_name (i := 3) sc_div.nd rfl (Or.inl rfl)) (pgs_cons (pg_name (i := 4) sc_div.nd rfl (Or.inl rfl)) pgs_nil))))
      (pss_cons (ps_if (pt_cmpR op_eq (pv 3) pe_int (nomark _)) pss_never pss_nil)
      (pss_cons (ps_if (pt_cmpR op_lt (pv 3) pe_int (nomark _)) (pss_one (ps_ret (pe_cl (ok_product_of_two T) hr (pa_cons (pv 2) (pa_cons (pe_tup (pa_cons (pe_un un_neg (pv 4)) (pa_cons (pe_un un_neg (pv 3)) pa_nil))) pa_nil))))) pss_nil)
      (pss_one (ps_ret (pe_cl (ok_product_of_two T) hr (pa_cons (pv 2) (pa_cons (pe_tup (pa_cons (pv 4) (pa_cons (pv 3) pa_nil))) pa_nil))))))))), ?_⟩
  have hy0 : 0 < y := hp.2.2
  have hn := inv_num hy0
  have hy1 : 0 < y.num := by rw [← hn.2]; exact den_pos _
  refine st_asg wd (tv_fr (tv_v rfl hu)) fun d G1 H1 g1 w1 s1 hd => ?_
  have hy : Tv O (tCall (spP (raC (qNu K) raN) (fun x => 0 < x.1.2 ∧ Sm x.1.2) (qQ K) fun x => mkRat x.1.1 x.1.2.toNat) [] E0 (tCons (tVar 1) tNil)) ((L2.start n_div [u, v]).set 2 (some d)) G1 (qPr K) (y.num, (y.den : Int)) := (tv_fr (tv_v rfl (hv.mo g1))).sub fun _ _ z => qQ_pr z
  refine st_unp w1 hy fun a b G2 H2 g2 w2 s2 ha hb => ?_
  refine st_if w2 (tt_eqI (tv_v rfl ha) tv_i) (fun z => absurd (of_decide_eq_true z) (by omega)) (fun _ H3 s3 w3 => ?_)
  refine st_if w3 (tt_opB (tv_v rfl ha) tv_i) (fun z => absurd (of_decide_eq_true z) (by omega)) (fun _ H4 s4 w4 => ?_)
  have hi : Tv O (tTup (tCons (tVar 4) (tCons (tVar 3) tNil))) ((((L2.start n_div [u, v]).set 2 (some d)).set 3 (some a)).set 4 (some b)) G2 (qQ K) y⁻¹ := (tv_pair (K := K) (tv_v rfl hb) (tv_v rfl ha)).sub fun _ _ z => pr_qQ z hn.1.symm hn.2.symm
  have hb : Bq y⁻¹ := ⟨by rw [hn.1]; exact hp.2.1.2, by rw [hn.2]; exact hp.2.1.1⟩
  refine st_ret w4 (tv_call (ta_c (tv_v rfl (hd.mo g2)) (ta_c hi ta_n)) ⟨hp.1, hb⟩) fun v H' s hv => k v H' ((((s1.trans s2).trans s3).trans s4).trans s) ?_
  show qQ K _ v (x / y)
  rw [Rat.div_def]
  exact hv
theorem sc_negate : FnScope n_negate ["value"] (defScope s_negate) := ⟨rfl, rfl, rfl, by decide +kernel, rfl, by decide +kernel, by decide +kernel⟩
theorem ok_negate (T : Ctx P w K mg base) : Pro P w K mg base "negate" ["value"] 4 (spP (raC (qR K) raN) (fun _ => True) (qQ K) fun x => -x.1) := by
  refine mk_pro T.d_negate (fun _ _ _ _ _ _ us hl => match us, hl with | [_], _ => rfl) fun f fd F => ?_
  refine def1 F sc_negate rfl fun cdv A outer s H E O G 
    u x hr wd hu _ Q k => ⟨_, (pss_one (ps_ret (pe_cl (ok_opposite T) hr (pa_cons (pe_cl (ok_fraction T) hr (pa_cons (pv 0) pa_nil)) pa_nil)))), ?_⟩
  exact st_ret wd (tv_call (ta_c (tv_fr (tv_v rfl hu)) ta_n) trivial) k
theorem sc_compare : FnScope n_compare ["left", "right"] (defScope s_compare) := ⟨rfl, rfl, rfl, by decide +kernel, rfl, by decide +kernel, by decide +kernel⟩
theorem ok_compare (T : Ctx P w K mg base) : Pro P w K mg base "compare" ["left", "right"] 3 (spP (raC (qR K) (raC (qR K) raN)) (fun _ => True) qI fun x => cmpQ x.1 x.2.1) := by
  refine mk_pro T.d_compare (fun _ _ _ _ _ _ us hl => match us, hl with | [_, _], _ => rfl) fun f fd F => ?_
  refine def2 F sc_compare rfl fun cdv A outer s H E O G 
    u v x y hr wd hu hv _ Q k => ⟨_, (pss_cons (ps_set (i := 2) sc_compare.nd rfl (Or.inl rfl) (pe_cl (ok_parts_of T) hr (pa_cons (pv 0) pa_nil)))
      (pss_one (ps_ret (pe_cl (ok_order_of T) hr (pa_cons (pv 2) (pa_cons (pe_cl (ok_parts_of T) hr (pa_cons (pv 1) pa_nil)) pa_nil)))))), ?_⟩
  obtain ⟨p, q, hn, h0, hp, hq, e⟩ := hu.h
  obtain ⟨a, b, hm, h1, ha, hb, e1⟩ := hv.h
  have hn1 : Has (qNu K) G u (p, q) := ⟨hn⟩
  have hm1 : Has (qNu K) G v (a, b) := ⟨hm⟩
  refine st_asg wd (tv_call (ta_c (tv_v rfl hn1) ta_n) h0) fun d G1 H1 g1 w1 s1 hd => ?_
  refine st_ret w1 (tv_call (ta_c (tv_v rfl hd) (ta_c (tv_call (ta_c (tv_v rfl (hm1.mo g1)) ta_n) h1) ta_n)) ⟨hp, hq, ha, hb⟩) fun v H' s hv => k v H' (s1.trans s) ?_
  show qI _ v (cmpQ x y)
  rw [e, e1, ← cmp_eq h0 h1]
  exact hv
end
end Nb
set_option Elab.async false
set_option linter.all false
set_option maxRecDepth 100000
set_option maxHeartbeats 4000000
namespace Nb
open PySem L2
open PyProof.Rows (envOfC)
/-! ### sums and least values -/

theorem sumQ_take {xs : List Rat} {i : Nat} {x : Rat} (h : xs[i]? = some x) : sumQ (xs.take (i + 1)) = sumQ (xs.take i) + x := by
  unfold sumQ
  rw [List.take_add_one, h]
  show ((xs.take i) ++ [x]).foldl _ _ = _
  rw [List.foldl_append]
  rfl
def farF (s : Int) (xs : List Rat) : Rat := xs.foldl (fun b y => if cmpQ y b = s then y else b) (xs.headD 0)
def qLn (K : PySem.W.Frag) : Rl Nat := fun G v n => (∃ vs, qLv K G v vs ∧ n = vs.length) ∨ ∃ vs, qTv K G v vs ∧ n = vs.length
instance (K : PySem.W.Frag) : Mo (qLn K) := ⟨fun s h => h.elim (fun ⟨vs, h, e⟩ => .inl ⟨vs, Mo.mo s h, e⟩) fun ⟨vs, h, e⟩ => .inr ⟨vs, Mo.mo s h, e⟩⟩
section
variable {α β γ : Type} {O : List Addr} {σ : St} {G H : Hp} {r : Rl α} {ta tb te : TE} {K : PySem.W.Frag} {xs : List α}
theorem ln_of {v : V} (h : qSq K r G v xs) : qLn K G v xs.length := by
  rcases h with ⟨vs, h, hp⟩ | ⟨vs, h, hp⟩
  · exact .inl ⟨vs, h, (Paired.len hp).symm⟩
  · exact .inr ⟨vs, h, (Paired.len hp).symm⟩
theorem tv_lenN {n : Nat} (h : Tv O te σ G (qLn K) n) : Tv O (tCB (rLen K) (tCons te tNil)) σ G qI (n : Int) :=
  tv_cb1 h fun v H d hv Q k => by
    rcases hv with ⟨vs, hv, e⟩ | ⟨vs, hv, e⟩
    · exact ⟨v, vs.length, rfl, lenV_L hv, by rw [e] at k; exact k _ _ (Same.refl _) rfl⟩
    · exact ⟨v, vs.length, rfl, lenV_T hv, by rw [e] at k; exact k _ _ (Same.refl _) rfl⟩
theorem paired_sub {α β : Type} {F F' : V → α → Prop} : ∀ {l : List V} {m : List α}, Paired F l m → (∀ v x, x ∈ m → F v x → F' v x) → Paired F' l m
  | _, _, .nil, _ => .nil
  | _, _, .cons a t, h => .cons (h _ _ List.mem_cons_self a) (paired_sub (β := β) t fun v x hx => h v x (List.mem_cons_of_mem _ hx))
/-- a list's items, told otherwise -/
theorem sq_sub {q : Rl α} {v : V} (h : qSq K r G v xs) (c : ∀ v x, x ∈ xs → r G v x → q G v x) : qSq K q G v xs := by
  rcases h with ⟨vs, h, hp⟩ | ⟨vs, h, hp⟩
  · exact .inl ⟨vs, h, paired_sub (β := α) hp c⟩
  · exact .inr ⟨vs, h, paired_sub (β := α) hp c⟩
theorem L_sub {q : Rl α} {v : V} (h : qL K r G v xs) (c : ∀ v x, x ∈ xs → r G v x → q G v x) : qL K q G v xs := by
  obtain ⟨vs, h, hp⟩ := h
  exact ⟨vs, h, paired_sub (β := α) hp c⟩
theorem tv_sqL (h : Tv O te σ G (qL K r) xs) : Tv O te σ G (qSq K r) xs := h.sub fun _ _ z => .inl z
theorem tv_sqT (h : Tv O te σ G (qT K r) xs) : Tv O te σ G (qSq K r) xs := h.sub fun _ _ z => .inr z
/-- a list of fractions as a list of numbers -/
theorem tv_RL {xs : List Rat} (b : ∀ x ∈ xs, Bq x) (h : Tv O te σ G (qL K (qQ K)) xs) : Tv O te σ G (qSq K (qR K)) xs := h.sub fun _ _ z => sq_sub (.inl z) fun _ _ hx hv => qR_of (b _ hx) hv
theorem tv_RT {xs : List Rat} (b : ∀ x ∈ xs, Bq x) (h : Tv O te σ G (qT K (qQ K)) xs) : Tv O te σ G (qSq K (qR K)) xs := h.sub fun _ _ z => sq_sub (.inr z) fun _ _ hx hv => qR_of (b _ hx) hv
end
/-- the pairs of a list of numbers -/
def frac (p : Int × Int) : Rat := mkRat p.1 p.2.toNat
def OkP (p : Int × Int) : Prop := 0 < p.2 ∧ Sm p.1 ∧ Sm p.2
theorem paired_R {K : PySem.W.Frag} {G : Hp} : ∀ {vs : List V} {xs : List Rat}, Paired (qR K G) vs xs → ∃ ps, Paired (qNu K G) vs ps ∧ xs = ps.map frac ∧ ∀ p ∈ ps, OkP p
  | _, _, .nil => ⟨[], .nil, rfl, fun _ h => by cases h⟩
  | _, _, .cons ⟨p, q, h, h0, h1, h2, e⟩ t => by
    obtain ⟨ps, a, b, c⟩ := paired_R t
    refine ⟨(p, q) :: ps, .cons h a, by rw [e, b]; rfl, fun z hz => ?_⟩
    rcases List.mem_cons.mp hz with e | hz
    · rw [e]
      exact ⟨h0, h1, h2⟩
    · exact c z hz
theorem sq_R {K : PySem.W.Frag} {G : Hp} {v : V} {xs : List Rat} (h : qSq K (qR K) G v xs) : ∃ ps, qSq K (qNu K) G v ps ∧ xs = ps.map frac ∧ ∀ p ∈ ps, OkP p := by
  rcases h with ⟨vs, h, hp⟩ | ⟨vs, h, hp⟩
  · obtain ⟨ps, a, b, c⟩ := paired_R hp
    exact ⟨ps, .inl ⟨vs, h, a⟩, b, c⟩
  · obtain ⟨ps, a, b, c⟩ := paired_R hp
    exact ⟨ps, .inr ⟨vs, h, a⟩, b, c⟩
section
variable {P : Program} {w : World} {K : PySem.W.Frag} {mg : PySem.Str → Option Value} {base : Heap}
theorem sc_total : FnScope n_total ["values"] (defScope s_total) := ⟨rfl, rfl, rfl, by decide +kernel, rfl, by decide +kernel, by decide +kernel⟩
theorem ok_total (T : Ctx P w K mg base) : Pro P w K mg base "total" ["values"] 4 (spP (raC (qSq K (qR K)) raN) (fun x => x.1.length < 10000 ∧ (∀ i, Bq (sumQ (x.1.take i))) ∧ ∀ y ∈ x.1, Bq y) (qQ K) fun x => sumQ x.1) := by
  refine mk_pro T.d_total (fun _ _ _ _ _ _ us hl => match us, hl with | [_], _ => rfl) fun f fd F => ?_
  refine def1 F sc_total rfl fun cdv A outer s H E O G 
    u xs hr wd hu hp Q k => ⟨_, (pss_cons (ps_set (i := 1) sc_total.nd rfl (Or.inl rfl) (pe_tup (pa_cons pe_int (pa_cons pe_int pa_nil))))
      (pss_cons (ps_for PassesOwn.never rfl (piA (K := K) rfl (pv 0)) (pg_name (i := 2) sc_total.nd rfl (Or.inl rfl)) (pss_one (ps_set (i := 1) sc_total.nd rfl (Or.inl rfl) (pe_cl (ok_sum_of_two T) hr (pa_cons (pv 1) (pa_cons (pe_cl (ok_fraction T) hr (pa_cons (pv 2) pa_nil)) pa_nil))))))
      (pss_one (ps_ret (pv 1))))), ?_⟩
  refine st_asg wd (tv_q K (x := 0) rfl rfl) fun v0 G1 H1 g1 w1 s1 h0 => ?_
  refine st_forS w1 (it_seq (tv_v rfl (hu.mo g1))) tg1 (fun i σ G' H' => ∃ (v : V) (o : Option V), σ = [some u, some v, o] ∧ Same H H' ∧ Has (qQ K) G' v (sumQ (xs.take i)))
    (fun G' H' g s w => ⟨v0, none, rfl, s1.trans s, h0.mo g⟩) ?_ ?_
  · rintro i x σ1 G2 H2 G3 H3 σ2 hx ⟨v, o, rfl, s2, hv⟩ g2 g3 s3 w3 ⟨vx, rfl, hvx⟩ N hN
    have hm : x ∈ xs := List.mem_of_getElem? hx
    refine st_asgL w3 (tv_call (ta_c (tv_v rfl (hv.mo g3)) (ta_c (tv_fr (tv_v rfl hvx)) ta_n)) ⟨hp.2.1 i, hp.2.2 x hm⟩) fun v2 G4 H4 g4 w4 s4 h2 => ?_
    exact hN _ G4 H4 g4 w4 ⟨v2, some vx, rfl, (s2.trans s3).trans s4, by rw [sumQ_take hx]; exact h2⟩
  · rintro σ' G' H' g' w' ⟨v, o, rfl, s2, hv⟩
    rw [List.take_length] at hv
    exact st_ret w' (tv_v rfl hv) fun v H'' s hv => k v H'' (s2.trans s) hv
theorem sc_check_some : FnScope n_check_some ["values"] (defScope s_check_some) := ⟨rfl, rfl, rfl, by decide +kernel, rfl, by decide +kernel, by decide +kernel⟩
theorem ok_check_some (T : Ctx P w K mg base) : Pro P w K mg base "check_some" ["values"] 1 (spP (raC (qLn K) raN) (fun x => 0 < x.1) qU fun _ => ()) := by
  refine mk_pro T.d_check_some (fun _ _ _ _ _ _ us hl => match us, hl with | [_], _ => rfl) fun f fd F => ?_
  refine def1 F sc_check_some rfl fun cdv A outer s H E O G 
    u n hr wd hu hp Q k => ⟨_, (pss_one (ps_if (pt_cmpR op_eq (c_len (K := K) rfl T.n_len (pa_cons (pv 0) pa_nil)) pe_int (nomark _)) pss_never pss_nil)), ?_⟩
  have hp : 0 < n := hp
  refine st_ifE wd (tt_eqI (tv_lenN (tv_v rfl hu)) tv_i) (fun z => absurd (of_decide_eq_true z) (by omega)) (fun _ H1 s1 w1 => k _ _ s1 rfl)
theorem sc_farthest_value : FnScope n_farthest_value ["values", "side"] (defScope s_farthest_value) := ⟨rfl, rfl, rfl, by decide +kernel, rfl, by decide +kernel, by decide +kernel⟩
theorem farF_take {s : Int} {xs : List Rat} {i : Nat} {x b : Rat} (h : xs[i]? = some x) : (xs.take (i + 1)).foldl (fun b y => if cmpQ y b = s then y else b) b = if cmpQ x ((xs.take i).foldl (fun b y => if cmpQ y b = s then y else b) b) = s then x else (xs.take i).foldl (fun b y => if cmpQ y b = s then y else b) b := by
  rw [List.take_add_one, h]
  show ((xs.take i) ++ [x]).foldl _ _ = _
  rw [List.foldl_append]
  rfl
theorem ok_farthest_value (T : Ctx P w K mg base) : Pro P w K mg base "farthest_value" ["values", "side"] 4 (spP (raC (qSq K (qR K)) (raC qI raN)) (fun x => 0 < x.1.length ∧ x.1.length < 10000) (qQ K) fun x => farF x.2.1 x.1) := by
  refine mk_pro T.d_farthest_value (fun _ _ _ _ _ _ us hl => match us, hl with | [_, _], _ => rfl) fun f fd F => ?_
  refine def2 F sc_farthest_value rfl fun cdv A outer s H E O G 
    u v xs sd hr wd hu hv hp Q k => ⟨_, (pss_cons (ps_expr (pe_cl (ok_check_some T) hr (pa_cons (pv 0) pa_nil)))
      (pss_cons (ps_setLc (i := 2) (own := [("value", 3)]) (g := (gName 3)) (tt := tYes) rfl sc_farthest_value.nd rfl rfl (sw_true rfl rfl rfl (by decide +kernel)) (piA (K := K) rfl (pv 0)) (blkOk_by (own := [("value", 3)]) (N := n_farthest_value) (sc := defScope s_farthest_value) (by decide +kernel)) (fun _ _ _ _ _ => (pg_name (i := 3) sc_farthest_value.nd rfl (by first | exact Or.inl rfl | exact Or.inr rfl))) (fun _ _ _ _ _ => pts_nil) (fun _ _ _ _ _ => (pe_cl (ok_parts_of T) hr (pa_cons (pv 3) pa_nil))))
      (pss_cons (ps_set (i := 4) sc_farthest_value.nd rfl (Or.inl rfl) (pe_ix (ixL (K := K) rfl) (pv 2) pe_int (fun _ _ => rfl)))
      (pss_cons (ps_for PassesOwn.never rfl (piL (K := K) rfl (pv 2)) (pg_name (i := 5) sc_farthest_value.nd rfl (Or.inl rfl)) (pss_one (ps_if (pt_cmpR op_eq (pe_cl (ok_order_of T) hr (pa_cons (pv 5) (pa_cons (pv 4) pa_nil))) (pv 1) (nomark _)) (pss_one (ps_set (i := 4) sc_farthest_value.nd rfl (Or.inl rfl) (pv 5))) pss_nil)))
      (pss_one (ps_ret (pe_cl (ok_fraction T) hr (pa_cons (pv 4) pa_nil)))))))), ?_⟩
  obtain ⟨ps, hps, ex, ok⟩ := sq_R hu.h
  have hu1 : Has (qSq K (qNu K)) G u ps := ⟨hps⟩
  have hl : xs.length = ps.length := by rw [ex, List.length_map]
  refine st_drop wd (tv_call (ta_c ((tv_v rfl hu1).sub fun _ _ z => ln_of z) ta_n) (show 0 < ps.length by have h9 : 0 < xs.length := hp.1; omega)) fun H1 s1 w1 => ?_
  refine st_asg (r := qL K (qPr K)) (x := ps.map id) w1 ?_ fun vl G2 H2 g2 w2 s2 hl2 => ?_
  · refine tv_map (it_seq (tv_v rfl hu1)) tg1 (own1 (by decide)) (by have h9 : xs.length < 10000 := hp.2; omega) fun D i p G1 σ2 hx g1 ⟨vp, e, hvp⟩ => ?_
    subst e
    exact tv_call (ta_c (tv_v rfl hvp) ta_n) (ok p (List.mem_of_getElem? hx)).1
  rw [List.map_id] at hl2
  obtain ⟨p0, hp0⟩ : ∃ p, ps[0]? = some p := get_of (by have h9 : 0 < xs.length := hp.1; omega)
  refine st_asg w2 (tv_ixL (tv_v rfl hl2) tv_i (atI_nat (j := 0) hp0)) fun vb G3 H3 g3 w3 s3 hb => ?_
  have e0 : xs.headD 0 = frac p0 := by
    rw [ex]
    cases ps with
    | nil => cases hp0
    | cons a t =>
      cases hp0
      rfl
  have hlp : (ps.map frac).length = ps.length := List.length_map _
  refine st_forS w3 (it_list (tv_v rfl (hl2.mo g3))) tg1 (fun i σ G' H' => ∃ (v' : V) (b : Int × Int) (o : Option V), σ = [some u, some v, some vl, none, some v', o] ∧ Same H H' ∧ Has (qPr K) G' v' b ∧ OkP b ∧ frac b = (xs.take i).foldl (fun b y => if cmpQ y b = sd then y else b) (xs.headD 0))
    (fun G' H' g s w => ⟨vb, p0, none, rfl, ((s1.trans s2).trans s3).trans s, hb.mo g, ok p0 (List.mem_of_getElem? hp0), e0.symm⟩) ?_ ?_
  · rintro i p σ1 G4 H4 G5 H5 σ2 hx ⟨v', b, o, rfl, s4, hv', hb', eb⟩ g4 g5 s5 w5 ⟨vp, rfl, hvp⟩ N hN
    have okp := ok p (List.mem_of_getElem? hx)
    have hxx : xs[i]? = some (frac p) := by rw [ex, List.getElem?_map, hx]; rfl
    have et := farF_take (s := sd) (b := xs.headD 0) hxx
    refine st_ifE w5 (tt_eqI (tv_call (ta_c (tv_v rfl hvp) (ta_c (tv_v rfl (hv'.mo g5)) ta_n)) ⟨okp.2.1, okp.2.2, hb'.2.1, hb'.2.2⟩) (tv_v rfl (((hv.mo g2).mo g3).mo (g4.trans g5)))) (fun z H6 s6 w6 => ?_) (fun z H6 s6 w6 => ?_)
    · have z : cmpI (p.1 * b.2) (b.1 * p.2) = sd := of_decide_eq_true z
      rw [cmp_eq okp.1 hb'.1] at z
      refine st_asgL w6 (tv_v rfl hvp) fun v6 G7 H7 g7 w7 s7 h7 => hN _ G7 H7 g7 w7 ⟨v6, p, some vp, rfl, ((s4.trans s5).trans s6).trans s7, h7, okp, ?_⟩
      rw [et, ← eb, if_pos (show cmpQ (frac p) (frac b) = sd from z)]
    · have z : ¬ cmpI (p.1 * b.2) (b.1 * p.2) = sd := of_decide_eq_false z
      rw [cmp_eq okp.1 hb'.1] at z
      refine hN _ G5 H6 (Same.refl _) w6 ⟨v', b, some vp, rfl, (s4.trans s5).trans s6, hv'.mo g5, hb', ?_⟩
      rw [et, ← eb, if_neg (show ¬ cmpQ (frac p) (frac b) = sd from z)]
  · rintro σ' G' H' g' w' ⟨v', b, o, rfl, s4, hv', hb', eb⟩
    have hn : Has (qNu K) G' v' b := ⟨.inr hv'.h⟩
    refine st_ret w' (tv_call (ta_c (tv_v rfl hn) ta_n) ⟨hb'.1, hb'.2.2⟩) fun v H'' s hv => k v H'' (s4.trans s) ?_
    rw [List.take_of_length_le (by omega)] at eb
    show qQ K _ v (farF sd xs)
    unfold farF
    rw [← eb]
    exact hv
def minQ (xs : List Rat) : Rat := farF (-1) xs
def maxQ (xs : List Rat) : Rat := farF 1 xs
theorem sc_least : FnScope n_least ["values"] (defScope s_least) := ⟨rfl, rfl, rfl, by decide +kernel, rfl, by decide +kernel, by decide +kernel⟩
theorem ok_least (T : Ctx P w K mg base) : Pro P w K mg base "least" ["values"] 5 (spP (raC (qSq K (qR K)) raN) (fun x => 0 < x.1.length ∧ x.1.length < 10000) (qQ K) fun x => minQ x.1) := by
  refine mk_pro T.d_least (fun _ _ _ _ _ _ us hl => match us, hl with | [_], _ => rfl) fun f fd F => ?_
  refine def1 F sc_least rfl fun cdv A outer s H E O G 
    u xs hr wd hu hp Q k => ⟨_, (pss_one (ps_ret (pe_cl (ok_farthest_value T) hr (pa_cons (pv 0) (pa_cons (pe_un un_neg pe_int) pa_nil))))), ?_⟩
  exact st_ret wd (tv_call (ta_c (tv_v rfl hu) (ta_c (tv_neg tv_i) ta_n)) hp) k
theorem sc_greatest : FnScope n_greatest ["values"] (defScope s_greatest) := ⟨rfl, rfl, rfl, by decide +kernel, rfl, by decide +kernel, by decide +kernel⟩
theorem ok_greatest (T : Ctx P w K mg base) : Pro P w K mg base "greatest" ["values"] 5 (spP (raC (qSq K (qR K)) raN) (fun x => 0 < x.1.length ∧ x.1.length < 10000) (qQ K) fun x => maxQ x.1) := by
  refine mk_pro T.d_greatest (fun _ _ _ _ _ _ us hl => match us, hl with | [_], _ => rfl) fun f fd F => ?_
  refine def1 F sc_greatest rfl fun cdv A outer s H E O G 
    u xs hr wd hu hp Q k => ⟨_, (pss_one (ps_ret (pe_cl (ok_farthest_value T) hr (pa_cons (pv 0) (pa_cons pe_int pa_nil))))), ?_⟩
  exact st_ret wd (tv_call (ta_c (tv_v rfl hu) (ta_c tv_i ta_n)) hp) k
def dotQ (xs ys : List Rat) : Rat := (xs.zip ys).foldl (fun a p => a + p.1 * p.2) 0
theorem dotQ_take {zs : List (Rat × Rat)} {i : Nat} {x : Rat × Rat} (h : zs[i]? = some x) : (zs.take (i + 1)).foldl (fun a p => a + p.1 * p.2) 0 = (zs.take i).foldl (fun a p => a + p.1 * p.2) (0 : Rat) + x.1 * x.2 := by
  rw [List.take_add_one, h]
  show ((zs.take i) ++ [x]).foldl _ _ = _
  rw [List.foldl_append]
  rfl
theorem sc_dot : FnScope n_dot ["weights", "values"] (defScope s_dot) := ⟨rfl, rfl, rfl, by decide +kernel, rfl, by decide +kernel, by decide +kernel⟩
theorem ok_dot (T : Ctx P w K mg base) : Pro P w K mg base "dot" ["weights", "values"] 4 (spP (raC (qT K (qR K)) (raC (qL K (qR K)) raN)) (fun x => x.1.length = x.2.1.length ∧ x.1.length < 10000 ∧ (∀ i, Bq (((x.1.zip x.2.1).take i).foldl (fun a p => a + p.1 * p.2) 0)) ∧ (∀ p ∈ x.1.zip x.2.1, Bq p.1 ∧ Bq p.2 ∧ Bq (p.1 * p.2))) (qQ K) fun x => dotQ x.1 x.2.1) := by
  refine mk_pro T.d_dot (fun _ _ _ _ _ _ us hl => match us, hl with | [_, _], _ => rfl) fun f fd F => ?_
  refine def2 F sc_dot rfl fun cdv A outer s H E O G 
    u v xs ys hr wd hu hv hp Q k => ⟨_, (pss_cons (ps_setLc (i := 2) (own := [("weight", 3)]) (g := (gName 3)) (tt := tYes) rfl sc_dot.nd rfl rfl (sw_true rfl rfl rfl (by decide +kernel)) (piA (K := K) rfl (pv 0)) (blkOk_by (own := [("weight", 3)]) (N := n_dot) (sc := defScope s_dot) (by decide +kernel)) (fun _ _ _ _ _ => (pg_name (i := 3) sc_dot.nd rfl (by first | exact Or.inl rfl | exact Or.inr rfl))) (fun _ _ _ _ _ => pts_nil) (fun _ _ _ _ _ => (pe_cl (ok_fraction T) hr (pa_cons (pv 3) pa_nil))))
      (pss_cons (ps_if (pt_cmpR op_ne (c_len (K := K) rfl T.n_len (pa_cons (pv 1) pa_nil)) (c_len (K := K) rfl T.n_len (pa_cons (pv 2) pa_nil)) (nomark _)) pss_never pss_nil)
      (pss_cons (ps_set (i := 4) sc_dot.nd rfl (Or.inl rfl) (pe_tup (pa_cons pe_int (pa_cons pe_int pa_nil))))
      (pss_cons (ps_for PassesOwn.never rfl (pizL (K := K) rfl T.n_zip (pa_cons (pv 2) (pa_cons (pv 1) pa_nil))) (pgT (K := K) (n := 2) rfl rfl (pgs_cons (pg_name (i := 5) sc_dot.nd rfl (Or.inl rfl)) (pgs_cons (pg_name (i := 6) sc_dot.nd rfl (Or.inl rfl)) pgs_nil))) (pss_one (ps_set (i := 4) sc_dot.nd rfl (Or.inl rfl) (pe_cl (ok_sum_of_two T) hr (pa_cons (pv 4) (pa_cons (pe_cl (ok_product_of_two T) hr (pa_cons (pv 5) (pa_cons (pe_cl (ok_fraction T) hr (pa_cons (pv 6) pa_nil)) pa_nil))) pa_nil))))))
      (pss_one (ps_ret (pv 4))))))), ?_⟩
  have hp : xs.length = ys.length ∧ xs.length < 10000 ∧ (∀ i, Bq (((xs.zip ys).take i).foldl (fun a p => a + p.1 * p.2) 0)) ∧ (∀ p ∈ xs.zip ys, Bq p.1 ∧ Bq p.2 ∧ Bq (p.1 * p.2)) := hp
  have hu1 : Has (qSq K (qR K)) G u xs := ⟨.inr hu.h⟩
  refine st_asg (r := qL K (qQ K)) (x := xs.map id) wd ?_ fun vl G2 H2 g2 w2 s2 hl2 => ?_
  · refine tv_map (it_seq (tv_v rfl hu1)) tg1 (own1 (by decide)) hp.2.1 fun D i p G1 σ2 hx g1 ⟨vp, e, hvp⟩ => ?_
    subst e
    exact tv_fr (tv_v rfl hvp)
  rw [List.map_id] at hl2
  refine st_if w2 (tt_neI (tv_lenL (tv_v rfl (hv.mo g2))) (tv_lenL (tv_v rfl hl2))) (fun z => ?_) (fun _ H3 s3 w3 => ?_)
  · rw [decide_eq_true (show (ys.length : Int) = xs.length by rw [hp.1])] at z
    cases z
  refine st_asg w3 (tv_q K (x := 0) rfl rfl) fun v0 G4 H4 g4 w4 s4 h0 => ?_
  refine st_forS w4 (it_zip (tv_v rfl (hl2.mo g4)) (tv_v rfl ((hv.mo g2).mo g4))) tg2 (fun i σ G' H' => ∃ (v' : V) (o o2 : Option V), σ = [some u, some v, some vl, none, some v', o, o2] ∧ Same H H' ∧ Has (qQ K) G' v' (((xs.zip ys).take i).foldl (fun a p => a + p.1 * p.2) 0))
    (fun G' H' g s w => ⟨v0, none, none, rfl, ((s2.trans s3).trans s4).trans s, h0.mo g⟩) ?_ ?_
  · rintro i p σ1 G5 H5 G6 H6 σ2 hx ⟨v', o, o2, rfl, s5, hv'⟩ g5 g6 s6 w6 ⟨va, vb, rfl, ha, hb⟩ N hN
    obtain ⟨b1, b2, b3⟩ := hp.2.2.2 p (List.mem_of_getElem? hx)
    refine st_asgL w6 (tv_call (ta_c (tv_v rfl (hv'.mo g6)) (ta_c (tv_call (ta_c (tv_v rfl ha) (ta_c (tv_fr (tv_v rfl hb)) ta_n)) ⟨b1, b2⟩) ta_n)) ⟨hp.2.2.1 i, b3⟩) fun v7 G7 H7 g7 w7 s7 h7 => ?_
    exact hN _ G7 H7 g7 w7 ⟨v7, some va, some vb, rfl, (s5.trans s6).trans s7, by rw [dotQ_take hx]; exact h7⟩
  · rintro σ' G' H' g' w' ⟨v', o, o2, rfl, s5, hv'⟩
    rw [List.take_length] at hv'
    exact st_ret w' (tv_v rfl hv') fun v H'' s hv => k v H'' (s5.trans s) hv
end
end Nb
set_option Elab.async false
set_option linter.all false
set_option maxRecDepth 100000
set_option maxHeartbeats 4000000
namespace Nb
open PySem L2
open PyProof.Rows (envOfC)
section
variable {P : Program} {w : World} {K : PySem.W.Frag} {mg : PySem.Str → Option Value} {base : Heap}
theorem sc_check_count_rows : FnScope n_check_count_rows ["found", "low", "high"] (defScope s_check_count_rows) := ⟨rfl, rfl, rfl, by decide +kernel, rfl, by decide +kernel, by decide +kernel⟩
theorem ok_check_count_rows (T : Ctx P w K mg base) : Pro P w K mg base "check_count_rows" ["found", "low", "high"] 1 (spP (raC qI (raC qI (raC qI raN))) (fun x => x.2.1 ≤ x.1 ∧ x.1 ≤ x.2.2.1) qU fun _ => ()) := by
  refine mk_pro T.d_check_count_rows (fun _ _ _ _ _ _ us hl => match us, hl with | [_, _, _], _ => rfl) fun f fd F => ?_
  refine def3 F sc_check_count_rows rfl fun cdv A outer s H E O G 
    u v z a b c hr wd hu hv hz hp Q k => ⟨_, (pss_one (ps_if (PW.pt (pw_or (pt_val (c_isinstance (K := K) rfl T.n_isinstance (pa_cons (pv 0) (pa_cons (peTy T.n_bool PyProof.Rows.boot_bool) pa_nil)))) (pw_or (pt_cmpR op_lt (pv 0) (pv 1) (nomark _)) (pw_or1 (pt_cmpR op_gt (pv 0) (pv 2) (nomark _)))))) pss_never pss_nil)), ?_⟩
  obtain ⟨h1, h2⟩ : b ≤ a ∧ a ≤ c := hp
  refine st_ifE (b := false) wd ((tt_or (tt_b (tv_isi (k := false) (tv_v rfl hu) (by decide +kernel))) fun _ => tt_or (tt_opB (tv_v rfl hu) (tv_v rfl hv)) fun _ => tt_opB (tv_v rfl hu) (tv_v rfl hz)).eq ?_) (fun z => nomatch z) (fun _ H1 s1 w1 => k _ _ s1 rfl)
  rw [decide_eq_false (show ¬ a < b by omega), decide_eq_false (show ¬ c < a by omega)]
  rfl
theorem sc_most_rounds : FnScope n_most_rounds ["width"] (defScope s_most_rounds) := ⟨rfl, rfl, rfl, by decide +kernel, rfl, by decide +kernel, by decide +kernel⟩
theorem ok_most_rounds (T : Ctx P w K mg base) : Pro P w K mg base "most_rounds" ["width"] 2 (spP (raC qN raN) (fun x => 1 ≤ x.1 ∧ x.1 ≤ 5) qN fun x => mostR x.1) := by
  refine mk_pro T.d_most_rounds (fun _ _ _ _ _ _ us hl => match us, hl with | [_], _ => rfl) fun f fd F => ?_
  refine def1 F sc_most_rounds rfl fun cdv A outer s H E O G 
    u n hr wd hu hp Q k => ⟨_, (pss_cons (ps_expr (pe_cl (ok_check_count_rows T) hr (pa_cons (pv 0) (pa_cons pe_int (pa_cons (pe_gI T.c_WIDEST) pa_nil)))))
      (pss_one (ps_ret (pe_ix (ixT (K := K) rfl) (pe_gR T.g_MOST_ROUNDS) (pe_op op_sub (pv 0) pe_int) (fun _ _ => rfl))))), ?_⟩
  obtain ⟨h1, h5⟩ : 1 ≤ n ∧ n ≤ 5 := hp
  refine st_drop wd (tv_call (ta_c (tv_v rfl hu.nI) (ta_c tv_i (ta_c tv_i ta_n))) (show (1 : Int) ≤ n ∧ (n : Int) ≤ 5 by omega)) fun H1 s1 w1 => ?_
  refine st_ret w1 (tv_ixT (K := K) (r := qI) (xs := [8, 8, 5, 4, 3]) (x := (mostR n : Int)) (tv_c fun G => ⟨_, ⟨_, rfl, T.t_MOST_ROUNDS G⟩, .cons rfl (.cons rfl (.cons rfl (.cons rfl (.cons rfl .nil))))⟩) (tv_opJ (tv_v rfl hu.nI) tv_i) ?_) fun v H' s hv => k v H' (s1.trans s) hv
  have : n = 1 ∨ n = 2 ∨ n = 3 ∨ n = 4 ∨ n = 5 := by omega
  rcases this with rfl | rfl | rfl | rfl | rfl <;> rfl
theorem sc_check_shape_rows : FnScope n_check_shape_rows ["width", "rounds"] (defScope s_check_shape_rows) := ⟨rfl, rfl, rfl, by decide +kernel, rfl, by decide +kernel, by decide +kernel⟩
theorem ok_check_shape_rows (T : Ctx P w K mg base) : Pro P w K mg base "check_shape_rows" ["width", "rounds"] 3 (spP (raC qN (raC qN raN)) (fun x => Shape x.1 x.2.1) qU fun _ => ()) := by
  refine mk_pro T.d_check_shape_rows (fun _ _ _ _ _ _ us hl => match us, hl with | [_, _], _ => rfl) fun f fd F => ?_
  refine def2 F sc_check_shape_rows rfl fun cdv A outer s H E O G 
    u v n R hr wd hu hv hp Q k => ⟨_, (pss_one (ps_expr (pe_cl (ok_check_count_rows T) hr (pa_cons (pv 1) (pa_cons pe_int (pa_cons (pe_cl (ok_most_rounds T) hr (pa_cons (pv 0) pa_nil)) pa_nil)))))), ?_⟩
  have hp : Shape n R := hp
  refine st_dropL wd (tv_call (ta_c (tv_v rfl hv.nI) (ta_c tv_i (ta_c (tv_NI (tv_call (ta_c (tv_v rfl hu) ta_n) (And.intro hp.1 hp.2.1))) ta_n))) ?_) fun H1 s1 w1 => k _ _ s1 rfl
  have := hp.2.2
  show (0 : Int) ≤ R ∧ (R : Int) ≤ (mostR n : Int)
  omega
theorem sc_letters : FnScope n_letters ["width"] (defScope s_letters) := ⟨rfl, rfl, rfl, by decide +kernel, rfl, by decide +kernel, by decide +kernel⟩
theorem ok_letters (T : Ctx P w K mg base) : Pro P w K mg base "letters" ["width"] 2 (spP (raC qN raN) (fun x => 1 ≤ x.1 ∧ x.1 ≤ 5) qX fun x => List.range x.1) := by
  refine mk_pro T.d_letters (fun _ _ _ _ _ _ us hl => match us, hl with | [_], _ => rfl) fun f fd F => ?_
  refine def1 F sc_letters rfl fun cdv A outer s H E O G 
    u n hr wd hu hp Q k => ⟨_, (pss_cons (ps_expr (pe_cl (ok_check_count_rows T) hr (pa_cons (pv 0) (pa_cons pe_int (pa_cons (pe_gI T.c_WIDEST) pa_nil)))))
      (pss_one (ps_ret (pe_slice sl_str (pe_gS T.c_OUTCOMES) po_none (po_some (pv 0)))))), ?_⟩
  obtain ⟨h1, h5⟩ : 1 ≤ n ∧ n ≤ 5 := hp
  refine st_drop wd (tv_call (ta_c (tv_v rfl hu.nI) (ta_c tv_i (ta_c tv_i ta_n))) (show (1 : Int) ≤ n ∧ (n : Int) ≤ 5 by omega)) fun H1 s1 w1 => ?_
  refine st_ret w1 (tv_sliceS tv_s to_none (to_some (tv_v rfl hu.nI)) ?_) fun v H' s hv => k v H' (s1.trans s) ?_
  · decide +kernel
  show v = V.str (tx (List.range n))
  rw [← letters_eq h1 h5]
  exact hv
theorem sc_count_texts : FnScope n_count_texts ["width", "length"] (defScope s_count_texts) := ⟨rfl, rfl, rfl, by decide +kernel, rfl, by decide +kernel, by decide +kernel⟩
theorem ok_count_texts (T : Ctx P w K mg base) : Pro P w K mg base "count_texts" ["width", "length"] 1 (spP (raC qN (raC qN raN)) (fun x => x.1 ≤ 5 ∧ x.2.1 ≤ 8) qN fun x => x.1 ^ x.2.1) := by
  refine mk_pro T.d_count_texts (fun _ _ _ _ _ _ us hl => match us, hl with | [_, _], _ => rfl) fun f fd F => ?_
  refine def2 F sc_count_texts rfl fun cdv A outer s H E O G 
    u v n m hr wd hu hv hp Q k => ⟨_, (pss_cons (ps_set (i := 2) sc_count_texts.nd rfl (Or.inl rfl) pe_int)
      (pss_cons (ps_for PassesOwn.never rfl (pi_range1 (by rfl) T.n_range (pa_cons (pv 1) pa_nil)) (pg_name (i := 3) sc_count_texts.nd rfl (Or.inl rfl)) (pss_one (ps_set (i := 2) sc_count_texts.nd rfl (Or.inl rfl) (pe_op op_mulW (pv 2) (pv 0)))))
      (pss_one (ps_ret (pv 2))))), ?_⟩
  obtain ⟨h1, h2⟩ : n ≤ 5 ∧ m ≤ 8 := hp
  refine st_asg wd tv_i fun v0 G1 H1 g1 w1 s1 h0 => ?_
  refine st_forS w1 (it_rng1 (tv_v rfl (hv.mo g1).nI) (by omega)) tg1 (fun i σ G' H' => ∃ (v' : V) (o : Option V), σ = [some u, some v, some v', o] ∧ Same H H' ∧ Has qN G' v' (n ^ i))
    (fun G' H' g s w => ⟨v0, none, rfl, s1.trans s, ⟨h0.h⟩⟩) ?_ ?_
  · rintro i x σ1 G5 H5 G6 H6 σ2 hx ⟨v', o, rfl, s5, hv'⟩ g5 g6 s6 w6 ⟨va, rfl, ha⟩ N hN
    have hi : i < m := by
      have := (List.getElem?_eq_some_iff.mp hx).1
      rw [List.length_range] at this
      exact this
    refine st_asgL w6 (tv_opI (tv_v rfl (hv'.mo g6).nI) (tv_v rfl (((hu.mo g1).mo g5).mo g6).nI) (m_sm ?_ ?_)) fun v7 G7 H7 g7 w7 s7 h7 => hN _ G7 H7 g7 w7 ⟨v7, some va, rfl, (s5.trans s6).trans s7, ⟨?_⟩⟩
    · refine sm_small ?_
      have : n ^ i ≤ 5 ^ 8 := Nat.le_trans (Nat.pow_le_pow_left h1 i) (Nat.pow_le_pow_right (by decide) (by omega))
      have h9 : (5 : Nat) ^ 8 = 390625 := by decide
      omega
    · exact sm_small (by omega)
    · rw [show v7 = _ from h7.h]
      show V.int ((n ^ i : Nat) * (n : Int)) = V.int ((n ^ (i + 1) : Nat) : Int)
      rw [Nat.pow_succ, Int.natCast_mul]
  · rintro σ' G' H' g' w' ⟨v', o, rfl, s5, hv'⟩
    rw [List.length_range] at hv'
    exact st_ret w' (tv_v rfl hv') fun v H'' s hv => k v H'' (s5.trans s) hv
theorem sc_next_texts : FnScope n_next_texts ["texts", "width"] (defScope s_next_texts) := ⟨rfl, rfl, rfl, by decide +kernel, rfl, by decide +kernel, by decide +kernel⟩
theorem ok_next_texts (T : Ctx P w K mg base) : Pro P w K mg base "next_texts" ["texts", "width"] 3 (spP (raC (qL K qX) (raC qN raN)) (fun x => 1 ≤ x.2.1 ∧ x.2.1 ≤ 5 ∧ x.1.length * x.2.1 < 10000 ∧ ∀ t ∈ x.1, t.length ≤ 1000) (qLs qX) fun x => nextL x.2.1 x.1) := by
  refine mk_pro T.d_next_texts (fun _ _ _ _ _ _ us hl => match us, hl with | [_, _], _ => rfl) fun f fd F => ?_
  refine def2 F sc_next_texts rfl fun cdv A outer s H E O G 
    u v ts n hr wd hu hv hp Q k => ⟨_, (pss_cons (ps_set (i := 2) sc_next_texts.nd rfl (Or.inr rfl) (pe_cl (ok_letters T) hr (pa_cons (pv 1) pa_nil)))
      (pss_one (ps_ret (pe_lc2 (own := [("text", 3), ("sign", 4)]) (vs1 := [4]) (g := (gName 3)) (g1 := (gName 4)) (tt := tYes) (tt1 := tYes) rfl sc_next_texts.nd (piL (K := K) rfl (pv 0)) (blkOk_by (own := [("text", 3), ("sign", 4)]) (N := n_next_texts) (sc := defScope s_next_texts) (by decide +kernel)) (by decide) (fun _ _ _ _ _ => (pg_name (i := 3) sc_next_texts.nd rfl (by first | exact Or.inl rfl | exact Or.inr rfl))) (fun _ _ _ _ _ => pts_nil) (fun _ _ _ _ _ => (pi_str (pv 2))) (fun _ _ _ _ _ => (pg_name (i := 4) sc_next_texts.nd rfl (by first | exact Or.inl rfl | exact Or.inr rfl))) (fun _ _ _ _ _ => pts_nil) (fun _ _ _ _ _ => (pe_op op_add_str (pv 3) (pv 4))))))), ?_⟩
  obtain ⟨h1, h5, hl, ht⟩ : 1 ≤ n ∧ n ≤ 5 ∧ ts.length * n < 10000 ∧ ∀ t ∈ ts, t.length ≤ 1000 := hp
  refine st_asg wd (tv_call (ta_c (tv_v rfl hv) ta_n) ⟨h1, h5⟩) fun sg G1 H1 g1 w1 s1 hs => ?_
  have hs1 : Has qS G1 sg (tx (List.range n)) := ⟨hs.h⟩
  refine st_ret w1 (r := qLs qX) (x := ts.flatMap fun t => (List.range n).map fun d => t ++ [d]) ?_ fun v H' s hv => k v H' (s1.trans s) hv
  have e : (ts.flatMap fun t => (List.range n).map fun d => t ++ [d]) = ts.flatMap fun t => ((signs (tx (List.range n))).map fun z : PySem.Str => t ++ (z.cps.toList.map fun c => c - 48)) := by
    rw [signs_tx]
    simp only [List.map_map]
    congr 1
    funext t
    refine List.map_congr_left fun d _ => ?_
    show t ++ [d] = t ++ [48 + d - 48]
    rw [Nat.add_sub_cancel_left]
  rw [e]
  refine tv_map2S (r2 := qS) (it_list (tv_v rfl (hu.mo g1))) tg1 (own1 (by decide)) (own1 (by decide)) tg1 (ys := fun _ => signs (tx (List.range n))) (f := fun t z => t ++ (z.cps.toList.map fun c => c - 48)) ?_ ?_ ?_
  · rw [← e]
    show (nextL n ts).length < 10000
    rw [nextL_len]
    exact hl
  · rintro D i t G2 σ2 ht2 g2 ⟨vt, rfl, hvt⟩
    exact it_str (tv_v rfl (hs1.mo g2))
  · rintro D i j t z G2 G3 σ2 σ3 ht2 hz g2 ⟨vt, rfl, hvt⟩ g3 ⟨vz, rfl, hvz⟩
    rw [signs_tx, List.getElem?_map] at hz
    obtain ⟨d, hd, rfl⟩ := Option.map_eq_some_iff.mp hz
    have hvt2 := hvt.mo g3
    have htl := ht t (List.mem_of_getElem? ht2)
    intro H3 w3 Q3 k3
    refine ⟨_, rfl, _, rfl, tx t, tx [d], hvt2.h, hvz.h, ?_, ?_⟩
    · rw [tx_len, tx_len, sizeLine_eq]
      show t.length + 1 ≤ _
      omega
    · refine k3 _ _ (Same.refl _) ?_
      show V.str (tx t ++ tx [d]) = V.str (tx (t ++ ((tx [d]).cps.toList.map fun c => c - 48)))
      rw [tx_app]
      congr 3
      show [d] = [48 + d - 48]
      rw [Nat.add_sub_cancel_left]
end
end Nb
set_option Elab.async false
set_option linter.all false
set_option maxRecDepth 100000
set_option maxHeartbeats 4000000
namespace Nb
open PySem L2
open PyProof.Rows (envOfC)
theorem mostR_le (n : Nat) : mostR n ≤ 8 := by
  unfold mostR
  have : n - 1 = 0 ∨ n - 1 = 1 ∨ n - 1 = 2 ∨ n - 1 = 3 ∨ n - 1 = 4 ∨ 5 ≤ n - 1 := by omega
  rcases this with h | h | h | h | h | h
  all_goals first
    | (rw [h]; decide)
    | (rw [List.getD_eq_getElem?_getD, List.getElem?_eq_none (by simpa using h)]; decide)
theorem Shape.R8 {n R : Nat} (h : Shape n R) : R ≤ 8 := Nat.le_trans h.2.2 (mostR_le n)
theorem Shape.rows {n R k : Nat} (h : Shape n R) (hk : k ≤ R) : (rowsL n k).length ≤ 256 := by rw [rowsL_len]; exact pow_small h hk
theorem rows_short {n R k : Nat} (h : Shape n R) (hk : k ≤ R) : ∀ t ∈ rowsL n k, t.length ≤ 8 := fun t ht => by
  rw [(rowsL_at ht).1]
  exact Nat.le_trans hk h.R8
theorem Shape.begs {n R k : Nat} (h : Shape n R) : k ≤ R → (begL n k).length ≤ 256 * k := by
  induction k with
  | zero => intro _; simp [begL]
  | succ k ih =>
    intro hk
    have h1 := ih (by omega)
    have h2 := h.rows (k := k) (by omega)
    rw [begL, List.length_append]
    omega
section
variable {P : Program} {w : World} {K : PySem.W.Frag} {mg : PySem.Str → Option Value} {base : Heap}
theorem tv_e0 {O : List Addr} {σ : St} {G : Hp} : Tv O (tLst (tCons (tC (.str "")) tNil)) σ G (qLs qX) [[]] := tv_lst1 (tv_c fun _ => rfl)
theorem sc_rows_of : FnScope n_rows_of ["rounds", "width"] (defScope s_rows_of) := ⟨rfl, rfl, rfl, by decide +kernel, rfl, by decide +kernel, by decide +kernel⟩
theorem ok_rows_of (T : Ctx P w K mg base) : ProK P w K mg base "rows_of" ["rounds", "width"] 1 ["width"] 4 (spP (raC qN (raC qN raN)) (fun x => Shape x.2.1 x.1) (qLs qX) fun x => rowsL x.2.1 x.1) := by
  refine mk_proK T.d_rows_of (fun _ _ _ _ _ _ us ws h1 h2 => match us, ws, h1, h2 with | [_], [_], _, _ => rfl) fun f fd F => ?_
  refine def2 F sc_rows_of rfl fun cdv A outer s H E O G 
    u v R n hr wd hu hv hp Q k => ⟨_, (pss_cons (ps_expr (pe_cl (ok_check_shape_rows T) hr (pa_cons (pv 1) (pa_cons (pv 0) pa_nil))))
      (pss_cons (ps_set (i := 2) sc_rows_of.nd rfl (Or.inl rfl) (pe_lst (pa_cons pe_str pa_nil)))
      (pss_cons (ps_for PassesOwn.never rfl (pi_range1 (by rfl) T.n_range (pa_cons (pv 0) pa_nil)) (pg_name (i := 3) sc_rows_of.nd rfl (Or.inl rfl)) (pss_one (ps_set (i := 2) sc_rows_of.nd rfl (Or.inl rfl) (pe_cl (ok_next_texts T) hr (pa_cons (pv 2) (pa_cons (pv 1) pa_nil))))))
      (pss_one (ps_ret (pv 2)))))), ?_⟩
  have hp : Shape n R := hp
  refine st_drop wd (tv_call (ta_c (tv_v rfl hv) (ta_c (tv_v rfl hu) ta_n)) hp) fun H1 s1 w1 => ?_
  refine st_asg w1 tv_e0 fun v0 G2 H2 g2 w2 s2 h0 => ?_
  refine st_forS w2 (it_rng1 (tv_v rfl (hu.mo g2).nI) (by have := hp.R8; omega)) tg1 (fun i σ G' H' => ∃ (v' : V) (o : Option V), σ = [some u, some v, some v', o] ∧ Same H H' ∧ Has (qLs qX) G' v' (rowsL n i))
    (fun G' H' g s w => ⟨v0, none, rfl, (s1.trans s2).trans s, ⟨(h0.mo g).h⟩⟩) ?_ ?_
  · rintro i x σ1 G5 H5 G6 H6 σ2 hx ⟨v', o, rfl, s5, hv'⟩ g5 g6 s6 w6 ⟨va, rfl, ha⟩ N hN
    have hi : i < R := by
      have := (List.getElem?_eq_some_iff.mp hx).1
      rw [List.length_range] at this
      exact this
    refine st_asgL w6 (tv_call (ta_c (tv_Ls (tv_v rfl (hv'.mo g6))) (ta_c (tv_v rfl ((hv.mo g2).mo (g5.trans g6))) ta_n)) ⟨hp.1, hp.2.1, ?_, ?_⟩) fun v7 G7 H7 g7 w7 s7 h7 => hN _ G7 H7 g7 w7 ⟨v7, some va, rfl, (s5.trans s6).trans s7, ⟨h7.h⟩⟩
    · have h1 := hp.rows (k := i) (by omega)
      have h2 := hp.2.1
      have h3 := Nat.mul_le_mul h1 h2
      show (rowsL n i).length * n < 10000
      omega
    · intro t ht
      have := rows_short hp (k := i) (by omega) t ht
      omega
  · rintro σ' G' H' g' w' ⟨v', o, rfl, s5, hv'⟩
    rw [List.length_range] at hv'
    exact st_ret w' (tv_v rfl hv') fun v H'' s hv => k v H'' (s5.trans s) hv
theorem sc_beginnings_of : FnScope n_beginnings_of ["rounds", "width"] (defScope s_beginnings_of) := ⟨rfl, rfl, rfl, by decide +kernel, rfl, by decide +kernel, by decide +kernel⟩
theorem ok_beginnings_of (T : Ctx P w K mg base) : ProK P w K mg base "beginnings_of" ["rounds", "width"] 1 ["width"] 4 (spP (raC qN (raC qN raN)) (fun x => Shape x.2.1 x.1) (qLs qX) fun x => begL x.2.1 x.1) := by
  refine mk_proK T.d_beginnings_of (fun _ _ _ _ _ _ us ws h1 h2 => match us, ws, h1, h2 with | [_], [_], _, _ => rfl) fun f fd F => ?_
  refine def2 F sc_beginnings_of rfl fun cdv A outer s H E O G 
    u v R n hr wd hu hv hp Q k => ⟨_, (pss_cons (ps_expr (pe_cl (ok_check_shape_rows T) hr (pa_cons (pv 1) (pa_cons (pv 0) pa_nil))))
      (pss_cons (ps_set (i := 2) sc_beginnings_of.nd rfl (Or.inl rfl) (pe_lst pa_nil))
      (pss_cons (ps_set (i := 3) sc_beginnings_of.nd rfl (Or.inl rfl) (pe_lst (pa_cons pe_str pa_nil)))
      (pss_cons (ps_for PassesOwn.never rfl (pi_range1 (by rfl) T.n_range (pa_cons (pv 0) pa_nil)) (pg_name (i := 4) sc_beginnings_of.nd rfl (Or.inl rfl)) (pss_cons (ps_expr (pe_bm PySem.F.plainAttrs_list PySem.F.slot_list_extend PySem.F.type_list_extend mt_extend (pv 2) (pa_cons (pv 3) pa_nil)))
      (pss_one (ps_set (i := 3) sc_beginnings_of.nd rfl (Or.inl rfl) (pe_cl (ok_next_texts T) hr (pa_cons (pv 3) (pa_cons (pv 1) pa_nil)))))))
      (pss_one (ps_ret (pv 2))))))), ?_⟩
  have hp : Shape n R := hp
  refine st_drop wd (tv_call (ta_c (tv_v rfl hv) (ta_c (tv_v rfl hu) ta_n)) hp) fun H1 s1 w1 => ?_
  refine st_new (q := qX) w1 fun p H2 hp2 s2 w2 o2 => ?_
  have hpn : H p = none := by
    cases e : H p with
    | none => rfl
    | some u => rw [s1 _ _ e] at hp2; cases hp2
  refine st_asg w2 tv_e0 fun v0 G3 H3 g3 w3 s3 h0 => ?_
  refine st_forS w3 (it_rng1 (tv_v rfl (hu.mo g3).nI) (by have := hp.R8; omega)) tg1 (fun i σ G' H' => ∃ (v' : V) (o : Option V), σ = [some u, some v, some (.ref p), some v', o] ∧ Same H H' ∧ Has (qLs qX) G' v' (rowsL n i) ∧ OwL qX O G' H' p (begL n i))
    (fun G' H' g s w => ⟨v0, none, rfl, ((s1.trans s2).trans s3).trans s, ⟨(h0.mo g).h⟩, (o2.on g3 s3).on g s⟩) ?_ ?_
  · rintro i x σ1 G5 H5 G6 H6 σ2 hx ⟨v', o, rfl, s5, hv', o5⟩ g5 g6 s6 w6 ⟨va, rfl, ha⟩ N hN
    have hi : i < R := by
      have := (List.getElem?_eq_some_iff.mp hx).1
      rw [List.length_range] at this
      exact this
    have h1 := hp.rows (k := i) (by omega)
    refine st_ext w6 (o5.on g6 s6) rfl (by
      have := hp.begs (k := i) (by omega)
      have := hp.R8
      omega) (tv_v rfl (hv'.mo g6)) fun G7 H7 g7 w7 s7 o7 => ?_
    refine st_asgL w7 (tv_call (ta_c (tv_Ls (tv_v rfl ((hv'.mo g6).mo g7))) (ta_c (tv_v rfl ((hv.mo g3).mo ((g5.trans g6).trans g7))) ta_n)) ⟨hp.1, hp.2.1, ?_, ?_⟩) fun v8 G8 H8 g8 w8 s8 h8 => hN _ G8 H8 (g7.trans g8) w8 ⟨v8, some va, rfl, (s7.same (s5.trans s6) hpn).trans s8, ⟨h8.h⟩, o7.on g8 s8⟩
    · have h2 := hp.2.1
      have h3 := Nat.mul_le_mul h1 h2
      show (rowsL n i).length * n < 10000
      omega
    · intro t ht
      have := rows_short hp (k := i) (by omega) t ht
      omega
  · rintro σ' G' H' g' w' ⟨v', o, rfl, s5, hv', o5⟩
    rw [List.length_range] at o5
    obtain ⟨G8, g8, w8, h8⟩ := o5.fin w'
    exact st_ret w8 (tv_v rfl h8) fun v H'' s hv => k v H'' (s5.trans s) hv
end
end Nb
set_option Elab.async false
set_option linter.all false
set_option maxRecDepth 100000
set_option maxHeartbeats 4000000
namespace Nb
open PySem L2
open PyProof.Rows (envOfC)
/-! ### tables -/
abbrev fld (fs : List (PySem.Str × V)) (f : PySem.Str) : Option V := fs.lookup f
structure Tab where
  n : Nat
  R : Nat
  cs : List Rat
def qTab (K : PySem.W.Frag) : Rl Tab := fun G v t => ∃ a dx fs vc, v = .ref a ∧ G a = some (.ins (He.ga K "Table") dx fs) ∧ fld fs "own_width" = some (V.int (t.n : Int)) ∧ fld fs "own_rounds" = some (V.int (t.R : Int)) ∧ fld fs "own_cells" = some vc ∧ qL K (qQ K) G vc t.cs
instance (K : PySem.W.Frag) : Mo (qTab K) := ⟨fun s ⟨a, dx, fs, vc, e, h, h1, h2, h3, h4⟩ => ⟨a, dx, fs, vc, e, s _ _ h, h1, h2, h3, Mo.mo s h4⟩⟩
theorem tab_ins {K : PySem.W.Frag} : InsR (He.ga K "Table") (qTab K) := fun G v x ⟨a, dx, fs, _, e, h, _⟩ => ⟨a, dx, fs, e, h⟩
section
variable {P : Program} {w : World} {K : PySem.W.Frag} {mg : PySem.Str → Option Value} {base : Heap}
theorem def_init {α β : Type} {x qual : PySem.Str} {params : Arguments} {body : List Stmt} {scope : Scope} {dvs : List V} {kws : List (PySem.Str × V)} {f C : Addr} {fd : FuncData} {N ps : List PySem.Str} {k : Nat}
    {ra : RA α} {pr : α → Prop} {r : Rl β} {g : α → β} {n : Nat} [LenA ra n] (F : FunD K x qual params body scope dvs kws f fd) (S : FnScope N ps scope) (hn : ps.length = n + 1)
    (hbody : ∀ (cdv : Value) (A : Around) (outer : List Env) (s : Shared) (H : Hp) (E : XK) (O : List Addr) (G : Hp) (p dx : Addr) (ws : List V) (a : α), Room k (A.deeper (envOfC qual scope s.heap.objs.size f cdv)) → Wd (p :: O) G H → p ∉ O → H p = some (.ins C dx []) → ra G ws a → pr a →
      ∀ Q : VK, (∀ H', Sb p H H' → r (wo H' O) (.ref p) (g a) → Q .non H') → ∃ t, PSs (Bx P w K mg base N qual scope f cdv A outer s H E) body t ∧ t { nx := fun _ H' => Q .non H', rt := Q } (start N (.ref p :: ws)) H) :
    FnOk P w K mg base CX0 (k + 1) f fd ps (spI C ra pr r g) := by
  refine F.ok S (fun vs H Q E h => ?_) (fun cdv A outer s H vs Q E hr h => ?_)
  · obtain ⟨O, p, dx, ws, a, e, _, _, _, h, _⟩ := h
    rw [e, List.length_cons, LenA.len _ _ _ h, hn]
  · obtain ⟨O, p, dx, ws, a, e, hp, hi, d, h, hpr, q⟩ := h
    subst e
    obtain ⟨t, h1, h2⟩ := hbody cdv A outer s H E O _ p dx ws a hr (Wd.here d) hp hi h hpr Q q
    exact ⟨t, h1.nox, h2⟩
theorem putF_len (f : PySem.Str) (v : V) : ∀ fs : List (PySem.Str × V), (putF f v fs).length ≤ fs.length + 1
  | [] => Nat.le_refl _
  | (g, x) :: r => by
    unfold putF
    split
    · simp
    · have := putF_len f v r
      simp only [List.length_cons]
      omega
theorem fl {f : PySem.Str} {v : V} {fs : List (PySem.Str × V)} {n : Nat} (h : fs.length < n) : (putF f v fs).length < n + 1 := by have := putF_len f v fs; omega
/-- a property that reads a field -/
theorem tv_fldT {O : List Addr} {σ : St} {G : Hp} {te : TE} {t : Tab} (T : Ctx P w K mg base) (h : Tv O te σ G (qTab K) t) : Tv O (tFld K te "own_width") σ G qN t.n :=
  tv_fld h T.cl_Table (T.na_Table _ (by simp)) fun G v ⟨a, dx, fs, vc, e, h, h1, h2, h3, h4⟩ => ⟨a, dx, fs, _, e, h, h1, rfl⟩
theorem tv_fldR {O : List Addr} {σ : St} {G : Hp} {te : TE} {t : Tab} (T : Ctx P w K mg base) (h : Tv O te σ G (qTab K) t) : Tv O (tFld K te "own_rounds") σ G qN t.R :=
  tv_fld h T.cl_Table (T.na_Table _ (by simp)) fun G v ⟨a, dx, fs, vc, e, h, h1, h2, h3, h4⟩ => ⟨a, dx, fs, _, e, h, h2, rfl⟩
theorem tv_fldC {O : List Addr} {σ : St} {G : Hp} {te : TE} {t : Tab} (T : Ctx P w K mg base) (h : Tv O te σ G (qTab K) t) : Tv O (tFld K te "own_cells") σ G (qL K (qQ K)) t.cs :=
  tv_fld h T.cl_Table (T.na_Table _ (by simp)) fun G v ⟨a, dx, fs, vc, e, h, h1, h2, h3, h4⟩ => ⟨a, dx, fs, _, e, h, h3, h4⟩
theorem sc_Table_width : FnScope n_Table_width ["self"] (defScope s_Table_width) := ⟨rfl, rfl, rfl, by decide +kernel, rfl, by decide +kernel, by decide +kernel⟩
theorem ok_Table_width (T : Ctx P w K mg base) : Prp P w K mg base (He.ga K "Table") "width" 1 (spP (raC (qTab K) raN) (fun _ => True) qN fun x => x.1.n) := by
  refine mk_prp T.m_Table_width (fun _ _ _ _ _ _ us hl => match us, hl with | [_], _ => rfl) fun f fd F => ?_
  refine def1 F sc_Table_width rfl fun cdv A outer s H E O G 
    u t hr wd hu _ Q k => ⟨_, (pss_one (ps_ret (pe_fld (pv 0) rfl))), ?_⟩
  exact st_ret wd (tv_fldT T (tv_v rfl hu)) k
theorem sc_Table_rounds : FnScope n_Table_rounds ["self"] (defScope s_Table_rounds) := ⟨rfl, rfl, rfl, by decide +kernel, rfl, by decide +kernel, by decide +kernel⟩
theorem ok_Table_rounds (T : Ctx P w K mg base) : Prp P w K mg base (He.ga K "Table") "rounds" 1 (spP (raC (qTab K) raN) (fun _ => True) qN fun x => x.1.R) := by
  refine mk_prp T.m_Table_rounds (fun _ _ _ _ _ _ us hl => match us, hl with | [_], _ => rfl) fun f fd F => ?_
  refine def1 F sc_Table_rounds rfl fun cdv A outer s H E O G 
    u t hr wd hu _ Q k => ⟨_, (pss_one (ps_ret (pe_fld (pv 0) rfl))), ?_⟩
  exact st_ret wd (tv_fldR T (tv_v rfl hu)) k
theorem sc_Table_cells : FnScope n_Table_cells ["self"] (defScope s_Table_cells) := ⟨rfl, rfl, rfl, by decide +kernel, rfl, by decide +kernel, by decide +kernel⟩
theorem ok_Table_cells (T : Ctx P w K mg base) : Prp P w K mg base (He.ga K "Table") "cells" 1 (spP (raC (qTab K) raN) (fun _ => True) (qL K (qQ K)) fun x => x.1.cs) := by
  refine mk_prp T.m_Table_cells (fun _ _ _ _ _ _ us hl => match us, hl with | [_], _ => rfl) fun f fd F => ?_
  refine def1 F sc_Table_cells rfl fun cdv A outer s H E O G 
    u t hr wd hu _ Q k => ⟨_, (pss_one (ps_ret (c_list (K := K) rfl T.n_list (pa_cons (pe_fld (pv 0) rfl) pa_nil)))), ?_⟩
  exact st_ret wd (tv_listL (tv_fldC T (tv_v rfl hu))) k
theorem Shape.n5 {n R : Nat} (h : Shape n R) : n ≤ 5 := h.2.1
theorem sc_Table___init__ : FnScope n_Table___init__ ["self", "width", "rounds", "cells"] (defScope s_Table___init__) := ⟨rfl, rfl, rfl, by decide +kernel, rfl, by decide +kernel, by decide +kernel⟩
theorem ok_Table___init__ (T : Ctx P w K mg base) : Mkr P w K mg base "Table" ["self", "width", "rounds", "cells"] 4 (spI (He.ga K "Table") (raC qN (raC qN (raC (qL K (qR K)) raN))) (fun x => Shape x.1 x.2.1 ∧ x.2.2.1.length = x.1 ^ x.2.1) (qTab K) fun x => ⟨x.1, x.2.1, x.2.2.1⟩) := by
  refine mk_mkr T.m_Table___init__ (fun _ _ _ _ _ _ us hl => match us, hl with | [_, _, _, _], _ => rfl) (hm := T.g_Table) fun f fd F => ?_
  refine def_init F sc_Table___init__ rfl fun cdv A outer s H E O G 
    p dx ws a hr wd hp hi hra hpr Q k => by
    obtain ⟨n, R, cs, _⟩ := a
    obtain ⟨u, v, z, rfl, hu, hv, hz⟩ := ra3 hra
    obtain ⟨sh, hl⟩ : Shape n R ∧ cs.length = n ^ R := hpr
    have hlen : cs.length ≤ 256 := by rw [hl]; exact pow_small sh (Nat.le_refl _)
    refine ⟨_, (pss_cons (ps_expr (pe_cl (ok_check_shape_rows T) hr (pa_cons (pv 1) (pa_cons (pv 2) pa_nil))))
      (pss_cons (ps_set (i := 4) sc_Table___init__.nd rfl (Or.inl rfl) (pe_cl (ok_count_texts T) hr (pa_cons (pv 1) (pa_cons (pv 2) pa_nil))))
      (pss_cons (ps_if (pt_cmpR op_ne (c_len (K := K) rfl T.n_len (pa_cons (pv 3) pa_nil)) (pv 4) (nomark _)) pss_never pss_nil)
      (pss_cons (ps_fld (pv 0) (pv 1) rfl)
      (pss_cons (ps_fld (pv 0) (pv 2) rfl)
      (pss_one (ps_fld (pv 0) (pe_lc (own := [("cell", 5)]) (g := (gName 5)) (tt := tYes) rfl sc_Table___init__.nd (piL (K := K) rfl (pv 3)) (blkOk_by (own := [("cell", 5)]) (N := n_Table___init__) (sc := defScope s_Table___init__) (by decide +kernel)) (fun _ _ _ _ _ => (pg_name (i := 5) sc_Table___init__.nd rfl (by first | exact Or.inl rfl | exact Or.inr rfl))) (fun _ _ _ _ _ => pts_nil) (fun _ _ _ _ _ => (pe_cl (ok_fraction T) hr (pa_cons (pv 5) pa_nil)))) rfl))))))), ?_⟩
    have hu : Has qN G u n := ⟨hu⟩
    have hv : Has qN G v R := ⟨hv⟩
    have hz : Has (qL K (qR K)) G z cs := ⟨hz⟩
    refine st_drop wd (tv_call (ta_c (tv_v rfl hu) (ta_c (tv_v rfl hv) ta_n)) sh) fun H1 s1 w1 => ?_
    have hi1 := s1 _ _ hi
    refine st_asg w1 (tv_call (ta_c (tv_v rfl hu) (ta_c (tv_v rfl hv) ta_n)) ⟨sh.n5, sh.R8⟩) fun vd G2 H2 g2 w2 s2 hd => ?_
    have hi2 := s2 _ _ hi1
    refine st_if w2 ((tt_neI (tv_lenL (tv_v rfl (hz.mo g2))) (tv_v rfl hd.nI)).eq (b := false) (by
      show (!decide ((cs.length : Int) = ((n ^ R : Nat) : Int))) = false
      rw [hl]
      simp)) (fun z => nomatch z) (fun _ H3 s3 w3 => ?_)
    have hi3 := s3 _ _ hi2
    refine st_fld w3 hi3 rfl T.cl_Table (T.na_Table _ (by simp)) (by decide) (tv_v rfl (hu.mo g2)) fun u4 G4 H4 g4 w4 s4 hi4 h4 => ?_
    refine st_fld w4 hi4 rfl T.cl_Table (T.na_Table _ (by simp)) (fl (by decide)) (tv_v rfl ((hv.mo g2).mo g4)) fun u5 G5 H5 g5 w5 s5 hi5 h5 => ?_
    refine st_fldL w5 hi5 rfl T.cl_Table (T.na_Table "own_cells" (by simp)) (fl (fl (by decide))) (r := qL K (qQ K)) (x := cs.map id) (tv_map (it_list (tv_v rfl (((hz.mo g2).mo g4).mo g5))) tg1 (own1 (by decide)) (by omega) fun D i y G6 σ6 hy g6 ⟨vy, e, hvy⟩ => ?_) fun u6 G6 H6 g6 w6 s6 hi6 h6 => ?_
    · subst e
      exact tv_fr (tv_v rfl hvy)
    rw [List.map_id] at h6
    have e6 : wo H6 O p = some _ := (wo_out hp).trans hi6
    exact k H6 ((((Sb.of ((s1.trans s2).trans s3)).trans s4).trans s5).trans s6) ⟨p, dx, _, u6, rfl, e6, by rw [show u4 = _ from h4.h]; rfl, by rw [show u5 = _ from h5.h]; rfl, rfl, Mo.mo w6.drop.le h6.h⟩
theorem sc_check_same_shape : FnScope n_check_same_shape ["first", "second"] (defScope s_check_same_shape) := ⟨rfl, rfl, rfl, by decide +kernel, rfl, by decide +kernel, by decide +kernel⟩
theorem ok_check_same_shape (T : Ctx P w K mg base) : Pro P w K mg base "check_same_shape" ["first", "second"] 3 (spP (raC (qTab K) (raC (qTab K) raN)) (fun x => x.1.n = x.2.1.n ∧ x.1.R = x.2.1.R) qU fun _ => ()) := by
  refine mk_pro T.d_check_same_shape (fun _ _ _ _ _ _ us hl => match us, hl with | [_, _], _ => rfl) fun f fd F => ?_
  refine def2 F sc_check_same_shape rfl fun cdv A outer s H E O G 
    u v a b hr wd hu hv hp Q k => ⟨_, (pss_one (ps_if (PW.pt (pw_or (pt_cmpR op_ne (pe_prp (ok_Table_width T) hr T.cl_Table (pv 0)) (pe_prp (ok_Table_width T) hr T.cl_Table (pv 1)) (nomark _)) (pw_or1 (pt_cmpR op_ne (pe_prp (ok_Table_rounds T) hr T.cl_Table (pv 0)) (pe_prp (ok_Table_rounds T) hr T.cl_Table (pv 1)) (nomark _))))) pss_never pss_nil)), ?_⟩
  obtain ⟨h1, h2⟩ : a.n = b.n ∧ a.R = b.R := hp
  refine st_ifE (b := false) wd ((tt_or (tt_neI (tv_NI (tv_prop (tv_v rfl hu) tab_ins trivial)) (tv_NI (tv_prop (tv_v rfl hv) tab_ins trivial))) fun _ => tt_neI (tv_NI (tv_prop (tv_v rfl hu) tab_ins trivial)) (tv_NI (tv_prop (tv_v rfl hv) tab_ins trivial))).eq ?_) (fun z => nomatch z) (fun _ H1 s1 w1 => k _ _ s1 rfl)
  rw [h1, h2]
  simp
def subT (a b : Tab) : Tab := ⟨a.n, a.R, (a.cs.zip b.cs).map fun x => x.1 - x.2⟩
theorem sc_Table___sub__ : FnScope n_Table___sub__ ["self", "other"] (defScope s_Table___sub__) := ⟨rfl, rfl, rfl, by decide +kernel, rfl, by decide +kernel, by decide +kernel⟩
theorem ok_Table___sub__ (T : Ctx P w K mg base) : Bin P w K mg base (He.ga K "Table") "__sub__" 6 (spP (raC (qTab K) (raC (qTab K) raN)) (fun x => Shape x.1.n x.1.R ∧ x.1.n = x.2.1.n ∧ x.1.R = x.2.1.R ∧ x.1.cs.length = x.1.n ^ x.1.R ∧ x.2.1.cs.length = x.1.n ^ x.1.R ∧ (∀ y ∈ x.1.cs, Bq y) ∧ (∀ y ∈ x.2.1.cs, Bq y) ∧ ∀ y ∈ (subT x.1 x.2.1).cs, Bq y) (qTab K) fun x => subT x.1 x.2.1) := by
  refine mk_bin T.m_Table___sub__ (fun _ _ _ _ _ _ us hl => match us, hl with | [_, _], _ => rfl) (ps := ["self", "other"]) fun f fd F => ?_
  refine def2 F sc_Table___sub__ rfl fun cdv A outer s H E O G 
    u v a b hr wd hu hv hp Q k => ⟨_, (pss_cons (ps_expr (pe_cl (ok_check_same_shape T) hr (pa_cons (pv 0) (pa_cons (pv 1) pa_nil))))
      (pss_cons (ps_setLc (i := 2) (own := [("mine", 3), ("theirs", 4)]) (g := (gTup K 2 (gCons (gName 3) (gCons (gName 4) gNil)))) (tt := tYes) rfl sc_Table___sub__.nd rfl rfl (sw_true rfl rfl rfl (by decide +kernel)) (pizL (K := K) rfl T.n_zip (pa_cons (pe_fld (pv 0) rfl) (pa_cons (pe_fld (pv 1) rfl) pa_nil))) (blkOk_by (own := [("mine", 3), ("theirs", 4)]) (N := n_Table___sub__) (sc := defScope s_Table___sub__) (by decide +kernel)) (fun _ _ _ _ _ => (pgT (K := K) (n := 2) rfl rfl (pgs_cons (pg_name (i := 3) sc_Table___sub__.nd rfl (by first | exact Or.inl rfl | exact Or.inr rfl)) (pgs_cons (pg_name (i := 4) sc_Table___sub__.nd rfl (by first | exact Or.inl rfl | exact Or.inr rfl)) pgs_nil)))) (fun _ _ _ _ _ => pts_nil) (fun _ _ _ _ _ => (pe_cl (ok_sub T) hr (pa_cons (pv 3) (pa_cons (pv 4) pa_nil)))))
      (pss_one (ps_ret (pe_mkr (ok_Table___init__ T) hr (pa_cons (pe_fld (pv 0) rfl) (pa_cons (pe_fld (pv 0) rfl) (pa_cons (pv 2) pa_nil)))))))), ?_⟩
  obtain ⟨sh, h1, h2, l1, l2, b1, b2, b3⟩ : Shape a.n a.R ∧ a.n = b.n ∧ a.R = b.R ∧ a.cs.length = a.n ^ a.R ∧ b.cs.length = a.n ^ a.R ∧ (∀ y ∈ a.cs, Bq y) ∧ (∀ y ∈ b.cs, Bq y) ∧ ∀ y ∈ (subT a b).cs, Bq y := hp
  have hlen : a.cs.length ≤ 256 := by rw [l1]; exact pow_small sh (Nat.le_refl _)
  refine st_drop wd (tv_call (ta_c (tv_v rfl hu) (ta_c (tv_v rfl hv) ta_n)) ⟨h1, h2⟩) fun H1 s1 w1 => ?_
  refine st_asg (r := qL K (qQ K)) (x := (a.cs.zip b.cs).map fun x => x.1 - x.2) w1 (tv_map (it_zip (tv_fldC T (tv_v rfl hu)) (tv_fldC T (tv_v rfl hv))) tg2 (own2 (by decide) (by decide)) (by rw [List.length_zip]; omega) fun D i y G6 σ6 hy g6 ⟨v1, v2, e, hv1, hv2⟩ => ?_) fun vc G2 H2 g2 w2 s2 hc => ?_
  · subst e
    obtain ⟨z1, z2⟩ := List.getElem?_zip_eq_some.mp hy
    have m1 := b1 _ (List.mem_of_getElem? z1)
    have m2 := b2 _ (List.mem_of_getElem? z2)
    exact tv_call (ta_c (tv_RQ m1 (tv_v rfl hv1)) (ta_c (tv_RQ m2 (tv_v rfl hv2)) ta_n)) ⟨m1, m2⟩
  refine st_ret w2 (tv_make (ta_c (tv_fldT T (tv_v rfl (hu.mo g2))) (ta_c (tv_fldR T (tv_v rfl (hu.mo g2))) (ta_c ((tv_v rfl hc).sub fun _ _ z => L_sub z fun _ y hy hv => qR_of (b3 y hy) hv) ta_n))) ⟨sh, ?_⟩) fun v H' s hv => k v H' ((s1.trans s2).trans s) hv
  show ((a.cs.zip b.cs).map fun x => x.1 - x.2).length = _
  rw [List.length_map, List.length_zip, l1, l2, Nat.min_self]
end
end Nb
set_option Elab.async false
set_option linter.all false
set_option maxRecDepth 100000
set_option maxHeartbeats 4000000
namespace Nb
open PySem L2
open PyProof.Rows (envOfC)
/-! ### plans -/
structure Pln where
  n : Nat
  R : Nat
  sh : List (List Rat)
def shF (n : Nat) (sh : List (List Rat)) (t : List Nat) : List Rat := sh.getD (bidx n t) []
def qPln (K : PySem.W.Frag) : Rl Pln := fun G v p => ∃ a dx fs vs d f, v = .ref a ∧ G a = some (.ins (He.ga K "Plan") dx fs) ∧ fld fs "held_width" = some (V.int (p.n : Int)) ∧ fld fs "held_rounds" = some (V.int (p.R : Int)) ∧ fld fs "held_shares" = some vs ∧ qT K (qT K (qQ K)) G vs p.sh ∧
  fld fs "held_places" = some d ∧ qDs (qT K (qQ K)) G d f ∧ ∀ t, t.length < p.R → Dig p.n t → f t = some (shF p.n p.sh t)
instance (K : PySem.W.Frag) : Mo (qPln K) := ⟨fun s ⟨a, dx, fs, vs, d, f, e, h, h1, h2, h3, h4, h5, h6, h7⟩ => ⟨a, dx, fs, vs, d, f, e, s _ _ h, h1, h2, h3, Mo.mo s h4, h5, Mo.mo s h6, h7⟩⟩
theorem pln_ins {K : PySem.W.Frag} : InsR (He.ga K "Plan") (qPln K) := fun G v x ⟨a, dx, fs, _, _, _, e, h, _⟩ => ⟨a, dx, fs, e, h⟩
structure GoodSh (n : Nat) (u : List Rat) : Prop where
  len : u.length = n
  pos : ∀ x ∈ u, 0 ≤ x
  sum : sumQ u = 1
  bq : ∀ x ∈ u, Bq x
  bs : ∀ i, Bq (sumQ (u.take i))
/-! shapes of data -/
def ShR {α : Type} (k : Nat) (f : α → PyData) : Prop := ∀ x, (f x).canLay0 = true ∧ (f x).depth ≤ k
theorem shQ : ShR 1 (fun x : Rat => PyData.tuple [.int x.num, .int (x.den : Int)]) := fun x => by
  constructor
  · simp [PyData.canLay0, PyData.canLayAll0]
  · simp [PyData.depth, PyData.depthAll]
theorem shAll {α : Type} {k : Nat} {f : α → PyData} (h : ShR k f) : ∀ xs : List α, PyData.canLayAll0 (xs.map f) = true ∧ PyData.depthAll (xs.map f) ≤ k
  | [] => ⟨by simp [PyData.canLayAll0], by simp [PyData.depthAll]⟩
  | x :: xs => by
    obtain ⟨h1, h2⟩ := h x
    obtain ⟨h3, h4⟩ := shAll h xs
    simp [PyData.canLayAll0, PyData.depthAll, h1, h3]
    omega
theorem shT {α : Type} {k : Nat} {f : α → PyData} (h : ShR k f) : ShR (k + 1) (fun xs : List α => PyData.tuple (xs.map f)) := fun xs => by
  obtain ⟨h1, h2⟩ := shAll h xs
  simp [PyData.canLay0, PyData.depth, h1]
  omega
theorem shaped_of {α : Type} {k : Nat} {f : α → PyData} (h : ShR k f) (hk : k ≤ 64) (x : α) : SeqAt.shaped (f x) = true := by
  obtain ⟨h1, h2⟩ := h x
  unfold SeqAt.shaped
  rw [h1, decide_eq_true (by omega)]
  rfl
theorem tv_eqI {O : List Addr} {σ : St} {G : Hp} {ta tb : TE} {i j : Int} (ha : Tv O ta σ G qI i) (hb : Tv O tb σ G qI j) : Tv O (tOp rEq ta tb) σ G qB (decide (i = j)) := fun H w Q k =>
  ha H w _ fun v H1 s1 h1 => hb H1 (w.same s1) _ fun u H2 s2 h2 => by
    cases h1
    cases h2
    refine ⟨rfl, k _ _ (s1.trans s2) ?_⟩
    show V.bl _ = V.bl _
    congr 1
    by_cases z : i = j
    · rw [z, decide_eq_true rfl, decide_eq_true rfl]
    · rw [decide_eq_false z, decide_eq_false (fun q => z (V.int.inj q))]
/-- the dict of a zip -/
theorem put_zip {β : Type} {t : List Nat} {u : β} : ∀ (zs : List (List Nat × β)) (f : List Nat → Option β), (∀ z ∈ zs, z.1 = t → z.2 = u) → ((∃ z ∈ zs, z.1 = t) ∨ f t = some u) → zs.foldl (fun f x => putD f x.1 x.2) f t = some u
  | [], f, _, h => h.elim (fun ⟨z, hz, _⟩ => by cases hz) id
  | z :: zs, f, h1, h2 => by
    rw [List.foldl_cons]
    refine put_zip zs _ (fun y hy => h1 y (List.mem_cons_of_mem _ hy)) ?_
    by_cases e : z.1 = t
    · refine .inr ?_
      unfold putD
      rw [if_pos e.symm, h1 z List.mem_cons_self e]
    · rcases h2 with ⟨y, hy, ey⟩ | h2
      · rcases List.mem_cons.mp hy with q | q
        · exact absurd (q ▸ ey) e
        · exact .inl ⟨y, q, ey⟩
      · refine .inr ?_
        unfold putD
        rw [if_neg (fun q => e q.symm), h2]
theorem places {n R : Nat} {sh : List (List Rat)} (hl : sh.length = (begL n R).length) {t : List Nat} (ht : t.length < R) (hd : Dig n t) : ((begL n R).zip sh).foldl (fun f x => putD f x.1 x.2) (fun _ => none) t = some (shF n sh t) := by
  have hb := begL_get hd ht
  have hi := (List.getElem?_eq_some_iff.mp hb).1
  obtain ⟨u, hu⟩ : ∃ u, sh[bidx n t]? = some u := get_of (by omega)
  have hs : shF n sh t = u := by
    unfold shF
    rw [List.getD_eq_getElem?_getD, hu]
    rfl
  rw [hs]
  refine put_zip _ _ (fun z hz e => ?_) (.inl ⟨(t, u), List.mem_of_getElem? (i := bidx n t) (by rw [List.getElem?_zip_eq_some]; exact ⟨hb, hu⟩), rfl⟩)
  obtain ⟨i, hz⟩ := List.mem_iff_getElem?.mp hz
  obtain ⟨z1, z2⟩ := List.getElem?_zip_eq_some.mp hz
  rw [e] at z1
  rw [← begL_idx z1, hu] at z2
  exact (Option.some.inj z2).symm
section
variable {P : Program} {w : World} {K : PySem.W.Frag} {mg : PySem.Str → Option Value} {base : Heap}
theorem sc_check_size : FnScope n_check_size ["found", "due"] (defScope s_check_size) := ⟨rfl, rfl, rfl, by decide +kernel, rfl, by decide +kernel, by decide +kernel⟩
theorem ok_check_size (T : Ctx P w K mg base) : Pro P w K mg base "check_size" ["found", "due"] 1 (spP (raC qI (raC qI raN)) (fun x => x.1 = x.2.1) qU fun _ => ()) := by
  refine mk_pro T.d_check_size (fun _ _ _ _ _ _ us hl => match us, hl with | [_, _], _ => rfl) fun f fd F => ?_
  refine def2 F sc_check_size rfl fun cdv A outer s H E O G 
    u v a b hr wd hu hv hp Q k => ⟨_, (pss_one (ps_if (pt_cmpR op_ne (pv 0) (pv 1) (nomark _)) pss_never pss_nil)), ?_⟩
  have hp : a = b := hp
  exact st_ifE (b := false) wd ((tt_neI (tv_v rfl hu) (tv_v rfl hv)).eq (by rw [hp]; simp)) (fun z => nomatch z) (fun _ H1 s1 w1 => k _ _ s1 rfl)
theorem sc_share_parts : FnScope n_share_parts ["width", "share"] (defScope s_share_parts) := ⟨rfl, rfl, rfl, by decide +kernel, rfl, by decide +kernel, by decide +kernel⟩
theorem ok_share_parts (T : Ctx P w K mg base) : Pro P w K mg base "share_parts" ["width", "share"] 4 (spP (raC qN (raC (qSq K (qR K)) raN)) (fun x => x.2.1.length = x.1 ∧ x.1 < 10000) (qT K (qQ K)) fun x => x.2.1) := by
  refine mk_pro T.d_share_parts (fun _ _ _ _ _ _ us hl => match us, hl with | [_, _], _ => rfl) fun f fd F => ?_
  refine def2 F sc_share_parts rfl fun cdv A outer s H E O G 
    u v n xs hr wd hu hv hp Q k => ⟨_, (pss_cons (ps_expr (pe_cl (ok_check_size T) hr (pa_cons (c_len (K := K) rfl T.n_len (pa_cons (pv 1) pa_nil)) (pa_cons (pv 0) pa_nil))))
      (pss_one (ps_ret (c_tuple (K := K) rfl T.n_tuple (pa_cons (pe_lc (own := [("part", 2)]) (g := (gName 2)) (tt := tYes) rfl sc_share_parts.nd (piA (K := K) rfl (pv 1)) (blkOk_by (own := [("part", 2)]) (N := n_share_parts) (sc := defScope s_share_parts) (by decide +kernel)) (fun _ _ _ _ _ => (pg_name (i := 2) sc_share_parts.nd rfl (by first | exact Or.inl rfl | exact Or.inr rfl))) (fun _ _ _ _ _ => pts_nil) (fun _ _ _ _ _ => (pe_cl (ok_fraction T) hr (pa_cons (pv 2) pa_nil)))) pa_nil))))), ?_⟩
  obtain ⟨h1, h2⟩ : xs.length = n ∧ n < 10000 := hp
  refine st_drop wd (tv_call (ta_c (tv_lenA (tv_v rfl hv)) (ta_c (tv_v rfl hu.nI) ta_n)) (show (xs.length : Int) = (n : Int) by rw [h1])) fun H1 s1 w1 => ?_
  refine st_ret (r := qT K (qQ K)) (x := xs.map id) w1 (tv_tupL (tv_map (it_seq (tv_v rfl hv)) tg1 (own1 (by decide)) (by omega) fun D i y G6 σ6 hy g6 ⟨vy, e, hvy⟩ => ?_)) fun v H' s hv => k v H' (s1.trans s) ?_
  · subst e
    exact tv_fr (tv_v rfl hvy)
  · rw [List.map_id] at hv
    exact hv
theorem sc_is_sharing : FnScope n_is_sharing ["parts"] (defScope s_is_sharing) := ⟨rfl, rfl, rfl, by decide +kernel, rfl, by decide +kernel, by decide +kernel⟩
theorem ok_is_sharing (T : Ctx P w K mg base) : Pro P w K mg base "is_sharing" ["parts"] 5 (spP (raC (qT K (qQ K)) raN) (fun x => (∃ n, GoodSh n x.1) ∧ x.1.length < 10000) qB fun _ => true) := by
  refine mk_pro T.d_is_sharing (fun _ _ _ _ _ _ us hl => match us, hl with | [_], _ => rfl) fun f fd F => ?_
  refine def1 F sc_is_sharing rfl fun cdv A outer s H E O G 
    u xs hr wd hu hp Q k => ⟨_, (pss_cons (ps_for PassesOwn.never rfl (piT (K := K) rfl (pv 0)) (pg_name (i := 1) sc_is_sharing.nd rfl (Or.inl rfl)) (pss_one (ps_if (pt_cmpR op_lt (pe_ix (ixT (K := K) rfl) (pv 1) pe_int (fun _ _ => rfl)) pe_int (nomark _)) (pss_one (ps_ret pe_bl)) pss_nil)))
      (pss_one (ps_ret (pe_cmpR (eqD (K := K) rfl (Room.units hr)) (pe_cl (ok_total T) hr (pa_cons (pv 0) pa_nil)) (pe_gR T.g_WHOLE_SHARE) (nomark _))))), ?_⟩
  obtain ⟨⟨n, g⟩, hl⟩ : (∃ n, GoodSh n xs) ∧ xs.length < 10000 := hp
  refine st_forS wd (it_tup (tv_v rfl hu)) tg1 (fun i σ G' H' => ∃ (o : Option V), σ = [some u, o] ∧ Same H H')
    (fun G' H' g s w => ⟨none, rfl, s⟩) ?_ ?_
  · rintro i x σ1 G2 H2 G3 H3 σ2 hx ⟨o, rfl, s2⟩ g2 g3 s3 w3 ⟨vx, rfl, hvx⟩ N hN
    have hm : x ∈ xs := List.mem_of_getElem? hx
    have hpr : Has (qPr K) G3 vx (x.num, (x.den : Int)) := ⟨qQ_pr hvx.h⟩
    refine st_ifE (b := false) w3 (tt_op0 (tv_fst (tv_v rfl hpr)) tv_i ?_) (fun z => nomatch z) (fun _ H4 s4 w4 => hN _ G3 H4 (Same.refl _) w4 ⟨some vx, rfl, (s2.trans s3).trans s4⟩)
    have h0 := Rat.num_nonneg.mpr (g.pos x hm)
    show V.bl (decide (x.num < 0)) = V.bl false
    rw [decide_eq_false (by omega)]
  · rintro σ' G' H' g' w' ⟨o, rfl, s2⟩
    refine st_ret w' (tv_eqD (K := K) (b := true) (y := (1 : Rat)) (tv_call (ta_c (tv_RT g.bq (tv_v rfl (hu.mo g'))) ta_n) ⟨hl, g.bs, g.bq⟩) (tv_c (r := qQ K) fun G => ⟨_, rfl, T.t_WHOLE_SHARE G⟩) (shaped_of shQ (by decide) _) (shaped_of shQ (by decide) _) ?_) fun v H'' s hv => k v H'' (s2.trans s) hv
    show PyData.eqv (.tuple [.int (sumQ xs).num, .int ((sumQ xs).den : Int)]) (.tuple [.int (1 : Rat).num, .int ((1 : Rat).den : Int)]) = true
    rw [g.sum]
    simp [PyData.eqv, PyData.eqvAll]
theorem sc_sharing_at : FnScope n_sharing_at ["width", "share", "at"] (defScope s_sharing_at) := ⟨rfl, rfl, rfl, by decide +kernel, rfl, by decide +kernel, by decide +kernel⟩
theorem ok_sharing_at (T : Ctx P w K mg base) : Pro P w K mg base "sharing_at" ["width", "share", "at"] 6 (spP (raC qN (raC (qSq K (qR K)) (raC qX raN))) (fun x => GoodSh x.1 x.2.1 ∧ x.1 ≤ 5) (qT K (qQ K)) fun x => x.2.1) := by
  refine mk_pro T.d_sharing_at (fun _ _ _ _ _ _ us hl => match us, hl with | [_, _, _], _ => rfl) fun f fd F => ?_
  refine def3 F sc_sharing_at rfl fun cdv A outer s H E O G 
    u v z n xs t hr wd hu hv hz hp Q k => ⟨_, (pss_cons (ps_set (i := 3) sc_sharing_at.nd rfl (Or.inl rfl) (pe_cl (ok_share_parts T) hr (pa_cons (pv 0) (pa_cons (pv 1) pa_nil))))
      (pss_cons (ps_if (pt_not (pt_val (pe_cl (ok_is_sharing T) hr (pa_cons (pv 3) pa_nil)))) pss_never pss_nil)
      (pss_one (ps_ret (pv 3))))), ?_⟩
  obtain ⟨g, h5⟩ : GoodSh n xs ∧ n ≤ 5 := hp
  refine st_asg wd (tv_call (ta_c (tv_v rfl hu) (ta_c (tv_v rfl hv) ta_n)) ⟨g.len, by omega⟩) fun vp G1 H1 g1 w1 s1 hp1 => ?_
  refine st_if w1 (tt_not (tt_b (tv_call (ta_c (tv_v rfl hp1) ta_n) ⟨⟨n, g⟩, by have := g.len; show xs.length < 10000; omega⟩))) (fun z => nomatch z) (fun _ H2 s2 w2 => ?_)
  exact st_ret w2 (tv_v rfl hp1) fun v H' s hv => k v H' ((s1.trans s2).trans s) hv
theorem tv_fhT {O : List Addr} {σ : St} {G : Hp} {te : TE} {t : Pln} (T : Ctx P w K mg base) (h : Tv O te σ G (qPln K) t) : Tv O (tFld K te "held_width") σ G qN t.n :=
  tv_fld h T.cl_Plan (T.na_Plan _ (by simp)) fun G v ⟨a, dx, fs, vs, d, f, e, h, h1, h2, h3, h4, h5, h6, h7⟩ => ⟨a, dx, fs, _, e, h, h1, rfl⟩
theorem tv_fhR {O : List Addr} {σ : St} {G : Hp} {te : TE} {t : Pln} (T : Ctx P w K mg base) (h : Tv O te σ G (qPln K) t) : Tv O (tFld K te "held_rounds") σ G qN t.R :=
  tv_fld h T.cl_Plan (T.na_Plan _ (by simp)) fun G v ⟨a, dx, fs, vs, d, f, e, h, h1, h2, h3, h4, h5, h6, h7⟩ => ⟨a, dx, fs, _, e, h, h2, rfl⟩
theorem tv_fhS {O : List Addr} {σ : St} {G : Hp} {te : TE} {t : Pln} (T : Ctx P w K mg base) (h : Tv O te σ G (qPln K) t) : Tv O (tFld K te "held_shares") σ G (qT K (qT K (qQ K))) t.sh :=
  tv_fld h T.cl_Plan (T.na_Plan _ (by simp)) fun G v ⟨a, dx, fs, vs, d, f, e, h, h1, h2, h3, h4, h5, h6, h7⟩ => ⟨a, dx, fs, _, e, h, h3, h4⟩
theorem sc_Plan_width : FnScope n_Plan_width ["self"] (defScope s_Plan_width) := ⟨rfl, rfl, rfl, by decide +kernel, rfl, by decide +kernel, by decide +kernel⟩
theorem ok_Plan_width (T : Ctx P w K mg base) : Prp P w K mg base (He.ga K "Plan") "width" 1 (spP (raC (qPln K) raN) (fun _ => True) qN fun x => x.1.n) := by
  refine mk_prp T.m_Plan_width (fun _ _ _ _ _ _ us hl => match us, hl with | [_], _ => rfl) fun f fd F => ?_
  refine def1 F sc_Plan_width rfl fun cdv A outer s H E O G 
    u t hr wd hu _ Q k => ⟨_, (pss_one (ps_ret (pe_fld (pv 0) rfl))), ?_⟩
  exact st_ret wd (tv_fhT T (tv_v rfl hu)) k
theorem sc_Plan_rounds : FnScope n_Plan_rounds ["self"] (defScope s_Plan_rounds) := ⟨rfl, rfl, rfl, by decide +kernel, rfl, by decide +kernel, by decide +kernel⟩
theorem ok_Plan_rounds (T : Ctx P w K mg base) : Prp P w K mg base (He.ga K "Plan") "rounds" 1 (spP (raC (qPln K) raN) (fun _ => True) qN fun x => x.1.R) := by
  refine mk_prp T.m_Plan_rounds (fun _ _ _ _ _ _ us hl => match us, hl with | [_], _ => rfl) fun f fd F => ?_
  refine def1 F sc_Plan_rounds rfl fun cdv A outer s H E O G 
    u t hr wd hu _ Q k => ⟨_, (pss_one (ps_ret (pe_fld (pv 0) rfl))), ?_⟩
  exact st_ret wd (tv_fhR T (tv_v rfl hu)) k
theorem sc_Plan_shares : FnScope n_Plan_shares ["self"] (defScope s_Plan_shares) := ⟨rfl, rfl, rfl, by decide +kernel, rfl, by decide +kernel, by decide +kernel⟩
theorem ok_Plan_shares (T : Ctx P w K mg base) : Prp P w K mg base (He.ga K "Plan") "shares" 1 (spP (raC (qPln K) raN) (fun _ => True) (qL K (qT K (qQ K))) fun x => x.1.sh) := by
  refine mk_prp T.m_Plan_shares (fun _ _ _ _ _ _ us hl => match us, hl with | [_], _ => rfl) fun f fd F => ?_
  refine def1 F sc_Plan_shares rfl fun cdv A outer s H E O G 
    u t hr wd hu _ Q k => ⟨_, (pss_one (ps_ret (c_list (K := K) rfl T.n_list (pa_cons (pe_fld (pv 0) rfl) pa_nil)))), ?_⟩
  exact st_ret wd (tv_listT (tv_fhS T (tv_v rfl hu))) k
theorem sc_Plan___call__ : FnScope n_Plan___call__ ["self", "beginning"] (defScope s_Plan___call__) := ⟨rfl, rfl, rfl, by decide +kernel, rfl, by decide +kernel, by decide +kernel⟩
theorem ok_Plan___call__ (T : Ctx P w K mg base) : Cao P w K mg base (He.ga K "Plan") 1 (spP (raC (qPln K) (raC qX raN)) (fun x => x.2.1.length < x.1.R ∧ Dig x.1.n x.2.1) (qT K (qQ K)) fun x => shF x.1.n x.1.sh x.2.1) := by
  refine mk_cao T.m_Plan___call__ (fun _ _ _ _ _ _ us hl => match us, hl with | [_, _], _ => rfl) (ps := ["self", "beginning"]) fun f fd F => ?_
  refine def2 F sc_Plan___call__ rfl fun cdv A outer s H E O G 
    u v p t hr wd hu hv hp Q k => ⟨_, (pss_cons (ps_if (pt_cmp (pc_dnotin (hu_of hr) (pv 1) (pe_fld (pv 0) rfl)) rfl) pss_never pss_nil)
      (pss_one (ps_ret (pe_dget (hu_of hr) (pe_fld (pv 0) rfl) (pv 1) (fun _ _ => rfl))))), ?_⟩
  obtain ⟨h1, h2⟩ : t.length < p.R ∧ Dig p.n t := hp
  obtain ⟨a, dx, fs, vs, d, f, e, hh, e1, e2, e3, e4, e5, e6, e7⟩ := hu.h
  have tf : ∀ {O : List Addr} {G' : Hp} {σ : St}, Same G G' → σ[0]? = some (some u) → Tv O (tFld K (tVar 0) "held_places") σ G' (qDs (qT K (qQ K))) f := fun s es H w Q k =>
    ⟨u, es, a, _, dx, fs, d, e, w.to _ _ (s _ _ hh), T.cl_Plan, T.na_Plan _ (by simp), e5, k _ _ (Same.refl _) (Mo.mo (s.trans w.le) e6)⟩
  have ef := e7 t h1 h2
  refine st_if wd (tt_b (tv_dnin (b := false) (tv_v rfl hv) (tf (Same.refl _) rfl) (by rw [ef]; rfl))) (fun z => nomatch z) (fun _ H1 s1 w1 => ?_)
  exact st_ret w1 (tv_dget (tf (Same.refl _) rfl) (tv_v rfl hv) ef) fun v H' s hv => k v H' (s1.trans s) hv
theorem sc_Plan___init__ : FnScope n_Plan___init__ ["self", "width", "rounds", "shares"] (defScope s_Plan___init__) := ⟨rfl, rfl, rfl, by decide +kernel, rfl, by decide +kernel, by decide +kernel⟩
theorem ok_Plan___init__ (T : Ctx P w K mg base) : Mkr P w K mg base "Plan" ["self", "width", "rounds", "shares"] 7 (spI (He.ga K "Plan") (raC qN (raC qN (raC (qL K (qSq K (qR K))) raN))) (fun x => Shape x.1 x.2.1 ∧ x.2.2.1.length = (begL x.1 x.2.1).length ∧ ∀ u ∈ x.2.2.1, GoodSh x.1 u) (qPln K) fun x => ⟨x.1, x.2.1, x.2.2.1⟩) := by
  refine mk_mkr T.m_Plan___init__ (fun _ _ _ _ _ _ us hl => match us, hl with | [_, _, _, _], _ => rfl) (hm := T.g_Plan) fun f fd F => ?_
  refine def_init F sc_Plan___init__ rfl fun cdv A outer s H E O G 
    p dx ws a hr wd hp hi hra hpr Q k => by
    obtain ⟨n, R, ss, _⟩ := a
    obtain ⟨u, v, z, rfl, hu, hv, hz⟩ := ra3 hra
    obtain ⟨sh, hl, gs⟩ : Shape n R ∧ ss.length = (begL n R).length ∧ ∀ u ∈ ss, GoodSh n u := hpr
    have hlen : (begL n R).length ≤ 256 * 8 := Nat.le_trans (sh.begs (Nat.le_refl _)) (Nat.mul_le_mul_left _ sh.R8)
    refine ⟨_, (pss_cons (ps_set (i := 4) sc_Plan___init__.nd rfl (Or.inl rfl) (pe_clK (ok_beginnings_of T) hr (pa_cons (pv 2) pa_nil) (pk_cons (pv 1) pk_nil)))
      (pss_cons (ps_expr (pe_cl (ok_check_size T) hr (pa_cons (c_len (K := K) rfl T.n_len (pa_cons (pv 3) pa_nil)) (pa_cons (c_len (K := K) rfl T.n_len (pa_cons (pv 4) pa_nil)) pa_nil))))
      (pss_cons (ps_setLc (i := 5) (own := [("share", 6), ("at", 7)]) (g := (gTup K 2 (gCons (gName 6) (gCons (gName 7) gNil)))) (tt := tYes) rfl sc_Plan___init__.nd rfl rfl (sw_true rfl rfl rfl (by decide +kernel)) (pizL (K := K) rfl T.n_zip (pa_cons (pv 3) (pa_cons (pv 4) pa_nil))) (blkOk_by (own := [("share", 6), ("at", 7)]) (N := n_Plan___init__) (sc := defScope s_Plan___init__) (by decide +kernel)) (fun _ _ _ _ _ => (pgT (K := K) (n := 2) rfl rfl (pgs_cons (pg_name (i := 6) sc_Plan___init__.nd rfl (by first | exact Or.inl rfl | exact Or.inr rfl)) (pgs_cons (pg_name (i := 7) sc_Plan___init__.nd rfl (by first | exact Or.inl rfl | exact Or.inr rfl)) pgs_nil)))) (fun _ _ _ _ _ => pts_nil) (fun _ _ _ _ _ => (pe_cl (ok_sharing_at T) hr (pa_cons (pv 1) (pa_cons (pv 6) (pa_cons (pv 7) pa_nil))))))
      (pss_cons (ps_fld (pv 0) (pv 1) rfl)
      (pss_cons (ps_fld (pv 0) (pv 2) rfl)
      (pss_cons (ps_fld (pv 0) (c_tuple (K := K) rfl T.n_tuple (pa_cons (pv 5) pa_nil)) rfl)
      (pss_one (ps_fld (pv 0) (pe_dc (own := [("at", 7), ("share", 6)]) (g := (gTup K 2 (gCons (gName 7) (gCons (gName 6) gNil)))) (tt := tYes) rfl sc_Plan___init__.nd (pizL (K := K) rfl T.n_zip (pa_cons (pv 4) (pa_cons (pv 5) pa_nil))) (blkOk_by (own := [("at", 7), ("share", 6)]) (N := n_Plan___init__) (sc := defScope s_Plan___init__) (by decide +kernel)) (fun _ _ _ _ _ => (pgT (K := K) (n := 2) rfl rfl (pgs_cons (pg_name (i := 7) sc_Plan___init__.nd rfl (by first | exact Or.inl rfl | exact Or.inr rfl)) (pgs_cons (pg_name (i := 6) sc_Plan___init__.nd rfl (by first | exact Or.inl rfl | exact Or.inr rfl)) pgs_nil)))) (fun _ _ _ _ _ => pts_nil) (fun _ _ _ _ _ => (pv 7)) (fun _ _ _ _ _ => (pv 6))) rfl)))))))), ?_⟩
    have hu : Has qN G u n := ⟨hu⟩
    have hv : Has qN G v R := ⟨hv⟩
    have hz : Has (qL K (qSq K (qR K))) G z ss := ⟨hz⟩
    refine st_asg wd (tv_clK (tv_v rfl hv) (tv_v rfl hu) sh) fun vo G1 H1 g1 w1 s1 ho => ?_
    have hi1 := s1 _ _ hi
    refine st_drop w1 (tv_call (ta_c (tv_lenL (tv_v rfl (hz.mo g1))) (ta_c (tv_lenL (tv_Ls (tv_v rfl ho))) ta_n)) (show (ss.length : Int) = ((begL n R).length : Int) by rw [hl])) fun H2 s2 w2 => ?_
    have hi2 := s2 _ _ hi1
    refine st_asg (r := qL K (qT K (qQ K))) (x := (ss.zip (begL n R)).map Prod.fst) w2 (tv_map (it_zip (tv_v rfl (hz.mo g1)) (tv_Ls (tv_v rfl ho))) tg2 (own2 (by decide) (by decide)) (by rw [List.length_zip]; omega) fun D i y G6 σ6 hy g6 ⟨v1, v2, e, hv1, hv2⟩ => ?_) fun vp G3 H3 g3 w3 s3 hp3 => ?_
    · subst e
      exact tv_call (ta_c (tv_v rfl (((hu.mo g1)).mo g6)) (ta_c (tv_v rfl hv1) (ta_c (tv_v rfl hv2) ta_n))) ⟨gs _ (List.mem_of_getElem? (List.getElem?_zip_eq_some.mp hy).1), sh.n5⟩
    rw [List.map_fst_zip (by omega)] at hp3
    have hi3 := s3 _ _ hi2
    refine st_fld w3 hi3 rfl T.cl_Plan (T.na_Plan "held_width" (by simp)) (by decide) (tv_v rfl ((hu.mo g1).mo g3)) fun u4 G4 H4 g4 w4 s4 hi4 h4 => ?_
    refine st_fld w4 hi4 rfl T.cl_Plan (T.na_Plan "held_rounds" (by simp)) (fl (by decide)) (tv_v rfl (((hv.mo g1).mo g3).mo g4)) fun u5 G5 H5 g5 w5 s5 hi5 h5 => ?_
    refine st_fld w5 hi5 rfl T.cl_Plan (T.na_Plan "held_shares" (by simp)) (fl (fl (by decide))) (tv_tupL (tv_v rfl ((hp3.mo g4).mo g5))) fun u6 G6 H6 g6 w6 s6 hi6 h6 => ?_
    refine st_fldL (r := qDs (qT K (qQ K))) (x := ((begL n R).zip ss).foldl (fun f x => putD f x.1 x.2) fun _ => none) w6 hi6 rfl T.cl_Plan (T.na_Plan "held_places" (by simp)) (fl (fl (fl (by decide)))) ?_ fun u7 G7 H7 g7 w7 s7 hi7 h7 => ?_
    · refine tv_dc (r := qP K qX (qT K (qQ K))) (xs := (begL n R).zip ss) (kf := fun x => x.1) (vf := fun x => x.2) ?_ (tg2 (r := qX) (q := qT K (qQ K))) ?_ ?_ ?_ ?_
      · exact it_zip (tv_Ls (tv_v rfl ((((ho.mo g3).mo g4).mo g5).mo g6))) (tv_v rfl (((hp3.mo g4).mo g5).mo g6))
      · exact own2 (by decide) (by decide)
      · rw [List.length_zip]; omega
      · rintro D i y G7 σ7 hy g7 ⟨v1, v2, e, hv1, hv2⟩
        subst e
        exact tv_v rfl hv1
      · rintro D i y G7 σ7 hy g7 ⟨v1, v2, e, hv1, hv2⟩
        subst e
        exact tv_v rfl hv2
    have e7 : wo H7 O p = some _ := (wo_out hp).trans hi7
    exact k H7 (((((Sb.of ((s1.trans s2).trans s3)).trans s4).trans s5).trans s6).trans s7) ⟨p, dx, _, u6, u7, _, rfl, e7, by rw [show u4 = _ from h4.h]; rfl, by rw [show u5 = _ from h5.h]; rfl, rfl, Mo.mo (g7.trans w7.drop.le) h6.h, rfl, Mo.mo w7.drop.le h7.h, fun t ht hd => places hl ht hd⟩
theorem plan_eqv (d : List (List Rat)) : PyData.eqv (.tuple (d.map fun xs => PyData.tuple (xs.map fun x : Rat => .tuple [.int x.num, .int (x.den : Int)]))) (.tuple (d.map fun xs => PyData.tuple (xs.map fun x : Rat => .tuple [.int x.num, .int (x.den : Int)]))) = true :=
  SeqAt.eqv_refl _ (shT (shT shQ) d).1
theorem sc_Plan___eq__ : FnScope n_Plan___eq__ ["self", "other"] (defScope s_Plan___eq__) := ⟨rfl, rfl, rfl, by decide +kernel, rfl, by decide +kernel, by decide +kernel⟩
theorem ok_Plan___eq__ (T : Ctx P w K mg base) : Eqo P w K mg base (He.ga K "Plan") 1 (spP (raC (qPln K) (raC (qPln K) raN)) (fun x => x.1 = x.2.1) qB fun _ => true) := by
  refine mk_eqo T.m_Plan___eq__ (fun _ _ _ _ _ _ us hl => match us, hl with | [_, _], _ => rfl) fun f fd F => ?_
  refine def2 F sc_Plan___eq__ rfl fun cdv A outer s H E O G 
    u v a b hr wd hu hv hp Q k => ⟨_, (pss_one (ps_ret (pe_and (c_isinstance (K := K) rfl T.n_isinstance (pa_cons (pv 1) (pa_cons (pe_gR T.g_Plan) pa_nil))) (pe_and (pe_cmpR op_eq (pe_fld (pv 0) rfl) (pe_fld (pv 1) rfl) (nomark _)) (pe_and (pe_cmpR op_eq (pe_fld (pv 0) rfl) (pe_fld (pv 1) rfl) (nomark _)) (pe_one (pe_cmpR (eqD (K := K) rfl (Room.units hr)) (pe_fld (pv 0) rfl) (pe_fld (pv 1) rfl) (nomark _)))))))), ?_⟩
  have hp : a = b := hp
  subst hp
  obtain ⟨a0, dx, fs, vs, d, f, e, hh, _⟩ := hv.h
  have isi : Tv O (tCB (rIsi K) (tCons (tVar 1) (tCons (tC (.ref (He.ga K "Plan"))) tNil))) (start n_Plan___eq__ [u, v]) G qB true := fun H w Q k =>
    ⟨v, rfl, v, _, .ref (He.ga K "Plan"), _, true, rfl, .own _, by rw [e]; exact .base (.ins (w.to _ _ hh) T.cl_Plan T.isi_Plan.ha T.isi_Plan.hn T.isi_Plan.htk T.isi_Plan.hm), T.isi_Plan.kit, k _ _ (Same.refl _) rfl⟩
  refine st_ret wd ((tv_and isi fun _ => tv_and (tv_eqI (tv_NI (tv_fhT T (tv_v rfl hu))) (tv_NI (tv_fhT T (tv_v rfl hv)))) fun _ => tv_and (tv_eqI (tv_NI (tv_fhR T (tv_v rfl hu))) (tv_NI (tv_fhR T (tv_v rfl hv)))) fun _ => tv_eqD (K := K) (b := true) (tv_fhS T (tv_v rfl hu)) (tv_fhS T (tv_v rfl hv)) (shaped_of (shT (shT shQ)) (by decide) _) (shaped_of (shT (shT shQ)) (by decide) _) (plan_eqv _)).eq ?_) k
  simp
end
end Nb
set_option Elab.async false
set_option linter.all false
set_option maxRecDepth 100000
set_option maxHeartbeats 4000000
namespace Nb
open PySem L2
open PyProof.Rows (envOfC)
section
variable {α β γ : Type} {O : List Addr} {σ : St} {G H : Hp} {r : Rl α} {q : Rl β} {x : α} {y : β} {ta tb te : TE} {K : PySem.W.Frag}
theorem bq_one : Bq 1 := ⟨sm_small (by decide), sm_small (by decide)⟩
theorem bq_zero : Bq 0 := ⟨sm_small (by decide), sm_small (by decide)⟩
theorem tv_R1 : Tv O (tC (.int 1)) σ G (qR K) 1 := (tv_RI (i := 1) (sm_small (by decide)) tv_i).eq (by simp)
theorem Tit.sub {wi : TI} {xs : List α} (h : Tit O wi σ G r xs) {ys : List β} (hl : ys.length = xs.length) (c : ∀ (i : Nat) (x : α), xs[i]? = some x → ∃ y, ys[i]? = some y ∧ ∀ G v, r G v x → q G v y) : Tit O wi σ G q ys := fun H w R k =>
  h H w R fun J Gd Y G' H' s sg w' wk hg hy => k J Gd Y G' H' s sg w' (by rw [hl]; exact wk) hg fun i H1 v H2 O1 G1 hi s1 w1 yy => by
    obtain ⟨x, G2, hx, a1, a2, a3, a4⟩ := hy i H1 v H2 O1 G1 (by omega) s1 w1 yy
    obtain ⟨y, hy2, hc⟩ := c i x hx
    exact ⟨y, G2, hy2, a1, a2, a3, ⟨hc _ _ a4.h⟩⟩
/-- the signs of a text of outcomes -/
theorem it_strX {ds : List Nat} (h : Tv O te σ G qX ds) : Tit O (iStr te) σ G qX (ds.map fun d => [d]) := by
  have h2 : Tit O (iStr te) σ G qS (signs (tx ds)) := it_str (h.sub fun _ _ z => z)
  refine Tit.sub h2 (by rw [signs_tx, List.length_map, List.length_map]) fun i x hx => ?_
  rw [signs_tx, List.getElem?_map] at hx
  obtain ⟨d, hd, e⟩ := Option.map_eq_some_iff.mp hx
  exact ⟨[d], by rw [List.getElem?_map, hd]; rfl, fun G v hv => by rw [show v = .str x from hv, ← e]; rfl⟩
theorem tv_addX {a b : List Nat} (h : Tv O ta σ G qX a) (g : Tv O tb σ G qX b) (hz : a.length + b.length ≤ 1000) :
    Tv O (tOp (fun x y H Q => ∃ i j, x = .str i ∧ y = .str j ∧ i.length + j.length ≤ sizeLine ∧ Q (.str (i ++ j)) H) ta tb) σ G qX (a ++ b) :=
  (tv_addS (a := tx a) (b := tx b) (h.sub fun _ _ z => z) (g.sub fun _ _ z => z) (by rw [tx_len, tx_len]; exact hz)).sub fun _ v z => by
    show v = .str (tx (a ++ b))
    rw [← tx_app]
    exact z
end
section
variable {P : Program} {w : World} {K : PySem.W.Frag} {mg : PySem.Str → Option Value} {base : Heap}
theorem sc_inner_of : FnScope n_inner_of ["plan"] (defScope s_inner_of) := ⟨rfl, rfl, rfl, by decide +kernel, rfl, by decide +kernel, by decide +kernel⟩
theorem ok_inner_of (T : Ctx P w K mg base) : Pro P w K mg base "inner_of" ["plan"] 5 (spP (raC (qPln K) raN) (fun x => Shape x.1.n x.1.R) (qLs qX) fun x => begL x.1.n x.1.R) := by
  refine mk_pro T.d_inner_of (fun _ _ _ _ _ _ us hl => match us, hl with | [_], _ => rfl) fun f fd F => ?_
  refine def1 F sc_inner_of rfl fun cdv A outer s H E O G 
    u p hr wd hu hp Q k => ⟨_, (pss_one (ps_ret (pe_clK (ok_beginnings_of T) hr (pa_cons (pe_prp (ok_Plan_rounds T) hr T.cl_Plan (pv 0)) pa_nil) (pk_cons (pe_prp (ok_Plan_width T) hr T.cl_Plan (pv 0)) pk_nil)))), ?_⟩
  exact st_ret wd (tv_clK (tv_prop (tv_v rfl hu) pln_ins trivial) (tv_prop (tv_v rfl hu) pln_ins trivial) hp) k
theorem sc_row_table : FnScope n_row_table ["plan", "cells"] (defScope s_row_table) := ⟨rfl, rfl, rfl, by decide +kernel, rfl, by decide +kernel, by decide +kernel⟩
theorem ok_row_table (T : Ctx P w K mg base) : Pro P w K mg base "row_table" ["plan", "cells"] 6 (spP (raC (qPln K) (raC (qDs (qQ K)) raN)) (fun x => Shape x.1.n x.1.R ∧ ∀ t ∈ rowsL x.1.n x.1.R, ∃ y, x.2.1 t = some y ∧ Bq y) (qTab K) fun x => ⟨x.1.n, x.1.R, (rowsL x.1.n x.1.R).map fun t => (x.2.1 t).getD 0⟩) := by
  refine mk_pro T.d_row_table (fun _ _ _ _ _ _ us hl => match us, hl with | [_, _], _ => rfl) fun f fd F => ?_
  refine def2 F sc_row_table rfl fun cdv A outer s H E O G 
    u v p f hr wd hu hv hp Q k => ⟨_, (pss_cons (ps_set (i := 2) sc_row_table.nd rfl (Or.inl rfl) (pe_clK (ok_rows_of T) hr (pa_cons (pe_prp (ok_Plan_rounds T) hr T.cl_Plan (pv 0)) pa_nil) (pk_cons (pe_prp (ok_Plan_width T) hr T.cl_Plan (pv 0)) pk_nil)))
      (pss_one (ps_ret (pe_mkr (ok_Table___init__ T) hr (pa_cons (pe_prp (ok_Plan_width T) hr T.cl_Plan (pv 0)) (pa_cons (pe_prp (ok_Plan_rounds T) hr T.cl_Plan (pv 0)) (pa_cons (pe_lc (own := [("row", 3)]) (g := (gName 3)) (tt := tYes) rfl sc_row_table.nd (piL (K := K) rfl (pv 2)) (blkOk_by (own := [("row", 3)]) (N := n_row_table) (sc := defScope s_row_table) (by decide +kernel)) (fun _ _ _ _ _ => (pg_name (i := 3) sc_row_table.nd rfl (by first | exact Or.inl rfl | exact Or.inr rfl))) (fun _ _ _ _ _ => pts_nil) (fun _ _ _ _ _ => (pe_dget (hu_of hr) (pv 1) (pv 3) (fun _ _ => rfl)))) pa_nil))))))), ?_⟩
  obtain ⟨sh, hf⟩ : Shape p.n p.R ∧ ∀ t ∈ rowsL p.n p.R, ∃ y, f t = some y ∧ Bq y := hp
  refine st_asg wd (tv_clK (tv_prop (tv_v rfl hu) pln_ins trivial) (tv_prop (tv_v rfl hu) pln_ins trivial) sh) fun vr G1 H1 g1 w1 s1 h1 => ?_
  have h1 : Has (qLs qX) G1 vr (rowsL p.n p.R) := h1
  have hlen := sh.rows (Nat.le_refl _)
  refine st_ret w1 (tv_make (ta_c (tv_prop (tv_v rfl (hu.mo g1)) pln_ins trivial) (ta_c (tv_prop (tv_v rfl (hu.mo g1)) pln_ins trivial) (ta_c (r := qL K (qR K)) (x := (rowsL p.n p.R).map fun t => (f t).getD 0) ?_ ta_n))) ⟨sh, ?_⟩) fun v H' s hv => k v H' (s1.trans s) hv
  · refine tv_map (it_list (tv_Ls (tv_v rfl h1))) tg1 (own1 (by decide)) (by omega) fun D i t G2 σ2 ht g2 ⟨vt, e, hvt⟩ => ?_
    subst e
    obtain ⟨y, e1, by_⟩ := hf t (List.mem_of_getElem? ht)
    rw [e1]
    exact tv_RQ by_ (tv_dget (tv_v rfl ((hv.mo g1).mo g2)) (tv_v rfl hvt) e1)
  · show ((rowsL p.n p.R).map _).length = _
    rw [List.length_map, rowsL_len]
structure MisOk (n R : Nat) (p : List Nat → List Rat) : Prop where
  m : ∀ t, Dig n t → t.length ≤ R → Bq (mis p t)
  s : ∀ t, Dig n t → t.length < R → (p t).length = n ∧ ∀ x ∈ p t, Bq x ∧ Bq (1 - x)
theorem sc_misses_table : FnScope n_misses_table ["plan"] (defScope s_misses_table) := ⟨rfl, rfl, rfl, by decide +kernel, rfl, by decide +kernel, by decide +kernel⟩
theorem ok_misses_table (T : Ctx P w K mg base) : Pro P w K mg base "misses_table" ["plan"] 7 (spP (raC (qPln K) raN) (fun x => Shape x.1.n x.1.R ∧ MisOk x.1.n x.1.R (shF x.1.n x.1.sh)) (qTab K) fun x => ⟨x.1.n, x.1.R, (rowsL x.1.n x.1.R).map (mis (shF x.1.n x.1.sh))⟩) := by
  refine mk_pro T.d_misses_table (fun _ _ _ _ _ _ us hl => match us, hl with | [_], _ => rfl) fun f fd F => ?_
  refine def1 F sc_misses_table rfl fun cdv A outer s H E O G 
    u p hr wd hu hp Q k => ⟨_, (pss_cons (ps_set (i := 1) sc_misses_table.nd rfl (Or.inl rfl) (pe_cl (ok_letters T) hr (pa_cons (pe_prp (ok_Plan_width T) hr T.cl_Plan (pv 0)) pa_nil)))
      (pss_cons (ps_set (i := 2) sc_misses_table.nd rfl (Or.inl rfl) (pe_disp (pps_cons pe_str (pe_gR T.g_NOTHING) pps_nil) rfl rfl (by simp) (by decide)))
      (pss_cons (ps_for PassesOwn.never rfl (piL (K := K) rfl (pe_cl (ok_inner_of T) hr (pa_cons (pv 0) pa_nil))) (pg_name (i := 3) sc_misses_table.nd rfl (Or.inl rfl)) (pss_one (ps_for PassesOwn.never rfl (pizST (K := K) rfl T.n_zip (pa_cons (pv 1) (pa_cons (pe_cao (ok_Plan___call__ T) hr (pv 0) (pa_cons (pv 3) pa_nil)) pa_nil))) (pgT (K := K) (n := 2) rfl rfl (pgs_cons (pg_name (i := 4) sc_misses_table.nd rfl (Or.inl rfl)) (pgs_cons (pg_name (i := 5) sc_misses_table.nd rfl (Or.inl rfl)) pgs_nil))) (pss_one (ps_dput (hu_of hr) (pv 2) (pe_op op_add_str (pv 3) (pv 4)) (pe_cl (ok_add T) hr (pa_cons (pe_dget (hu_of hr) (pv 2) (pv 3) (fun _ _ => rfl)) (pa_cons (pe_cl (ok_sub T) hr (pa_cons pe_int (pa_cons (pv 5) pa_nil))) pa_nil))) rfl)))))
      (pss_one (ps_ret (pe_cl (ok_row_table T) hr (pa_cons (pv 0) (pa_cons (pv 2) pa_nil)))))))), ?_⟩
  obtain ⟨sh, ok⟩ : Shape p.n p.R ∧ MisOk p.n p.R (shF p.n p.sh) := hp
  have h8 := sh.R8
  have hn : 0 < p.n := sh.1
  have hL := begL_n sh
  refine st_asg wd (tv_call (ta_c (tv_prop (tv_v rfl hu) pln_ins trivial) ta_n) ⟨sh.1, sh.2.1⟩) fun vo G1 H1 g1 w1 s1 ho => ?_
  refine st_disp (q := qQ K) (y := (0 : Rat)) (ds := []) w1 rfl (fun p => tv_c fun G => ⟨_, rfl, T.t_NOTHING G⟩) fun a G2 H2 ha s2 g2 w2 o2 => ?_
  have hpn : H a = none := by
    cases e : H a with
    | none => rfl
    | some u => rw [s1 _ _ e] at ha; cases ha
  refine st_forS (r := qX) w2 (it_list (tv_Ls (tv_call (ta_c (tv_v rfl ((hu.mo g1).mo g2)) ta_n) sh))) tg1
    (fun i σ G' H' => ∃ (o1 o2 o3 : Option V) (f : List Nat → Option Rat), σ = [some u, some vo, some (.ref a), o1, o2, o3] ∧ Same H H' ∧ OwD (qQ K) O G' H' a f (1 + i * p.n) ∧ (∀ t, Dig p.n t → t.length ≤ p.R → (t = [] ∨ bidx p.n t.dropLast < i) → f t = some (mis (shF p.n p.sh) t)))
    (fun G' H' g s w => ⟨none, none, none, _, rfl, (s1.trans s2).trans s, by rw [Nat.zero_mul]; exact o2.on g s, fun t _ _ h => ?_⟩) ?_ ?_
  · rcases h with e | h
    · rw [e]
      rfl
    · omega
  · rintro i at_ σ1 G3 H3 G4 H4 σ2 hx ⟨q1, q2, q3, f, rfl, s3, o3, hf⟩ g3 g4 s4 w4 ⟨va, rfl, hva⟩ N hN
    have hx : (begL p.n p.R)[i]? = some at_ := hx
    obtain ⟨hl, hd⟩ := begL_at (List.mem_of_getElem? hx)
    have hbi := begL_idx hx
    have hil := (List.getElem?_eq_some_iff.mp hx).1
    obtain ⟨hpl, hpb⟩ := ok.s at_ hd hl
    have fat : f at_ = some (mis (shF p.n p.sh) at_) := by
      refine hf at_ hd (Nat.le_of_lt hl) ?_
      by_cases e : at_ = []
      · exact .inl e
      · obtain ⟨d, ed⟩ := dropLast_snoc e
        refine .inr ?_
        have := bidx_up (n := p.n) (t := at_.dropLast) (d := d) hn
        rw [← ed, hbi] at this
        exact this
    have him : i * p.n + p.n ≤ 3000 := by
      have := Nat.mul_le_mul_right p.n (show i + 1 ≤ (begL p.n p.R).length by omega)
      rw [Nat.succ_mul] at this
      omega
    refine st_for (r := qP K qX (qQ K)) w4 (it_zipST (tv_v rfl ((ho.mo g2).mo (g3.trans g4))) (tv_callO (tv_v rfl (((hu.mo g1).mo g2).mo (g3.trans g4))) (ta_c (tv_v rfl hva) ta_n) pln_ins ⟨hl, hd⟩) (by rw [List.length_range]; exact hpl.symm)) tg2
      (fun j σ G' H' => ∃ (o2 o3 : Option V) (f : List Nat → Option Rat), σ = [some u, some vo, some (.ref a), some va, o2, o3] ∧ Same H H' ∧ OwD (qQ K) O G' H' a f (1 + i * p.n + j) ∧ (∀ t, Dig p.n t → t.length ≤ p.R → (t = [] ∨ bidx p.n t.dropLast < i ∨ ∃ d, d < j ∧ t = at_ ++ [d]) → f t = some (mis (shF p.n p.sh) t)))
      (fun G' H' g s w => ⟨q2, q3, f, rfl, (s3.trans s4).trans s, (o3.on g4 s4).on g s, fun t h1 h2 h => hf t h1 h2 ?_⟩) ?_ ?_
    · rcases h with h | h | ⟨d, hd0, _⟩
      · exact .inl h
      · exact .inr h
      · omega
    · rintro j ⟨dd, x⟩ σ3 G5 H5 G6 H6 σ4 hxj ⟨r2, r3, fj, rfl, s5, o5, hfj⟩ g5 g6 s6 w6 ⟨v1, v2, rfl, hv1, hv2⟩ N2 hN2
      obtain ⟨z1, z2⟩ := List.getElem?_zip_eq_some.mp hxj
      rw [List.getElem?_map] at z1
      obtain ⟨d, hd1, ed⟩ := Option.map_eq_some_iff.mp z1
      have hjl := (List.getElem?_eq_some_iff.mp hd1).1
      rw [List.length_range] at hjl
      have hjn : j < p.n := hjl
      have ej : d = j := by
        rw [List.getElem?_range hjl] at hd1
        exact (Option.some.inj hd1).symm
      have hv1 : Has qX G6 v1 [d] := ⟨by rw [ed]; exact hv1.h⟩
      have z2 : (shF p.n p.sh at_)[j]? = some x := z2
      obtain ⟨bx, b1x⟩ := hpb x (List.mem_of_getElem? z2)
      have fja : fj at_ = some (mis (shF p.n p.sh) at_) := by
        refine hfj at_ hd (Nat.le_of_lt hl) ?_
        by_cases e : at_ = []
        · exact .inl e
        · obtain ⟨d', ed'⟩ := dropLast_snoc e
          refine .inr (.inl ?_)
          have := bidx_up (n := p.n) (t := at_.dropLast) (d := d') hn
          rw [← ed', hbi] at this
          exact this
      have hva6 := ((hva.mo g5).mo g6)
      have hm := ok.m at_ hd (Nat.le_of_lt hl)
      refine st_dputL w6 (o5.on g6 s6) rfl (by omega) (fun G7 g7 h7 => tv_call (ta_c (tv_RQ hm (tv_dget (tv_v rfl h7) (tv_v rfl (hva6.mo g7)) fja)) (ta_c (tv_RQ b1x (tv_call (ta_c tv_R1 (ta_c (tv_RQ bx (tv_v rfl (hv2.mo g7))) ta_n)) ⟨bq_one, bx⟩)) ta_n)) ⟨hm, b1x⟩)
        (fun G7 g7 h7 => tv_addX (tv_v rfl (hva6.mo g7)) (tv_v rfl (hv1.mo g7)) (by show at_.length + 1 ≤ 1000; omega)) fun G8 H8 g8 w8 s8 o8 => ?_
      refine hN2 _ G8 H8 g8 w8 ⟨some v1, some v2, _, rfl, s8.same (s5.trans s6) hpn, o8, fun t h1 h2 h => ?_⟩
      unfold putD
      by_cases et : t = at_ ++ [d]
      · rw [if_pos et, et, mis_snoc]
        congr 2
        rw [ej, List.getD_eq_getElem?_getD, z2]
        rfl
      · rw [if_neg et]
        refine hfj t h1 h2 ?_
        rcases h with h | h | ⟨d', hd', e'⟩
        · exact .inl h
        · exact .inr (.inl h)
        · refine .inr (.inr ⟨d', ?_, e'⟩)
          by_cases z : d' = j
          · exact absurd (by rw [e', z, ej]) et
          · omega
    · rintro σ' G' H' g' w' ⟨r2, r3, fj, rfl, s5, o5, hfj⟩
      refine hN _ G' H' g' w' ⟨some va, r2, r3, fj, rfl, s5, ?_, fun t h1 h2 h => hfj t h1 h2 ?_⟩
      · have e : (((List.range p.n).map fun d => [d]).zip (shF p.n p.sh at_)).length = p.n := by rw [List.length_zip, List.length_map, List.length_range, hpl, Nat.min_self]
        have o5 : OwD (qQ K) O G' H' a fj (1 + i * p.n + (((List.range p.n).map fun d => [d]).zip (shF p.n p.sh at_)).length) := o5
        rw [e] at o5
        rw [Nat.succ_mul, ← Nat.add_assoc]
        exact o5
      · rcases h with h | h
        · exact .inl h
        · by_cases e : bidx p.n t.dropLast < i
          · exact .inr (.inl e)
          · by_cases et : t = []
            · exact .inl et
            obtain ⟨d, ed⟩ := dropLast_snoc et
            have dt : Dig p.n (t.dropLast ++ [d]) := ed ▸ h1
            have lt : t.dropLast.length < p.R := by
              have := congrArg List.length ed
              rw [List.length_append] at this
              simp at this ⊢
              have : t ≠ [] := et
              have : 0 < t.length := List.length_pos_iff.mpr et
              omega
            have e2 : t.dropLast = at_ := bidx_inj lt hl dt.snoc.1 hd (by omega)
            refine .inr (.inr ⟨d, ?_, by rw [← e2]; exact ed⟩)
            show d < (((List.range p.n).map fun d => [d]).zip (shF p.n p.sh at_)).length
            rw [List.length_zip, List.length_map, List.length_range, hpl, Nat.min_self]
            exact dt.snoc.2
  · rintro σ' G' H' g' w' ⟨q1, q2, q3, f, rfl, s3, o3, hf⟩
    obtain ⟨g4, w4, h4⟩ := o3.see w'
    have hf2 : ∀ t ∈ rowsL p.n p.R, f t = some (mis (shF p.n p.sh) t) := fun t ht => by
      obtain ⟨h1, h2⟩ := rowsL_at ht
      refine hf t h2 (Nat.le_of_eq h1) ?_
      by_cases et : t = []
      · exact .inl et
      · obtain ⟨d, ed⟩ := dropLast_snoc et
        have dt : Dig p.n (t.dropLast ++ [d]) := ed ▸ h2
        refine .inr (begL_lt ?_ dt.snoc.1)
        have := congrArg List.length ed
        rw [List.length_append] at this
        simp at this ⊢
        have : 0 < t.length := List.length_pos_iff.mpr et
        omega
    refine st_ret w4 (tv_call (ta_c (tv_v rfl ((((hu.mo g1).mo g2).mo g').mo g4)) (ta_c (tv_v rfl h4) ta_n)) ⟨sh, fun t ht => ⟨_, hf2 t ht, ok.m t (rowsL_at ht).2 (Nat.le_of_eq (rowsL_at ht).1)⟩⟩) fun v H'' s hv => k v H'' (s3.trans s) ?_
    have e : (rowsL p.n p.R).map (fun t => (f t).getD 0) = (rowsL p.n p.R).map (mis (shF p.n p.sh)) := List.map_congr_left fun t ht => by rw [hf2 t ht]; rfl
    have hv : qTab K (wo H'' O) v ⟨p.n, p.R, (rowsL p.n p.R).map fun t => (f t).getD 0⟩ := hv
    rw [e] at hv
    exact hv
end
end Nb
set_option Elab.async false
set_option linter.all false
set_option maxRecDepth 100000
set_option maxHeartbeats 4000000
namespace Nb
open PySem L2
open PyProof.Rows (envOfC)
/-- what dot asks for -/
def DotOk (xs ys : List Rat) : Prop := xs.length = ys.length ∧ xs.length < 10000 ∧ (∀ i, Bq (((xs.zip ys).take i).foldl (fun a p => a + p.1 * p.2) 0)) ∧ ∀ p ∈ xs.zip ys, Bq p.1 ∧ Bq p.2 ∧ Bq (p.1 * p.2)
def mnF (n : Nat) (q : List Nat → List Rat) (c : List Nat → Rat) : Nat → List Nat → Rat := upF n (fun t ys => dotQ (q t) ys) c
def lmF (n : Nat) (q : List Nat → List Rat) : Nat → List Nat → Rat := upF n (fun t ys => (1 - maxQ (q t)) + dotQ (q t) ys) fun _ => 0
def kidsF (n : Nat) (F : Nat → List Nat → Rat) (k : Nat) (t : List Nat) : List Rat := (List.range n).map fun d => F k (t ++ [d])
structure MeanOk (n R : Nat) (q : List Nat → List Rat) (F : Nat → List Nat → Rat) : Prop where
  v : ∀ k t, Dig n t → t.length + k = R → Bq (F k t)
  d : ∀ k t, Dig n t → t.length + (k + 1) = R → DotOk (q t) (kidsF n F k t)
  s : ∀ t, Dig n t → t.length < R → ∀ x ∈ q t, Bq x
def cellF (n : Nat) (cs : List Rat) (t : List Nat) : Rat := cs.getD (ridx n t) 0
theorem kid_len {n : Nat} {F : Nat → List Nat → Rat} {k : Nat} {t : List Nat} : (kidsF n F k t).length = n := by unfold kidsF; rw [List.length_map, List.length_range]
/-- a zip of keys and values, at a key -/
theorem zip_cells {n R : Nat} {cs : List Rat} (hl : cs.length = n ^ R) {t : List Nat} (ht : t.length = R) (hd : Dig n t) : ((rowsL n R).zip cs).foldl (fun f x => putD f x.1 x.2) (fun _ => none) t = some (cellF n cs t) := by
  have hb := rowsL_get ht hd
  have hi := (List.getElem?_eq_some_iff.mp hb).1
  obtain ⟨u, hu⟩ : ∃ u, cs[ridx n t]? = some u := get_of (by rw [hl, ← rowsL_len]; exact hi)
  have hs : cellF n cs t = u := by
    unfold cellF
    rw [List.getD_eq_getElem?_getD, hu]
    rfl
  rw [hs]
  refine put_zip _ _ (fun z hz e => ?_) (.inl ⟨(t, u), List.mem_of_getElem? (i := ridx n t) (by rw [List.getElem?_zip_eq_some]; exact ⟨hb, hu⟩), rfl⟩)
  obtain ⟨i, hz⟩ := List.mem_iff_getElem?.mp hz
  obtain ⟨z1, z2⟩ := List.getElem?_zip_eq_some.mp hz
  rw [e] at z1
  rw [← rowsL_idx z1, hu] at z2
  exact (Option.some.inj z2).symm
theorem rows_const {β : Type} {c : β} {t : List Nat} : ∀ (zs : List (List Nat)) (f : List Nat → Option β), (t ∈ zs ∨ f t = some c) → zs.foldl (fun f x => putD f x c) f t = some c
  | [], f, h => h.elim (fun z => by cases z) id
  | z :: zs, f, h => by
    rw [List.foldl_cons]
    refine rows_const zs _ ?_
    by_cases e : t = z
    · refine .inr ?_
      unfold putD
      rw [if_pos e]
    · rcases h with h | h
      · rcases List.mem_cons.mp h with q | q
        · exact absurd q e
        · exact .inl q
      · refine .inr ?_
        unfold putD
        rw [if_neg e, h]
theorem rev_get {α : Type} {xs : List α} {i : Nat} {x : α} (h : xs.reverse[i]? = some x) : i < xs.length ∧ xs[xs.length - 1 - i]? = some x := by
  have hi := (List.getElem?_eq_some_iff.mp h).1
  rw [List.length_reverse] at hi
  rw [List.getElem?_reverse hi] at h
  exact ⟨hi, h⟩
theorem tv_QR {O : List Addr} {σ : St} {G : Hp} {te : TE} {x : Rat} {K : PySem.W.Frag} (h : Tv O te σ G (qQ K) x) (b : Bq x) : Tv O te σ G (qR K) x := tv_RQ b h
section
variable {P : Program} {w : World} {K : PySem.W.Frag} {mg : PySem.Str → Option Value} {base : Heap}
theorem sc_check_shapes_plans : FnScope n_check_shapes_plans ["first", "second"] (defScope s_check_shapes_plans) := ⟨rfl, rfl, rfl, by decide +kernel, rfl, by decide +kernel, by decide +kernel⟩
theorem ok_check_shapes_plans (T : Ctx P w K mg base) : Pro P w K mg base "check_shapes_plans" ["first", "second"] 3 (spP (raC (qPln K) (raC (qTab K) raN)) (fun x => x.1.n = x.2.1.n ∧ x.1.R = x.2.1.R) qU fun _ => ()) := by
  refine mk_pro T.d_check_shapes_plans (fun _ _ _ _ _ _ us hl => match us, hl with | [_, _], _ => rfl) fun f fd F => ?_
  refine def2 F sc_check_shapes_plans rfl fun cdv A outer s H E O G 
    u v a b hr wd hu hv hp Q k => ⟨_, (pss_one (ps_if (PW.pt (pw_or (pt_cmpR op_ne (pe_prp (ok_Plan_width T) hr T.cl_Plan (pv 0)) (pe_prp (ok_Table_width T) hr T.cl_Table (pv 1)) (nomark _)) (pw_or1 (pt_cmpR op_ne (pe_prp (ok_Plan_rounds T) hr T.cl_Plan (pv 0)) (pe_prp (ok_Table_rounds T) hr T.cl_Table (pv 1)) (nomark _))))) pss_never pss_nil)), ?_⟩
  obtain ⟨h1, h2⟩ : a.n = b.n ∧ a.R = b.R := hp
  refine st_ifE (b := false) wd ((tt_or (tt_neI (tv_NI (tv_prop (tv_v rfl hu) pln_ins trivial)) (tv_NI (tv_prop (tv_v rfl hv) tab_ins trivial))) fun _ => tt_neI (tv_NI (tv_prop (tv_v rfl hu) pln_ins trivial)) (tv_NI (tv_prop (tv_v rfl hv) tab_ins trivial))).eq ?_) (fun z => nomatch z) (fun _ H1 s1 w1 => k _ _ s1 rfl)
  rw [h1, h2]
  simp
theorem sc_mean_under : FnScope n_mean_under ["foe", "table"] (defScope s_mean_under) := ⟨rfl, rfl, rfl, by decide +kernel, rfl, by decide +kernel, by decide +kernel⟩
theorem ok_mean_under (T : Ctx P w K mg base) : Pro P w K mg base "mean_under" ["foe", "table"] 6 (spP (raC (qPln K) (raC (qTab K) raN)) (fun x => Shape x.1.n x.1.R ∧ x.1.n = x.2.1.n ∧ x.1.R = x.2.1.R ∧ x.2.1.cs.length = x.1.n ^ x.1.R ∧ MeanOk x.1.n x.1.R (shF x.1.n x.1.sh) (mnF x.1.n (shF x.1.n x.1.sh) (cellF x.1.n x.2.1.cs))) (qQ K) fun x => mnF x.1.n (shF x.1.n x.1.sh) (cellF x.1.n x.2.1.cs) x.1.R []) := by
  refine mk_pro T.d_mean_under (fun _ _ _ _ _ _ us hl => match us, hl with | [_, _], _ => rfl) fun f fd F => ?_
  refine def2 F sc_mean_under rfl fun cdv A outer s H E O G 
    u v p tb hr wd hu hv hp Q k => ⟨_, (pss_cons (ps_expr (pe_cl (ok_check_shapes_plans T) hr (pa_cons (pv 0) (pa_cons (pv 1) pa_nil))))
      (pss_cons (ps_set (i := 2) sc_mean_under.nd rfl (Or.inl rfl) (pe_cl (ok_letters T) hr (pa_cons (pe_prp (ok_Plan_width T) hr T.cl_Plan (pv 0)) pa_nil)))
      (pss_cons (ps_set (i := 3) sc_mean_under.nd rfl (Or.inl rfl) (pe_clK (ok_rows_of T) hr (pa_cons (pe_prp (ok_Plan_rounds T) hr T.cl_Plan (pv 0)) pa_nil) (pk_cons (pe_prp (ok_Plan_width T) hr T.cl_Plan (pv 0)) pk_nil)))
      (pss_cons (ps_set (i := 4) sc_mean_under.nd rfl (Or.inr rfl) (pe_dc (own := [("row", 5), ("cell", 6)]) (g := (gTup K 2 (gCons (gName 5) (gCons (gName 6) gNil)))) (tt := tYes) rfl sc_mean_under.nd (pizL (K := K) rfl T.n_zip (pa_cons (pv 3) (pa_cons (pe_prp (ok_Table_cells T) hr T.cl_Table (pv 1)) pa_nil))) (blkOk_by (own := [("row", 5), ("cell", 6)]) (N := n_mean_under) (sc := defScope s_mean_under) (by decide +kernel)) (fun _ _ _ _ _ => (pgT (K := K) (n := 2) rfl rfl (pgs_cons (pg_name (i := 5) sc_mean_under.nd rfl (by first | exact Or.inl rfl | exact Or.inr rfl)) (pgs_cons (pg_name (i := 6) sc_mean_under.nd rfl (by first | exact Or.inl rfl | exact Or.inr rfl)) pgs_nil)))) (fun _ _ _ _ _ => pts_nil) (fun _ _ _ _ _ => (pv 5)) (fun _ _ _ _ _ => (pv 6))))
      (pss_cons (ps_for PassesOwn.never rfl (pirevL (K := K) rfl T.n_reversed (pa_cons (pe_cl (ok_inner_of T) hr (pa_cons (pv 0) pa_nil)) pa_nil)) (pg_name (i := 7) sc_mean_under.nd rfl (Or.inr rfl)) (pss_one (ps_dput (hu_of hr) (pv 4) (pv 7) (pe_cl (ok_dot T) hr (pa_cons (pe_cao (ok_Plan___call__ T) hr (pv 0) (pa_cons (pv 7) pa_nil)) (pa_cons (pe_lc (own := [("outcome", 8)]) (g := (gName 8)) (tt := tYes) rfl sc_mean_under.nd (pi_str (pv 2)) (blkOk_by (own := [("outcome", 8)]) (N := n_mean_under) (sc := defScope s_mean_under) (by decide +kernel)) (fun _ _ _ _ _ => (pg_name (i := 8) sc_mean_under.nd rfl (by first | exact Or.inl rfl | exact Or.inr rfl))) (fun _ _ _ _ _ => pts_nil) (fun _ _ _ _ _ => (pe_dget (hu_of hr) (pv 4) (pe_op op_add_str (pv 7) (pv 8)) (fun _ _ => rfl)))) pa_nil))) rfl)))
      (pss_one (ps_ret (pe_dget (hu_of hr) (pv 4) pe_str (fun _ _ => rfl))))))))), ?_⟩
  obtain ⟨sh, h1, h2, hcl, ok⟩ : Shape p.n p.R ∧ p.n = tb.n ∧ p.R = tb.R ∧ tb.cs.length = p.n ^ p.R ∧ MeanOk p.n p.R (shF p.n p.sh) (mnF p.n (shF p.n p.sh) (cellF p.n tb.cs)) := hp
  have h8 := sh.R8
  have hn : 0 < p.n := sh.1
  have hLs : (begL p.n p.R).length ≤ 2048 := Nat.le_trans (sh.begs (Nat.le_refl _)) (by omega)
  have hrl := sh.rows (Nat.le_refl _)
  refine st_drop wd (tv_call (ta_c (tv_v rfl hu) (ta_c (tv_v rfl hv) ta_n)) ⟨h1, h2⟩) fun H0 s0 w0 => ?_
  refine st_asg w0 (tv_call (ta_c (tv_prop (tv_v rfl hu) pln_ins trivial) ta_n) ⟨sh.1, sh.2.1⟩) fun vo G1 H1 g1 w1 s1 ho => ?_
  refine st_asg w1 (tv_clK (tv_prop (tv_v rfl (hu.mo g1)) pln_ins trivial) (tv_prop (tv_v rfl (hu.mo g1)) pln_ins trivial) sh) fun vr G2 H2 g2 w2 s2 hvr => ?_
  have hvr : Has (qLs qX) G2 vr (rowsL p.n p.R) := hvr
  refine st_dc (q := qQ K) (xs := (rowsL p.n p.R).zip tb.cs) (r := qP K qX (qQ K)) (kf := fun x => x.1) (vf := fun x => x.2) w2 (it_zip (tv_Ls (tv_v rfl hvr)) (tv_prop (tv_v rfl ((hv.mo g1).mo g2)) tab_ins trivial)) tg2 (own2 (by decide) (by decide)) (by rw [List.length_zip]; omega) ?_ ?_ fun a G3 H3 ha s3 g3 w3 o3 => ?_
  · rintro D i y G6 σ6 hy g6 ⟨v1, v2, e, hv1, hv2⟩
    subst e
    exact tv_v rfl hv1
  · rintro D i y G6 σ6 hy g6 ⟨v1, v2, e, hv1, hv2⟩
    subst e
    exact tv_v rfl hv2
  have hpn : H a = none := by
    cases e : H a with
    | none => rfl
    | some u => rw [((s0.trans s1).trans s2) _ _ e] at ha; cases ha
  refine st_forS (r := qX) w3 (it_rev (tv_Ls (tv_call (ta_c (tv_v rfl (((hu.mo g1).mo g2).mo g3)) ta_n) sh))) tg1
    (fun i σ G' H' => ∃ (o1 o2 : Option V) (f : List Nat → Option Rat), σ = [some u, some v, some vo, some vr, some (.ref a), none, none, o1, o2] ∧ Same H H' ∧ OwD (qQ K) O G' H' a f (256 + i) ∧ (∀ t k, Dig p.n t → t.length + k = p.R → (k = 0 ∨ (begL p.n p.R).length ≤ bidx p.n t + i) → f t = some (mnF p.n (shF p.n p.sh) (cellF p.n tb.cs) k t)))
    (fun G' H' g s w => ⟨none, none, _, rfl, (((s0.trans s1).trans s2).trans s3).trans s, ⟨(o3.on g s).nw, let ⟨L, e, l, d⟩ := (o3.on g s).at_; ⟨L, e, Nat.le_trans l (by rw [List.length_zip]; omega), d⟩⟩, fun t j hd e h => ?_⟩) ?_ ?_
  · rcases h with h0 | h
    · subst h0
      exact zip_cells hcl (by omega) hd
    · cases j with
      | zero => exact zip_cells hcl (by omega) hd
      | succ j =>
        have := begL_lt (show t.length < p.R by omega) hd
        omega
  · rintro i at_ σ1 G4 H4 G5 H5 σ2 hx ⟨q1, q2, f, rfl, s4, o4, hf⟩ g4 g5 s5 w5 ⟨va, rfl, hva⟩ N hN
    obtain ⟨hil, hx⟩ := rev_get (xs := begL p.n p.R) hx
    obtain ⟨hl, hd⟩ := begL_at (List.mem_of_getElem? hx)
    have hbi := begL_idx hx
    obtain ⟨j, ej⟩ : ∃ j, at_.length + (j + 1) = p.R := ⟨p.R - at_.length - 1, by omega⟩
    have hkid : ∀ d, d < p.n → f (at_ ++ [d]) = some (mnF p.n (shF p.n p.sh) (cellF p.n tb.cs) j (at_ ++ [d])) := fun d hdn => by
      refine hf _ _ (hd.app hdn) (by rw [List.length_append]; show at_.length + 1 + j = p.R; omega) (.inr ?_)
      have := bidx_up (n := p.n) (t := at_) (d := d) hn
      omega
    have dk := ok.d j at_ hd ej
    refine st_dputL w5 (o4.on g5 s5) rfl (by omega) (y := dotQ (shF p.n p.sh at_) (kidsF p.n (mnF p.n (shF p.n p.sh) (cellF p.n tb.cs)) j at_)) (fun G7 g7 h7 => ?_) (fun G7 g7 h7 => tv_v rfl (hva.mo g7)) fun G8 H8 g8 w8 s8 o8 => ?_
    · have gg := (g4.trans g5).trans g7
      refine tv_call (ta_c ((tv_callO (tv_v rfl ((((hu.mo g1).mo g2).mo g3).mo gg)) (ta_c (tv_v rfl (hva.mo g7)) ta_n) pln_ins ⟨hl, hd⟩).sub (q := qT K (qR K)) fun G' v' hq => ?_) (ta_c (r := qL K (qR K)) (x := kidsF p.n (mnF p.n (shF p.n p.sh) (cellF p.n tb.cs)) j at_) ?_ ta_n)) dk
      · obtain ⟨vs, e, pr⟩ := hq
        exact ⟨vs, e, paired_sub (β := Rat) pr fun v x hx hv => qR_of (ok.s at_ hd hl x hx) hv⟩
      · have e : kidsF p.n (mnF p.n (shF p.n p.sh) (cellF p.n tb.cs)) j at_ = ((List.range p.n).map fun d => [d]).map fun w => mnF p.n (shF p.n p.sh) (cellF p.n tb.cs) j (at_ ++ w) := by
          unfold kidsF
          rw [List.map_map]
          rfl
        rw [e]
        refine tv_map (it_strX (tv_v rfl (((ho.mo g2).mo g3).mo gg))) tg1 (own1 (by decide)) (by rw [List.length_map, List.length_range]; show p.n < 10000; have := sh.2.1; omega) fun D i w G9 σ9 hw g9 ⟨vw, ew, hvw⟩ => ?_
        subst ew
        rw [List.getElem?_map] at hw
        obtain ⟨d, hd1, ed⟩ := Option.map_eq_some_iff.mp hw
        have hdn : d < p.n := List.mem_range.mp (List.mem_of_getElem? hd1)
        subst ed
        exact tv_RQ (ok.v _ _ (hd.app hdn) (by rw [List.length_append]; show at_.length + 1 + j = p.R; omega)) (tv_dget (tv_v rfl (h7.mo g9)) (tv_addX (tv_v rfl ((hva.mo g7).mo g9)) (tv_v rfl hvw) (by show at_.length + 1 ≤ 1000; omega)) (hkid d hdn))
    · refine hN _ G8 H8 g8 w8 ⟨some va, q2, _, rfl, s8.same (s4.trans s5) hpn, o8, fun t k ht e h => ?_⟩
      unfold putD
      by_cases et : t = at_
      · rw [if_pos et]
        have ek : k = j + 1 := by rw [et] at e; omega
        rw [ek, et]
        rfl
      · rw [if_neg et]
        refine hf t k ht e ?_
        rcases h with h | h
        · exact .inl h
        · by_cases k0 : k = 0
          · exact .inl k0
          refine .inr ?_
          have : bidx p.n t ≠ bidx p.n at_ := fun z => et (bidx_inj (show t.length < p.R by omega) hl ht hd z)
          omega
  · rintro σ' G' H' g' w' ⟨q1, q2, f, rfl, s4, o4, hf⟩
    obtain ⟨g5, w5, h5⟩ := o4.see w'
    have e0 := hf [] p.R (fun _ z => by cases z) (by simp) (.inr (by rw [List.length_reverse]; show (begL p.n p.R).length ≤ bidx p.n [] + (begL p.n p.R).length; omega))
    exact st_ret w5 (tv_dget (tv_v rfl h5) (tv_c (r := qX) (x := []) fun _ => rfl) e0) fun v H'' s hv => k v H'' (s4.trans s) hv
theorem sc_least_misses : FnScope n_least_misses ["foe"] (defScope s_least_misses) := ⟨rfl, rfl, rfl, by decide +kernel, rfl, by decide +kernel, by decide +kernel⟩
theorem ok_least_misses (T : Ctx P w K mg base) : Pro P w K mg base "least_misses" ["foe"] 6 (spP (raC (qPln K) raN) (fun x => Shape x.1.n x.1.R ∧ MeanOk x.1.n x.1.R (shF x.1.n x.1.sh) (lmF x.1.n (shF x.1.n x.1.sh)) ∧ ∀ t, Dig x.1.n t → t.length < x.1.R → (shF x.1.n x.1.sh t).length = x.1.n ∧ Bq (maxQ (shF x.1.n x.1.sh t)) ∧ Bq (1 - maxQ (shF x.1.n x.1.sh t)) ∧ ∀ k, t.length + (k + 1) = x.1.R → Bq (dotQ (shF x.1.n x.1.sh t) (kidsF x.1.n (lmF x.1.n (shF x.1.n x.1.sh)) k t))) (qQ K) fun x => lmF x.1.n (shF x.1.n x.1.sh) x.1.R []) := by
  refine mk_pro T.d_least_misses (fun _ _ _ _ _ _ us hl => match us, hl with | [_], _ => rfl) fun f fd F => ?_
  refine def1 F sc_least_misses rfl fun cdv A outer s H E O G 
    u p hr wd hu hp Q k => ⟨_, (pss_cons (ps_set (i := 1) sc_least_misses.nd rfl (Or.inl rfl) (pe_cl (ok_letters T) hr (pa_cons (pe_prp (ok_Plan_width T) hr T.cl_Plan (pv 0)) pa_nil)))
      (pss_cons (ps_set (i := 2) sc_least_misses.nd rfl (Or.inr rfl) (pe_dc (own := [("row", 3)]) (g := (gName 3)) (tt := tYes) rfl sc_least_misses.nd (piL (K := K) rfl (pe_clK (ok_rows_of T) hr (pa_cons (pe_prp (ok_Plan_rounds T) hr T.cl_Plan (pv 0)) pa_nil) (pk_cons (pe_prp (ok_Plan_width T) hr T.cl_Plan (pv 0)) pk_nil))) (blkOk_by (own := [("row", 3)]) (N := n_least_misses) (sc := defScope s_least_misses) (by decide +kernel)) (fun _ _ _ _ _ => (pg_name (i := 3) sc_least_misses.nd rfl (by first | exact Or.inl rfl | exact Or.inr rfl))) (fun _ _ _ _ _ => pts_nil) (fun _ _ _ _ _ => (pv 3)) (fun _ _ _ _ _ => (pe_gR T.g_NOTHING))))
      (pss_cons (ps_for PassesOwn.never rfl (pirevL (K := K) rfl T.n_reversed (pa_cons (pe_cl (ok_inner_of T) hr (pa_cons (pv 0) pa_nil)) pa_nil)) (pg_name (i := 4) sc_least_misses.nd rfl (Or.inr rfl)) (pss_cons (ps_set (i := 5) sc_least_misses.nd rfl (Or.inl rfl) (pe_cao (ok_Plan___call__ T) hr (pv 0) (pa_cons (pv 4) pa_nil)))
      (pss_cons (ps_set (i := 6) sc_least_misses.nd rfl (Or.inl rfl) (pe_cl (ok_dot T) hr (pa_cons (pv 5) (pa_cons (pe_lc (own := [("outcome", 7)]) (g := (gName 7)) (tt := tYes) rfl sc_least_misses.nd (pi_str (pv 1)) (blkOk_by (own := [("outcome", 7)]) (N := n_least_misses) (sc := defScope s_least_misses) (by decide +kernel)) (fun _ _ _ _ _ => (pg_name (i := 7) sc_least_misses.nd rfl (by first | exact Or.inl rfl | exact Or.inr rfl))) (fun _ _ _ _ _ => pts_nil) (fun _ _ _ _ _ => (pe_dget (hu_of hr) (pv 2) (pe_op op_add_str (pv 4) (pv 7)) (fun _ _ => rfl)))) pa_nil))))
      (pss_one (ps_dput (hu_of hr) (pv 2) (pv 4) (pe_cl (ok_add T) hr (pa_cons (pe_cl (ok_sub T) hr (pa_cons pe_int (pa_cons (pe_cl (ok_greatest T) hr (pa_cons (pv 5) pa_nil)) pa_nil))) (pa_cons (pv 6) pa_nil))) rfl)))))
      (pss_one (ps_ret (pe_dget (hu_of hr) (pv 2) pe_str (fun _ _ => rfl))))))), ?_⟩
  obtain ⟨sh, ok, ok2⟩ : Shape p.n p.R ∧ MeanOk p.n p.R (shF p.n p.sh) (lmF p.n (shF p.n p.sh)) ∧ ∀ t, Dig p.n t → t.length < p.R → (shF p.n p.sh t).length = p.n ∧ Bq (maxQ (shF p.n p.sh t)) ∧ Bq (1 - maxQ (shF p.n p.sh t)) ∧ ∀ k, t.length + (k + 1) = p.R → Bq (dotQ (shF p.n p.sh t) (kidsF p.n (lmF p.n (shF p.n p.sh)) k t)) := hp
  have h8 := sh.R8
  have hn : 0 < p.n := sh.1
  have hLs : (begL p.n p.R).length ≤ 2048 := Nat.le_trans (sh.begs (Nat.le_refl _)) (by omega)
  have hrl := sh.rows (Nat.le_refl _)
  refine st_asg wd (tv_call (ta_c (tv_prop (tv_v rfl hu) pln_ins trivial) ta_n) ⟨sh.1, sh.2.1⟩) fun vo G1 H1 g1 w1 s1 ho => ?_
  refine st_dc (q := qQ K) (xs := rowsL p.n p.R) (r := qX) (kf := fun x => x) (vf := fun _ => (0 : Rat)) w1 (it_list (tv_Ls (tv_clK (tv_prop (tv_v rfl (hu.mo g1)) pln_ins trivial) (tv_prop (tv_v rfl (hu.mo g1)) pln_ins trivial) sh))) tg1 (own1 (by decide)) (by omega) ?_ ?_ fun a G3 H3 ha s3 g3 w3 o3 => ?_
  · rintro D i y G6 σ6 hy g6 ⟨v1, e, hv1⟩
    subst e
    exact tv_v rfl hv1
  · rintro D i y G6 σ6 hy g6 ⟨v1, e, hv1⟩
    exact tv_c fun G => ⟨_, rfl, T.t_NOTHING G⟩
  have hpn : H a = none := by
    cases e : H a with
    | none => rfl
    | some u => rw [s1 _ _ e] at ha; cases ha
  refine st_forS (r := qX) w3 (it_rev (tv_Ls (tv_call (ta_c (tv_v rfl ((hu.mo g1).mo g3)) ta_n) sh))) tg1
    (fun i σ G' H' => ∃ (o1 o2 o3 : Option V) (f : List Nat → Option Rat), σ = [some u, some vo, some (.ref a), none, o1, o2, o3, none] ∧ Same H H' ∧ OwD (qQ K) O G' H' a f (256 + i) ∧ (∀ t k, Dig p.n t → t.length + k = p.R → (k = 0 ∨ (begL p.n p.R).length ≤ bidx p.n t + i) → f t = some (lmF p.n (shF p.n p.sh) k t)))
    (fun G' H' g s w => ⟨none, none, none, _, rfl, (s1.trans s3).trans s, ⟨(o3.on g s).nw, let ⟨L, e, l, d⟩ := (o3.on g s).at_; ⟨L, e, Nat.le_trans l (by omega), d⟩⟩, fun t j hd e h => ?_⟩) ?_ ?_
  · have hz : ∀ t : List Nat, t.length = p.R → Dig p.n t → (rowsL p.n p.R).foldl (fun f x => putD f x (0 : Rat)) (fun _ => none) t = some 0 := fun t e d => rows_const _ _ (.inl (List.mem_of_getElem? (rowsL_get e d)))
    rcases h with h0 | h
    · subst h0
      exact hz t (by omega) hd
    · cases j with
      | zero => exact hz t (by omega) hd
      | succ j =>
        have := begL_lt (show t.length < p.R by omega) hd
        omega
  · rintro i at_ σ1 G4 H4 G5 H5 σ2 hx ⟨q1, q2, q3, f, rfl, s4, o4, hf⟩ g4 g5 s5 w5 ⟨va, rfl, hva⟩ N hN
    obtain ⟨hil, hx⟩ := rev_get (xs := begL p.n p.R) hx
    obtain ⟨hl, hd⟩ := begL_at (List.mem_of_getElem? hx)
    have hbi := begL_idx hx
    obtain ⟨j, ej⟩ : ∃ j, at_.length + (j + 1) = p.R := ⟨p.R - at_.length - 1, by omega⟩
    have hkid : ∀ d, d < p.n → f (at_ ++ [d]) = some (lmF p.n (shF p.n p.sh) j (at_ ++ [d])) := fun d hdn => by
      refine hf _ _ (hd.app hdn) (by rw [List.length_append]; show at_.length + 1 + j = p.R; omega) (.inr ?_)
      have := bidx_up (n := p.n) (t := at_) (d := d) hn
      omega
    have dk := ok.d j at_ hd ej
    obtain ⟨sl, bm, b1m, bd⟩ := ok2 at_ hd hl
    have bd := bd j ej
    have hbq := ok.s at_ hd hl
    have o5 := o4.on g5 s5
    refine st_asg w5 (tv_callO (tv_v rfl (((hu.mo g1).mo g3).mo (g4.trans g5))) (ta_c (tv_v rfl hva) ta_n) pln_ins ⟨hl, hd⟩) fun vs G6 H6 g6 w6 s6 hs6 => ?_
    have hs6 : Has (qT K (qQ K)) G6 vs (shF p.n p.sh at_) := hs6
    have gg := (g4.trans g5).trans g6
    refine st_asgD (r := qQ K) (x := dotQ (shF p.n p.sh at_) (kidsF p.n (lmF p.n (shF p.n p.sh)) j at_)) w6 (o5.on g6 s6) (fun G7 g7 h7 => ?_) fun vl G7 H7 g7 w7 s7 hl7 o7 => ?_
    · refine tv_call (ta_c ((tv_v rfl (hs6.mo g7)).sub (q := qT K (qR K)) fun G' v' hq => ?_) (ta_c (r := qL K (qR K)) (x := kidsF p.n (lmF p.n (shF p.n p.sh)) j at_) ?_ ta_n)) dk
      · obtain ⟨vs, e, pr⟩ := hq
        exact ⟨vs, e, paired_sub (β := Rat) pr fun v x hx hv => qR_of (hbq x hx) hv⟩
      · have e : kidsF p.n (lmF p.n (shF p.n p.sh)) j at_ = ((List.range p.n).map fun d => [d]).map fun w => lmF p.n (shF p.n p.sh) j (at_ ++ w) := by
          unfold kidsF
          rw [List.map_map]
          rfl
        rw [e]
        refine tv_map (it_strX (tv_v rfl (((ho.mo g3).mo gg).mo g7))) tg1 (own1 (by decide)) (by rw [List.length_map, List.length_range]; show p.n < 10000; have := sh.2.1; omega) fun D i w G9 σ9 hw g9 ⟨vw, ew, hvw⟩ => ?_
        subst ew
        rw [List.getElem?_map] at hw
        obtain ⟨d, hd1, ed⟩ := Option.map_eq_some_iff.mp hw
        have hdn : d < p.n := List.mem_range.mp (List.mem_of_getElem? hd1)
        subst ed
        exact tv_RQ (ok.v _ _ (hd.app hdn) (by rw [List.length_append]; show at_.length + 1 + j = p.R; omega)) (tv_dget (tv_v rfl (h7.mo g9)) (tv_addX (tv_v rfl (((hva.mo g6).mo g7).mo g9)) (tv_v rfl hvw) (by show at_.length + 1 ≤ 1000; omega)) (hkid d hdn))
    refine st_dputL w7 o7 rfl (by omega) (y := (1 - maxQ (shF p.n p.sh at_)) + dotQ (shF p.n p.sh at_) (kidsF p.n (lmF p.n (shF p.n p.sh)) j at_)) (fun G8 g8 h8 => ?_) (fun G8 g8 h8 => tv_v rfl (((hva.mo g6).mo g7).mo g8)) fun G9 H9 g9 w9 s9 o9 => ?_
    · refine Tv.eq (tv_call (ta_c (tv_QR (tv_call (ta_c tv_R1 (ta_c (tv_QR (tv_call (ta_c (tv_RT hbq (tv_v rfl ((hs6.mo g7).mo g8))) ta_n) ⟨?_, ?_⟩) bm) ta_n)) ⟨bq_one, bm⟩) b1m) (ta_c (tv_QR (tv_v rfl (hl7.mo g8)) bd) ta_n)) ⟨b1m, bd⟩) rfl
      · show 0 < (shF p.n p.sh at_).length
        omega
      · show (shF p.n p.sh at_).length < 10000
        have := sh.2.1
        omega
    · refine hN _ G9 H9 ((g6.trans g7).trans g9) w9 ⟨some va, some vs, some vl, _, rfl, s9.same (((s4.trans s5).trans s6).trans s7) hpn, o9, fun t k ht e h => ?_⟩
      unfold putD
      by_cases et : t = at_
      · rw [if_pos et]
        have ek : k = j + 1 := by rw [et] at e; omega
        rw [ek, et]
        rfl
      · rw [if_neg et]
        refine hf t k ht e ?_
        rcases h with h | h
        · exact .inl h
        · by_cases k0 : k = 0
          · exact .inl k0
          refine .inr ?_
          have : bidx p.n t ≠ bidx p.n at_ := fun z => et (bidx_inj (show t.length < p.R by omega) hl ht hd z)
          omega
  · rintro σ' G' H' g' w' ⟨q1, q2, q3, f, rfl, s4, o4, hf⟩
    obtain ⟨g5, w5, h5⟩ := o4.see w'
    have e0 := hf [] p.R (fun _ z => by cases z) (by simp) (.inr (by rw [List.length_reverse]; show (begL p.n p.R).length ≤ bidx p.n [] + (begL p.n p.R).length; omega))
    exact st_ret w5 (tv_dget (tv_v rfl h5) (tv_c (r := qX) (x := []) fun _ => rfl) e0) fun v H'' s hv => k v H'' (s4.trans s) hv
end
end Nb
set_option Elab.async false
set_option linter.all false
set_option maxRecDepth 100000
set_option maxHeartbeats 4000000
namespace Nb
open PySem L2
open PyProof.Rows (envOfC)
theorem tv_neI {O : List Addr} {σ : St} {G : Hp} {ta tb : TE} {i j : Int} (ha : Tv O ta σ G qI i) (hb : Tv O tb σ G qI j) : Tv O (tOp rNe ta tb) σ G qB (!decide (i = j)) := fun H w Q k =>
  ha H w _ fun v H1 s1 h1 => hb H1 (w.same s1) _ fun u H2 s2 h2 => by
    cases h1
    cases h2
    refine ⟨rfl, k _ _ (s1.trans s2) ?_⟩
    show V.bl _ = V.bl _
    congr 2
    by_cases z : i = j
    · rw [z, decide_eq_true rfl, decide_eq_true rfl]
    · rw [decide_eq_false z, decide_eq_false (fun q => z (V.int.inj q))]
/-- three things in a tuple -/
def qP3 {α β γ : Type} (K : PySem.W.Frag) (r : Rl α) (q : Rl β) (p : Rl γ) : Rl (α × β × γ) := fun G v x => ∃ a b c, qTv K G v [a, b, c] ∧ r G a x.1 ∧ q G b x.2.1 ∧ p G c x.2.2
instance {α β γ : Type} {K : PySem.W.Frag} (r : Rl α) (q : Rl β) (p : Rl γ) [Mo r] [Mo q] [Mo p] : Mo (qP3 K r q p) := ⟨fun s ⟨a, b, c, e, h1, h2, h3⟩ => ⟨a, b, c, Mo.mo s e, Mo.mo s h1, Mo.mo s h2, Mo.mo s h3⟩⟩
theorem st_unp3 {α β γ : Type} {K : PySem.W.Frag} {O : List Addr} {σ : St} {G H : Hp} {te : TE} {D : Ends} {t2 : TS} {i j l : Nat} {r : Rl α} {q : Rl β} {p : Rl γ} [Mo r] [Mo q] [Mo p] {x : α} {y : β} {z : γ} (w : Wd O G H) (h : Tv O te σ G (qP3 K r q p) (x, y, z))
    (k : ∀ u v w' G' H', Same G G' → Wd O G' H' → Same H H' → Has r G' u x → Has q G' v y → Has p G' w' z → t2 D (((σ.set i (some u)).set j (some v)).set l (some w')) H') :
    tSeq (tAsg te (gTup K 3 (gCons (gName i) (gCons (gName j) (gCons (gName l) gNil))))) t2 D σ H :=
  h H w _ fun v H1 s1 h1 => by
    obtain ⟨a, b, c, ⟨p, e, hs⟩, e1, e2, e3⟩ := h1
    exact ⟨p, [a, b, c], e, same_sqT wo_le hs, rfl, a, [b, c], rfl, b, [c], rfl, c, [], rfl, rfl, k a b c _ H1 (w.le.trans (same_wo s1)) (w.same s1).up s1 ⟨e1⟩ ⟨e2⟩ ⟨e3⟩⟩
def slackC (p : Pln) (cs : List Rat) : List Rat := (cs.zip ((rowsL p.n p.R).map (mis (shF p.n p.sh)))).map fun x => x.1 - x.2
structure SlackOk (p : Pln) (tb : Tab) : Prop where
  sh : Shape p.n p.R
  n : p.n = tb.n
  R : p.R = tb.R
  l : tb.cs.length = p.n ^ p.R
  m : MisOk p.n p.R (shF p.n p.sh)
  c : ∀ y ∈ tb.cs, Bq y
  s : ∀ y ∈ slackC p tb.cs, Bq y
def worthQ (p : Pln) (cs : List Rat) : Rat := mnF p.n (shF p.n p.sh) (cellF p.n cs) p.R [] - lmF p.n (shF p.n p.sh) p.R []
structure WorthOk (p : Pln) (tb : Tab) : Prop where
  sh : Shape p.n p.R
  n : p.n = tb.n
  R : p.R = tb.R
  l : tb.cs.length = p.n ^ p.R
  m : MeanOk p.n p.R (shF p.n p.sh) (mnF p.n (shF p.n p.sh) (cellF p.n tb.cs))
  f : MeanOk p.n p.R (shF p.n p.sh) (lmF p.n (shF p.n p.sh))
  g : ∀ t, Dig p.n t → t.length < p.R → (shF p.n p.sh t).length = p.n ∧ Bq (maxQ (shF p.n p.sh t)) ∧ Bq (1 - maxQ (shF p.n p.sh t)) ∧ ∀ k, t.length + (k + 1) = p.R → Bq (dotQ (shF p.n p.sh t) (kidsF p.n (lmF p.n (shF p.n p.sh)) k t))
theorem WorthOk.a {p : Pln} {tb : Tab} (h : WorthOk p tb) : Bq (mnF p.n (shF p.n p.sh) (cellF p.n tb.cs) p.R []) ∧ Bq (lmF p.n (shF p.n p.sh) p.R []) := ⟨h.m.v _ _ (fun _ z => by cases z) (by simp), h.f.v _ _ (fun _ z => by cases z) (by simp)⟩
section
variable {P : Program} {w : World} {K : PySem.W.Frag} {mg : PySem.Str → Option Value} {base : Heap}
theorem sc_same_shape_papers : FnScope n_same_shape_papers ["plan", "table"] (defScope s_same_shape_papers) := ⟨rfl, rfl, rfl, by decide +kernel, rfl, by decide +kernel, by decide +kernel⟩
theorem ok_same_shape_papers (T : Ctx P w K mg base) : Pro P w K mg base "same_shape_papers" ["plan", "table"] 3 (spP (raC (qPln K) (raC (qTab K) raN)) (fun x => x.1.n = x.2.1.n ∧ x.1.R = x.2.1.R) qB fun _ => true) := by
  refine mk_pro T.d_same_shape_papers (fun _ _ _ _ _ _ us hl => match us, hl with | [_, _], _ => rfl) fun f fd F => ?_
  refine def2 F sc_same_shape_papers rfl fun cdv A outer s H E O G 
    u v a b hr wd hu hv hp Q k => ⟨_, (pss_one (ps_ret (pe_and (pe_cmpR op_eq (pe_prp (ok_Plan_width T) hr T.cl_Plan (pv 0)) (pe_prp (ok_Table_width T) hr T.cl_Table (pv 1)) (nomark _)) (pe_one (pe_cmpR op_eq (pe_prp (ok_Plan_rounds T) hr T.cl_Plan (pv 0)) (pe_prp (ok_Table_rounds T) hr T.cl_Table (pv 1)) (nomark _)))))), ?_⟩
  obtain ⟨h1, h2⟩ : a.n = b.n ∧ a.R = b.R := hp
  refine st_ret wd ((tv_and (tv_eqI (tv_NI (tv_prop (tv_v rfl hu) pln_ins trivial)) (tv_NI (tv_prop (tv_v rfl hv) tab_ins trivial))) fun _ => tv_eqI (tv_NI (tv_prop (tv_v rfl hu) pln_ins trivial)) (tv_NI (tv_prop (tv_v rfl hv) tab_ins trivial))).eq ?_) k
  rw [h1, h2]
  simp
theorem sc_check_shape_papers : FnScope n_check_shape_papers ["plan", "table"] (defScope s_check_shape_papers) := ⟨rfl, rfl, rfl, by decide +kernel, rfl, by decide +kernel, by decide +kernel⟩
theorem ok_check_shape_papers (T : Ctx P w K mg base) : Pro P w K mg base "check_shape_papers" ["plan", "table"] 4 (spP (raC (qPln K) (raC (qTab K) raN)) (fun x => x.1.n = x.2.1.n ∧ x.1.R = x.2.1.R) qU fun _ => ()) := by
  refine mk_pro T.d_check_shape_papers (fun _ _ _ _ _ _ us hl => match us, hl with | [_, _], _ => rfl) fun f fd F => ?_
  refine def2 F sc_check_shape_papers rfl fun cdv A outer s H E O G 
    u v a b hr wd hu hv hp Q k => ⟨_, (pss_one (ps_if (pt_not (pt_val (pe_cl (ok_same_shape_papers T) hr (pa_cons (pv 0) (pa_cons (pv 1) pa_nil))))) pss_never pss_nil)), ?_⟩
  exact st_ifE (b := false) wd (tt_not (b := true) (tt_b (tv_call (ta_c (tv_v rfl hu) (ta_c (tv_v rfl hv) ta_n)) hp))) (fun z => nomatch z) (fun _ H1 s1 w1 => k _ _ s1 rfl)
theorem sc_slack_table : FnScope n_slack_table ["chooser", "table"] (defScope s_slack_table) := ⟨rfl, rfl, rfl, by decide +kernel, rfl, by decide +kernel, by decide +kernel⟩
theorem ok_slack_table (T : Ctx P w K mg base) : Pro P w K mg base "slack_table" ["chooser", "table"] 8 (spP (raC (qPln K) (raC (qTab K) raN)) (fun x => SlackOk x.1 x.2.1) (qTab K) fun x => ⟨x.2.1.n, x.2.1.R, slackC x.1 x.2.1.cs⟩) := by
  refine mk_pro T.d_slack_table (fun _ _ _ _ _ _ us hl => match us, hl with | [_, _], _ => rfl) fun f fd F => ?_
  refine def2 F sc_slack_table rfl fun cdv A outer s H E O G 
    u v p tb hr wd hu hv hp Q k => ⟨_, (pss_cons (ps_expr (pe_cl (ok_check_shape_papers T) hr (pa_cons (pv 0) (pa_cons (pv 1) pa_nil))))
      (pss_one (ps_ret (pe_op (op_bin (ok_Table___sub__ T) hr) (pv 1) (pe_cl (ok_misses_table T) hr (pa_cons (pv 0) pa_nil)))))), ?_⟩
  have hp : SlackOk p tb := hp
  refine st_drop wd (tv_call (ta_c (tv_v rfl hu) (ta_c (tv_v rfl hv) ta_n)) ⟨hp.n, hp.R⟩) fun H1 s1 w1 => ?_
  refine st_ret w1 (tv_bin (tv_v rfl hv) (tv_call (ta_c (tv_v rfl hu) ta_n) ⟨hp.sh, hp.m⟩) tab_ins tab_ins ?_) fun v H' s hv => k v H' (s1.trans s) hv
  refine ⟨by rw [← hp.n, ← hp.R]; exact hp.sh, hp.n.symm, hp.R.symm, by rw [← hp.n, ← hp.R]; exact hp.l, ?_, hp.c, ?_, hp.s⟩
  · show ((rowsL p.n p.R).map _).length = tb.n ^ tb.R
    rw [List.length_map, rowsL_len, hp.n, hp.R]
  · intro y hy
    obtain ⟨t, ht, e⟩ := List.mem_map.mp (show y ∈ (rowsL p.n p.R).map (mis (shF p.n p.sh)) from hy)
    rw [← e]
    exact hp.m.m t (rowsL_at ht).2 (Nat.le_of_eq (rowsL_at ht).1)
theorem slackC_len {p : Pln} {tb : Tab} (h : SlackOk p tb) : (slackC p tb.cs).length = p.n ^ p.R := by
  unfold slackC
  rw [List.length_map, List.length_zip, List.length_map, rowsL_len, h.l, Nat.min_self]
theorem pow_pos' {n R : Nat} (h : Shape n R) : 0 < n ^ R := Nat.pow_pos h.1
theorem sc_least_slack : FnScope n_least_slack ["chooser", "table"] (defScope s_least_slack) := ⟨rfl, rfl, rfl, by decide +kernel, rfl, by decide +kernel, by decide +kernel⟩
theorem ok_least_slack (T : Ctx P w K mg base) : Pro P w K mg base "least_slack" ["chooser", "table"] 9 (spP (raC (qPln K) (raC (qTab K) raN)) (fun x => SlackOk x.1 x.2.1) (qQ K) fun x => minQ (slackC x.1 x.2.1.cs)) := by
  refine mk_pro T.d_least_slack (fun _ _ _ _ _ _ us hl => match us, hl with | [_, _], _ => rfl) fun f fd F => ?_
  refine def2 F sc_least_slack rfl fun cdv A outer s H E O G 
    u v p tb hr wd hu hv hp Q k => ⟨_, (pss_one (ps_ret (pe_cl (ok_least T) hr (pa_cons (pe_prp (ok_Table_cells T) hr T.cl_Table (pe_cl (ok_slack_table T) hr (pa_cons (pv 0) (pa_cons (pv 1) pa_nil)))) pa_nil)))), ?_⟩
  have hp : SlackOk p tb := hp
  have hl := slackC_len hp
  have h1 := pow_pos' hp.sh
  have h2 := pow_small hp.sh (Nat.le_refl _)
  refine st_ret wd (tv_call (ta_c (tv_RL (xs := slackC p tb.cs) hp.s (tv_prop (tv_call (ta_c (tv_v rfl hu) (ta_c (tv_v rfl hv) ta_n)) hp) tab_ins trivial)) ta_n) ⟨?_, ?_⟩) k
  · show 0 < (slackC p tb.cs).length
    omega
  · show (slackC p tb.cs).length < 10000
    omega
theorem sc_worth : FnScope n_worth ["foe", "table"] (defScope s_worth) := ⟨rfl, rfl, rfl, by decide +kernel, rfl, by decide +kernel, by decide +kernel⟩
theorem ok_worth (T : Ctx P w K mg base) : Pro P w K mg base "worth" ["foe", "table"] 7 (spP (raC (qPln K) (raC (qTab K) raN)) (fun x => WorthOk x.1 x.2.1) (qQ K) fun x => worthQ x.1 x.2.1.cs) := by
  refine mk_pro T.d_worth (fun _ _ _ _ _ _ us hl => match us, hl with | [_, _], _ => rfl) fun f fd F => ?_
  refine def2 F sc_worth rfl fun cdv A outer s H E O G 
    u v p tb hr wd hu hv hp Q k => ⟨_, (pss_cons (ps_expr (pe_cl (ok_check_shape_papers T) hr (pa_cons (pv 0) (pa_cons (pv 1) pa_nil))))
      (pss_one (ps_ret (pe_cl (ok_sub T) hr (pa_cons (pe_cl (ok_mean_under T) hr (pa_cons (pv 0) (pa_cons (pv 1) pa_nil))) (pa_cons (pe_cl (ok_least_misses T) hr (pa_cons (pv 0) pa_nil)) pa_nil)))))), ?_⟩
  have hp : WorthOk p tb := hp
  refine st_drop wd (tv_call (ta_c (tv_v rfl hu) (ta_c (tv_v rfl hv) ta_n)) ⟨hp.n, hp.R⟩) fun H1 s1 w1 => ?_
  exact st_ret w1 (tv_call (ta_c (tv_QR (tv_call (ta_c (tv_v rfl hu) (ta_c (tv_v rfl hv) ta_n)) ⟨hp.sh, hp.n, hp.R, hp.l, hp.m⟩) hp.a.1) (ta_c (tv_QR (tv_call (ta_c (tv_v rfl hu) ta_n) ⟨hp.sh, hp.f, hp.g⟩) hp.a.2) ta_n)) hp.a) fun v H' s hv => k v H' (s1.trans s) hv
theorem sc_is_value_paper : FnScope n_is_value_paper ["table", "paper"] (defScope s_is_value_paper) := ⟨rfl, rfl, rfl, by decide +kernel, rfl, by decide +kernel, by decide +kernel⟩
theorem ok_is_value_paper (T : Ctx P w K mg base) : Pro P w K mg base "is_value_paper" ["table", "paper"] 10 (spP (raC (qTab K) (raC (qP3 K (qR K) (qPln K) (qPln K)) raN)) (fun x => SlackOk x.2.1.2.1 x.1 ∧ WorthOk x.2.1.2.2 x.1 ∧ Bq (minQ (slackC x.2.1.2.1 x.1.cs)) ∧ Bq (worthQ x.2.1.2.2 x.1.cs) ∧ Bq x.2.1.1) qB fun x => !decide (cmpQ (minQ (slackC x.2.1.2.1 x.1.cs)) x.2.1.1 = -1) && !decide (cmpQ (worthQ x.2.1.2.2 x.1.cs) x.2.1.1 = 1)) := by
  refine mk_pro T.d_is_value_paper (fun _ _ _ _ _ _ us hl => match us, hl with | [_, _], _ => rfl) fun f fd F => ?_
  refine def2 F sc_is_value_paper rfl fun cdv A outer s H E O G 
    u v tb pp hr wd hu hv hp Q k => ⟨_, (pss_cons (ps_asg (pv 1) (pgT (K := K) (n := 3) rfl rfl (pgs_cons (pg_name (i := 2) sc_is_value_paper.nd rfl (Or.inl rfl)) (pgs_cons (pg_name (i := 3) sc_is_value_paper.nd rfl (Or.inl rfl)) (pgs_cons (pg_name (i := 4) sc_is_value_paper.nd rfl (Or.inl rfl)) pgs_nil)))))
      (pss_cons (ps_set (i := 5) sc_is_value_paper.nd rfl (Or.inl rfl) (pe_cl (ok_fraction T) hr (pa_cons (pv 2) pa_nil)))
      (pss_cons (ps_if (PW.pt (pw_or (pt_not (pt_val (pe_cl (ok_same_shape_papers T) hr (pa_cons (pv 3) (pa_cons (pv 0) pa_nil))))) (pw_or1 (pt_not (pt_val (pe_cl (ok_same_shape_papers T) hr (pa_cons (pv 4) (pa_cons (pv 0) pa_nil)))))))) (pss_one (ps_ret pe_bl)) pss_nil)
      (pss_cons (ps_if (pt_cmpR op_eq (pe_cl (ok_compare T) hr (pa_cons (pe_cl (ok_least_slack T) hr (pa_cons (pv 3) (pa_cons (pv 0) pa_nil))) (pa_cons (pv 5) pa_nil))) (pe_un un_neg pe_int) (nomark _)) (pss_one (ps_ret pe_bl)) pss_nil)
      (pss_one (ps_ret (pe_cmpR op_ne (pe_cl (ok_compare T) hr (pa_cons (pe_cl (ok_worth T) hr (pa_cons (pv 4) (pa_cons (pv 0) pa_nil))) (pa_cons (pv 5) pa_nil))) pe_int (nomark _)))))))), ?_⟩
  obtain ⟨x, p, q⟩ := pp
  obtain ⟨h1, h2, b1, b2, b3⟩ : SlackOk p tb ∧ WorthOk q tb ∧ Bq (minQ (slackC p tb.cs)) ∧ Bq (worthQ q tb.cs) ∧ Bq x := hp
  refine st_unp3 wd (tv_v rfl hv) fun vx vp vq G1 H1 g1 w1 s1 hx hpp hq => ?_
  refine st_asg w1 (tv_fr (tv_v rfl hx)) fun vn G2 H2 g2 w2 s2 hn => ?_
  have hu2 := ((hu.mo g1).mo g2)
  have hp2 := hpp.mo g2
  have hq2 := hq.mo g2
  refine st_if w2 (tt_or (b := false) (tt_not (b := true) (tt_b (tv_call (ta_c (tv_v rfl hp2) (ta_c (tv_v rfl hu2) ta_n)) ⟨h1.n, h1.R⟩))) fun _ => tt_not (b := true) (tt_b (tv_call (ta_c (tv_v rfl hq2) (ta_c (tv_v rfl hu2) ta_n)) ⟨h2.n, h2.R⟩))) (fun z => nomatch z) fun _ H3 s3 w3 => ?_
  refine st_if w3 (tt_eqI (tv_call (ta_c (tv_QR (tv_call (ta_c (tv_v rfl hp2) (ta_c (tv_v rfl hu2) ta_n)) h1) b1) (ta_c (tv_QR (tv_v rfl hn) b3) ta_n)) trivial) (tv_neg tv_i)) (fun z H4 s4 w4 => ?_) (fun z H4 s4 w4 => ?_)
  · refine st_ret w4 tv_b fun v H' s hv => k v H' ((((s1.trans s2).trans s3).trans s4).trans s) ?_
    have z : cmpQ (minQ (slackC p tb.cs)) x = -1 := of_decide_eq_true z
    show v = V.bl _
    rw [show v = V.bl false from hv]
    show _ = V.bl (!decide (cmpQ (minQ (slackC p tb.cs)) x = -1) && _)
    rw [decide_eq_true z]
    rfl
  · refine st_ret w4 (tv_neI (tv_call (ta_c (tv_QR (tv_call (ta_c (tv_v rfl hq2) (ta_c (tv_v rfl hu2) ta_n)) h2) b2) (ta_c (tv_QR (tv_v rfl hn) b3) ta_n)) trivial) tv_i) fun v H' s hv => k v H' ((((s1.trans s2).trans s3).trans s4).trans s) ?_
    have z : ¬ cmpQ (minQ (slackC p tb.cs)) x = -1 := of_decide_eq_false z
    show v = V.bl (!decide (cmpQ (minQ (slackC p tb.cs)) x = -1) && _)
    rw [decide_eq_false z]
    exact hv
end
end Nb
set_option Elab.async false
set_option linter.all false
set_option maxRecDepth 100000
set_option maxHeartbeats 4000000
namespace Nb
open PySem L2
open PyProof.Rows (envOfC)
structure FloorOk (xs : List Rat) : Prop where
  p : 0 < xs.length
  l : xs.length ≤ 5
  ex : ∃ D, D < 2 ^ 2000 ∧ 0 < D ∧ ∀ x ∈ xs, La D (2 ^ 40) x
theorem FloorOk.ne {xs : List Rat} (h : FloorOk xs) : xs ≠ [] := List.length_pos_iff.mp h.p
theorem la_small {D b : Nat} {x : Rat} (h : La (D * 60) b x) (hD : D < 2 ^ 2000) (hb : b ≤ 2 ^ 100) : Bq x := by
  refine la_bq h ?_ hb
  have h2 : D * 60 < 2 ^ 2000 * 64 := by omega
  have h3 : 2 ^ 2000 * 64 = 2 ^ 2006 := (Nat.pow_add 2 2000 6).symm
  have h4 : 2 ^ 2006 < 2 ^ 3000 := Nat.pow_lt_pow_right (by decide) (by decide)
  omega
theorem la_up60 {D b : Nat} {x : Rat} (h : La D b x) : La (D * 60) b x := h.up (by decide)
theorem FloorOk.h {xs : List Rat} (h : FloorOk xs) : Bq (hgt xs) ∧ (∀ x ∈ xs, Bq x) ∧ (∀ x ∈ xs, Bq (hgt xs - x)) ∧ Bq (hgt xs - 1) := by
  obtain ⟨D, hD, h0, hl⟩ := h.ex
  have hh := hgt_la h.ne h.l hl h0
  exact ⟨la_small hh hD (by decide), fun x hx => la_small (la_up60 (hl x hx)) hD (by decide), fun x hx => la_small (hh.sub (la_up60 (hl x hx))) hD (by decide), la_small (hh.sub (La.one (by omega))) hD (by decide)⟩
/-- what one turn of the loop asks for -/
theorem FloorOk.sub {xs ys : List Rat} (h : FloorOk xs) (h0 : ys ≠ []) (hs : ∀ y ∈ ys, y ∈ xs) (hl : ys.length ≤ xs.length) : (∀ y ∈ ys, Bq y) ∧ (∀ i, Bq (sumQ (ys.take i))) ∧ Bq (sumQ ys) ∧ Bq (1 + sumQ ys) ∧ Bq (topQ ys) := by
  obtain ⟨D, hD, d0, hx⟩ := h.ex
  have hy : ∀ y ∈ ys, La D (2 ^ 40) y := fun y h => hx y (hs y h)
  have h5 : ys.length ≤ 5 := Nat.le_trans hl h.l
  have s1 : ∀ i, La D (2 ^ 40 * 5) (sumQ (ys.take i)) := fun i => (sum_take_la d0 hy i).mono (Nat.mul_le_mul_left _ h5)
  have s2 : La D (2 ^ 40 * 5) (sumQ ys) := by
    have := s1 ys.length
    rw [List.take_length] at this
    exact this
  exact ⟨fun y h => la_small (la_up60 (hy y h)) hD (by decide), fun i => la_small (la_up60 (s1 i)) hD (by decide), la_small (la_up60 s2) hD (by decide), la_small (la_up60 ((La.one d0).add s2)) hD (by decide), la_small (topQ_la h0 h5 hy d0) hD (by decide)⟩
theorem cmp_lt0 {x y : Rat} : decide (cmpQ x y < 0) = decide (x < y) := by
  unfold cmpQ
  by_cases h : x < y
  · rw [if_pos h, decide_eq_true h]; rfl
  · rw [if_neg h, decide_eq_false h]
    by_cases g : y < x
    · rw [if_pos g]; rfl
    · rw [if_neg g]; rfl
theorem cmp_le0 {x y : Rat} : decide (cmpQ x y ≤ 0) = decide (x ≤ y) := by
  unfold cmpQ
  by_cases h : x < y
  · rw [if_pos h, decide_eq_true (show x ≤ y by grind)]; rfl
  · rw [if_neg h]
    by_cases g : y < x
    · rw [if_pos g, decide_eq_false (show ¬ x ≤ y by grind)]; rfl
    · rw [if_neg g, decide_eq_true (show x ≤ y by grind)]; rfl
section
variable {P : Program} {w : World} {K : PySem.W.Frag} {mg : PySem.Str → Option Value} {base : Heap}
theorem tv_RNat {O : List Addr} {σ : St} {G : Hp} {te : TE} {n : Nat} (h : Tv O te σ G qI (n : Int)) (hn : n < 1000000) : Tv O te σ G (qR K) (n : Rat) := (tv_RI (i := (n : Int)) (sm_small (by omega)) h).eq (Rat.intCast_natCast n)
theorem bq_nat {n : Nat} (hn : n < 1000000) : Bq (n : Rat) := by
  rw [← Rat.intCast_natCast]
  exact ⟨sm_small (by show ((n : Int)).natAbs < _; omega), sm_small (by rw [Rat.den_intCast]; decide)⟩
theorem sc_height : FnScope n_height ["floor"] (defScope s_height) := ⟨rfl, rfl, rfl, by decide +kernel, rfl, by decide +kernel, by decide +kernel⟩
theorem ok_height (T : Ctx P w K mg base) : Pro P w K mg base "height" ["floor"] 5 (spP (raC (qL K (qQ K)) raN) (fun x => FloorOk x.1) (qQ K) fun x => hgt x.1) := by
  refine mk_pro T.d_height (fun _ _ _ _ _ _ us hl => match us, hl with | [_], _ => rfl) fun f fd F => ?_
  refine def1 F sc_height rfl fun cdv A outer s H E O G 
    u xs hr wd hu hp Q k => ⟨_, (pss_cons (ps_set (i := 1) sc_height.nd rfl (Or.inl rfl) (pv 0))
      (pss_one (ps_while PassesOwn.never (pt_val pe_bl) (pss_cons (ps_set (i := 2) sc_height.nd rfl (Or.inr rfl) (pe_cl (ok_div T) hr (pa_cons (pe_cl (ok_add T) hr (pa_cons pe_int (pa_cons (pe_cl (ok_total T) hr (pa_cons (pv 1) pa_nil)) pa_nil))) (pa_cons (c_len (K := K) rfl T.n_len (pa_cons (pv 1) pa_nil)) pa_nil))))
      (pss_cons (ps_setLc (i := 3) (own := [("level", 4)]) (g := (gName 4)) rfl sc_height.nd rfl rfl (sw_true rfl rfl rfl (by decide +kernel)) (piL (K := K) rfl (pv 1)) (blkOk_by (own := [("level", 4)]) (N := n_height) (sc := defScope s_height) (by decide +kernel)) (fun _ _ _ _ _ => (pg_name (i := 4) sc_height.nd rfl (by first | exact Or.inl rfl | exact Or.inr rfl))) (fun _ _ _ _ _ => (pts_one (pt_cmpR op_lt (pe_cl (ok_compare T) hr (pa_cons (pv 4) (pa_cons (pv 2) pa_nil))) pe_int (nomark _)))) (fun _ _ _ _ _ => (pv 4)))
      (pss_cons (ps_if (pt_cmpR op_eq (c_len (K := K) rfl T.n_len (pa_cons (pv 3) pa_nil)) (c_len (K := K) rfl T.n_len (pa_cons (pv 1) pa_nil)) (nomark _)) (pss_one (ps_ret (pv 2))) pss_nil)
      (pss_one (ps_set (i := 1) sc_height.nd rfl (Or.inl rfl) (pv 3))))))))), ?_⟩
  have hp : FloorOk xs := hp
  refine st_asg wd (tv_v rfl hu) fun v0 G1 H1 g1 w1 s1 h0 => ?_
  refine st_while w1 (fun m σ G' H' => ∃ (ys : List Rat) (vk : V) (o1 o2 : Option V), σ = [some u, some vk, o1, o2, none] ∧ Same H H' ∧ Has (qL K (qQ K)) G' vk ys ∧ ys ≠ [] ∧ (∀ y ∈ ys, y ∈ xs) ∧ ys.length ≤ xs.length ∧ ys.length = m ∧ hgt ys = hgt xs) xs.length
    ⟨xs, v0, none, none, rfl, s1, h0, hp.ne, fun _ h => h, Nat.le_refl _, rfl, rfl⟩ ?_
  rintro m σ1 G2 H2 ⟨ys, vk, o1, o2, rfl, s2, hk, hne, hsub, hle, hm, he⟩ g2 w2
  refine ⟨true, tt_b tv_b, fun H3 s3 w3 => ?_⟩
  rw [if_pos rfl]
  intro N hN
  obtain ⟨b1, b2, b3, b4, b5⟩ := hp.sub hne hsub hle
  have h5 : ys.length ≤ 5 := Nat.le_trans hle hp.l
  have h0l : 0 < ys.length := List.length_pos_iff.mpr hne
  have hq : 0 < (ys.length : Rat) := Rat.natCast_pos.mpr h0l
  refine st_asg (r := qQ K) (x := topQ ys) w3 ?_ fun vt G4 H4 g4 w4 s4 ht => ?_
  · exact Tv.eq (tv_call (ta_c (tv_QR (tv_call (ta_c tv_R1 (ta_c (tv_QR (tv_call (ta_c (tv_RL b1 (tv_v rfl hk)) ta_n) ⟨show ys.length < 10000 by omega, b2, b1⟩) b3) ta_n)) ⟨bq_one, b3⟩) b4) (ta_c (tv_RNat (tv_lenL (tv_v rfl hk)) (by omega)) ta_n)) ⟨b4, bq_nat (by omega), hq⟩) rfl
  refine st_asg (r := qL K (qQ K)) (x := lowL ys (topQ ys)) w4 ?_ fun vl G5 H5 g5 w5 s5 hl => ?_
  · have e : lowL ys (topQ ys) = (ys.filter fun x => decide (x < topQ ys)).map id := (List.map_id _).symm
    rw [e]
    refine tv_lc (it_list (tv_v rfl (hk.mo g4))) tg1 (own1 (by decide)) (by omega) (fun D i y G6 σ6 hy g6 ⟨vy, ey, hvy⟩ => ?_) (fun D i y G6 σ6 hy _ g6 ⟨vy, ey, hvy⟩ => ?_)
    · subst ey
      exact (tt_opB (tv_call (ta_c (tv_QR (tv_v rfl hvy) (b1 y (List.mem_of_getElem? hy))) (ta_c (tv_QR (tv_v rfl (ht.mo g6)) b5) ta_n)) trivial) tv_i).eq cmp_lt0
    · subst ey
      exact tv_v rfl hvy
  refine st_if w5 (tt_eqI (tv_lenL (tv_v rfl hl)) (tv_lenL (tv_v rfl ((hk.mo g4).mo g5)))) (fun z H6 s6 w6 => ?_) (fun z H6 s6 w6 => ?_)
  · have z : ((lowL ys (topQ ys)).length : Int) = (ys.length : Int) := of_decide_eq_true z
    refine st_ret w6 (tv_v rfl (ht.mo g5)) fun v H' s hv => k v H' (((((s2.trans s3).trans s4).trans s5).trans s6).trans s) ?_
    show qQ K _ v (hgt xs)
    rw [← he, hgt_top hne (by omega)]
    exact hv
  · have z : ¬ ((lowL ys (topQ ys)).length : Int) = (ys.length : Int) := of_decide_eq_false z
    have l2 : (lowL ys (topQ ys)).length ≤ ys.length := List.length_filter_le _ _
    refine st_asgL w6 (tv_v rfl hl) fun v7 G7 H7 g7 w7 s7 h7 => hN (lowL ys (topQ ys)).length _ G7 H7 (by omega) ((g4.trans g5).trans g7) w7 ⟨_, v7, some vt, some vl, rfl, ((((s2.trans s3).trans s4).trans s5).trans s6).trans s7, h7, low_ne hne, fun y hy => hsub y (List.mem_filter.mp hy).1, by omega, rfl, ?_⟩
    rw [← he, hgt_low hne (by omega)]
theorem sc_poured : FnScope n_poured ["floor"] (defScope s_poured) := ⟨rfl, rfl, rfl, by decide +kernel, rfl, by decide +kernel, by decide +kernel⟩
theorem ok_poured (T : Ctx P w K mg base) : Pro P w K mg base "poured" ["floor"] 6 (spP (raC (qL K (qQ K)) raN) (fun x => FloorOk x.1) (qT K (qQ K)) fun x => pourQ x.1) := by
  refine mk_pro T.d_poured (fun _ _ _ _ _ _ us hl => match us, hl with | [_], _ => rfl) fun f fd F => ?_
  refine def1 F sc_poured rfl fun cdv A outer s H E O G 
    u xs hr wd hu hp Q k => ⟨_, (pss_cons (ps_set (i := 1) sc_poured.nd rfl (Or.inr rfl) (pe_cl (ok_height T) hr (pa_cons (pv 0) pa_nil)))
      (pss_one (ps_ret (c_tuple (K := K) rfl T.n_tuple (pa_cons (pe_lc (own := [("level", 2)]) (g := (gName 2)) (tt := tYes) rfl sc_poured.nd (piL (K := K) rfl (pv 0)) (blkOk_by (own := [("level", 2)]) (N := n_poured) (sc := defScope s_poured) (by decide +kernel)) (fun _ _ _ _ _ => (pg_name (i := 2) sc_poured.nd rfl (by first | exact Or.inl rfl | exact Or.inr rfl))) (fun _ _ _ _ _ => pts_nil) (fun _ _ _ _ _ => (pe_ifExp (pt_cmpR op_lt (pe_cl (ok_compare T) hr (pa_cons (pv 2) (pa_cons (pv 1) pa_nil))) pe_int (nomark _)) (pe_cl (ok_sub T) hr (pa_cons (pv 1) (pa_cons (pv 2) pa_nil))) (pe_tup (pa_cons pe_int (pa_cons pe_int pa_nil)))))) pa_nil))))), ?_⟩
  have hp : FloorOk xs := hp
  obtain ⟨b1, b2, b3, _⟩ := hp.h
  refine st_asg wd (tv_call (ta_c (tv_v rfl hu) ta_n) hp) fun vh G1 H1 g1 w1 s1 hh => ?_
  have hh : Has (qQ K) G1 vh (hgt xs) := hh
  refine st_ret (r := qT K (qQ K)) (x := pourQ xs) w1 (tv_tupL ?_) fun v H' s hv => k v H' (s1.trans s) hv
  refine tv_map (it_list (tv_v rfl (hu.mo g1))) tg1 (own1 (by decide)) (by have := hp.l; omega) fun D i y G6 σ6 hy g6 ⟨vy, ey, hvy⟩ => ?_
  subst ey
  have hm : y ∈ xs := List.mem_of_getElem? hy
  have e : (if y < hgt xs then hgt xs - y else (0 : Rat)) = if decide (y < hgt xs) = true then hgt xs - y else 0 := by
    by_cases z : y < hgt xs
    · rw [if_pos z, if_pos (decide_eq_true z)]
    · rw [if_neg z, if_neg (by simp [z])]
  rw [e]
  exact tv_if ((tt_opB (tv_call (ta_c (tv_QR (tv_v rfl hvy) (b2 y hm)) (ta_c (tv_QR (tv_v rfl (hh.mo g6)) b1) ta_n)) trivial) tv_i).eq cmp_lt0) (fun _ => tv_call (ta_c (tv_QR (tv_v rfl (hh.mo g6)) b1) (ta_c (tv_QR (tv_v rfl hvy) (b2 y hm)) ta_n)) ⟨b1, b2 y hm⟩) fun _ => tv_q K rfl rfl
def reachL (xs : List Rat) : List Nat := (((List.range xs.length).zip xs).filter fun p => decide (p.2 ≤ hgt xs)).map (·.1)
theorem sc_reached_places : FnScope n_reached_places ["floor"] (defScope s_reached_places) := ⟨rfl, rfl, rfl, by decide +kernel, rfl, by decide +kernel, by decide +kernel⟩
theorem ok_reached_places (T : Ctx P w K mg base) : Pro P w K mg base "reached_places" ["floor"] 6 (spP (raC (qL K (qQ K)) raN) (fun x => FloorOk x.1) (qL K qN) fun x => reachL x.1) := by
  refine mk_pro T.d_reached_places (fun _ _ _ _ _ _ us hl => match us, hl with | [_], _ => rfl) fun f fd F => ?_
  refine def1 F sc_reached_places rfl fun cdv A outer s H E O G 
    u xs hr wd hu hp Q k => ⟨_, (pss_cons (ps_set (i := 1) sc_reached_places.nd rfl (Or.inr rfl) (pe_cl (ok_height T) hr (pa_cons (pv 0) pa_nil)))
      (pss_one (ps_ret (pe_lc (own := [("place", 2), ("level", 3)]) (g := (gTup K 2 (gCons (gName 2) (gCons (gName 3) gNil)))) rfl sc_reached_places.nd (pienL (K := K) rfl T.n_enumerate (pa_cons (pv 0) pa_nil)) (blkOk_by (own := [("place", 2), ("level", 3)]) (N := n_reached_places) (sc := defScope s_reached_places) (by decide +kernel)) (fun _ _ _ _ _ => (pgT (K := K) (n := 2) rfl rfl (pgs_cons (pg_name (i := 2) sc_reached_places.nd rfl (by first | exact Or.inl rfl | exact Or.inr rfl)) (pgs_cons (pg_name (i := 3) sc_reached_places.nd rfl (by first | exact Or.inl rfl | exact Or.inr rfl)) pgs_nil)))) (fun _ _ _ _ _ => (pts_one (pt_cmpR op_le (pe_cl (ok_compare T) hr (pa_cons (pv 3) (pa_cons (pv 1) pa_nil))) pe_int (nomark _)))) (fun _ _ _ _ _ => (pv 2)))))), ?_⟩
  have hp : FloorOk xs := hp
  obtain ⟨b1, b2, b3, _⟩ := hp.h
  refine st_asg wd (tv_call (ta_c (tv_v rfl hu) ta_n) hp) fun vh G1 H1 g1 w1 s1 hh => ?_
  have hh : Has (qQ K) G1 vh (hgt xs) := hh
  refine st_ret (r := qL K qN) (x := reachL xs) w1 ?_ fun v H' s hv => k v H' (s1.trans s) hv
  refine tv_lc (it_enum (tv_v rfl (hu.mo g1))) tg2 (own2 (by decide) (by decide)) (by have := hp.l; rw [List.length_zip, List.length_range]; omega) (fun D i y G6 σ6 hy g6 ⟨v1, v2, ey, hv1, hv2⟩ => ?_) (fun D i y G6 σ6 hy _ g6 ⟨v1, v2, ey, hv1, hv2⟩ => ?_)
  · subst ey
    have hm : y.2 ∈ xs := List.mem_of_getElem? (List.getElem?_zip_eq_some.mp hy).2
    exact (tt_opB (tv_call (ta_c (tv_QR (tv_v rfl hv2) (b2 y.2 hm)) (ta_c (tv_QR (tv_v rfl (hh.mo g6)) b1) ta_n)) trivial) tv_i).eq cmp_le0
  · subst ey
    exact tv_v rfl hv1
end
end Nb
set_option Elab.async false
set_option linter.all false
set_option maxRecDepth 100000
set_option maxHeartbeats 4000000
namespace Nb
open PySem L2
open PyProof.Rows (envOfC)
section
variable {O : List Addr} {σ : St} {G H : Hp} {ta tb tc te : TE} {K : PySem.W.Frag}
theorem rgc {m w : Nat} (hw : 0 < w) (h : m * w < 1000000) (hw2 : w < 1000000) : RgC 0 ((m * w : Nat) : Int) (w : Int) m := by
  have hm : m ≤ m * w := Nat.le_mul_of_pos_right _ hw
  have e : Builtin.Range.rangeSize 0 ((m * w : Nat) : Int) (w : Int) = m := by
    rw [PyProof.Rows.rangeSize_pos (by omega) (by omega), Int.natCast_mul, Int.add_sub_assoc, Int.add_comm, Int.add_mul_ediv_right _ _ (by omega), Int.ediv_eq_zero_of_lt (by omega) (by omega)]
    omega
  refine ⟨by omega, by omega, ?_, e⟩
  unfold Builtin.Range.small
  rw [e]
  simp only [Builtin.Range.rangeFitsLong, Bool.and_eq_true, Bool.or_eq_true, decide_eq_true_eq, beq_iff_eq]
  rw [if_pos (show (w : Int) > 0 by omega)]
  refine ⟨⟨⟨⟨?_, ?_⟩, ?_⟩, ?_⟩, .inr ?_⟩
  all_goals first | (constructor <;> omega) | omega | (simp only [Bool.and_eq_true, decide_eq_true_eq]; constructor <;> omega)
theorem it_rng3 {m w : Nat} (h1 : Tv O ta σ G qI 0) (h2 : Tv O tb σ G qI ((m * w : Nat) : Int)) (h3 : Tv O tc σ G qI (w : Int)) (hw : 0 < w) (h : m * w < 1000000) (hw2 : w < 1000000) :
    Tit O (iRng3 (tCons ta (tCons tb (tCons tc tNil)))) σ G qN ((List.range m).map (· * w)) := fun H wd R k =>
  h1 H wd _ fun v H1 s1 e1 => h2 H1 (wd.same s1) _ fun u H2 s2 e2 => h3 H2 ((wd.same s1).same s2) _ fun z H3 s3 e3 => by
    have w3 := ((wd.same s1).same s2).same s3
    refine ⟨0, ((m * w : Nat) : Int), (w : Int), m, by rw [show v = .int 0 from e1, show u = .int ((m * w : Nat) : Int) from e2, show z = .int (w : Int) from e3], rgc hw h hw2, ?_⟩
    refine k _ _ _ (wo H3 O) H3 ((s1.trans s2).trans s3) w3.le w3.up (by rw [List.length_map, List.length_range]; exact walk_rangeC) (fun _ _ => trivial) ?_
    rintro i Ha v Hb O1 G1 hi sg w1 ⟨rfl, e⟩
    rw [List.length_map, List.length_range] at hi
    refine ⟨i * w, G1, by simp [hi], Same.refl _, Same.refl _, w1, ⟨?_⟩⟩
    rw [e]
    show V.int (0 + (i : Int) * (w : Int)) = V.int ((i * w : Nat) : Int)
    rw [Int.zero_add, Int.natCast_mul]
theorem inV_nat {n : Nat} : ∀ {vs : List V} {xs : List Nat} {G : Hp}, Paired (qN G) vs xs → inV (.int (n : Int)) vs = decide (n ∈ xs) ∧ vs.all flatV = true
  | _, _, _, .nil => ⟨by simp [inV], rfl⟩
  | _, _, _, .cons (a := v) (b := x) (l₁ := vs) (l₂ := xs) h t => by
    obtain ⟨h1, h2⟩ := inV_nat (n := n) t
    have ev : v = .int (x : Int) := h
    subst ev
    refine ⟨?_, by simp [flatV] at h2 ⊢; exact h2⟩
    unfold inV at h1 ⊢
    rw [List.any_cons, h1]
    show ((x : Int) == (n : Int) || decide (n ∈ xs)) = decide (n ∈ x :: xs)
    by_cases e : n = x
    · subst e
      simp
    · have e2 : ¬ (x : Int) = (n : Int) := by omega
      simp [e, e2]
theorem tt_inN {n : Nat} {xs : List Nat} (ha : Tv O ta σ G qN n) (hb : Tv O tb σ G (qL K qN) xs) : Tt O (tTest (tOp (rIn K false) ta tb)) σ G (decide (n ∈ xs)) := fun H w Q k =>
  ha H w _ fun v H1 s1 h1 => hb H1 (w.same s1) _ fun u H2 s2 h2 => by
    obtain ⟨vs, ⟨a, eu, hs⟩, hp⟩ := h2
    obtain ⟨i1, i2⟩ := inV_nat (n := n) hp
    have ev : v = .int (n : Int) := h1
    subst ev
    refine ⟨a, vs, eu, .inl (same_sqL wo_le hs), rfl, i2, _, rfl, ?_⟩
    show Q (inV (.int (n : Int)) vs) H2
    rw [i1]
    exact k _ (s1.trans s2)
end
theorem reachL_len (xs : List Rat) : (reachL xs).length = reachN xs := by
  unfold reachL reachN
  rw [List.length_map]
  have e : (((List.range xs.length).zip xs).filter fun p => decide (p.2 ≤ hgt xs)).map (·.2) = xs.filter fun x => decide (x ≤ hgt xs) := by
    have h1 : ((List.range xs.length).zip xs).map Prod.snd = xs := List.map_snd_zip (by rw [List.length_range]; exact Nat.le_refl _)
    conv => rhs; rw [← h1]
    rw [List.filter_map]
    congr 1
    simp [h1, Function.comp_def]
  rw [← e, List.length_map]
theorem reachL_mem {xs : List Rat} {i : Nat} : i ∈ reachL xs ↔ ∃ x, xs[i]? = some x ∧ x ≤ hgt xs := by
  unfold reachL
  rw [List.mem_map]
  constructor
  · rintro ⟨⟨j, x⟩, hm, e⟩
    obtain ⟨h1, h2⟩ := List.mem_filter.mp hm
    obtain ⟨l, hl⟩ := List.mem_iff_getElem?.mp h1
    obtain ⟨z1, z2⟩ := List.getElem?_zip_eq_some.mp hl
    have hlt := (List.getElem?_eq_some_iff.mp z1).1
    rw [List.length_range] at hlt
    rw [List.getElem?_range hlt] at z1
    have e1 : l = j := Option.some.inj z1
    have e2 : j = i := e
    rw [e1, e2] at z2
    exact ⟨x, z2, by simpa using h2⟩
  · rintro ⟨x, hx, hle⟩
    have hlt := (List.getElem?_eq_some_iff.mp hx).1
    exact ⟨(i, x), List.mem_filter.mpr ⟨List.mem_of_getElem? (i := i) (List.getElem?_zip_eq_some.mpr ⟨List.getElem?_range hlt, hx⟩), by simpa using hle⟩, rfl⟩
theorem evenQ_eq (xs : List Rat) : (List.range xs.length).map (fun i => if decide (i ∈ reachL xs) = true then 1 / (reachN xs : Rat) else 0) = evenQ xs := by
  unfold evenQ
  apply List.ext_getElem?
  intro i
  rw [List.getElem?_map, List.getElem?_map]
  by_cases hi : i < xs.length
  · rw [List.getElem?_range hi, List.getElem?_eq_getElem hi]
    show some (if decide (i ∈ reachL xs) = true then 1 / (reachN xs : Rat) else 0) = some (if xs[i] ≤ hgt xs then 1 / (reachN xs : Rat) else 0)
    congr 1
    by_cases h : xs[i] ≤ hgt xs
    · rw [if_pos h, if_pos (decide_eq_true (reachL_mem.mpr ⟨_, List.getElem?_eq_getElem hi, h⟩))]
    · rw [if_neg h, if_neg]
      simp only [decide_eq_true_eq]
      intro z
      obtain ⟨x, hx, hl⟩ := reachL_mem.mp z
      rw [List.getElem?_eq_getElem hi] at hx
      cases hx
      exact h hl
  · rw [List.getElem?_eq_none (by rw [List.length_range]; omega), List.getElem?_eq_none (by omega)]
    rfl
theorem FloorOk.c {xs : List Rat} (h : FloorOk xs) : Bq (1 / (reachN xs : Rat)) ∧ 0 < (reachN xs : Rat) := by
  have h0 := reach_pos h.ne
  have h5 := Nat.le_trans (reach_le xs) h.l
  exact ⟨la_small (la60 ((La.one (D := 1) (by decide)).div h0) h0 h5) (Nat.one_lt_pow (by decide) (by decide)) (by decide), Rat.natCast_pos.mpr h0⟩
section
variable {P : Program} {w : World} {K : PySem.W.Frag} {mg : PySem.Str → Option Value} {base : Heap}
theorem sc_even_chances : FnScope n_even_chances ["floor"] (defScope s_even_chances) := ⟨rfl, rfl, rfl, by decide +kernel, rfl, by decide +kernel, by decide +kernel⟩
theorem ok_even_chances (T : Ctx P w K mg base) : Pro P w K mg base "even_chances" ["floor"] 7 (spP (raC (qL K (qQ K)) raN) (fun x => FloorOk x.1) (qT K (qQ K)) fun x => evenQ x.1) := by
  refine mk_pro T.d_even_chances (fun _ _ _ _ _ _ us hl => match us, hl with | [_], _ => rfl) fun f fd F => ?_
  refine def1 F sc_even_chances rfl fun cdv A outer s H E O G 
    u xs hr wd hu hp Q k => ⟨_, (pss_cons (ps_set (i := 1) sc_even_chances.nd rfl (Or.inr rfl) (pe_cl (ok_reached_places T) hr (pa_cons (pv 0) pa_nil)))
      (pss_cons (ps_set (i := 2) sc_even_chances.nd rfl (Or.inr rfl) (pe_cl (ok_div T) hr (pa_cons pe_int (pa_cons (c_len (K := K) rfl T.n_len (pa_cons (pv 1) pa_nil)) pa_nil))))
      (pss_one (ps_ret (c_tuple (K := K) rfl T.n_tuple (pa_cons (pe_lc (own := [("place", 3)]) (g := (gName 3)) (tt := tYes) rfl sc_even_chances.nd (pi_range1 (by rfl) T.n_range (pa_cons (c_len (K := K) rfl T.n_len (pa_cons (pv 0) pa_nil)) pa_nil)) (blkOk_by (own := [("place", 3)]) (N := n_even_chances) (sc := defScope s_even_chances) (by decide +kernel)) (fun _ _ _ _ _ => (pg_name (i := 3) sc_even_chances.nd rfl (by first | exact Or.inl rfl | exact Or.inr rfl))) (fun _ _ _ _ _ => pts_nil) (fun _ _ _ _ _ => (pe_ifExp (pt_cmpR (inS (K := K) rfl) (pv 3) (pv 1) (by rfl)) (pv 2) (pe_tup (pa_cons pe_int (pa_cons pe_int pa_nil)))))) pa_nil)))))), ?_⟩
  have hp : FloorOk xs := hp
  obtain ⟨bc, pc⟩ := hp.c
  have h5 := Nat.le_trans (reach_le xs) hp.l
  refine st_asg wd (tv_call (ta_c (tv_v rfl hu) ta_n) hp) fun vp G1 H1 g1 w1 s1 hpl => ?_
  have hpl : Has (qL K qN) G1 vp (reachL xs) := hpl
  refine st_asg (r := qQ K) (x := 1 / (reachN xs : Rat)) w1 (Tv.eq (tv_call (ta_c tv_R1 (ta_c (tv_RNat ((tv_lenL (tv_v rfl hpl)).eq (by rw [reachL_len])) (n := reachN xs) (by omega)) ta_n)) ⟨bq_one, bq_nat (by omega), pc⟩) rfl) fun vc G2 H2 g2 w2 s2 hc => ?_
  refine st_ret (r := qT K (qQ K)) (x := evenQ xs) w2 (tv_tupL ?_) fun v H' s hv => k v H' ((s1.trans s2).trans s) hv
  rw [← evenQ_eq]
  refine tv_map (it_rng1 (n := xs.length) (tv_lenL (tv_v rfl ((hu.mo g1).mo g2))) (by have := hp.l; omega)) tg1 (own1 (by decide)) (by have := hp.l; rw [List.length_range]; omega) fun D i y G6 σ6 hy g6 ⟨vy, ey, hvy⟩ => ?_
  subst ey
  exact tv_if (tt_inN (tv_v rfl hvy) (tv_v rfl ((hpl.mo g2).mo g6))) (fun _ => tv_v rfl (hc.mo g6)) fun _ => tv_q K rfl rfl
def cutL (n : Nat) (xs : List Rat) : List (List Rat) := (List.range (xs.length / n)).map fun i => (xs.drop (i * n)).take n
theorem sc_cut : FnScope n_cut ["cells", "width"] (defScope s_cut) := ⟨rfl, rfl, rfl, by decide +kernel, rfl, by decide +kernel, by decide +kernel⟩
theorem ok_cut (T : Ctx P w K mg base) : Pro P w K mg base "cut" ["cells", "width"] 1 (spP (raC (qL K (qQ K)) (raC qN raN)) (fun x => 0 < x.2.1 ∧ x.2.1 ∣ x.1.length ∧ x.1.length < 10000 ∧ x.2.1 ≤ 5) (qL K (qL K (qQ K))) fun x => cutL x.2.1 x.1) := by
  refine mk_pro T.d_cut (fun _ _ _ _ _ _ us hl => match us, hl with | [_, _], _ => rfl) fun f fd F => ?_
  refine def2 F sc_cut rfl fun cdv A outer s H E O G 
    u v xs n hr wd hu hv hp Q k => ⟨_, (pss_one (ps_ret (pe_lc (own := [("at", 2)]) (g := (gName 2)) (tt := tYes) rfl sc_cut.nd (pi_range3 (by rfl) T.n_range (pa_cons pe_int (pa_cons (c_len (K := K) rfl T.n_len (pa_cons (pv 0) pa_nil)) (pa_cons (pv 1) pa_nil)))) (blkOk_by (own := [("at", 2)]) (N := n_cut) (sc := defScope s_cut) (by decide +kernel)) (fun _ _ _ _ _ => (pg_name (i := 2) sc_cut.nd rfl (by first | exact Or.inl rfl | exact Or.inr rfl))) (fun _ _ _ _ _ => pts_nil) (fun _ _ _ _ _ => (pe_slice (slL (K := K) rfl) (pv 0) (po_some (pv 2)) (po_some (pe_op op_add (pv 2) (pv 1)))))))), ?_⟩
  obtain ⟨h0, hd, hl, hn⟩ : 0 < n ∧ n ∣ xs.length ∧ xs.length < 10000 ∧ n ≤ 5 := hp
  have em : xs.length / n * n = xs.length := Nat.div_mul_cancel hd
  have hm : xs.length / n ≤ xs.length := Nat.div_le_self _ _
  have e : cutL n xs = ((List.range (xs.length / n)).map (· * n)).map fun a : Nat => cutG xs (some (a : Int)) (some ((a + n : Nat) : Int)) := by
    unfold cutL
    rw [List.map_map]
    refine List.map_congr_left fun i _ => ?_
    show _ = cutG xs (some ((i * n : Nat) : Int)) (some ((i * n + n : Nat) : Int))
    rw [cut_mid, Nat.add_sub_cancel_left]
  refine st_ret (x := cutL n xs) (r := qL K (qL K (qQ K))) wd ?_ k
  rw [e]
  refine tv_map (it_rng3 (m := xs.length / n) (w := n) tv_i ((tv_lenL (tv_v rfl hu)).eq (by rw [em])) (tv_v rfl hv.nI) h0 (by omega) (by omega)) tg1 (own1 (by decide)) (by rw [List.length_map, List.length_range]; omega) fun D i y G6 σ6 hy g6 ⟨vy, ey, hvy⟩ => ?_
  subst ey
  exact tv_slice (tv_v rfl (hu.mo g6)) (to_some (tv_v rfl hvy.nI)) (to_some ((tv_opJ (tv_v rfl hvy.nI) (tv_v rfl (hv.mo g6).nI)).eq (x' := ((y + n : Nat) : Int)) (by rw [Int.natCast_add])))
end
end Nb
set_option Elab.async false
set_option linter.all false
set_option maxRecDepth 100000
set_option maxHeartbeats 4000000
namespace Nb
open PySem L2
open PyProof.Rows (envOfC)
/-- the fold's value at a text, j rounds ahead of the rows -/
def vF (n : Nat) (cs : List Rat) : Nat → List Nat → Rat := upF n (fun _ ys => hgt ys - 1) (cellF n cs)
def layF (n R : Nat) (cs : List Rat) (j : Nat) : List Rat := (rowsL n (R - j)).map (vF n cs j)
theorem flat_len {α β : Type} {f : α → List β} {n : Nat} (hf : ∀ x, (f x).length = n) : ∀ ts : List α, (ts.flatMap f).length = ts.length * n
  | [] => by simp
  | t :: ts => by rw [List.flatMap_cons, List.length_append, hf, flat_len hf ts, List.length_cons, Nat.succ_mul, Nat.add_comm]
theorem flat_cut {α β : Type} {f : α → List β} {n : Nat} (hf : ∀ x, (f x).length = n) : ∀ {ts : List α} {i : Nat} {t : α}, ts[i]? = some t → ((ts.flatMap f).drop (i * n)).take n = f t
  | [], _, _, h => by simp at h
  | y :: ys, 0, t, h => by
    cases (show some y = some t from h)
    rw [List.flatMap_cons, Nat.zero_mul, List.drop_zero, List.take_append_of_le_length (by rw [hf]; exact Nat.le_refl _), List.take_of_length_le (by rw [hf]; exact Nat.le_refl _)]
  | y :: ys, i + 1, t, h => by
    have e : (f y).drop n = [] := List.drop_of_length_le (by rw [hf]; exact Nat.le_refl _)
    rw [List.flatMap_cons, Nat.succ_mul, Nat.add_comm, ← List.drop_drop, List.drop_append_of_le_length (by rw [hf]; exact Nat.le_refl _), e, List.nil_append]
    exact flat_cut hf (by simpa using h)
theorem cut_flat {α : Type} {f : α → List Rat} {n : Nat} (hn : 0 < n) (hf : ∀ x, (f x).length = n) (ts : List α) : cutL n (ts.flatMap f) = ts.map f := by
  unfold cutL
  rw [flat_len hf, Nat.mul_div_cancel _ hn]
  apply List.ext_getElem?
  intro i
  rw [List.getElem?_map, List.getElem?_map]
  by_cases hi : i < ts.length
  · rw [List.getElem?_range hi, List.getElem?_eq_getElem hi]
    show some (List.take n (List.drop (i * n) (List.flatMap f ts))) = some (f ts[i])
    rw [flat_cut hf (List.getElem?_eq_getElem hi)]
  · rw [List.getElem?_eq_none (by rw [List.length_range]; omega), List.getElem?_eq_none (by omega)]
    rfl
theorem rows_flat (n k : Nat) (F : List Nat → Rat) : (rowsL n (k + 1)).map F = (rowsL n k).flatMap fun t => (List.range n).map fun d => F (t ++ [d]) := by
  rw [rowsL]
  unfold nextL
  rw [List.map_flatMap]
  congr 1
  funext t
  rw [List.map_map]
  rfl
theorem cut_rows {n : Nat} (hn : 0 < n) (k : Nat) (F : List Nat → Rat) : cutL n ((rowsL n (k + 1)).map F) = (rowsL n k).map fun t => (List.range n).map fun d => F (t ++ [d]) := by
  rw [rows_flat]
  exact cut_flat hn (fun t => by rw [List.length_map, List.length_range]) _
structure FoldOk (n R : Nat) (cs : List Rat) : Prop where
  sh : Shape n R
  l : cs.length = n ^ R
  f : ∀ j t, Dig n t → t.length + (j + 1) = R → FloorOk (kidsF n (vF n cs) j t)
  v : ∀ j t, Dig n t → t.length + j = R → Bq (vF n cs j t)
theorem FoldOk.cells {n R : Nat} {cs : List Rat} (h : FoldOk n R cs) : layF n R cs 0 = cs := by
  unfold layF
  rw [Nat.sub_zero]
  apply List.ext_getElem?
  intro i
  rw [List.getElem?_map]
  by_cases hi : i < n ^ R
  · obtain ⟨t, ht⟩ : ∃ t, (rowsL n R)[i]? = some t := get_of (by rw [rowsL_len]; exact hi)
    rw [ht, List.getElem?_eq_getElem (by rw [h.l]; exact hi)]
    show some (cs.getD (ridx n t) 0) = _
    rw [rowsL_idx ht, List.getD_eq_getElem?_getD, List.getElem?_eq_getElem (by rw [h.l]; exact hi)]
    rfl
  · rw [List.getElem?_eq_none (by rw [rowsL_len]; omega), List.getElem?_eq_none (by rw [h.l]; omega)]
    rfl
theorem layF_next {n R j : Nat} {cs : List Rat} (hn : 0 < n) (hj : j < R) : cutL n (layF n R cs j) = (rowsL n (R - (j + 1))).map fun t => kidsF n (vF n cs) j t := by
  unfold layF
  rw [show R - j = (R - (j + 1)) + 1 by omega]
  exact cut_rows hn _ _
theorem layF_succ {n R j : Nat} {cs : List Rat} (hn : 0 < n) (hj : j < R) : (cutL n (layF n R cs j)).map (fun fl => hgt fl - 1) = layF n R cs (j + 1) := by
  rw [layF_next hn hj]
  unfold layF
  rw [List.map_map]
  rfl
theorem layF_len {n R j : Nat} {cs : List Rat} : (layF n R cs j).length = n ^ (R - j) := by
  unfold layF
  rw [List.length_map, rowsL_len]
def layersL (n R : Nat) (cs : List Rat) : List (List Rat) := ((List.range (R + 1)).map (layF n R cs)).reverse
def floorsL (n R : Nat) (cs : List Rat) : List (List Rat) := (begL n R).map fun t => kidsF n (vF n cs) (R - (t.length + 1)) t
theorem layers_get {n R k : Nat} {cs : List Rat} (hk : k ≤ R) : (layersL n R cs)[k]? = some (layF n R cs (R - k)) := by
  unfold layersL
  rw [List.getElem?_reverse (by rw [List.length_map, List.length_range]; omega), List.length_map, List.length_range, List.getElem?_map, List.getElem?_range (by omega)]
  show some (layF n R cs (R + 1 - 1 - k)) = some _
  rw [Nat.add_sub_cancel]
theorem layers_len {n R : Nat} {cs : List Rat} : (layersL n R cs).length = R + 1 := by
  unfold layersL
  rw [List.length_reverse, List.length_map, List.length_range]
theorem flatMap_congr' {α β : Type} {f g : α → List β} : ∀ {l : List α}, (∀ x ∈ l, f x = g x) → l.flatMap f = l.flatMap g
  | [], _ => rfl
  | x :: l, h => by rw [List.flatMap_cons, List.flatMap_cons, h x List.mem_cons_self, flatMap_congr' fun y hy => h y (List.mem_cons_of_mem _ hy)]
theorem beg_flat (n : Nat) (F : List Nat → List Rat) : ∀ R, (begL n R).map F = (List.range R).flatMap fun k => (rowsL n k).map F
  | 0 => rfl
  | R + 1 => by
    rw [begL, List.map_append, beg_flat n F R, List.range_succ, List.flatMap_append]
    simp
theorem floors_eq {n R : Nat} {cs : List Rat} (hn : 0 < n) : ((layersL n R cs).drop 1).flatMap (cutL n) = floorsL n R cs := by
  have e : (layersL n R cs).drop 1 = (List.range R).map fun k => layF n R cs (R - (k + 1)) := by
    apply List.ext_getElem?
    intro k
    rw [List.getElem?_drop, List.getElem?_map]
    by_cases hk : k < R
    · rw [Nat.add_comm 1 k, layers_get (show k + 1 ≤ R by omega), List.getElem?_range hk]
      rfl
    · rw [List.getElem?_eq_none (by rw [layers_len]; omega), List.getElem?_eq_none (by rw [List.length_range]; omega)]
      rfl
  rw [e]
  unfold floorsL
  rw [beg_flat, List.flatMap_map]
  apply flatMap_congr'
  intro k hk
  have hk : k < R := List.mem_range.mp hk
  rw [layF_next hn (by omega), show R - (R - (k + 1) + 1) = k by omega]
  refine List.map_congr_left fun t ht => ?_
  rw [(rowsL_at ht).1]
theorem FoldOk.floors {n R : Nat} {cs : List Rat} (h : FoldOk n R cs) : ∀ fl ∈ floorsL n R cs, FloorOk fl ∧ fl.length = n := fun fl hf => by
  obtain ⟨t, ht, e⟩ := List.mem_map.mp hf
  obtain ⟨h1, h2⟩ := begL_at ht
  rw [← e]
  exact ⟨h.f _ t h2 (by omega), kid_len⟩
theorem pour_good {xs : List Rat} (h : FloorOk xs) : GoodSh xs.length (pourQ xs) := by
  obtain ⟨D, hD, d0, hx⟩ := h.ex
  have hh := hgt_la h.ne h.l hx d0
  have hl : ∀ y ∈ pourQ xs, La (D * 60) (1 + 2 ^ 40 * 5 + 2 ^ 40) y := fun y hy => by
    obtain ⟨x, hx1, e⟩ := List.mem_map.mp hy
    by_cases z : x < hgt xs
    · rw [if_pos z] at e
      rw [← e]
      exact hh.sub (la_up60 (hx x hx1))
    · rw [if_neg z] at e
      rw [← e]
      exact La.zero (by omega) _
  have len : (pourQ xs).length = xs.length := List.length_map _
  refine ⟨len, fun y hy => ?_, pour_one h.ne, fun y hy => la_small (hl y hy) hD (by decide), fun i => la_small ((sum_take_la (by omega) hl i).mono (Nat.mul_le_mul_left _ (show (pourQ xs).length ≤ 5 by rw [len]; exact h.l))) hD (by decide)⟩
  obtain ⟨x, hx1, e⟩ := List.mem_map.mp hy
  by_cases z : x < hgt xs
  · rw [if_pos z] at e
    grind
  · rw [if_neg z] at e
    grind
theorem even_good {xs : List Rat} (h : FloorOk xs) : GoodSh xs.length (evenQ xs) := by
  have h0 := reach_pos h.ne
  have h5 := Nat.le_trans (reach_le xs) h.l
  have hc : La (1 * 60) 1 (1 / (reachN xs : Rat)) := la60 ((La.one (D := 1) (by decide)).div h0) h0 h5
  have hD : 1 < 2 ^ 2000 := Nat.one_lt_pow (by decide) (by decide)
  have hl : ∀ y ∈ evenQ xs, La (1 * 60) 1 y := fun y hy => by
    obtain ⟨x, hx1, e⟩ := List.mem_map.mp hy
    by_cases z : x ≤ hgt xs
    · rw [if_pos z] at e
      rw [← e]
      exact hc
    · rw [if_neg z] at e
      rw [← e]
      exact La.zero (by omega) _
  have len : (evenQ xs).length = xs.length := List.length_map _
  refine ⟨len, fun y hy => ?_, even_one h.ne, fun y hy => la_small (hl y hy) hD (by decide), fun i => la_small ((sum_take_la (by omega) hl i).mono (Nat.mul_le_mul_left _ (show (evenQ xs).length ≤ 5 by rw [len]; exact h.l))) hD (by decide)⟩
  obtain ⟨x, hx1, e⟩ := List.mem_map.mp hy
  have hp := h.c.2
  have hi : (0 : Rat) ≤ 1 / (reachN xs : Rat) := by
    have := inv_cancel h0
    by_cases q : 0 ≤ 1 / (reachN xs : Rat)
    · exact q
    · have h3 : (1 / (reachN xs : Rat)) * (reachN xs : Rat) < 0 * (reachN xs : Rat) := (Rat.mul_lt_mul_right hp).mpr (by grind)
      grind
  by_cases z : x ≤ hgt xs
  · rw [if_pos z] at e
    rw [← e]
    exact hi
  · rw [if_neg z] at e
    grind
def keepP (n R : Nat) (cs : List Rat) : Pln := ⟨n, R, (floorsL n R cs).map pourQ⟩
def breakP (n R : Nat) (cs : List Rat) : Pln := ⟨n, R, (floorsL n R cs).map evenQ⟩
section
variable {P : Program} {w : World} {K : PySem.W.Frag} {mg : PySem.Str → Option Value} {base : Heap}
theorem st_new1 {β : Type} {q : Rl β} {O : List Addr} {σ : St} {G H : Hp} {te : TE} {D : Ends} {t2 : TS} {y : β} {i : Nat} [Mo q] (w : Wd O G H) (h : Tv O te σ G q y) (k : ∀ p G' H', Same G G' → H p = none → Same H H' → Wd (p :: O) G' H' → OwL q O G' H' p [y] → t2 D (σ.set i (some (.ref p))) H') : tSeq (tAsg (tLst (tCons te tNil)) (gName i)) t2 D σ H :=
  h H w _ fun v H1 s1 h1 => by
    refine ⟨by rw [sizeLine_eq]; show 1 ≤ _; omega, fun p hp => ?_⟩
    have w1 := w.same s1
    have hn : H p = none := by
      cases e : H p with
      | none => rfl
      | some u => rw [s1 _ _ e] at hp; cases hp
    exact k p (wo H1 O) _ w1.le hn (s1.trans (same_new hp)) (w1.up.own hp) ⟨dom_new w1.dm hp, [v], upd_same, .cons h1 .nil⟩
theorem sc_fold_layers : FnScope n_fold_layers ["table"] (defScope s_fold_layers) := ⟨rfl, rfl, rfl, by decide +kernel, rfl, by decide +kernel, by decide +kernel⟩
theorem ok_fold_layers (T : Ctx P w K mg base) : Pro P w K mg base "fold_layers" ["table"] 6 (spP (raC (qTab K) raN) (fun x => FoldOk x.1.n x.1.R x.1.cs) (qL K (qL K (qQ K))) fun x => layersL x.1.n x.1.R x.1.cs) := by
  refine mk_pro T.d_fold_layers (fun _ _ _ _ _ _ us hl => match us, hl with | [_], _ => rfl) fun f fd F => ?_
  refine def1 F sc_fold_layers rfl fun cdv A outer s H E O G 
    u t hr wd hu hp Q k => ⟨_, (pss_cons (ps_set (i := 1) sc_fold_layers.nd rfl (Or.inl rfl) (pe_prp (ok_Table_cells T) hr T.cl_Table (pv 0)))
      (pss_cons (ps_set (i := 2) sc_fold_layers.nd rfl (Or.inl rfl) (pe_lst (pa_cons (pv 1) pa_nil)))
      (pss_cons (ps_for PassesOwn.never rfl (pi_range1 (by rfl) T.n_range (pa_cons (pe_prp (ok_Table_rounds T) hr T.cl_Table (pv 0)) pa_nil)) (pg_name (i := 3) sc_fold_layers.nd rfl (Or.inl rfl)) (pss_cons (ps_setLc (i := 1) (own := [("floor", 4)]) (g := (gName 4)) (tt := tYes) rfl sc_fold_layers.nd rfl rfl (sw_true rfl rfl rfl (by decide +kernel)) (piL (K := K) rfl (pe_cl (ok_cut T) hr (pa_cons (pv 1) (pa_cons (pe_prp (ok_Table_width T) hr T.cl_Table (pv 0)) pa_nil)))) (blkOk_by (own := [("floor", 4)]) (N := n_fold_layers) (sc := defScope s_fold_layers) (by decide +kernel)) (fun _ _ _ _ _ => (pg_name (i := 4) sc_fold_layers.nd rfl (by first | exact Or.inl rfl | exact Or.inr rfl))) (fun _ _ _ _ _ => pts_nil) (fun _ _ _ _ _ => (pe_cl (ok_sub T) hr (pa_cons (pe_cl (ok_height T) hr (pa_cons (pv 4) pa_nil)) (pa_cons pe_int pa_nil)))))
      (pss_one (ps_expr (pe_bm PySem.F.plainAttrs_list PySem.F.slot_list_append PySem.F.type_list_append mt_append (pv 2) (pa_cons (pv 1) pa_nil))))))
      (pss_one (ps_ret (revL (K := K) rfl (pv 2))))))), ?_⟩
  have hp : FoldOk t.n t.R t.cs := hp
  have h8 := hp.sh.R8
  have hn : 0 < t.n := hp.sh.1
  refine st_asg wd (tv_prop (tv_v rfl hu) tab_ins trivial) fun v0 G1 H1 g1 w1 s1 h0 => ?_
  have h0 : Has (qL K (qQ K)) G1 v0 t.cs := h0
  refine st_new1 (q := qL K (qQ K)) w1 (tv_v rfl h0) fun p G2 H2 g2 hp1 s2 w2 o2 => ?_
  have hpn : H p = none := by
    cases e : H p with
    | none => rfl
    | some u => rw [s1 _ _ e] at hp1; cases hp1
  refine st_forS w2 (it_rng1 (n := t.R) (tv_NI (tv_prop (tv_v rfl ((hu.mo g1).mo g2)) tab_ins trivial)) (by omega)) tg1
    (fun i σ G' H' => ∃ (v' : V) (o : Option V), σ = [some u, some v', some (.ref p), o, none] ∧ Same H H' ∧ Has (qL K (qQ K)) G' v' (layF t.n t.R t.cs i) ∧ OwL (qL K (qQ K)) O G' H' p ((List.range (i + 1)).map (layF t.n t.R t.cs)))
    (fun G' H' g s w => ⟨v0, none, rfl, (s1.trans s2).trans s, by rw [hp.cells]; exact (h0.mo g2).mo g, ?_⟩) ?_ ?_
  · show OwL (qL K (qQ K)) O G' H' p [layF t.n t.R t.cs 0]
    rw [hp.cells]
    exact o2.on g s
  · rintro i x σ1 G5 H5 G6 H6 σ2 hx ⟨v', o, rfl, s5, hv', o5⟩ g5 g6 s6 w6 ⟨va, rfl, ha⟩ N hN
    have hi : i < t.R := by
      have := (List.getElem?_eq_some_iff.mp hx).1
      rw [List.length_range] at this
      exact this
    have hlen : (layF t.n t.R t.cs i).length ≤ 256 := by rw [layF_len]; exact pow_small hp.sh (by omega)
    have hu6 := (((hu.mo g1).mo g2).mo (g5.trans g6))
    have hdv : t.n ∣ (layF t.n t.R t.cs i).length := by
      rw [layF_len, show t.R - i = (t.R - (i + 1)) + 1 by omega, Nat.pow_succ]
      exact Nat.dvd_mul_left _ _
    refine st_asg (r := qL K (qQ K)) (x := layF t.n t.R t.cs (i + 1)) w6 ?_ fun v7 G7 H7 g7 w7 s7 h7 => ?_
    · rw [← layF_succ hn hi]
      refine tv_map (it_list (tv_call (ta_c (tv_v rfl (hv'.mo g6)) (ta_c (tv_prop (tv_v rfl hu6) tab_ins trivial) ta_n)) ⟨hn, hdv, by show (layF t.n t.R t.cs i).length < 10000; omega, hp.sh.2.1⟩)) tg1 (own1 (by decide)) ?_ fun D j fl G8 σ8 hfl g8 ⟨vf, ef, hvf⟩ => ?_
      · show (cutL t.n (layF t.n t.R t.cs i)).length < 10000
        unfold cutL
        rw [List.length_map, List.length_range]
        have := Nat.div_le_self (layF t.n t.R t.cs i).length t.n
        omega
      · subst ef
        have hm : fl ∈ cutL t.n (layF t.n t.R t.cs i) := List.mem_of_getElem? hfl
        have fo : FloorOk fl := by
          rw [layF_next hn hi] at hm
          obtain ⟨tt, ht, e⟩ := List.mem_map.mp hm
          rw [← e]
          exact hp.f i tt (rowsL_at ht).2 (by rw [(rowsL_at ht).1]; omega)
        exact tv_call (ta_c (tv_QR (tv_call (ta_c (tv_v rfl hvf) ta_n) fo) fo.h.1) (ta_c tv_R1 ta_n)) ⟨fo.h.1, bq_one⟩
    · refine st_appL w7 ((o5.on g6 s6).on g7 s7) rfl (by rw [List.length_map, List.length_range]; omega) (tv_v rfl h7) fun G8 H8 g8 w8 s8 o8 => hN _ G8 H8 (g7.trans g8) w8 ⟨v7, some va, rfl, s8.same ((s5.trans s6).trans s7) hpn, h7.mo g8, ?_⟩
      rw [List.range_succ, List.map_append]
      exact o8
  · rintro σ' G' H' g' w' ⟨v', o, rfl, s5, hv', o5⟩
    rw [List.length_range] at o5
    obtain ⟨G8, g8, w8, h8⟩ := o5.fin w'
    exact st_ret w8 (tv_rev (tv_Ls (tv_v rfl h8))) fun v H'' s hv => k v H'' (s5.trans s) hv
theorem sc_floors_of : FnScope n_floors_of ["table"] (defScope s_floors_of) := ⟨rfl, rfl, rfl, by decide +kernel, rfl, by decide +kernel, by decide +kernel⟩
theorem ok_floors_of (T : Ctx P w K mg base) : Pro P w K mg base "floors_of" ["table"] 7 (spP (raC (qTab K) raN) (fun x => FoldOk x.1.n x.1.R x.1.cs) (qL K (qL K (qQ K))) fun x => floorsL x.1.n x.1.R x.1.cs) := by
  refine mk_pro T.d_floors_of (fun _ _ _ _ _ _ us hl => match us, hl with | [_], _ => rfl) fun f fd F => ?_
  refine def1 F sc_floors_of rfl fun cdv A outer s H E O G 
    u t hr wd hu hp Q k => ⟨_, (pss_one (ps_ret (pe_lc2 (own := [("layer", 1), ("floor", 2)]) (vs1 := [2]) (g := (gName 1)) (g1 := (gName 2)) (tt := tYes) (tt1 := tYes) rfl sc_floors_of.nd (piL (K := K) rfl (pe_slice (slL (K := K) rfl) (pe_cl (ok_fold_layers T) hr (pa_cons (pv 0) pa_nil)) (po_some pe_int) po_none)) (blkOk_by (own := [("layer", 1), ("floor", 2)]) (N := n_floors_of) (sc := defScope s_floors_of) (by decide +kernel)) (by decide) (fun _ _ _ _ _ => (pg_name (i := 1) sc_floors_of.nd rfl (by first | exact Or.inl rfl | exact Or.inr rfl))) (fun _ _ _ _ _ => pts_nil) (fun _ _ _ _ _ => (piL (K := K) rfl (pe_cl (ok_cut T) hr (pa_cons (pv 1) (pa_cons (pe_prp (ok_Table_width T) hr T.cl_Table (pv 0)) pa_nil))))) (fun _ _ _ _ _ => (pg_name (i := 2) sc_floors_of.nd rfl (by first | exact Or.inl rfl | exact Or.inr rfl))) (fun _ _ _ _ _ => pts_nil) (fun _ _ _ _ _ => (pv 2))))), ?_⟩
  have hp : FoldOk t.n t.R t.cs := hp
  have hn : 0 < t.n := hp.sh.1
  have hlay : ∀ lay ∈ (layersL t.n t.R t.cs).drop 1, t.n ∣ lay.length ∧ lay.length < 10000 := fun lay hl => by
    obtain ⟨i, hi⟩ := List.mem_iff_getElem?.mp hl
    rw [List.getElem?_drop] at hi
    have hlt := (List.getElem?_eq_some_iff.mp hi).1
    rw [layers_len] at hlt
    rw [layers_get (by omega)] at hi
    cases hi
    rw [layF_len]
    have := pow_small hp.sh (k := t.R - (t.R - (1 + i))) (by omega)
    refine ⟨?_, by omega⟩
    rw [show t.R - (t.R - (1 + i)) = i + 1 by omega, Nat.pow_succ]
    exact Nat.dvd_mul_left _ _
  have e0 : floorsL t.n t.R t.cs = (cutG (layersL t.n t.R t.cs) (some ((1 : Nat) : Int)) none).flatMap fun lay => (cutL t.n lay).map fun fl => fl := by
    rw [cut_from, ← floors_eq hn]
    apply flatMap_congr'
    intro lay _
    rw [List.map_id']
  refine st_ret (r := qL K (qL K (qQ K))) (x := floorsL t.n t.R t.cs) wd ?_ k
  rw [e0]
  refine tv_Ls (tv_map2S (r2 := qL K (qQ K)) (ys := fun lay => cutL t.n lay) (f := fun _ fl => fl) (it_list (tv_slice (tv_call (ta_c (tv_v rfl hu) ta_n) hp) (to_some tv_i) to_none)) tg1 (own1 (by decide)) (own1 (by decide)) tg1 ?_ ?_ ?_)
  · refine Nat.lt_of_le_of_lt (Nat.le_of_eq (congrArg List.length e0.symm)) ?_
    unfold floorsL
    rw [List.length_map]
    have := hp.sh.begs (Nat.le_refl _)
    have := hp.sh.R8
    omega
  · rintro D i lay G2 σ2 hl g2 ⟨vl, el, hvl⟩
    subst el
    have hl : (cutG (layersL t.n t.R t.cs) (some ((1 : Nat) : Int)) none)[i]? = some lay := hl
    rw [cut_from] at hl
    obtain ⟨d1, d2⟩ := hlay lay (List.mem_of_getElem? hl)
    exact it_list (tv_call (ta_c (tv_v rfl hvl) (ta_c (tv_prop (tv_v rfl (hu.mo g2)) tab_ins trivial) ta_n)) ⟨hn, d1, d2, hp.sh.2.1⟩)
  · rintro D i j lay fl G2 G3 σ2 σ3 hl hf g2 ⟨vl, el, hvl⟩ g3 ⟨vf, ef, hvf⟩
    subst el ef
    exact tv_v rfl hvf
theorem sc_wide_fold : FnScope n_wide_fold ["table"] (defScope s_wide_fold) := ⟨rfl, rfl, rfl, by decide +kernel, rfl, by decide +kernel, by decide +kernel⟩
theorem ok_wide_fold (T : Ctx P w K mg base) : Pro P w K mg base "wide_fold" ["table"] 7 (spP (raC (qTab K) raN) (fun x => FoldOk x.1.n x.1.R x.1.cs) (qQ K) fun x => vF x.1.n x.1.cs x.1.R []) := by
  refine mk_pro T.d_wide_fold (fun _ _ _ _ _ _ us hl => match us, hl with | [_], _ => rfl) fun f fd F => ?_
  refine def1 F sc_wide_fold rfl fun cdv A outer s H E O G 
    u t hr wd hu hp Q k => ⟨_, (pss_one (ps_ret (pe_ix (ixL (K := K) rfl) (pe_ix (ixL (K := K) rfl) (pe_cl (ok_fold_layers T) hr (pa_cons (pv 0) pa_nil)) pe_int (fun _ _ => rfl)) pe_int (fun _ _ => rfl)))), ?_⟩
  have hp : FoldOk t.n t.R t.cs := hp
  refine st_ret wd (tv_ixL (x := vF t.n t.cs t.R []) (tv_ixL (tv_call (ta_c (tv_v rfl hu) ta_n) hp) tv_i (atI_nat (j := 0) (layers_get (Nat.zero_le _)))) tv_i (atI_nat (j := 0) ?_)) k
  unfold layF
  rw [Nat.sub_zero, Nat.sub_self]
  rfl
theorem sc_wide_keeper : FnScope n_wide_keeper ["table"] (defScope s_wide_keeper) := ⟨rfl, rfl, rfl, by decide +kernel, rfl, by decide +kernel, by decide +kernel⟩
theorem ok_wide_keeper (T : Ctx P w K mg base) : Pro P w K mg base "wide_keeper" ["table"] 9 (spP (raC (qTab K) raN) (fun x => FoldOk x.1.n x.1.R x.1.cs) (qPln K) fun x => keepP x.1.n x.1.R x.1.cs) := by
  refine mk_pro T.d_wide_keeper (fun _ _ _ _ _ _ us hl => match us, hl with | [_], _ => rfl) fun f fd F => ?_
  refine def1 F sc_wide_keeper rfl fun cdv A outer s H E O G 
    u t hr wd hu hp Q k => ⟨_, (pss_one (ps_ret (pe_mkr (ok_Plan___init__ T) hr (pa_cons (pe_prp (ok_Table_width T) hr T.cl_Table (pv 0)) (pa_cons (pe_prp (ok_Table_rounds T) hr T.cl_Table (pv 0)) (pa_cons (pe_lc (own := [("floor", 1)]) (g := (gName 1)) (tt := tYes) rfl sc_wide_keeper.nd (piL (K := K) rfl (pe_cl (ok_floors_of T) hr (pa_cons (pv 0) pa_nil))) (blkOk_by (own := [("floor", 1)]) (N := n_wide_keeper) (sc := defScope s_wide_keeper) (by decide +kernel)) (fun _ _ _ _ _ => (pg_name (i := 1) sc_wide_keeper.nd rfl (by first | exact Or.inl rfl | exact Or.inr rfl))) (fun _ _ _ _ _ => pts_nil) (fun _ _ _ _ _ => (pe_cl (ok_poured T) hr (pa_cons (pv 1) pa_nil)))) pa_nil)))))), ?_⟩
  have hp : FoldOk t.n t.R t.cs := hp
  have fl := hp.floors
  have hlen : (floorsL t.n t.R t.cs).length = (begL t.n t.R).length := List.length_map _
  have hb := hp.sh.begs (Nat.le_refl _)
  have h8 := hp.sh.R8
  refine st_ret wd (tv_make (ta_c (tv_prop (tv_v rfl hu) tab_ins trivial) (ta_c (tv_prop (tv_v rfl hu) tab_ins trivial) (ta_c (r := qL K (qSq K (qR K))) (x := (floorsL t.n t.R t.cs).map pourQ) (tv_map (it_list (tv_call (ta_c (tv_v rfl hu) ta_n) hp)) tg1 (own1 (by decide)) (by show (floorsL t.n t.R t.cs).length < 10000; omega) fun D i xs G2 σ2 hx g2 ⟨vx, ex, hvx⟩ => ?_) ta_n))) ⟨hp.sh, ?_, ?_⟩) k
  · subst ex
    have fo := (fl xs (List.mem_of_getElem? hx)).1
    exact tv_RT (pour_good fo).bq (tv_call (ta_c (tv_v rfl hvx) ta_n) fo)
  · show ((floorsL t.n t.R t.cs).map pourQ).length = _
    rw [List.length_map, hlen]
  · intro z hz
    obtain ⟨xs, hx, e⟩ := List.mem_map.mp (show z ∈ (floorsL t.n t.R t.cs).map pourQ from hz)
    obtain ⟨fo, hl⟩ := fl xs hx
    rw [← e]
    have := pour_good fo
    rw [hl] at this
    exact this
theorem sc_wide_breaker : FnScope n_wide_breaker ["table"] (defScope s_wide_breaker) := ⟨rfl, rfl, rfl, by decide +kernel, rfl, by decide +kernel, by decide +kernel⟩
theorem ok_wide_breaker (T : Ctx P w K mg base) : Pro P w K mg base "wide_breaker" ["table"] 9 (spP (raC (qTab K) raN) (fun x => FoldOk x.1.n x.1.R x.1.cs) (qPln K) fun x => breakP x.1.n x.1.R x.1.cs) := by
  refine mk_pro T.d_wide_breaker (fun _ _ _ _ _ _ us hl => match us, hl with | [_], _ => rfl) fun f fd F => ?_
  refine def1 F sc_wide_breaker rfl fun cdv A outer s H E O G 
    u t hr wd hu hp Q k => ⟨_, (pss_one (ps_ret (pe_mkr (ok_Plan___init__ T) hr (pa_cons (pe_prp (ok_Table_width T) hr T.cl_Table (pv 0)) (pa_cons (pe_prp (ok_Table_rounds T) hr T.cl_Table (pv 0)) (pa_cons (pe_lc (own := [("floor", 1)]) (g := (gName 1)) (tt := tYes) rfl sc_wide_breaker.nd (piL (K := K) rfl (pe_cl (ok_floors_of T) hr (pa_cons (pv 0) pa_nil))) (blkOk_by (own := [("floor", 1)]) (N := n_wide_breaker) (sc := defScope s_wide_breaker) (by decide +kernel)) (fun _ _ _ _ _ => (pg_name (i := 1) sc_wide_breaker.nd rfl (by first | exact Or.inl rfl | exact Or.inr rfl))) (fun _ _ _ _ _ => pts_nil) (fun _ _ _ _ _ => (pe_cl (ok_even_chances T) hr (pa_cons (pv 1) pa_nil)))) pa_nil)))))), ?_⟩
  have hp : FoldOk t.n t.R t.cs := hp
  have fl := hp.floors
  have hlen : (floorsL t.n t.R t.cs).length = (begL t.n t.R).length := List.length_map _
  have hb := hp.sh.begs (Nat.le_refl _)
  have h8 := hp.sh.R8
  refine st_ret wd (tv_make (ta_c (tv_prop (tv_v rfl hu) tab_ins trivial) (ta_c (tv_prop (tv_v rfl hu) tab_ins trivial) (ta_c (r := qL K (qSq K (qR K))) (x := (floorsL t.n t.R t.cs).map evenQ) (tv_map (it_list (tv_call (ta_c (tv_v rfl hu) ta_n) hp)) tg1 (own1 (by decide)) (by show (floorsL t.n t.R t.cs).length < 10000; omega) fun D i xs G2 σ2 hx g2 ⟨vx, ex, hvx⟩ => ?_) ta_n))) ⟨hp.sh, ?_, ?_⟩) k
  · subst ex
    have fo := (fl xs (List.mem_of_getElem? hx)).1
    exact tv_RT (even_good fo).bq (tv_call (ta_c (tv_v rfl hvx) ta_n) fo)
  · show ((floorsL t.n t.R t.cs).map evenQ).length = _
    rw [List.length_map, hlen]
  · intro z hz
    obtain ⟨xs, hx, e⟩ := List.mem_map.mp (show z ∈ (floorsL t.n t.R t.cs).map evenQ from hz)
    obtain ⟨fo, hl⟩ := fl xs hx
    rw [← e]
    have := even_good fo
    rw [hl] at this
    exact this
end
end Nb
set_option Elab.async false
set_option linter.all false
set_option maxRecDepth 100000
set_option maxHeartbeats 4000000
namespace Nb
open PySem L2
open PyProof.Rows (envOfC)
section
variable {O : List Addr} {σ : St} {G H : Hp} {ta tb te : TE} {K : PySem.W.Frag}
theorem tv_lst2 {β : Type} {q : Rl β} {x y : β} [Mo q] (h : Tv O ta σ G q x) (g : Tv O tb σ G q y) : Tv O (tLst (tCons ta (tCons tb tNil))) σ G (qL K q) [x, y] :=
  tv_lst (ta_c h (ta_c g ta_n)) (by decide) fun G v vs hv hx => by
    obtain ⟨a, b, rfl, h1, h2⟩ := ra2 hx
    exact ⟨_, hv, .cons h1 (.cons h2 .nil)⟩
theorem tv_minI {ns : List Int} {m : Int} (h : Tv O te σ G (qL K qI) ns) (hm : m ∈ ns) (hl : ∀ y ∈ ns, m ≤ y) : Tv O (tCB (rMin K) (tCons te tNil)) σ G qI m :=
  tv_cb1 h fun v H d ⟨vs, ⟨a, ev, hs⟩, hp⟩ Q k => by
    subst ev
    refine ⟨a, ns, rfl, by rw [← paired_ints hp]; exact same_sqL wo_le hs, List.length_pos_of_mem hm, fun m' h1 h2 => ?_⟩
    have e : m' = m := Int.le_antisymm (h2 m hm) (hl m' h1)
    rw [e]
    exact k _ _ (Same.refl _) rfl
theorem tv_maxI {ns : List Int} {m : Int} (h : Tv O te σ G (qL K qI) ns) (hm : m ∈ ns) (hl : ∀ y ∈ ns, y ≤ m) : Tv O (tCB (rMax K) (tCons te tNil)) σ G qI m :=
  tv_cb1 h fun v H d ⟨vs, ⟨a, ev, hs⟩, hp⟩ Q k => by
    subst ev
    refine ⟨a, ns, rfl, by rw [← paired_ints hp]; exact same_sqL wo_le hs, List.length_pos_of_mem hm, fun m' h1 h2 => ?_⟩
    have e : m' = m := Int.le_antisymm (hl m' h1) (h2 m hm)
    rw [e]
    exact k _ _ (Same.refl _) rfl
theorem st_augL {i : Nat} {D : Ends} {x : V} {a b : Int} (w : Wd O G H) (hi : σ[i]? = some (some x)) (ha : Has qI G x a) (h : Tv O te σ G qI b) (k : ∀ v G' H', Same G G' → Wd O G' H' → Same H H' → Has qI G' v (a + b) → D.nx (σ.set i (some v)) H') : tAug i te (ipI fun i j => i + j) D σ H := by
  refine ⟨x, hi, h H w _ fun v H1 s1 h1 => ⟨a, b, ha.h, h1, ?_⟩⟩
  exact k _ _ H1 (w.le.trans (same_wo s1)) (w.same s1).up s1 ⟨rfl⟩
end
theorem dec_nat (a b : Nat) : decide ((a : Int) = (b : Int)) = decide (a = b) := by
  by_cases h : a = b
  · rw [decide_eq_true h, decide_eq_true (by omega)]
  · rw [decide_eq_false h, decide_eq_false (by omega)]
/-! ### the states of a choice among helpers -/
abbrev Stt := List (List Rat)
def turnedL (s : Stt) : Stt := (List.range s.length).map fun m => if m = 0 then s.getD 0 [] else (s.getD m []).map fun v => minQ [v, minQ (s.getD (m - 1) [])]
def grownL (s : Stt) (ps : List Rat) : Stt := s.map fun row => (row.zip ps).map fun x => x.1 + x.2
def startL (m L : Nat) : Stt := (List.range (L + 1)).map fun _ => (List.range m).map fun _ => (0 : Rat)
def partsL (n : Nat) (hs : List Pln) (t : List Nat) (d : Nat) : List Rat := hs.map fun p => 1 - (shF n p.sh t).getD d 0
def stP (n : Nat) (hs : List Pln) : List Nat → List Nat → Stt → Stt
  | _, [], s => s
  | pre, d :: r, s => stP n hs (pre ++ [d]) r (grownL (turnedL s) (partsL n hs pre d))
def stF (n : Nat) (hs : List Pln) (L : Nat) (t : List Nat) : Stt := stP n hs [] t (startL hs.length L)
theorem stP_snoc (n : Nat) (hs : List Pln) (d : Nat) : ∀ (r pre : List Nat) (s : Stt), stP n hs pre (r ++ [d]) s = grownL (turnedL (stP n hs pre r s)) (partsL n hs (pre ++ r) d)
  | [], pre, s => by simp [stP]
  | e :: r, pre, s => by
    show stP n hs (pre ++ [e]) (r ++ [d]) _ = _
    rw [stP_snoc n hs d r, List.append_assoc]
    rfl
theorem stF_snoc (n : Nat) (hs : List Pln) (L : Nat) (t : List Nat) (d : Nat) : stF n hs L (t ++ [d]) = grownL (turnedL (stF n hs L t)) (partsL n hs t d) := stP_snoc n hs d t [] _
/-- L + 1 rows of m numbers -/
def Sq (L m : Nat) (s : Stt) : Prop := s.length = L + 1 ∧ ∀ row ∈ s, row.length = m
theorem sq_start (m L : Nat) : Sq L m (startL m L) := by
  unfold startL
  refine ⟨by rw [List.length_map, List.length_range], fun row h => ?_⟩
  obtain ⟨_, _, e⟩ := List.mem_map.mp h
  rw [← e, List.length_map, List.length_range]
theorem getD_mem {s : Stt} {k : Nat} (h : k < s.length) : s.getD k [] ∈ s := by
  rw [List.getD_eq_getElem?_getD, List.getElem?_eq_getElem h]
  exact List.getElem_mem h
theorem sq_turned {m L : Nat} {s : Stt} (h : Sq L m s) : Sq L m (turnedL s) := by
  unfold turnedL
  refine ⟨by rw [List.length_map, List.length_range]; exact h.1, fun row hr => ?_⟩
  obtain ⟨k, hk, e⟩ := List.mem_map.mp hr
  have hk : k < s.length := List.mem_range.mp hk
  rw [← e]
  by_cases z : k = 0
  · rw [if_pos z]
    exact h.2 _ (getD_mem (by omega))
  · rw [if_neg z, List.length_map]
    exact h.2 _ (getD_mem hk)
theorem sq_grown {m L : Nat} {s : Stt} {ps : List Rat} (h : Sq L m s) (hp : ps.length = m) : Sq L m (grownL s ps) := by
  unfold grownL
  refine ⟨by rw [List.length_map]; exact h.1, fun row hr => ?_⟩
  obtain ⟨r, hr, e⟩ := List.mem_map.mp hr
  rw [← e, List.length_map, List.length_zip, h.2 r hr, hp, Nat.min_self]
theorem partsL_len {n : Nat} {hs : List Pln} {t : List Nat} {d : Nat} : (partsL n hs t d).length = hs.length := List.length_map _
theorem sq_stF (n : Nat) (hs : List Pln) (L : Nat) : ∀ t, Sq L hs.length (stF n hs L t) := by
  intro t
  have go : ∀ (r pre : List Nat) (s : Stt), Sq L hs.length s → Sq L hs.length (stP n hs pre r s) := by
    intro r
    induction r with
    | nil => intro pre s h; exact h
    | cons d r ih => intro pre s h; exact ih _ _ (sq_grown (sq_turned h) partsL_len)
  exact go t [] _ (sq_start _ _)
/-- the least value is one of them -/
theorem far_mem (sd : Int) : ∀ (xs : List Rat) (b : Rat), xs.foldl (fun b y => if cmpQ y b = sd then y else b) b = b ∨ xs.foldl (fun b y => if cmpQ y b = sd then y else b) b ∈ xs
  | [], b => .inl rfl
  | x :: xs, b => by
    rw [List.foldl_cons]
    rcases far_mem sd xs (if cmpQ x b = sd then x else b) with h | h
    · rw [h]
      by_cases e : cmpQ x b = sd
      · rw [if_pos e]
        exact .inr List.mem_cons_self
      · rw [if_neg e]
        exact .inl rfl
    · exact .inr (List.mem_cons_of_mem _ h)
theorem far_in {sd : Int} {xs : List Rat} (h : xs ≠ []) : farF sd xs ∈ xs := by
  unfold farF
  cases xs with
  | nil => exact absurd rfl h
  | cons x xs =>
    rcases far_mem sd (x :: xs) ((x :: xs).headD 0) with e | e
    · rw [e]
      exact List.mem_cons_self
    · exact e
theorem min_in {xs : List Rat} (h : xs ≠ []) : minQ xs ∈ xs := far_in h
def BqS (s : Stt) : Prop := ∀ row ∈ s, ∀ x ∈ row, Bq x
theorem bq_turned {s : Stt} {m L : Nat} (hm : 0 < m) (q : Sq L m s) (h : BqS s) : BqS (turnedL s) := by
  intro row hr x hx
  unfold turnedL at hr
  obtain ⟨k, hk, e⟩ := List.mem_map.mp hr
  have hk : k < s.length := List.mem_range.mp hk
  rw [← e] at hx
  by_cases z : k = 0
  · rw [if_pos z] at hx
    exact h _ (getD_mem (by omega)) x hx
  · rw [if_neg z] at hx
    obtain ⟨v, hv, e2⟩ := List.mem_map.mp hx
    have b1 := h _ (getD_mem hk) v hv
    have hk1 : k - 1 < s.length := by omega
    have hne : s.getD (k - 1) [] ≠ [] := List.length_pos_iff.mp (by rw [q.2 _ (getD_mem hk1)]; exact hm)
    have b2 := h _ (getD_mem hk1) _ (min_in hne)
    rw [← e2]
    rcases List.mem_cons.mp (min_in (xs := [v, minQ (s.getD (k - 1) [])]) (by simp)) with e3 | e3
    · rw [e3]; exact b1
    · rw [List.mem_singleton.mp e3]; exact b2
section
variable {P : Program} {w : World} {K : PySem.W.Frag} {mg : PySem.Str → Option Value} {base : Heap}
theorem sc_same_shape_aid_stakes : FnScope n_same_shape_aid_stakes ["first", "second"] (defScope s_same_shape_aid_stakes) := ⟨rfl, rfl, rfl, by decide +kernel, rfl, by decide +kernel, by decide +kernel⟩
theorem ok_same_shape_aid_stakes (T : Ctx P w K mg base) : Pro P w K mg base "same_shape_aid_stakes" ["first", "second"] 3 (spP (raC (qPln K) (raC (qPln K) raN)) (fun _ => True) qB fun x => decide (x.1.n = x.2.1.n) && decide (x.1.R = x.2.1.R)) := by
  refine mk_pro T.d_same_shape_aid_stakes (fun _ _ _ _ _ _ us hl => match us, hl with | [_, _], _ => rfl) fun f fd F => ?_
  refine def2 F sc_same_shape_aid_stakes rfl fun cdv A outer s H E O G 
    u v a b hr wd hu hv hp Q k => ⟨_, (pss_one (ps_ret (pe_and (pe_cmpR op_eq (pe_prp (ok_Plan_width T) hr T.cl_Plan (pv 0)) (pe_prp (ok_Plan_width T) hr T.cl_Plan (pv 1)) (nomark _)) (pe_one (pe_cmpR op_eq (pe_prp (ok_Plan_rounds T) hr T.cl_Plan (pv 0)) (pe_prp (ok_Plan_rounds T) hr T.cl_Plan (pv 1)) (nomark _)))))), ?_⟩
  refine st_ret wd ((tv_and (tv_eqI (tv_NI (tv_prop (tv_v rfl hu) pln_ins trivial)) (tv_NI (tv_prop (tv_v rfl hv) pln_ins trivial))) fun _ => tv_eqI (tv_NI (tv_prop (tv_v rfl hu) pln_ins trivial)) (tv_NI (tv_prop (tv_v rfl hv) pln_ins trivial))).eq ?_) k
  show (decide ((a.n : Int) = (b.n : Int)) && decide ((a.R : Int) = (b.R : Int))) = (decide (a.n = b.n) && decide (a.R = b.R))
  rw [dec_nat, dec_nat]
theorem sc_check_shapes_aid_stakes : FnScope n_check_shapes_aid_stakes ["first", "second"] (defScope s_check_shapes_aid_stakes) := ⟨rfl, rfl, rfl, by decide +kernel, rfl, by decide +kernel, by decide +kernel⟩
theorem ok_check_shapes_aid_stakes (T : Ctx P w K mg base) : Pro P w K mg base "check_shapes_aid_stakes" ["first", "second"] 4 (spP (raC (qPln K) (raC (qPln K) raN)) (fun x => x.1.n = x.2.1.n ∧ x.1.R = x.2.1.R) qU fun _ => ()) := by
  refine mk_pro T.d_check_shapes_aid_stakes (fun _ _ _ _ _ _ us hl => match us, hl with | [_, _], _ => rfl) fun f fd F => ?_
  refine def2 F sc_check_shapes_aid_stakes rfl fun cdv A outer s H E O G 
    u v a b hr wd hu hv hp Q k => ⟨_, (pss_one (ps_if (pt_not (pt_val (pe_cl (ok_same_shape_aid_stakes T) hr (pa_cons (pv 0) (pa_cons (pv 1) pa_nil))))) pss_never pss_nil)), ?_⟩
  obtain ⟨h1, h2⟩ : a.n = b.n ∧ a.R = b.R := hp
  exact st_ifE (b := false) wd ((tt_not (tt_b (tv_call (ta_c (tv_v rfl hu) (ta_c (tv_v rfl hv) ta_n)) trivial))).eq (by simp [h1, h2])) (fun z => nomatch z) (fun _ H1 s1 w1 => k _ _ s1 rfl)
theorem sc_check_count_aid_stakes : FnScope n_check_count_aid_stakes ["found", "low", "high"] (defScope s_check_count_aid_stakes) := ⟨rfl, rfl, rfl, by decide +kernel, rfl, by decide +kernel, by decide +kernel⟩
theorem ok_check_count_aid_stakes (T : Ctx P w K mg base) : Pro P w K mg base "check_count_aid_stakes" ["found", "low", "high"] 1 (spP (raC qI (raC qI (raC qI raN))) (fun x => x.2.1 ≤ x.1 ∧ x.1 ≤ x.2.2.1) qU fun _ => ()) := by
  refine mk_pro T.d_check_count_aid_stakes (fun _ _ _ _ _ _ us hl => match us, hl with | [_, _, _], _ => rfl) fun f fd F => ?_
  refine def3 F sc_check_count_aid_stakes rfl fun cdv A outer s H E O G 
    u v z a b c hr wd hu hv hz hp Q k => ⟨_, (pss_one (ps_if (PW.pt (pw_or (pt_val (c_isinstance (K := K) rfl T.n_isinstance (pa_cons (pv 0) (pa_cons (peTy T.n_bool PyProof.Rows.boot_bool) pa_nil)))) (pw_or (pt_cmpR op_lt (pv 0) (pv 1) (nomark _)) (pw_or1 (pt_cmpR op_gt (pv 0) (pv 2) (nomark _)))))) pss_never pss_nil)), ?_⟩
  obtain ⟨h1, h2⟩ : b ≤ a ∧ a ≤ c := hp
  refine st_ifE (b := false) wd ((tt_or (tt_b (tv_isi (k := false) (tv_v rfl hu) (by decide +kernel))) fun _ => tt_or (tt_opB (tv_v rfl hu) (tv_v rfl hv)) fun _ => tt_opB (tv_v rfl hu) (tv_v rfl hz)).eq ?_) (fun z => nomatch z) (fun _ H1 s1 w1 => k _ _ s1 rfl)
  rw [decide_eq_false (show ¬ a < b by omega), decide_eq_false (show ¬ c < a by omega)]
  rfl
theorem sc_check_group : FnScope n_check_group ["things"] (defScope s_check_group) := ⟨rfl, rfl, rfl, by decide +kernel, rfl, by decide +kernel, by decide +kernel⟩
theorem ok_check_group (T : Ctx P w K mg base) : Pro P w K mg base "check_group" ["things"] 5 (spP (raC (qSq K (qPln K)) raN) (fun x => 0 < x.1.length ∧ x.1.length ≤ 5 ∧ ∃ n R, ∀ p ∈ x.1, p.n = n ∧ p.R = R) qU fun _ => ()) := by
  refine mk_pro T.d_check_group (fun _ _ _ _ _ _ us hl => match us, hl with | [_], _ => rfl) fun f fd F => ?_
  refine def1 F sc_check_group rfl fun cdv A outer s H E O G 
    u hs hr wd hu hp Q k => ⟨_, (pss_cons (ps_if (pt_cmpR op_eq (c_len (K := K) rfl T.n_len (pa_cons (pv 0) pa_nil)) pe_int (nomark _)) pss_never pss_nil)
      (pss_cons (ps_if (pt_cmpR op_gt (c_len (K := K) rfl T.n_len (pa_cons (pv 0) pa_nil)) (pe_gI T.c_MOST_HELPERS) (nomark _)) pss_never pss_nil)
      (pss_one (ps_for PassesOwn.never rfl (piA (K := K) rfl (pv 0)) (pg_name (i := 1) sc_check_group.nd rfl (Or.inl rfl)) (pss_one (ps_expr (pe_cl (ok_check_shapes_aid_stakes T) hr (pa_cons (pe_ix (ixA (K := K) rfl) (pv 0) pe_int (fun _ _ => rfl)) (pa_cons (pv 1) pa_nil))))))))), ?_⟩
  obtain ⟨h0, h5, n, R, hh⟩ : 0 < hs.length ∧ hs.length ≤ 5 ∧ ∃ n R, ∀ p ∈ hs, p.n = n ∧ p.R = R := hp
  obtain ⟨p0, hp0⟩ : ∃ p, hs[0]? = some p := get_of h0
  have m0 := hh p0 (List.mem_of_getElem? hp0)
  refine st_if wd ((tt_eqI (tv_lenA (tv_v rfl hu)) tv_i).eq (b := false) (by rw [decide_eq_false (by omega)])) (fun z => nomatch z) fun _ H1 s1 w1 => ?_
  refine st_if w1 ((tt_opB (tv_lenA (tv_v rfl hu)) tv_i).eq (b := false) (by rw [decide_eq_false (by omega)])) (fun z => nomatch z) fun _ H2 s2 w2 => ?_
  refine st_for w2 (it_seq (tv_v rfl hu)) tg1 (fun i σ G' H' => ∃ (o : Option V), σ = [some u, o] ∧ Same H H') (fun G' H' g s w => ⟨none, rfl, (s1.trans s2).trans s⟩) ?_ ?_
  · rintro i p σ1 G3 H3 G4 H4 σ2 hx ⟨o, rfl, s3⟩ g3 g4 s4 w4 ⟨vp, rfl, hvp⟩ N hN
    have mp := hh p (List.mem_of_getElem? hx)
    exact st_dropL w4 (tv_call (ta_c (tv_ixA (tv_v rfl (hu.mo (g3.trans g4))) tv_i (atI_nat (j := 0) hp0)) (ta_c (tv_v rfl hvp) ta_n)) ⟨by rw [m0.1, mp.1], by rw [m0.2, mp.2]⟩) fun H5 s5 w5 => hN _ G4 H5 (Same.refl _) w5 ⟨some vp, rfl, (s3.trans s4).trans s5⟩
  · rintro σ' G' H' g' w' ⟨o, rfl, s3⟩
    exact k _ _ s3 rfl
theorem sc_useful : FnScope n_useful ["switches", "rounds"] (defScope s_useful) := ⟨rfl, rfl, rfl, by decide +kernel, rfl, by decide +kernel, by decide +kernel⟩
theorem ok_useful (T : Ctx P w K mg base) : Pro P w K mg base "useful" ["switches", "rounds"] 1 (spP (raC qI (raC qN raN)) (fun x => 0 ≤ x.1) qN fun x => min x.1.toNat (x.2.1 - 1)) := by
  refine mk_pro T.d_useful (fun _ _ _ _ _ _ us hl => match us, hl with | [_, _], _ => rfl) fun f fd F => ?_
  refine def2 F sc_useful rfl fun cdv A outer s H E O G 
    u v a R hr wd hu hv hp Q k => ⟨_, (pss_one (ps_ret (c_min (K := K) rfl T.n_min (pa_cons (pe_lst (pa_cons (pv 0) (pa_cons (c_max (K := K) rfl T.n_max (pa_cons (pe_lst (pa_cons (pe_op op_sub (pv 1) pe_int) (pa_cons pe_int pa_nil))) pa_nil)) pa_nil))) pa_nil)))), ?_⟩
  have hp : 0 ≤ a := hp
  refine st_ret wd (tv_IN (tv_minI (m := ((min a.toNat (R - 1) : Nat) : Int)) (tv_lst2 (x := a) (y := ((R - 1 : Nat) : Int)) (tv_v rfl hu) (tv_maxI (m := ((R - 1 : Nat) : Int)) (tv_lst2 (x := (R : Int) - 1) (y := 0) (tv_opJ (tv_v rfl hv.nI) tv_i) tv_i) ?_ ?_)) ?_ ?_) rfl) k
  · simp only [List.mem_cons, List.mem_nil_iff, or_false]
    omega
  · intro y hy
    simp only [List.mem_cons, List.mem_nil_iff, or_false] at hy
    omega
  · simp only [List.mem_cons, List.mem_nil_iff, or_false]
    omega
  · intro y hy
    simp only [List.mem_cons, List.mem_nil_iff, or_false] at hy
    omega
theorem sc_start_state : FnScope n_start_state ["many", "allowed"] (defScope s_start_state) := ⟨rfl, rfl, rfl, by decide +kernel, rfl, by decide +kernel, by decide +kernel⟩
theorem ok_start_state (T : Ctx P w K mg base) : Pro P w K mg base "start_state" ["many", "allowed"] 1 (spP (raC qI (raC qN raN)) (fun x => 0 ≤ x.1 ∧ x.1 ≤ 5 ∧ x.2.1 ≤ 8) (qL K (qL K (qQ K))) fun x => startL x.1.toNat x.2.1) := by
  refine mk_pro T.d_start_state (fun _ _ _ _ _ _ us hl => match us, hl with | [_, _], _ => rfl) fun f fd F => ?_
  refine def2 F sc_start_state rfl fun cdv A outer s H E O G 
    u v m L hr wd hu hv hp Q k => ⟨_, (pss_one (ps_ret (pe_lc (own := [("unused", 3)]) (g := (gName 3)) (tt := tYes) rfl sc_start_state.nd (pi_range1 (by rfl) T.n_range (pa_cons (pe_op op_add (pv 1) pe_int) pa_nil)) (blkOk_by (own := [("unused", 3)]) (N := n_start_state) (sc := defScope s_start_state) (by decide +kernel)) (fun _ _ _ _ _ => (pg_name (i := 3) sc_start_state.nd rfl (by first | exact Or.inl rfl | exact Or.inr rfl))) (fun _ _ _ _ _ => pts_nil) (fun _ _ _ _ _ => (pe_lc (own := [("spare", 2)]) (g := (gName 2)) (tt := tYes) rfl sc_start_state.nd (pi_range1 (by rfl) T.n_range (pa_cons (pv 0) pa_nil)) (blkOk_by (own := [("spare", 2)]) (N := n_start_state) (sc := relS _ (defScope s_start_state)) (by decide +kernel)) (fun _ _ _ _ _ => (pg_name (i := 2) sc_start_state.nd rfl (by first | exact Or.inl rfl | exact Or.inr rfl))) (fun _ _ _ _ _ => pts_nil) (fun _ _ _ _ _ => (pe_tup (pa_cons pe_int (pa_cons pe_int pa_nil))))))))), ?_⟩
  obtain ⟨h0, h5, h8⟩ : 0 ≤ m ∧ m ≤ 5 ∧ L ≤ 8 := hp
  refine st_ret (r := qL K (qL K (qQ K))) (x := startL m.toNat L) wd ?_ k
  refine tv_map (it_rng1 (n := L + 1) ((tv_opJ (tv_v rfl hv.nI) tv_i).eq (by rw [Int.natCast_add]; rfl)) (by omega)) tg1 (own1 (by decide)) (by rw [List.length_range]; omega) fun D i x G1 σ1 hx g1 ⟨vx, ex, hvx⟩ => ?_
  subst ex
  refine tv_map (it_rng1 (n := m.toNat) ((tv_v rfl (hu.mo g1)).eq (by omega)) (by omega)) tg1 (own1 (by decide)) (by rw [List.length_range]; omega) fun D2 i2 x2 G2 σ2 hx2 g2 ⟨vx2, ex2, hvx2⟩ => ?_
  exact tv_q K rfl rfl
theorem sc_grown : FnScope n_grown ["state", "parts"] (defScope s_grown) := ⟨rfl, rfl, rfl, by decide +kernel, rfl, by decide +kernel, by decide +kernel⟩
theorem ok_grown (T : Ctx P w K mg base) : Pro P w K mg base "grown" ["state", "parts"] 5 (spP (raC (qL K (qL K (qQ K))) (raC (qL K (qQ K)) raN)) (fun x => x.1.length < 10000 ∧ x.2.1.length < 10000 ∧ BqS x.1 ∧ ∀ y ∈ x.2.1, Bq y) (qL K (qL K (qQ K))) fun x => grownL x.1 x.2.1) := by
  refine mk_pro T.d_grown (fun _ _ _ _ _ _ us hl => match us, hl with | [_, _], _ => rfl) fun f fd F => ?_
  refine def2 F sc_grown rfl fun cdv A outer s H E O G 
    u v st ps hr wd hu hv hp Q k => ⟨_, (pss_one (ps_ret (pe_lc (own := [("row", 4)]) (g := (gName 4)) (tt := tYes) rfl sc_grown.nd (piL (K := K) rfl (pv 0)) (blkOk_by (own := [("row", 4)]) (N := n_grown) (sc := defScope s_grown) (by decide +kernel)) (fun _ _ _ _ _ => (pg_name (i := 4) sc_grown.nd rfl (by first | exact Or.inl rfl | exact Or.inr rfl))) (fun _ _ _ _ _ => pts_nil) (fun _ _ _ _ _ => (pe_lc (own := [("value", 2), ("part", 3)]) (g := (gTup K 2 (gCons (gName 2) (gCons (gName 3) gNil)))) (tt := tYes) rfl sc_grown.nd (pizL (K := K) rfl T.n_zip (pa_cons (pv 4) (pa_cons (pv 1) pa_nil))) (blkOk_by (own := [("value", 2), ("part", 3)]) (N := n_grown) (sc := relS _ (defScope s_grown)) (by decide +kernel)) (fun _ _ _ _ _ => (pgT (K := K) (n := 2) rfl rfl (pgs_cons (pg_name (i := 2) sc_grown.nd rfl (by first | exact Or.inl rfl | exact Or.inr rfl)) (pgs_cons (pg_name (i := 3) sc_grown.nd rfl (by first | exact Or.inl rfl | exact Or.inr rfl)) pgs_nil)))) (fun _ _ _ _ _ => pts_nil) (fun _ _ _ _ _ => (pe_cl (ok_add T) hr (pa_cons (pv 2) (pa_cons (pv 3) pa_nil))))))))), ?_⟩
  obtain ⟨h1, h2, b1, b2⟩ : st.length < 10000 ∧ ps.length < 10000 ∧ BqS st ∧ ∀ y ∈ ps, Bq y := hp
  refine st_ret (r := qL K (qL K (qQ K))) (x := grownL st ps) wd ?_ k
  refine tv_map (it_list (tv_v rfl hu)) tg1 (own1 (by decide)) h1 fun D i row G1 σ1 hx g1 ⟨vx, ex, hvx⟩ => ?_
  subst ex
  refine tv_map (it_zip (tv_v rfl hvx) (tv_v rfl (hv.mo g1))) tg2 (own2 (by decide) (by decide)) (by rw [List.length_zip]; omega) fun D2 i2 x2 G2 σ2 hx2 g2 ⟨v1, v2, ex2, hv1, hv2⟩ => ?_
  subst ex2
  obtain ⟨z1, z2⟩ := List.getElem?_zip_eq_some.mp hx2
  have m1 := b1 row (List.mem_of_getElem? hx) _ (List.mem_of_getElem? z1)
  have m2 := b2 _ (List.mem_of_getElem? z2)
  exact tv_call (ta_c (tv_QR (tv_v rfl hv1) m1) (ta_c (tv_QR (tv_v rfl hv2) m2) ta_n)) ⟨m1, m2⟩
theorem sc_turned : FnScope n_turned ["state"] (defScope s_turned) := ⟨rfl, rfl, rfl, by decide +kernel, rfl, by decide +kernel, by decide +kernel⟩
theorem ok_turned (T : Ctx P w K mg base) : Pro P w K mg base "turned" ["state"] 6 (spP (raC (qL K (qL K (qQ K))) raN) (fun x => ∃ L m, Sq L m x.1 ∧ 0 < m ∧ m ≤ 5 ∧ L ≤ 8 ∧ BqS x.1) (qL K (qL K (qQ K))) fun x => turnedL x.1) := by
  refine mk_pro T.d_turned (fun _ _ _ _ _ _ us hl => match us, hl with | [_], _ => rfl) fun f fd F => ?_
  refine def1 F sc_turned rfl fun cdv A outer s H E O G 
    u st hr wd hu hp Q k => ⟨_, (pss_cons (ps_set (i := 1) sc_turned.nd rfl (Or.inr rfl) (pe_lc (own := [("row", 2)]) (g := (gName 2)) (tt := tYes) rfl sc_turned.nd (piL (K := K) rfl (pv 0)) (blkOk_by (own := [("row", 2)]) (N := n_turned) (sc := defScope s_turned) (by decide +kernel)) (fun _ _ _ _ _ => (pg_name (i := 2) sc_turned.nd rfl (by first | exact Or.inl rfl | exact Or.inr rfl))) (fun _ _ _ _ _ => pts_nil) (fun _ _ _ _ _ => (pe_cl (ok_least T) hr (pa_cons (pv 2) pa_nil)))))
      (pss_cons (ps_set (i := 3) sc_turned.nd rfl (Or.inl rfl) (pe_lst (pa_cons (c_list (K := K) rfl T.n_list (pa_cons (pe_ix (ixL (K := K) rfl) (pv 0) pe_int (fun _ _ => rfl)) pa_nil)) pa_nil)))
      (pss_cons (ps_for PassesOwn.never rfl (pi_range2 (by rfl) T.n_range (pa_cons pe_int (pa_cons (c_len (K := K) rfl T.n_len (pa_cons (pv 0) pa_nil)) pa_nil))) (pg_name (i := 4) sc_turned.nd rfl (Or.inr rfl)) (pss_one (ps_expr (pe_bm PySem.F.plainAttrs_list PySem.F.slot_list_append PySem.F.type_list_append mt_append (pv 3) (pa_cons (pe_lc (own := [("value", 5)]) (g := (gName 5)) (tt := tYes) rfl sc_turned.nd (piL (K := K) rfl (pe_ix (ixL (K := K) rfl) (pv 0) (pv 4) (fun _ _ => rfl))) (blkOk_by (own := [("value", 5)]) (N := n_turned) (sc := defScope s_turned) (by decide +kernel)) (fun _ _ _ _ _ => (pg_name (i := 5) sc_turned.nd rfl (by first | exact Or.inl rfl | exact Or.inr rfl))) (fun _ _ _ _ _ => pts_nil) (fun _ _ _ _ _ => (pe_cl (ok_least T) hr (pa_cons (pe_lst (pa_cons (pv 5) (pa_cons (pe_ix (ixL (K := K) rfl) (pv 1) (pe_op op_sub (pv 4) pe_int) (fun _ _ => rfl)) pa_nil))) pa_nil)))) pa_nil)))))
      (pss_one (ps_ret (pv 3)))))), ?_⟩
  obtain ⟨L, m, sq, m0, m5, l8, bs⟩ : ∃ L m, Sq L m st ∧ 0 < m ∧ m ≤ 5 ∧ L ≤ 8 ∧ BqS st := hp
  have hl := sq.1
  refine st_asg (r := qL K (qQ K)) (x := st.map minQ) wd ?_ fun vf G1 H1 g1 w1 s1 hf => ?_
  · refine tv_map (it_list (tv_v rfl hu)) tg1 (own1 (by decide)) (by omega) fun D i row G2 σ2 hx g2 ⟨vx, ex, hvx⟩ => ?_
    subst ex
    have hm : row ∈ st := List.mem_of_getElem? hx
    have rl := sq.2 row hm
    exact tv_call (ta_c (tv_RL (bs row hm) (tv_v rfl hvx)) ta_n) ⟨by show 0 < row.length; omega, by show row.length < 10000; omega⟩
  obtain ⟨r0, hr0⟩ : ∃ r, st[0]? = some r := get_of (by omega)
  have e0 : (List.range 1).map (fun m => if m = 0 then st.getD 0 [] else (st.getD m []).map fun v => minQ [v, minQ (st.getD (m - 1) [])]) = [r0] := by
    show [st.getD 0 []] = [r0]
    rw [List.getD_eq_getElem?_getD, hr0]
    rfl
  refine st_new1 (q := qL K (qQ K)) (y := r0) w1 (tv_listL (tv_ixL (tv_v rfl (hu.mo g1)) tv_i (atI_nat (j := 0) hr0))) fun p G2 H2 g2 hp2 s2 w2 o2 => ?_
  have hpn : H p = none := by
    cases e : H p with
    | none => rfl
    | some u => rw [s1 _ _ e] at hp2; cases hp2
  refine st_forS w2 (it_rng2 (a := 1) (b := st.length) tv_i (tv_lenL (tv_v rfl ((hu.mo g1).mo g2))) (by decide) (by omega)) tg1
    (fun i σ G' H' => ∃ (o : Option V), σ = [some u, some vf, none, some (.ref p), o, none] ∧ Same H H' ∧ OwL (qL K (qQ K)) O G' H' p ((List.range (i + 1)).map fun m => if m = 0 then st.getD 0 [] else (st.getD m []).map fun v => minQ [v, minQ (st.getD (m - 1) [])]))
    (fun G' H' g s w => ⟨none, rfl, (s1.trans s2).trans s, by rw [Nat.zero_add, e0]; exact o2.on g s⟩) ?_ ?_
  · rintro i x σ1 G5 H5 G6 H6 σ2 hx ⟨o, rfl, s5, o5⟩ g5 g6 s6 w6 ⟨va, rfl, ha⟩ N hN
    rw [List.getElem?_map] at hx
    obtain ⟨j, hj, ej⟩ := Option.map_eq_some_iff.mp hx
    have hjl := (List.getElem?_eq_some_iff.mp hj).1
    rw [List.length_range] at hjl
    rw [List.getElem?_range hjl] at hj
    have ex : x = i + 1 := by rw [← ej, ← Option.some.inj hj]; omega
    subst ex
    have hi : i + 1 < st.length := by omega
    have gg := (g2.trans g5).trans g6
    have hu6 := (hu.mo g1).mo gg
    have hm : st.getD (i + 1) [] ∈ st := getD_mem hi
    have hget : st[i + 1]? = some (st.getD (i + 1) []) := by rw [List.getD_eq_getElem?_getD, List.getElem?_eq_getElem hi]; rfl
    have hgf : (st.map minQ)[i]? = some (minQ (st.getD i [])) := by rw [List.getElem?_map, List.getD_eq_getElem?_getD, List.getElem?_eq_getElem (show i < st.length by omega)]; rfl
    have hne : st.getD i [] ≠ [] := List.length_pos_iff.mp (by rw [sq.2 _ (getD_mem (by omega))]; exact m0)
    have bf := bs _ (getD_mem (show i < st.length by omega)) _ (min_in hne)
    refine st_appL (y := (st.getD (i + 1) []).map fun v => minQ [v, minQ (st.getD i [])]) w6 (o5.on g6 s6) rfl (by rw [List.length_map, List.length_range]; omega) ?_ fun G8 H8 g8 w8 s8 o8 => hN _ G8 H8 g8 w8 ⟨some va, rfl, s8.same (s5.trans s6) hpn, ?_⟩
    · refine tv_map (it_list (tv_ixL (tv_v rfl hu6) (tv_v rfl ha.nI) (atI_nat hget))) tg1 (own1 (by decide)) (by rw [sq.2 _ hm]; omega) fun D i2 x2 G7 σ7 hx2 g7 ⟨vx, ex, hvx⟩ => ?_
      subst ex
      have bx := bs _ hm x2 (List.mem_of_getElem? hx2)
      refine tv_call (ta_c (tv_RL (xs := [x2, minQ (st.getD i [])]) ?_ (tv_lst2 (tv_v rfl hvx) (tv_ixL (tv_v rfl ((hf.mo gg).mo g7)) ((tv_opJ (tv_v rfl (ha.mo g7).nI) tv_i).eq (x' := (i : Int)) (by omega)) (atI_nat hgf)))) ta_n) ⟨by show 0 < 2; omega, by show 2 < 10000; omega⟩
      intro y hy
      rcases List.mem_cons.mp hy with e | e
      · rw [e]; exact bx
      · rw [List.mem_singleton.mp e]; exact bf
    · rw [List.range_succ, List.map_append]
      exact o8
  · rintro σ' G' H' g' w' ⟨o, rfl, s5, o5⟩
    rw [List.length_map, List.length_range, show st.length - 1 + 1 = st.length by omega] at o5
    obtain ⟨G8, g8, w8, h8⟩ := o5.fin w'
    exact st_ret w8 (tv_Ls (tv_v rfl h8)) fun v H'' s hv => k v H'' (s5.trans s) hv
end
end Nb
set_option Elab.async false
set_option linter.all false
set_option maxRecDepth 100000
set_option maxHeartbeats 4000000
namespace Nb
open PySem L2
open PyProof.Rows (envOfC)
def hdP (hs : List Pln) : Pln := hs.headD ⟨1, 0, []⟩
def limL (s : Int) (R : Nat) : Nat := min s.toNat (R - 1)
def swC (n R : Nat) (hs : List Pln) (L : Nat) : List Rat := (rowsL n R).map fun t => minQ ((stF n hs L t).getD L [])
structure SwOk (n R : Nat) (hs : List Pln) (L : Nat) : Prop where
  sh : Shape n R
  h0 : 0 < hs.length
  h5 : hs.length ≤ 5
  l8 : L ≤ 8
  same : ∀ p ∈ hs, p.n = n ∧ p.R = R
  len : ∀ p ∈ hs, p.sh.length = (begL n R).length
  sB : ∀ p ∈ hs, ∀ t, Dig n t → t.length < R → (shF n p.sh t).length = n ∧ ∀ x ∈ shF n p.sh t, Bq x ∧ Bq (1 - x)
  st : ∀ t, Dig n t → t.length ≤ R → BqS (stF n hs L t)
theorem SwOk.hd {n R : Nat} {hs : List Pln} {L : Nat} (h : SwOk n R hs L) : ∃ p0, hs[0]? = some p0 ∧ hdP hs = p0 ∧ p0.n = n ∧ p0.R = R := by
  obtain ⟨p0, hp0⟩ : ∃ p, hs[0]? = some p := get_of h.h0
  refine ⟨p0, hp0, ?_, h.same p0 (List.mem_of_getElem? hp0)⟩
  unfold hdP
  cases hs with
  | nil => cases hp0
  | cons a t => cases hp0; rfl
theorem atI_lst {α : Type} {xs : List α} {L : Nat} {x : α} (h : xs.length = L + 1) (e : xs[L]? = some x) : atI xs (-1) = some x := by
  unfold atI ixN
  rw [h, if_neg (by decide), if_pos (by omega), show (-1 + ((L + 1 : Nat) : Int)).toNat = L by omega]
  exact e
section
variable {P : Program} {w : World} {K : PySem.W.Frag} {mg : PySem.Str → Option Value} {base : Heap}
theorem sc_switch_table : FnScope n_switch_table ["helpers", "switches"] (defScope s_switch_table) := ⟨rfl, rfl, rfl, by decide +kernel, rfl, by decide +kernel, by decide +kernel⟩
theorem ok_switch_table (T : Ctx P w K mg base) : ProK P w K mg base "switch_table" ["helpers", "switches"] 1 ["switches"] 7 (spP (raC (qSq K (qPln K)) (raC qI raN)) (fun x => 0 ≤ x.2.1 ∧ x.2.1 ≤ 8 ∧ SwOk (hdP x.1).n (hdP x.1).R x.1 (limL x.2.1 (hdP x.1).R)) (qTab K) fun x => ⟨(hdP x.1).n, (hdP x.1).R, swC (hdP x.1).n (hdP x.1).R x.1 (limL x.2.1 (hdP x.1).R)⟩) := by
  refine mk_proK T.d_switch_table (fun _ _ _ _ _ _ us ws h1 h2 => match us, ws, h1, h2 with | [_], [_], _, _ => rfl) fun f fd F => ?_
  refine def2 F sc_switch_table rfl fun cdv A outer s H E O G 
    u v hs a hr wd hu hv hp Q k => ⟨_, (pss_cons (ps_expr (pe_cl (ok_check_group T) hr (pa_cons (pv 0) pa_nil)))
      (pss_cons (ps_expr (pe_cl (ok_check_count_aid_stakes T) hr (pa_cons (pv 1) (pa_cons pe_int (pa_cons (pe_gI T.c_MOST_SWITCHES) pa_nil)))))
      (pss_cons (ps_set (i := 2) sc_switch_table.nd rfl (Or.inl rfl) (pe_prp (ok_Plan_width T) hr T.cl_Plan (pe_ix (ixA (K := K) rfl) (pv 0) pe_int (fun _ _ => rfl))))
      (pss_cons (ps_set (i := 3) sc_switch_table.nd rfl (Or.inl rfl) (pe_prp (ok_Plan_rounds T) hr T.cl_Plan (pe_ix (ixA (K := K) rfl) (pv 0) pe_int (fun _ _ => rfl))))
      (pss_cons (ps_setLc (i := 4) (own := [("helper", 5)]) (g := (gName 5)) (tt := tYes) rfl sc_switch_table.nd rfl rfl (sw_true rfl rfl rfl (by decide +kernel)) (piA (K := K) rfl (pv 0)) (blkOk_by (own := [("helper", 5)]) (N := n_switch_table) (sc := defScope s_switch_table) (by decide +kernel)) (fun _ _ _ _ _ => (pg_name (i := 5) sc_switch_table.nd rfl (by first | exact Or.inl rfl | exact Or.inr rfl))) (fun _ _ _ _ _ => pts_nil) (fun _ _ _ _ _ => (pe_prp (ok_Plan_shares T) hr T.cl_Plan (pv 5))))
      (pss_cons (ps_set (i := 6) sc_switch_table.nd rfl (Or.inl rfl) (pe_lst (pa_cons (pe_cl (ok_start_state T) hr (pa_cons (c_len (K := K) rfl T.n_len (pa_cons (pv 0) pa_nil)) (pa_cons (pe_cl (ok_useful T) hr (pa_cons (pv 1) (pa_cons (pv 3) pa_nil))) pa_nil))) pa_nil)))
      (pss_cons (ps_set (i := 7) sc_switch_table.nd rfl (Or.inr rfl) pe_int)
      (pss_cons (ps_for PassesOwn.never rfl (pi_range1 (by rfl) T.n_range (pa_cons (pv 3) pa_nil)) (pg_name (i := 8) sc_switch_table.nd rfl (Or.inl rfl)) (pss_cons (ps_set (i := 9) sc_switch_table.nd rfl (Or.inl rfl) (pe_lst pa_nil))
      (pss_cons (ps_for PassesOwn.never rfl (piL (K := K) rfl (pv 6)) (pg_name (i := 10) sc_switch_table.nd rfl (Or.inl rfl)) (pss_cons (ps_set (i := 11) sc_switch_table.nd rfl (Or.inl rfl) (pe_cl (ok_turned T) hr (pa_cons (pv 10) pa_nil)))
      (pss_cons (ps_for PassesOwn.never rfl (pi_range1 (by rfl) T.n_range (pa_cons (pv 2) pa_nil)) (pg_name (i := 12) sc_switch_table.nd rfl (Or.inr rfl)) (pss_cons (ps_setLc (i := 13) (own := [("told", 14)]) (g := (gName 14)) (tt := tYes) rfl sc_switch_table.nd rfl rfl (sw_true rfl rfl rfl (by decide +kernel)) (piL (K := K) rfl (pv 4)) (blkOk_by (own := [("told", 14)]) (N := n_switch_table) (sc := defScope s_switch_table) (by decide +kernel)) (fun _ _ _ _ _ => (pg_name (i := 14) sc_switch_table.nd rfl (by first | exact Or.inl rfl | exact Or.inr rfl))) (fun _ _ _ _ _ => pts_nil) (fun _ _ _ _ _ => (pe_cl (ok_sub T) hr (pa_cons pe_int (pa_cons (pe_ix (ixT (K := K) rfl) (pe_ix (ixL (K := K) rfl) (pv 14) (pv 7) (fun _ _ => rfl)) (pv 12) (fun _ _ => rfl)) pa_nil)))))
      (pss_one (ps_expr (pe_bm PySem.F.plainAttrs_list PySem.F.slot_list_append PySem.F.type_list_append mt_append (pv 9) (pa_cons (pe_cl (ok_grown T) hr (pa_cons (pv 11) (pa_cons (pv 13) pa_nil))) pa_nil))))))
      (pss_one (ps_aug (i := 7) sc_switch_table.nd rfl (Or.inr rfl) pe_int ip_add)))))
      (pss_one (ps_set (i := 6) sc_switch_table.nd rfl (Or.inl rfl) (c_list (K := K) rfl T.n_list (pa_cons (pv 9) pa_nil)))))))
      (pss_one (ps_ret (pe_mkr (ok_Table___init__ T) hr (pa_cons (pv 2) (pa_cons (pv 3) (pa_cons (pe_lc (own := [("state", 10)]) (g := (gName 10)) (tt := tYes) rfl sc_switch_table.nd (piL (K := K) rfl (pv 6)) (blkOk_by (own := [("state", 10)]) (N := n_switch_table) (sc := defScope s_switch_table) (by decide +kernel)) (fun _ _ _ _ _ => (pg_name (i := 10) sc_switch_table.nd rfl (Or.inl rfl))) (fun _ _ _ _ _ => pts_nil) (fun _ _ _ _ _ => (pe_cl (ok_least T) hr (pa_cons (pe_ix (ixL (K := K) rfl) (pv 10) (pe_un un_neg pe_int) (fun _ _ => rfl)) pa_nil)))) pa_nil)))))))))))))), ?_⟩
  obtain ⟨a0, a8, ok⟩ : 0 ≤ a ∧ a ≤ 8 ∧ SwOk (hdP hs).n (hdP hs).R hs (limL a (hdP hs).R) := hp
  obtain ⟨p0, hp0, ehd, en, eR⟩ := ok.hd
  obtain ⟨n, hn⟩ : ∃ n, n = (hdP hs).n := ⟨_, rfl⟩
  obtain ⟨R, hR⟩ : ∃ R, R = (hdP hs).R := ⟨_, rfl⟩
  obtain ⟨L, hL⟩ : ∃ L, L = limL a R := ⟨_, rfl⟩
  rw [← hn, ← hR, ← hL] at ok
  rw [← hn] at en
  rw [← hR] at eR
  have kk : ∀ v' H', Same H H' → qTab K (wo H' O) v' ⟨n, R, swC n R hs L⟩ → Q v' H' := fun v' H' s hv => k v' H' s (by
    show qTab K (wo H' O) v' ⟨(hdP hs).n, (hdP hs).R, swC (hdP hs).n (hdP hs).R hs (limL a (hdP hs).R)⟩
    rw [← hn, ← hR, ← hL]
    exact hv)
  have hn0 : 0 < n := ok.sh.1
  have hn5 := ok.sh.2.1
  have h8 := ok.sh.R8
  have hm0 := ok.h0
  have hm5 := ok.h5
  have hl8 := ok.l8
  refine st_drop wd (tv_call (ta_c (tv_v rfl hu) ta_n) ⟨hm0, hm5, n, R, ok.same⟩) fun H1 s1 w1 => ?_
  refine st_drop w1 (tv_call (ta_c (tv_v rfl hv) (ta_c tv_i (ta_c tv_i ta_n))) ⟨a0, a8⟩) fun H2 s2 w2 => ?_
  refine st_asg (r := qN) (x := p0.n) w2 (tv_prop (tv_ixA (tv_v rfl hu) tv_i (atI_nat (j := 0) hp0)) pln_ins trivial) fun vw G3 H3 g3 w3 s3 hvw => ?_
  refine st_asg (r := qN) (x := p0.R) w3 (tv_prop (tv_ixA (tv_v rfl (hu.mo g3)) tv_i (atI_nat (j := 0) hp0)) pln_ins trivial) fun vr G4 H4 g4 w4 s4 hvr => ?_
  rw [en] at hvw
  rw [eR] at hvr
  refine st_asg (r := qL K (qL K (qT K (qQ K)))) (x := hs.map fun p => p.sh) w4 (tv_map (it_seq (tv_v rfl ((hu.mo g3).mo g4))) tg1 (own1 (by decide)) (by omega) fun D i p G6 σ6 hp6 g6 ⟨vp, ep, hvp⟩ => ?_) fun vs G5 H5 g5 w5 s5 hvs => ?_
  · subst ep
    exact tv_prop (tv_v rfl hvp) pln_ins trivial
  have g35 := (g3.trans g4).trans g5
  refine st_asg (r := qL K (qL K (qL K (qQ K)))) (x := [startL hs.length L]) w5 ?_ fun vst G6 H6 g6 w6 s6 hst => ?_
  · refine tv_Ls (tv_lst1 ?_)
    refine (tv_call (ta_c (tv_lenA (tv_v rfl (hu.mo g35))) (ta_c (tv_call (ta_c (tv_v rfl (hv.mo g35)) (ta_c (tv_v rfl ((hvr.mo g5))) ta_n)) a0) ta_n)) ⟨by omega, by show (hs.length : Int) ≤ 5; omega, by show limL a R ≤ 8; rw [← hL]; exact hl8⟩).eq ?_
    show startL ((hs.length : Int)).toNat (limL a R) = _
    rw [← hL, Int.toNat_natCast]
  refine st_asg (r := qI) (x := 0) w6 tv_i fun vat G7 H7 g7 w7 s7 hat => ?_
  have s17 := ((((((s1.trans s2).trans s3).trans s4).trans s5).trans s6).trans s7)
  have g57 := g6.trans g7
  have hvw7 := ((hvw.mo g4).mo g5).mo g57
  have hvr7 := (hvr.mo g5).mo g57
  have hvs7 := hvs.mo g57
  refine st_forS w7 (it_rng1 (tv_v rfl hvr7.nI) (by omega)) tg1
    (fun i σ G' H' => ∃ (vst vat : V) (o8 o9 o10 o11 o12 o13 : Option V), σ = [some u, some v, some vw, some vr, some vs, none, some vst, some vat, o8, o9, o10, o11, o12, o13, none] ∧ Same H H' ∧ Has (qL K (qL K (qL K (qQ K)))) G' vst ((rowsL n i).map (stF n hs L)) ∧ Has qI G' vat ((begL n i).length : Int))
    (fun G' H' g s w => ⟨vst, vat, none, none, none, none, none, none, rfl, s17.trans s, (hst.mo g7).mo g, hat.mo g⟩) ?_ ?_
  · rintro i x σ1 G8 H8 G9 H9 σ2 hx ⟨vst, vat, o8, o9, o10, o11, o12, o13, rfl, s8, hst, hat⟩ g8 g9 s9 w9 ⟨vx, rfl, hvx⟩ N hN
    have hi : i < R := by
      have := (List.getElem?_eq_some_iff.mp hx).1
      rw [List.length_range] at this
      exact this
    have hrl := ok.sh.rows (k := i) (by omega)
    have hrl1 := ok.sh.rows (k := i + 1) (by omega)
    refine st_new (q := qL K (qL K (qQ K))) w9 fun p G10 hp10 s10 w10 o10 => ?_
    have hpn : H p = none := by
      cases e : H p with
      | none => rfl
      | some u => rw [(s8.trans s9) _ _ e] at hp10; cases hp10
    refine st_forS w10 (it_list (tv_v rfl (hst.mo g9))) tg1
      (fun j σ G' H' => ∃ (vat : V) (o10 o11 o12 o13 : Option V), σ = [some u, some v, some vw, some vr, some vs, none, some vst, some vat, some vx, some (.ref p), o10, o11, o12, o13, none] ∧ Same H H' ∧ Has qI G' vat (((begL n i).length + j : Nat) : Int) ∧ OwL (qL K (qL K (qQ K))) O G' H' p (((rowsL n i).take j).flatMap fun t => (List.range n).map fun d => stF n hs L (t ++ [d])))
      (fun G' H' g s w => ⟨vat, _, _, _, _, rfl, ((s8.trans s9).trans s10).trans s, (hat.mo g9).mo g, by rw [List.take_zero]; exact o10.on g s⟩) ?_ ?_
    · rintro j st σ3 G11 H11 G12 H12 σ4 hst2 ⟨vat2, q10, q11, q12, q13, rfl, s11, hat2, o11⟩ g11 g12 s12 w12 ⟨vst2, rfl, hvst2⟩ N2 hN2
      rw [List.getElem?_map] at hst2
      obtain ⟨t, ht, et⟩ := Option.map_eq_some_iff.mp hst2
      obtain ⟨tl, td⟩ := rowsL_at (List.mem_of_getElem? ht)
      have hj := (List.getElem?_eq_some_iff.mp ht).1
      have hbx : bidx n t = (begL n i).length + j := by rw [bidx_eq tl, rowsL_idx ht]
      have bst := ok.st t td (by omega)
      have sq := sq_stF n hs L t
      subst et
      have g912 := (g9.trans g11).trans g12
      refine st_asg w12 (tv_call (ta_c (tv_v rfl hvst2) ta_n) ⟨L, hs.length, sq, hm0, hm5, hl8, bst⟩) fun vf G13 H13 g13 w13 s13 hvf => ?_
      have hvf : Has (qL K (qL K (qQ K))) G13 vf (turnedL (stF n hs L t)) := hvf
      have gall := (g8.trans g912).trans g13
      have o13' := (o11.on g12 s12).on g13 s13
      refine st_forS w13 (it_rng1 (tv_v rfl (hvw7.mo gall).nI) (by omega)) tg1
        (fun d σ G' H' => ∃ (o12 o13 : Option V), σ = [some u, some v, some vw, some vr, some vs, none, some vst, some vat2, some vx, some (.ref p), some vst2, some vf, o12, o13, none] ∧ Same H H' ∧ OwL (qL K (qL K (qQ K))) O G' H' p ((((rowsL n i).take j).flatMap fun t => (List.range n).map fun d => stF n hs L (t ++ [d])) ++ (List.range d).map fun d => stF n hs L (t ++ [d])))
        (fun G' H' g s w => ⟨q12, q13, rfl, ((s11.trans s12).trans s13).trans s, by rw [List.range_zero, List.map_nil, List.append_nil]; exact o13'.on g s⟩) ?_ ?_
      · rintro d xd σ5 G14 H14 G15 H15 σ6 hxd ⟨r12, r13, rfl, s14, o14⟩ g14 g15 s15 w15 ⟨vd, rfl, hvd⟩ N3 hN3
        have hd : d < n := by
          have := (List.getElem?_eq_some_iff.mp hxd).1
          rw [List.length_range] at this
          exact this
        have exd : xd = d := by
          rw [List.getElem?_range hd] at hxd
          exact (Option.some.inj hxd).symm
        subst exd
        have g1315 := g14.trans g15
        have hsq := sq_turned sq
        refine st_asg (r := qL K (qQ K)) (x := partsL n hs t xd) w15 ?_ fun vpt G16 H16 g16 w16 s16 hpt => ?_
        · have e : partsL n hs t xd = (hs.map fun p => p.sh).map fun s => 1 - (shF n s t).getD xd 0 := by
            unfold partsL
            rw [List.map_map]
            rfl
          rw [e]
          refine tv_map (it_list (tv_v rfl ((hvs7.mo gall).mo g1315))) tg1 (own1 (by decide)) (by rw [List.length_map]; omega) fun D i2 sh2 G17 σ7 hs2 g17 ⟨vt, evt, hvt⟩ => ?_
          subst evt
          rw [List.getElem?_map] at hs2
          obtain ⟨p2, hp2, ep2⟩ := Option.map_eq_some_iff.mp hs2
          have mp2 : p2 ∈ hs := List.mem_of_getElem? hp2
          subst ep2
          obtain ⟨l1, l2⟩ := ok.sB p2 mp2 t td (by omega)
          have hlen := ok.len p2 mp2
          have hb : bidx n t < p2.sh.length := by rw [hlen]; exact begL_lt (by omega) td
          have hg1 : p2.sh[bidx n t]? = some (shF n p2.sh t) := by
            unfold shF
            rw [List.getD_eq_getElem?_getD, List.getElem?_eq_getElem hb]
            rfl
          have hxl : xd < (shF n p2.sh t).length := by omega
          have hg2 : (shF n p2.sh t)[xd]? = some ((shF n p2.sh t).getD xd 0) := by
            rw [List.getD_eq_getElem?_getD, List.getElem?_eq_getElem hxl]
            rfl
          obtain ⟨bx, b1x⟩ := l2 _ (List.mem_of_getElem? hg2)
          have hat17 := ((hat2.mo (((g12.trans g13).trans g1315))).mo g17)
          exact tv_call (ta_c tv_R1 (ta_c (tv_QR (tv_ixT (tv_ixL (tv_v rfl hvt) (tv_v rfl hat17) (atI_nat (by rw [← hbx]; exact hg1))) (tv_v rfl (hvd.mo g17).nI) (atI_nat hg2)) bx) ta_n)) ⟨bq_one, bx⟩
        · have bp : ∀ y ∈ partsL n hs t xd, Bq y := fun y hy => by
            obtain ⟨p2, hp2, e2⟩ := List.mem_map.mp hy
            obtain ⟨l1, l2⟩ := ok.sB p2 hp2 t td (by omega)
            have hxl : xd < (shF n p2.sh t).length := by omega
            rw [← e2, List.getD_eq_getElem?_getD, List.getElem?_eq_getElem hxl]
            exact (l2 _ (List.getElem_mem hxl)).2
          have hlen : ((((rowsL n i).take j).flatMap fun t => (List.range n).map fun d => stF n hs L (t ++ [d])) ++ (List.range xd).map fun d => stF n hs L (t ++ [d])).length < 10000 := by
            rw [List.length_append, flat_len (n := n) (fun t => by rw [List.length_map, List.length_range]), List.length_take, List.length_map, List.length_range]
            have := Nat.mul_le_mul (show min j (rowsL n i).length ≤ 256 by omega) hn5
            omega
          refine st_appL (y := stF n hs L (t ++ [xd])) w16 ((o14.on g15 s15).on g16 s16) rfl hlen ?_ fun G18 H18 g18 w18 s18 o18 => hN3 _ G18 H18 (g16.trans g18) w18 ⟨some vd, some vpt, rfl, s18.same ((s14.trans s15).trans s16) hpn, ?_⟩
          · rw [stF_snoc]
            exact tv_call (ta_c (tv_v rfl ((hvf.mo g1315).mo g16)) (ta_c (tv_v rfl hpt) ta_n)) ⟨by show (turnedL (stF n hs L t)).length < 10000; rw [hsq.1]; omega, by show (partsL n hs t xd).length < 10000; rw [partsL_len]; omega, bq_turned hm0 sq bst, bp⟩
          · rw [List.range_succ, List.map_append, ← List.append_assoc]
            exact o18
      · rintro σ' G' H' g' w' ⟨r12, r13, rfl, s14, o14⟩
        rw [List.length_range] at o14
        refine st_augL w' rfl (((hat2.mo g12).mo g13).mo g') tv_i fun v19 G19 H19 g19 w19 s19 h19 => hN2 _ G19 H19 ((g13.trans g').trans g19) w19 ⟨v19, some vst2, some vf, r12, r13, rfl, s14.trans s19, ?_, ?_⟩
        · refine ⟨?_⟩
          rw [show v19 = _ from h19.h]
          show V.int ((((begL n i).length + j : Nat) : Int) + 1) = V.int (((begL n i).length + (j + 1) : Nat) : Int)
          congr 1
        · rw [flat_take ht]
          exact o14.on g19 s19
    · rintro σ' G' H' g' w' ⟨vat2, q10, q11, q12, q13, rfl, s11, hat2, o11⟩
      rw [List.length_map, List.take_length] at o11
      rw [List.length_map] at hat2
      obtain ⟨G20, g20, w20, h20⟩ := o11.fin w'
      have e : ((rowsL n i).flatMap fun t => (List.range n).map fun d => stF n hs L (t ++ [d])) = (rowsL n (i + 1)).map (stF n hs L) := by
        rw [rowsL]
        unfold nextL
        rw [List.map_flatMap]
        congr 1
        funext t
        rw [List.map_map]
        rfl
      rw [e] at h20
      refine st_asgL w20 (tv_listL (tv_Ls (tv_v rfl h20))) fun v21 G21 H21 g21 w21 s21 h21 => hN _ G21 H21 ((g'.trans g20).trans g21) w21 ⟨v21, vat2, some vx, some (.ref p), q10, q11, q12, q13, rfl, s11.trans s21, h21, ?_⟩
      have e2 : (begL n (i + 1)).length = (begL n i).length + (rowsL n i).length := by
        show (begL n i ++ rowsL n i).length = _
        rw [List.length_append]
      rw [e2]
      exact (hat2.mo g20).mo g21
  · rintro σ' G' H' g' w' ⟨vst, vat, o8, o9, o10, o11, o12, o13, rfl, s8, hst, hat⟩
    rw [List.length_range] at hst
    have hrl := ok.sh.rows (Nat.le_refl _)
    have hmin : ∀ t, Dig n t → t.length ≤ R → ∃ row, (stF n hs L t)[L]? = some row ∧ (stF n hs L t).getD L [] = row ∧ 0 < row.length ∧ row.length ≤ 5 ∧ (∀ x ∈ row, Bq x) ∧ Bq (minQ row) := fun t td tl => by
      have sq := sq_stF n hs L t
      obtain ⟨row, hrow⟩ : ∃ r, (stF n hs L t)[L]? = some r := get_of (by rw [sq.1]; omega)
      have hm := List.mem_of_getElem? hrow
      have rl := sq.2 row hm
      have bb := ok.st t td tl row hm
      exact ⟨row, hrow, by rw [List.getD_eq_getElem?_getD, hrow]; rfl, by omega, by omega, bb, bb _ (min_in (List.length_pos_iff.mp (by omega)))⟩
    refine st_ret w' (tv_make (ta_c (tv_v rfl (hvw7.mo g')) (ta_c (tv_v rfl (hvr7.mo g')) (ta_c (r := qL K (qR K)) (x := swC n R hs L) ?_ ta_n))) ⟨ok.sh, ?_⟩) fun v' H'' s hv => kk v' H'' (s8.trans s) hv
    · have e : swC n R hs L = ((rowsL n R).map (stF n hs L)).map fun st => minQ (st.getD L []) := by
        unfold swC
        rw [List.map_map]
        rfl
      rw [e]
      refine tv_map (it_list (tv_v rfl hst)) tg1 (own1 (by decide)) (by rw [List.length_map]; omega) fun D i st G22 σ22 hx g22 ⟨vx, ex, hvx⟩ => ?_
      subst ex
      rw [List.getElem?_map] at hx
      obtain ⟨t, ht, et⟩ := Option.map_eq_some_iff.mp hx
      obtain ⟨tl, td⟩ := rowsL_at (List.mem_of_getElem? ht)
      subst et
      obtain ⟨row, h1, h2, h3, h4, h5, h6⟩ := hmin t td (by omega)
      rw [h2]
      exact tv_QR (tv_call (ta_c (tv_RL h5 (tv_ixL (tv_v rfl hvx) (tv_neg tv_i) (atI_lst (sq_stF n hs L t).1 h1))) ta_n) ⟨h3, by show row.length < 10000; omega⟩) h6
    · show (swC n R hs L).length = n ^ R
      unfold swC
      rw [List.length_map, rowsL_len]
end
end Nb
set_option Elab.async false
set_option linter.all false
set_option maxRecDepth 100000
set_option maxHeartbeats 4000000
namespace Nb
open PySem L2
open PyProof.Rows (envOfC)
/-! ### called with the keyword's default -/
structure ProD (P : Program) (w : World) (K : PySem.W.Frag) (mg : PySem.Str → Option Value) (base : Heap) (x : PySem.Str) (ps : List PySem.Str) (dvs : List V) (k : Nat) (sp : Sp) : Prop where
  ex : ∃ (f : Addr) (fd : FuncData) (ds : List Value), mg x = some (.ref f) ∧ PySem.W.keepIn K (.ref f) = true ∧ Binds K fd ps ds ∧ Vals dvs ds ∧ FnOk P w K mg base CX0 k f fd ps sp
section
variable {X : Cx} {P : Program} {w : World} {K : PySem.W.Frag} {mg : PySem.Str → Option Value} {base : Heap} {x : PySem.Str} {p pos : Pos} {e : Expr} {es : List Expr} {t : TA} {ps : List PySem.Str} {dvs : List V} {j k : Nat} {sp : Sp}
theorem pe_clD (C : ProD P w K mg base x ps dvs j sp) (hr : Room k X.A) (ha : PA X (e :: es) t) (hj : j ≤ k := by decide) (hP : X.prog = P := by rfl) (hw : X.w = w := by rfl) (hK : X.K = K := by rfl) (hM : X.mg = mg := by rfl) (hB : X.base = base := by rfl) (hg : Gl X x := by rfl) (hdb : (x == ("__debug__" : PySem.Str)) = false := by decide)
    (he : starEach (e :: es) X.env = (false, eval e X.env) :: starEach es X.env := by rfl) (hpl : (backTo pos (starEach es X.env)).any (·.1) = false := by rfl) : PE X (.Call (.Name x p) (e :: es) [] pos) (tCall sp dvs E0 t) := by
  subst hP hw hK hM hB
  obtain ⟨f, fd, ds, hm, hk, hb, hd, F⟩ := C.ex
  exact pe_call F (hr.mono hj) hg hm hk hb hd pass0 ha hdb he hpl
theorem mk_proD {x name qual : PySem.Str} {st : Stmt} {kw : PySem.Str} {v : V} {ps : List PySem.Str} {n k : Nat} {sp : Sp} (F : FnF K mg x name qual st [(kw, v)]) (hn : n + 1 = ps.length)
    (hb : ∀ (D : Addr) (doc pm : Value) (an : Option Addr) (cdv ct : Value) (us ks : List Value), us.length = n → ks.length = 1 → KwChain D ([kw].zip ks) (bindArgs (PySem.W.fnOf name qual (defArgs st) (defBody st) (defScope st) .none (.ref D) doc pm an cdv ct) ⟨us, []⟩) (ps.zip (us ++ ks)))
    (h : ∀ f fd, FunD K name qual (defArgs st) (defBody st) (defScope st) [] [(kw, v)] f fd → FnOk P w K mg base CX0 k f fd ps sp) : ProD P w K mg base x ps [v] k sp := by
  obtain ⟨f, ⟨fd, F⟩, hg⟩ := F.ex
  obtain ⟨ds, h1, h2⟩ := F.binds0 (ps := ps) n (by simp) hn (fun D doc pm an cdv ct us ks e1 e2 => hb D doc pm an cdv ct us ks e1 e2)
  exact ⟨f, fd, ds, hg, F.kp, h2, h1, h f fd F⟩
theorem tv_callD {α β γ : Type} {O : List Addr} {σ : St} {G : Hp} {te : TE} {r1 : Rl α} {r2 : Rl β} {q : Rl γ} {a : α} {b : β} {v : V} {pr : α × β × Unit → Prop} {f : α × β × Unit → γ} {E : XK} [Mo r1] (h : Tv O te σ G r1 a) (hv : ∀ G, r2 G v b) (p : pr (a, b, ())) :
    Tv O (tCall (spP (raC r1 (raC r2 raN)) pr q f) [v] E (tCons te tNil)) σ G q (f (a, b, ())) := fun H w Q k =>
  h H w _ fun u H1 s1 h1 => ⟨O, (a, b, ()), (w.same s1).dm, ⟨u, [v], rfl, h1, v, [], rfl, hv _, rfl⟩, p, fun v' H2 s2 h2 => k v' H2 (s1.trans s2) h2⟩
end
def swT (hs : List Pln) (a : Int) : Tab := ⟨(hdP hs).n, (hdP hs).R, swC (hdP hs).n (hdP hs).R hs (limL a (hdP hs).R)⟩
structure AskOk (hs : List Pln) (a : Int) : Prop where
  a0 : 0 ≤ a
  a8 : a ≤ 8
  sw : SwOk (hdP hs).n (hdP hs).R hs (limL a (hdP hs).R)
  fo : FoldOk (swT hs a).n (swT hs a).R (swT hs a).cs
section
variable {P : Program} {w : World} {K : PySem.W.Frag} {mg : PySem.Str → Option Value} {base : Heap}
theorem FoldOk.top {n R : Nat} {cs : List Rat} (h : FoldOk n R cs) : Bq (vF n cs R []) := h.v R [] (fun _ z => by cases z) (by simp)
theorem sc_switch_distance : FnScope n_switch_distance ["helpers", "switches"] (defScope s_switch_distance) := ⟨rfl, rfl, rfl, by decide +kernel, rfl, by decide +kernel, by decide +kernel⟩
theorem ok_switch_distance (T : Ctx P w K mg base) : ProK P w K mg base "switch_distance" ["helpers", "switches"] 1 ["switches"] 8 (spP (raC (qSq K (qPln K)) (raC qI raN)) (fun x => AskOk x.1 x.2.1) (qQ K) fun x => -vF (swT x.1 x.2.1).n (swT x.1 x.2.1).cs (swT x.1 x.2.1).R []) := by
  refine mk_proK T.d_switch_distance (fun _ _ _ _ _ _ us ws h1 h2 => match us, ws, h1, h2 with | [_], [_], _, _ => rfl) fun f fd F => ?_
  refine def2 F sc_switch_distance rfl fun cdv A outer s H E O G 
    u v hs a hr wd hu hv hp Q k => ⟨_, (pss_one (ps_ret (pe_cl (ok_negate T) hr (pa_cons (pe_cl (ok_wide_fold T) hr (pa_cons (pe_clK (ok_switch_table T) hr (pa_cons (pv 0) pa_nil) (pk_cons (pv 1) pk_nil)) pa_nil)) pa_nil)))), ?_⟩
  have hp : AskOk hs a := hp
  exact st_ret wd (tv_call (ta_c (tv_QR (tv_call (ta_c (tv_clK (tv_v rfl hu) (tv_v rfl hv) ⟨hp.a0, hp.a8, hp.sw⟩) ta_n) hp.fo) hp.fo.top) ta_n) trivial) k
theorem sc_switch_chooser : FnScope n_switch_chooser ["helpers", "switches"] (defScope s_switch_chooser) := ⟨rfl, rfl, rfl, by decide +kernel, rfl, by decide +kernel, by decide +kernel⟩
theorem fn_switch_chooser (T : Ctx P w K mg base) (f : Addr) (fd : FuncData) (F : FunD K "switch_chooser" "switch_chooser" (defArgs s_switch_chooser) (defBody s_switch_chooser) (defScope s_switch_chooser) [] [("switches", .int 1)] f fd) :
    FnOk P w K mg base CX0 10 f fd ["helpers", "switches"] (spP (raC (qSq K (qPln K)) (raC qI raN)) (fun x => AskOk x.1 x.2.1) (qPln K) fun x => keepP (swT x.1 x.2.1).n (swT x.1 x.2.1).R (swT x.1 x.2.1).cs) := by
  refine def2 F sc_switch_chooser rfl fun cdv A outer s H E O G u v hs a hr wd hu hv hp Q k => ⟨_, (pss_one (ps_ret (pe_cl (ok_wide_keeper T) hr (pa_cons (pe_clK (ok_switch_table T) hr (pa_cons (pv 0) pa_nil) (pk_cons (pv 1) pk_nil)) pa_nil)))), ?_⟩
  have hp : AskOk hs a := hp
  exact st_ret wd (tv_call (ta_c (tv_clK (tv_v rfl hu) (tv_v rfl hv) ⟨hp.a0, hp.a8, hp.sw⟩) ta_n) hp.fo) k
theorem sc_switch_foe : FnScope n_switch_foe ["helpers", "switches"] (defScope s_switch_foe) := ⟨rfl, rfl, rfl, by decide +kernel, rfl, by decide +kernel, by decide +kernel⟩
theorem fn_switch_foe (T : Ctx P w K mg base) (f : Addr) (fd : FuncData) (F : FunD K "switch_foe" "switch_foe" (defArgs s_switch_foe) (defBody s_switch_foe) (defScope s_switch_foe) [] [("switches", .int 1)] f fd) :
    FnOk P w K mg base CX0 10 f fd ["helpers", "switches"] (spP (raC (qSq K (qPln K)) (raC qI raN)) (fun x => AskOk x.1 x.2.1) (qPln K) fun x => breakP (swT x.1 x.2.1).n (swT x.1 x.2.1).R (swT x.1 x.2.1).cs) := by
  refine def2 F sc_switch_foe rfl fun cdv A outer s H E O G u v hs a hr wd hu hv hp Q k => ⟨_, (pss_one (ps_ret (pe_cl (ok_wide_breaker T) hr (pa_cons (pe_clK (ok_switch_table T) hr (pa_cons (pv 0) pa_nil) (pk_cons (pv 1) pk_nil)) pa_nil)))), ?_⟩
  have hp : AskOk hs a := hp
  exact st_ret wd (tv_call (ta_c (tv_clK (tv_v rfl hu) (tv_v rfl hv) ⟨hp.a0, hp.a8, hp.sw⟩) ta_n) hp.fo) k
theorem ok_switch_chooser (T : Ctx P w K mg base) : ProK P w K mg base "switch_chooser" ["helpers", "switches"] 1 ["switches"] 10 (spP (raC (qSq K (qPln K)) (raC qI raN)) (fun x => AskOk x.1 x.2.1) (qPln K) fun x => keepP (swT x.1 x.2.1).n (swT x.1 x.2.1).R (swT x.1 x.2.1).cs) :=
  mk_proK T.d_switch_chooser (fun _ _ _ _ _ _ us ws h1 h2 => match us, ws, h1, h2 with | [_], [_], _, _ => rfl) (fn_switch_chooser T)
theorem ok_switch_foe (T : Ctx P w K mg base) : ProK P w K mg base "switch_foe" ["helpers", "switches"] 1 ["switches"] 10 (spP (raC (qSq K (qPln K)) (raC qI raN)) (fun x => AskOk x.1 x.2.1) (qPln K) fun x => breakP (swT x.1 x.2.1).n (swT x.1 x.2.1).R (swT x.1 x.2.1).cs) :=
  mk_proK T.d_switch_foe (fun _ _ _ _ _ _ us ws h1 h2 => match us, ws, h1, h2 with | [_], [_], _, _ => rfl) (fn_switch_foe T)
theorem od_switch_chooser (T : Ctx P w K mg base) : ProD P w K mg base "switch_chooser" ["helpers", "switches"] [.int 1] 10 (spP (raC (qSq K (qPln K)) (raC qI raN)) (fun x => AskOk x.1 x.2.1) (qPln K) fun x => keepP (swT x.1 x.2.1).n (swT x.1 x.2.1).R (swT x.1 x.2.1).cs) :=
  mk_proD (n := 1) T.d_switch_chooser rfl (fun _ _ _ _ _ _ us ws h1 h2 => match us, ws, h1, h2 with | [_], [_], _, _ => ⟨_, _, _, _, _, _, rfl, rfl, rfl⟩) (fn_switch_chooser T)
theorem od_switch_foe (T : Ctx P w K mg base) : ProD P w K mg base "switch_foe" ["helpers", "switches"] [.int 1] 10 (spP (raC (qSq K (qPln K)) (raC qI raN)) (fun x => AskOk x.1 x.2.1) (qPln K) fun x => breakP (swT x.1 x.2.1).n (swT x.1 x.2.1).R (swT x.1 x.2.1).cs) :=
  mk_proD (n := 1) T.d_switch_foe rfl (fun _ _ _ _ _ _ us ws h1 h2 => match us, ws, h1, h2 with | [_], [_], _, _ => ⟨_, _, _, _, _, _, rfl, rfl, rfl⟩) (fn_switch_foe T)
end
end Nb
set_option Elab.async false
set_option linter.all false
set_option maxRecDepth 100000
set_option maxHeartbeats 4000000
namespace Nb
open PySem L2
open PyProof.Rows (envOfC)
/-- half as long -/
def Sh (i : Int) : Prop := i.natAbs < 2 ^ 1900
def Bh (x : Rat) : Prop := Sh x.num ∧ Sh x.den
theorem sh_sm {i : Int} (h : Sh i) : Sm i := Nat.lt_trans h (Nat.pow_lt_pow_right (by decide) (by decide))
theorem Bh.bq {x : Rat} (h : Bh x) : Bq x := ⟨sh_sm h.1, sh_sm h.2⟩
theorem sh_mul {i j : Int} (h : Sh i) (g : Sh j) : (i * j).natAbs < 2 ^ 3800 := by
  unfold Sh at *
  rw [Int.natAbs_mul]
  have e : 2 ^ 3800 = 2 ^ 1900 * 2 ^ 1900 := Nat.pow_add 2 1900 1900
  rw [e]
  exact Nat.mul_lt_mul'' h g
theorem sh_mul_sm {i j : Int} (h : Sh i) (g : Sh j) : Sm (i * j) := Nat.lt_trans (sh_mul h g) (Nat.pow_lt_pow_right (by decide) (by decide))
theorem La.bh {D b : Nat} {x : Rat} (h : La D b x) (hD : D < 2 ^ 1700) (hb : b ≤ 2 ^ 100) : Bh x := by
  obtain ⟨d, k, e, l⟩ := h
  have hz : (D : Rat) ≠ 0 := by
    intro z
    have : (0 : Rat) < (D : Rat) := Rat.natCast_pos.mpr d
    rw [z] at this
    exact absurd this (by decide)
  have ex : x = mkRat k D := by
    rw [Rat.mkRat_eq_div, ← e]
    grind
  have h1 : b * D ≤ 2 ^ 100 * D := Nat.mul_le_mul_right _ hb
  have h2 : 2 ^ 100 * D < 2 ^ 100 * 2 ^ 1700 := Nat.mul_lt_mul_of_pos_left hD (Nat.pow_pos (by decide))
  have h3 : 2 ^ 100 * 2 ^ 1700 = 2 ^ 1800 := (Nat.pow_add 2 100 1700).symm
  have h4 : 2 ^ 1800 < 2 ^ 1900 := Nat.pow_lt_pow_right (by decide) (by decide)
  have h5 : 2 ^ 1700 < 2 ^ 1900 := Nat.pow_lt_pow_right (by decide) (by decide)
  constructor
  · show x.num.natAbs < 2 ^ 1900
    rw [ex, Rat.num_mkRat, if_neg (by omega)]
    refine Nat.lt_of_le_of_lt (Int.natAbs_ediv_le_natAbs _ _) (by omega)
  · show ((x.den : Int)).natAbs < 2 ^ 1900
    rw [Int.natAbs_natCast, ex, Rat.den_mkRat, if_neg (by omega)]
    exact Nat.lt_of_le_of_lt (Nat.div_le_self _ _) (by omega)
section
variable {P : Program} {w : World} {K : PySem.W.Frag} {mg : PySem.Str → Option Value} {base : Heap}
theorem sc__law_power : FnScope n__law_power ["_law_base", "_law_times_here"] (defScope s__law_power) := ⟨rfl, rfl, rfl, by decide +kernel, rfl, by decide +kernel, by decide +kernel⟩
theorem ok__law_power (T : Ctx P w K mg base) : Pro P w K mg base "_law_power" ["_law_base", "_law_times_here"] 1 (spP (raC qN (raC qN raN)) (fun x => x.1 ≤ 5 ∧ x.2.1 ≤ 8) qN fun x => x.1 ^ x.2.1) := by
  refine mk_pro T.d__law_power (fun _ _ _ _ _ _ us hl => match us, hl with | [_, _], _ => rfl) fun f fd F => ?_
  refine def2 F sc__law_power rfl fun cdv A outer s H E O G 
    u v n m hr wd hu hv hp Q k => ⟨_, (pss_cons (ps_set (i := 2) sc__law_power.nd rfl (Or.inl rfl) pe_int)
      (pss_cons (ps_for PassesOwn.never rfl (pi_range1 (by rfl) T.n_range (pa_cons (pv 1) pa_nil)) (pg_name (i := 3) sc__law_power.nd rfl (Or.inl rfl)) (pss_one (ps_set (i := 2) sc__law_power.nd rfl (Or.inl rfl) (pe_op op_mulW (pv 2) (pv 0)))))
      (pss_one (ps_ret (pv 2))))), ?_⟩
  obtain ⟨h1, h2⟩ : n ≤ 5 ∧ m ≤ 8 := hp
  refine st_asg wd tv_i fun v0 G1 H1 g1 w1 s1 h0 => ?_
  refine st_forS w1 (it_rng1 (tv_v rfl (hv.mo g1).nI) (by omega)) tg1 (fun i σ G' H' => ∃ (v' : V) (o : Option V), σ = [some u, some v, some v', o] ∧ Same H H' ∧ Has qN G' v' (n ^ i))
    (fun G' H' g s w => ⟨v0, none, rfl, s1.trans s, ⟨h0.h⟩⟩) ?_ ?_
  · rintro i x σ1 G5 H5 G6 H6 σ2 hx ⟨v', o, rfl, s5, hv'⟩ g5 g6 s6 w6 ⟨va, rfl, ha⟩ N hN
    have hi : i < m := by
      have := (List.getElem?_eq_some_iff.mp hx).1
      rw [List.length_range] at this
      exact this
    refine st_asgL w6 (tv_opI (tv_v rfl (hv'.mo g6).nI) (tv_v rfl (((hu.mo g1).mo g5).mo g6).nI) (m_sm ?_ ?_)) fun v7 G7 H7 g7 w7 s7 h7 => hN _ G7 H7 g7 w7 ⟨v7, some va, rfl, (s5.trans s6).trans s7, ⟨?_⟩⟩
    · refine sm_small ?_
      have : n ^ i ≤ 5 ^ 8 := Nat.le_trans (Nat.pow_le_pow_left h1 i) (Nat.pow_le_pow_right (by decide) (by omega))
      have h9 : (5 : Nat) ^ 8 = 390625 := by decide
      omega
    · exact sm_small (by omega)
    · rw [show v7 = _ from h7.h]
      show V.int ((n ^ i : Nat) * (n : Int)) = V.int ((n ^ (i + 1) : Nat) : Int)
      rw [Nat.pow_succ, Int.natCast_mul]
  · rintro σ' G' H' g' w' ⟨v', o, rfl, s5, hv'⟩
    rw [List.length_range] at hv'
    exact st_ret w' (tv_v rfl hv') fun v H'' s hv => k v H'' (s5.trans s) hv
theorem sc__law_gcd : FnScope n__law_gcd ["_law_left", "_law_right"] (defScope s__law_gcd) := ⟨rfl, rfl, rfl, by decide +kernel, rfl, by decide +kernel, by decide +kernel⟩
theorem ok__law_gcd (T : Ctx P w K mg base) : Pro P w K mg base "_law_gcd" ["_law_left", "_law_right"] 1 (spP (raC qI (raC qI raN)) (fun _ => True) qI fun x => (Int.gcd x.1 x.2.1 : Int)) := by
  refine mk_pro T.d__law_gcd (fun _ _ _ _ _ _ us hl => match us, hl with | [_, _], _ => rfl) fun f fd F => ?_
  refine def2 F sc__law_gcd rfl fun cdv A outer s H E O G 
    u v a b hr wd hu hv hp Q k => ⟨_, (pss_cons (ps_set (i := 0) sc__law_gcd.nd rfl (Or.inl rfl) (c_abs (K := K) rfl T.n_abs (pa_cons (pv 0) pa_nil)))
      (pss_cons (ps_set (i := 1) sc__law_gcd.nd rfl (Or.inl rfl) (c_abs (K := K) rfl T.n_abs (pa_cons (pv 1) pa_nil)))
      (pss_cons (ps_while PassesOwn.never (pt_cmpR op_gt (pv 1) pe_int (nomark _)) (pss_cons (ps_set (i := 2) sc__law_gcd.nd rfl (Or.inl rfl) (pe_op op_mod (c_int (K := K) rfl T.n_int (pa_cons (pv 0) pa_nil)) (pv 1)))
      (pss_cons (ps_set (i := 0) sc__law_gcd.nd rfl (Or.inl rfl) (pv 1))
      (pss_one (ps_set (i := 1) sc__law_gcd.nd rfl (Or.inl rfl) (pv 2))))))
      (pss_one (ps_ret (pv 0)))))), ?_⟩
  refine st_asg wd (tv_abs (tv_v rfl hu)) fun v0 G1 H1 g1 w1 s1 h0 => ?_
  refine st_asg w1 (tv_abs (tv_v rfl (hv.mo g1))) fun v1 G2 H2 g2 w2 s2 h1 => ?_
  refine st_whileS w2 (fun m σ G1 H1 => ∃ (p q : Nat) (o : Option V), σ = [some (.int p), some (.int q), o] ∧ Same H H1 ∧ m = q ∧ Nat.gcd p q = Nat.gcd a.natAbs b.natAbs) b.natAbs ⟨a.natAbs, b.natAbs, none, by rw [show v0 = _ from h0.h, show v1 = _ from h1.h]; rfl, s1.trans s2, rfl, rfl⟩ ?_
  rintro m σ G3 H3 ⟨p, q, o, rfl, sh, em, hg⟩ sg w3
  have hP : Has qI G3 (.int p) (p : Int) := ⟨rfl⟩
  have hQ : Has qI G3 (.int q) (q : Int) := ⟨rfl⟩
  refine ⟨_, tt_opB (tv_v rfl hQ) tv_i, fun H4 s4 w4 => ?_⟩
  by_cases hq : 0 < q
  · rw [decide_eq_true (show (0 : Int) < (q : Int) by omega), if_pos rfl]
    intro N hN
    refine st_asg w4 (tv_opI (tv_int (tv_v rfl hP)) (tv_v rfl hQ) (show (0 : Int) < q by omega)) fun v5 G5 H5 g5 w5 s5 h5 => ?_
    refine st_asg w5 (tv_v rfl (hQ.mo g5)) fun v6 G6 H6 g6 w6 s6 h6 => ?_
    refine st_asgL w6 (tv_v rfl (h5.mo g6)) fun v7 G7 H7 g7 w7 s7 h7 => hN (p % q) _ G7 H7 (by rw [em]; exact Nat.mod_lt _ hq) ((g5.trans g6).trans g7) w7 ⟨q, p % q, some v5, ?_, (((sh.trans s4).trans s5).trans s6).trans s7, rfl, ?_⟩
    · rw [show v6 = _ from h6.h, show v7 = _ from h7.h, show v5 = _ from h5.h]
      rfl
    · rw [← hg, Nat.gcd_comm p q, Nat.gcd_rec q p]
      exact Nat.gcd_comm _ _
  · rw [decide_eq_false (show ¬ (0 : Int) < (q : Int) by omega), if_neg (by decide)]
    refine st_ret w4 (tv_v rfl hP) fun v H' s hv => k v H' ((sh.trans s4).trans s) ?_
    rw [show v = _ from hv]
    show V.int (p : Int) = V.int ((a.natAbs.gcd b.natAbs : Nat) : Int)
    rw [← hg, show q = 0 by omega, Nat.gcd_zero_right]
theorem sc__law_low : FnScope n__law_low ["_law_top", "_law_bottom"] (defScope s__law_low) := ⟨rfl, rfl, rfl, by decide +kernel, rfl, by decide +kernel, by decide +kernel⟩
theorem ok__law_low (T : Ctx P w K mg base) : Pro P w K mg base "_law_low" ["_law_top", "_law_bottom"] 2 (spP (raC qI (raC qI raN)) (fun x => 0 < x.2.1 ∧ Sm x.2.1) (qQ K) fun x => mkRat x.1 x.2.1.toNat) := by
  refine mk_pro T.d__law_low (fun _ _ _ _ _ _ us hl => match us, hl with | [_, _], _ => rfl) fun f fd F => ?_
  refine def2 F sc__law_low rfl fun cdv A outer s H E O G 
    u v a b hr wd hu hv hp Q k => ⟨_, (pss_cons (ps_if (pt_cmpR op_eq (pv 1) pe_int (nomark _)) (pss_one (ps_ret (pe_tup (pa_cons (pv 0) (pa_cons pe_int pa_nil))))) pss_nil)
      (pss_cons (ps_if (pt_cmpR op_lt (pv 1) pe_int (nomark _)) (pss_cons (ps_set (i := 0) sc__law_low.nd rfl (Or.inl rfl) (pe_op op_sub pe_int (pv 0)))
      (pss_one (ps_set (i := 1) sc__law_low.nd rfl (Or.inl rfl) (pe_op op_sub pe_int (pv 1))))) pss_nil)
      (pss_cons (ps_set (i := 2) sc__law_low.nd rfl (Or.inl rfl) (pe_cl (ok__law_gcd T) hr (pa_cons (pv 0) (pa_cons (pv 1) pa_nil))))
      (pss_one (ps_ret (pe_tup (pa_cons (pe_op op_fdivW (pv 0) (pv 2)) (pa_cons (pe_op op_fdivW (pv 1) (pv 2)) pa_nil)))))))), ?_⟩
  have hp : 0 < b ∧ Sm b := hp
  refine st_if wd ((tt_eqI (tv_v rfl hv) tv_i).eq (b := false) (by rw [decide_eq_false (by omega)])) (fun z => nomatch z) fun _ H1 s1 w1 => ?_
  refine st_if w1 ((tt_opB (tv_v rfl hv) tv_i).eq (b := false) (by rw [decide_eq_false (by omega)])) (fun z => nomatch z) fun _ H2 s2 w2 => ?_
  refine st_asg w2 (tv_call (ta_c (tv_v rfl hu) (ta_c (tv_v rfl hv) ta_n)) trivial) fun c G3 H3 g3 w3 s3 hc => ?_
  have hg := gcd_pos (a := a) hp.1
  have hd : CDivW a (Int.gcd a b : Int) := wide_div hg (hp.2.le (by omega) (gcd_le hp.1)) (by decide) (by decide)
  refine st_ret w3 (tv_pair (K := K) (tv_opI (tv_v rfl (hu.mo g3)) (tv_v rfl hc) hd) (tv_opI (tv_v rfl (hv.mo g3)) (tv_v rfl hc) hd)) fun v H' s hv => k v H' (((s1.trans s2).trans s3).trans s) ?_
  exact pr_qQ hv (low_num hp.1) (low_den hp.1)
theorem den_toNat (x y : Rat) : ((x.den : Int) * (y.den : Int)).toNat = x.den * y.den := by
  rw [← Int.natCast_mul, Int.toNat_natCast]
theorem sc__law_plus : FnScope n__law_plus ["_law_left", "_law_right"] (defScope s__law_plus) := ⟨rfl, rfl, rfl, by decide +kernel, rfl, by decide +kernel, by decide +kernel⟩
theorem ok__law_plus (T : Ctx P w K mg base) : Pro P w K mg base "_law_plus" ["_law_left", "_law_right"] 3 (spP (raC (qQ K) (raC (qQ K) raN)) (fun x => Bh x.1 ∧ Bh x.2.1) (qQ K) fun x => x.1 + x.2.1) := by
  refine mk_pro T.d__law_plus (fun _ _ _ _ _ _ us hl => match us, hl with | [_, _], _ => rfl) fun f fd F => ?_
  refine def2 F sc__law_plus rfl fun cdv A outer s H E O G 
    u v x y hr wd hu hv hp Q k => ⟨_, (pss_one (ps_ret (pe_cl (ok__law_low T) hr (pa_cons (pe_op op_add (pe_op op_mulW (pe_ix (ixT (K := K) rfl) (pv 0) pe_int (fun _ _ => rfl)) (pe_ix (ixT (K := K) rfl) (pv 1) pe_int (fun _ _ => rfl))) (pe_op op_mulW (pe_ix (ixT (K := K) rfl) (pv 1) pe_int (fun _ _ => rfl)) (pe_ix (ixT (K := K) rfl) (pv 0) pe_int (fun _ _ => rfl)))) (pa_cons (pe_op op_mulW (pe_ix (ixT (K := K) rfl) (pv 0) pe_int (fun _ _ => rfl)) (pe_ix (ixT (K := K) rfl) (pv 1) pe_int (fun _ _ => rfl))) pa_nil))))), ?_⟩
  obtain ⟨hx, hy⟩ : Bh x ∧ Bh y := hp
  have hu1 : Has (qPr K) G u (x.num, (x.den : Int)) := ⟨qQ_pr hu.h⟩
  have hv1 : Has (qPr K) G v (y.num, (y.den : Int)) := ⟨qQ_pr hv.h⟩
  refine st_ret wd ((tv_call (ta_c (tv_opJ (tv_opI (tv_fst (tv_v rfl hu1)) (tv_snd (tv_v rfl hv1)) (m_sm (sh_sm hx.1) (sh_sm hy.2))) (tv_opI (tv_fst (tv_v rfl hv1)) (tv_snd (tv_v rfl hu1)) (m_sm (sh_sm hy.1) (sh_sm hx.2)))) (ta_c (tv_opI (tv_snd (tv_v rfl hu1)) (tv_snd (tv_v rfl hv1)) (m_sm (sh_sm hx.2) (sh_sm hy.2))) ta_n)) ⟨Int.mul_pos (den_pos x) (den_pos y), sh_mul_sm hx.2 hy.2⟩)) fun v H' s hv => k v H' s ?_
  have e : mkRat (x.num * (y.den : Int) + y.num * (x.den : Int)) ((x.den : Int) * (y.den : Int)).toNat = x + y := by rw [den_toNat, ← Rat.add_def']
  have hv : qQ K _ v (mkRat (x.num * (y.den : Int) + y.num * (x.den : Int)) ((x.den : Int) * (y.den : Int)).toNat) := hv
  rw [e] at hv
  exact hv
theorem sc__law_minus : FnScope n__law_minus ["_law_left", "_law_right"] (defScope s__law_minus) := ⟨rfl, rfl, rfl, by decide +kernel, rfl, by decide +kernel, by decide +kernel⟩
theorem ok__law_minus (T : Ctx P w K mg base) : Pro P w K mg base "_law_minus" ["_law_left", "_law_right"] 3 (spP (raC (qQ K) (raC (qQ K) raN)) (fun x => Bh x.1 ∧ Bh x.2.1) (qQ K) fun x => x.1 - x.2.1) := by
  refine mk_pro T.d__law_minus (fun _ _ _ _ _ _ us hl => match us, hl with | [_, _], _ => rfl) fun f fd F => ?_
  refine def2 F sc__law_minus rfl fun cdv A outer s H E O G 
    u v x y hr wd hu hv hp Q k => ⟨_, (pss_one (ps_ret (pe_cl (ok__law_low T) hr (pa_cons (pe_op op_sub (pe_op op_mulW (pe_ix (ixT (K := K) rfl) (pv 0) pe_int (fun _ _ => rfl)) (pe_ix (ixT (K := K) rfl) (pv 1) pe_int (fun _ _ => rfl))) (pe_op op_mulW (pe_ix (ixT (K := K) rfl) (pv 1) pe_int (fun _ _ => rfl)) (pe_ix (ixT (K := K) rfl) (pv 0) pe_int (fun _ _ => rfl)))) (pa_cons (pe_op op_mulW (pe_ix (ixT (K := K) rfl) (pv 0) pe_int (fun _ _ => rfl)) (pe_ix (ixT (K := K) rfl) (pv 1) pe_int (fun _ _ => rfl))) pa_nil))))), ?_⟩
  obtain ⟨hx, hy⟩ : Bh x ∧ Bh y := hp
  have hu1 : Has (qPr K) G u (x.num, (x.den : Int)) := ⟨qQ_pr hu.h⟩
  have hv1 : Has (qPr K) G v (y.num, (y.den : Int)) := ⟨qQ_pr hv.h⟩
  refine st_ret wd ((tv_call (ta_c (tv_opJ (tv_opI (tv_fst (tv_v rfl hu1)) (tv_snd (tv_v rfl hv1)) (m_sm (sh_sm hx.1) (sh_sm hy.2))) (tv_opI (tv_fst (tv_v rfl hv1)) (tv_snd (tv_v rfl hu1)) (m_sm (sh_sm hy.1) (sh_sm hx.2)))) (ta_c (tv_opI (tv_snd (tv_v rfl hu1)) (tv_snd (tv_v rfl hv1)) (m_sm (sh_sm hx.2) (sh_sm hy.2))) ta_n)) ⟨Int.mul_pos (den_pos x) (den_pos y), sh_mul_sm hx.2 hy.2⟩)) fun v H' s hv => k v H' s ?_
  have e : mkRat (x.num * (y.den : Int) - y.num * (x.den : Int)) ((x.den : Int) * (y.den : Int)).toNat = x - y := by rw [den_toNat, ← Rat.sub_def']
  have hv : qQ K _ v (mkRat (x.num * (y.den : Int) - y.num * (x.den : Int)) ((x.den : Int) * (y.den : Int)).toNat) := hv
  rw [e] at hv
  exact hv
theorem sc__law_times : FnScope n__law_times ["_law_left", "_law_right"] (defScope s__law_times) := ⟨rfl, rfl, rfl, by decide +kernel, rfl, by decide +kernel, by decide +kernel⟩
theorem ok__law_times (T : Ctx P w K mg base) : Pro P w K mg base "_law_times" ["_law_left", "_law_right"] 3 (spP (raC (qQ K) (raC (qQ K) raN)) (fun x => Bh x.1 ∧ Bh x.2.1) (qQ K) fun x => x.1 * x.2.1) := by
  refine mk_pro T.d__law_times (fun _ _ _ _ _ _ us hl => match us, hl with | [_, _], _ => rfl) fun f fd F => ?_
  refine def2 F sc__law_times rfl fun cdv A outer s H E O G 
    u v x y hr wd hu hv hp Q k => ⟨_, (pss_one (ps_ret (pe_cl (ok__law_low T) hr (pa_cons (pe_op op_mulW (pe_ix (ixT (K := K) rfl) (pv 0) pe_int (fun _ _ => rfl)) (pe_ix (ixT (K := K) rfl) (pv 1) pe_int (fun _ _ => rfl))) (pa_cons (pe_op op_mulW (pe_ix (ixT (K := K) rfl) (pv 0) pe_int (fun _ _ => rfl)) (pe_ix (ixT (K := K) rfl) (pv 1) pe_int (fun _ _ => rfl))) pa_nil))))), ?_⟩
  obtain ⟨hx, hy⟩ : Bh x ∧ Bh y := hp
  have hu1 : Has (qPr K) G u (x.num, (x.den : Int)) := ⟨qQ_pr hu.h⟩
  have hv1 : Has (qPr K) G v (y.num, (y.den : Int)) := ⟨qQ_pr hv.h⟩
  refine st_ret wd ((tv_call (ta_c (tv_opI (tv_fst (tv_v rfl hu1)) (tv_fst (tv_v rfl hv1)) (m_sm (sh_sm hx.1) (sh_sm hy.1))) (ta_c (tv_opI (tv_snd (tv_v rfl hu1)) (tv_snd (tv_v rfl hv1)) (m_sm (sh_sm hx.2) (sh_sm hy.2))) ta_n)) ⟨Int.mul_pos (den_pos x) (den_pos y), sh_mul_sm hx.2 hy.2⟩)) fun v H' s hv => k v H' s ?_
  have e : mkRat (x.num * y.num) ((x.den : Int) * (y.den : Int)).toNat = x * y := by rw [den_toNat, ← Rat.mul_def']
  have hv : qQ K _ v (mkRat (x.num * y.num) ((x.den : Int) * (y.den : Int)).toNat) := hv
  rw [e] at hv
  exact hv
theorem lt_parts (x y : Rat) : decide (x.num * (y.den : Int) < y.num * (x.den : Int)) = decide (x < y) := by
  have h := mkRat_lt (p := x.num) (q := (x.den : Int)) (a := y.num) (b := (y.den : Int)) (den_pos x) (den_pos y)
  rw [mkRat_nd, mkRat_nd] at h
  by_cases z : x < y
  · rw [decide_eq_true z, decide_eq_true (h.mp z)]
  · rw [decide_eq_false z, decide_eq_false (fun q => z (h.mpr q))]
theorem sc__law_below : FnScope n__law_below ["_law_left", "_law_right"] (defScope s__law_below) := ⟨rfl, rfl, rfl, by decide +kernel, rfl, by decide +kernel, by decide +kernel⟩
theorem ok__law_below (T : Ctx P w K mg base) : Pro P w K mg base "_law_below" ["_law_left", "_law_right"] 1 (spP (raC (qQ K) (raC (qQ K) raN)) (fun x => Bh x.1 ∧ Bh x.2.1) qB fun x => decide (x.1 < x.2.1)) := by
  refine mk_pro T.d__law_below (fun _ _ _ _ _ _ us hl => match us, hl with | [_, _], _ => rfl) fun f fd F => ?_
  refine def2 F sc__law_below rfl fun cdv A outer s H E O G 
    u v x y hr wd hu hv hp Q k => ⟨_, (pss_one (ps_ret (pe_cmpR op_lt (pe_op op_mulW (pe_ix (ixT (K := K) rfl) (pv 0) pe_int (fun _ _ => rfl)) (pe_ix (ixT (K := K) rfl) (pv 1) pe_int (fun _ _ => rfl))) (pe_op op_mulW (pe_ix (ixT (K := K) rfl) (pv 1) pe_int (fun _ _ => rfl)) (pe_ix (ixT (K := K) rfl) (pv 0) pe_int (fun _ _ => rfl))) (nomark _)))), ?_⟩
  obtain ⟨hx, hy⟩ : Bh x ∧ Bh y := hp
  have hu1 : Has (qPr K) G u (x.num, (x.den : Int)) := ⟨qQ_pr hu.h⟩
  have hv1 : Has (qPr K) G v (y.num, (y.den : Int)) := ⟨qQ_pr hv.h⟩
  exact st_ret wd ((tv_opB (tv_opI (tv_fst (tv_v rfl hu1)) (tv_snd (tv_v rfl hv1)) (m_sm (sh_sm hx.1) (sh_sm hy.2))) (tv_opI (tv_fst (tv_v rfl hv1)) (tv_snd (tv_v rfl hu1)) (m_sm (sh_sm hy.1) (sh_sm hx.2)))).eq (lt_parts x y)) k
theorem sc__law_sum : FnScope n__law_sum ["_law_values"] (defScope s__law_sum) := ⟨rfl, rfl, rfl, by decide +kernel, rfl, by decide +kernel, by decide +kernel⟩
theorem ok__law_sum (T : Ctx P w K mg base) : Pro P w K mg base "_law_sum" ["_law_values"] 4 (spP (raC (qSq K (qQ K)) raN) (fun x => (∀ i, Bh (sumQ (x.1.take i))) ∧ ∀ y ∈ x.1, Bh y) (qQ K) fun x => sumQ x.1) := by
  refine mk_pro T.d__law_sum (fun _ _ _ _ _ _ us hl => match us, hl with | [_], _ => rfl) fun f fd F => ?_
  refine def1 F sc__law_sum rfl fun cdv A outer s H E O G 
    u xs hr wd hu hp Q k => ⟨_, (pss_cons (ps_set (i := 1) sc__law_sum.nd rfl (Or.inl rfl) (pe_tup (pa_cons pe_int (pa_cons pe_int pa_nil))))
      (pss_cons (ps_for PassesOwn.never rfl (piA (K := K) rfl (pv 0)) (pg_name (i := 2) sc__law_sum.nd rfl (Or.inl rfl)) (pss_one (ps_set (i := 1) sc__law_sum.nd rfl (Or.inl rfl) (pe_cl (ok__law_plus T) hr (pa_cons (pv 1) (pa_cons (pv 2) pa_nil))))))
      (pss_one (ps_ret (pv 1))))), ?_⟩
  refine st_asg wd (tv_q K (x := 0) rfl rfl) fun v0 G1 H1 g1 w1 s1 h0 => ?_
  refine st_forS w1 (it_seq (tv_v rfl (hu.mo g1))) tg1 (fun i σ G' H' => ∃ (v : V) (o : Option V), σ = [some u, some v, o] ∧ Same H H' ∧ Has (qQ K) G' v (sumQ (xs.take i)))
    (fun G' H' g s w => ⟨v0, none, rfl, s1.trans s, h0.mo g⟩) ?_ ?_
  · rintro i x σ1 G2 H2 G3 H3 σ2 hx ⟨v, o, rfl, s2, hv⟩ g2 g3 s3 w3 ⟨vx, rfl, hvx⟩ N hN
    have hm : x ∈ xs := List.mem_of_getElem? hx
    refine st_asgL w3 (tv_call (ta_c (tv_v rfl (hv.mo g3)) (ta_c (tv_v rfl hvx) ta_n)) ⟨hp.1 i, hp.2 x hm⟩) fun v2 G4 H4 g4 w4 s4 h2 => ?_
    exact hN _ G4 H4 g4 w4 ⟨v2, some vx, rfl, (s2.trans s3).trans s4, by rw [sumQ_take hx]; exact h2⟩
  · rintro σ' G' H' g' w' ⟨v, o, rfl, s2, hv⟩
    rw [List.take_length] at hv
    exact st_ret w' (tv_v rfl hv) fun v H'' s hv => k v H'' (s2.trans s) hv
theorem cmpm1 {x b : Rat} : (cmpQ x b = -1) ↔ x < b := by
  unfold cmpQ
  by_cases h : x < b
  · simp [h]
  · by_cases g : b < x
    · simp [h, g]
    · simp [h, g]
theorem cmpp1 {x b : Rat} : (cmpQ x b = 1) ↔ b < x := by
  unfold cmpQ
  by_cases h : x < b
  · have : ¬ b < x := by grind
    simp [h, this]
  · by_cases g : b < x
    · simp [h, g]
    · simp [h, g]
theorem sc__law_lowest : FnScope n__law_lowest ["_law_values"] (defScope s__law_lowest) := ⟨rfl, rfl, rfl, by decide +kernel, rfl, by decide +kernel, by decide +kernel⟩
theorem ok__law_lowest (T : Ctx P w K mg base) : Pro P w K mg base "_law_lowest" ["_law_values"] 2 (spP (raC (qSq K (qQ K)) raN) (fun x => 0 < x.1.length ∧ ∀ y ∈ x.1, Bh y) (qQ K) fun x => minQ x.1) := by
  refine mk_pro T.d__law_lowest (fun _ _ _ _ _ _ us hl => match us, hl with | [_], _ => rfl) fun f fd F => ?_
  refine def1 F sc__law_lowest rfl fun cdv A outer s H E O G 
    u xs hr wd hu hp Q k => ⟨_, (pss_cons (ps_set (i := 1) sc__law_lowest.nd rfl (Or.inl rfl) (pe_ix (ixA (K := K) rfl) (pv 0) pe_int (fun _ _ => rfl)))
      (pss_cons (ps_for PassesOwn.never rfl (piA (K := K) rfl (pv 0)) (pg_name (i := 2) sc__law_lowest.nd rfl (Or.inl rfl)) (pss_one (ps_if (pt_val (pe_cl (ok__law_below T) hr (pa_cons (pv 2) (pa_cons (pv 1) pa_nil)))) (pss_one (ps_set (i := 1) sc__law_lowest.nd rfl (Or.inl rfl) (pv 2))) pss_nil)))
      (pss_one (ps_ret (pv 1))))), ?_⟩
  obtain ⟨h0, hb⟩ : 0 < xs.length ∧ ∀ y ∈ xs, Bh y := hp
  obtain ⟨x0, hx0⟩ : ∃ p, xs[0]? = some p := get_of h0
  have e0 : xs.headD 0 = x0 := by
    cases xs with
    | nil => cases hx0
    | cons a t => cases hx0; rfl
  refine st_asg wd (tv_ixA (tv_v rfl hu) tv_i (atI_nat (j := 0) hx0)) fun v0 G1 H1 g1 w1 s1 h0 => ?_
  refine st_forS w1 (it_seq (tv_v rfl (hu.mo g1))) tg1 (fun i σ G' H' => ∃ (v : V) (o : Option V) (b : Rat), σ = [some u, some v, o] ∧ Same H H' ∧ Has (qQ K) G' v b ∧ Bh b ∧ b = (xs.take i).foldl (fun b y => if cmpQ y b = -1 then y else b) (xs.headD 0))
    (fun G' H' g s w => ⟨v0, none, x0, rfl, s1.trans s, h0.mo g, hb x0 (List.mem_of_getElem? hx0), e0.symm⟩) ?_ ?_
  · rintro i x σ1 G2 H2 G3 H3 σ2 hx ⟨v, o, b, rfl, s2, hv, bb, eb⟩ g2 g3 s3 w3 ⟨vx, rfl, hvx⟩ N hN
    have bx := hb x (List.mem_of_getElem? hx)
    have et := farF_take (s := -1) (b := xs.headD 0) hx
    refine st_ifE w3 (tt_b (tv_call (ta_c (tv_v rfl hvx) (ta_c (tv_v rfl (hv.mo g3)) ta_n)) ⟨bx, bb⟩)) (fun z H4 s4 w4 => ?_) (fun z H4 s4 w4 => ?_)
    · have z : x < b := of_decide_eq_true z
      refine st_asgL w4 (tv_v rfl hvx) fun v5 G5 H5 g5 w5 s5 h5 => hN _ G5 H5 g5 w5 ⟨v5, some vx, x, rfl, ((s2.trans s3).trans s4).trans s5, h5, bx, ?_⟩
      rw [et, ← eb, if_pos (cmpm1.mpr z)]
    · have z : ¬ x < b := of_decide_eq_false z
      refine hN _ G3 H4 (Same.refl _) w4 ⟨v, some vx, b, rfl, (s2.trans s3).trans s4, hv.mo g3, bb, ?_⟩
      rw [et, ← eb, if_neg (fun q => z (cmpm1.mp q))]
  · rintro σ' G' H' g' w' ⟨v, o, b, rfl, s2, hv, bb, eb⟩
    rw [List.take_length] at eb
    refine st_ret w' (tv_v rfl hv) fun v H'' s hv => k v H'' (s2.trans s) ?_
    show qQ K _ v (farF (-1) xs)
    unfold farF
    rw [← eb]
    exact hv
theorem sc__law_highest : FnScope n__law_highest ["_law_values"] (defScope s__law_highest) := ⟨rfl, rfl, rfl, by decide +kernel, rfl, by decide +kernel, by decide +kernel⟩
theorem ok__law_highest (T : Ctx P w K mg base) : Pro P w K mg base "_law_highest" ["_law_values"] 2 (spP (raC (qSq K (qQ K)) raN) (fun x => 0 < x.1.length ∧ ∀ y ∈ x.1, Bh y) (qQ K) fun x => maxQ x.1) := by
  refine mk_pro T.d__law_highest (fun _ _ _ _ _ _ us hl => match us, hl with | [_], _ => rfl) fun f fd F => ?_
  refine def1 F sc__law_highest rfl fun cdv A outer s H E O G 
    u xs hr wd hu hp Q k => ⟨_, (pss_cons (ps_set (i := 1) sc__law_highest.nd rfl (Or.inl rfl) (pe_ix (ixA (K := K) rfl) (pv 0) pe_int (fun _ _ => rfl)))
      (pss_cons (ps_for PassesOwn.never rfl (piA (K := K) rfl (pv 0)) (pg_name (i := 2) sc__law_highest.nd rfl (Or.inl rfl)) (pss_one (ps_if (pt_val (pe_cl (ok__law_below T) hr (pa_cons (pv 1) (pa_cons (pv 2) pa_nil)))) (pss_one (ps_set (i := 1) sc__law_highest.nd rfl (Or.inl rfl) (pv 2))) pss_nil)))
      (pss_one (ps_ret (pv 1))))), ?_⟩
  obtain ⟨h0, hb⟩ : 0 < xs.length ∧ ∀ y ∈ xs, Bh y := hp
  obtain ⟨x0, hx0⟩ : ∃ p, xs[0]? = some p := get_of h0
  have e0 : xs.headD 0 = x0 := by
    cases xs with
    | nil => cases hx0
    | cons a t => cases hx0; rfl
  refine st_asg wd (tv_ixA (tv_v rfl hu) tv_i (atI_nat (j := 0) hx0)) fun v0 G1 H1 g1 w1 s1 h0 => ?_
  refine st_forS w1 (it_seq (tv_v rfl (hu.mo g1))) tg1 (fun i σ G' H' => ∃ (v : V) (o : Option V) (b : Rat), σ = [some u, some v, o] ∧ Same H H' ∧ Has (qQ K) G' v b ∧ Bh b ∧ b = (xs.take i).foldl (fun b y => if cmpQ y b = 1 then y else b) (xs.headD 0))
    (fun G' H' g s w => ⟨v0, none, x0, rfl, s1.trans s, h0.mo g, hb x0 (List.mem_of_getElem? hx0), e0.symm⟩) ?_ ?_
  · rintro i x σ1 G2 H2 G3 H3 σ2 hx ⟨v, o, b, rfl, s2, hv, bb, eb⟩ g2 g3 s3 w3 ⟨vx, rfl, hvx⟩ N hN
    have bx := hb x (List.mem_of_getElem? hx)
    have et := farF_take (s := 1) (b := xs.headD 0) hx
    refine st_ifE w3 (tt_b (tv_call (ta_c (tv_v rfl (hv.mo g3)) (ta_c (tv_v rfl hvx) ta_n)) ⟨bb, bx⟩)) (fun z H4 s4 w4 => ?_) (fun z H4 s4 w4 => ?_)
    · have z : b < x := of_decide_eq_true z
      refine st_asgL w4 (tv_v rfl hvx) fun v5 G5 H5 g5 w5 s5 h5 => hN _ G5 H5 g5 w5 ⟨v5, some vx, x, rfl, ((s2.trans s3).trans s4).trans s5, h5, bx, ?_⟩
      rw [et, ← eb, if_pos (cmpp1.mpr z)]
    · have z : ¬ b < x := of_decide_eq_false z
      refine hN _ G3 H4 (Same.refl _) w4 ⟨v, some vx, b, rfl, (s2.trans s3).trans s4, hv.mo g3, bb, ?_⟩
      rw [et, ← eb, if_neg (fun q => z (cmpp1.mp q))]
  · rintro σ' G' H' g' w' ⟨v, o, b, rfl, s2, hv, bb, eb⟩
    rw [List.take_length] at eb
    refine st_ret w' (tv_v rfl hv) fun v H'' s hv => k v H'' (s2.trans s) ?_
    show qQ K _ v (farF 1 xs)
    unfold farF
    rw [← eb]
    exact hv
end
end Nb
set_option Elab.async false
set_option linter.all false
set_option maxRecDepth 100000
set_option maxHeartbeats 4000000
namespace Nb
open PySem L2
open PyProof.Rows (envOfC)
section
variable {O : List Addr} {σ : St} {G H : Hp} {ta tb te : TE} {K : PySem.W.Frag}
theorem digit_cases {d : Nat} (h : d < 5) : d = 0 ∨ d = 1 ∨ d = 2 ∨ d = 3 ∨ d = 4 := by omega
theorem tv_intX {d : Nat} (h : Tv O te σ G qX [d]) (hd : d < 5) : Tv O (tCB rIntS (tCons te tNil)) σ G qN d :=
  tv_cb1 h fun v H dm hv Q k => by
    refine ⟨tx [d], (d : Int), by rw [show v = .str (tx [d]) from hv], ?_, by rw [tx_len]; show 1 ≤ 640; omega, k _ _ (Same.refl _) rfl⟩
    rcases digit_cases hd with rfl | rfl | rfl | rfl | rfl <;> decide +kernel
theorem tv_strX {d : Nat} (h : Tv O te σ G qI (d : Int)) (hd : d < 5) : Tv O (tCB rStrI (tCons te tNil)) σ G qX [d] :=
  tv_cb1 h fun v H dm hv Q k => by
    refine ⟨(d : Int), by rw [show v = .int (d : Int) from hv], ?_, k _ _ (Same.refl _) ?_⟩
    · rcases digit_cases hd with rfl | rfl | rfl | rfl | rfl <;> decide +kernel
    · show V.str _ = V.str (tx [d])
      rcases digit_cases hd with rfl | rfl | rfl | rfl | rfl <;> rfl
theorem tv_takeX {ds : List Nat} {k : Nat} {th : TO} (h : Tv O te σ G qX ds) (hh : To O th σ G (some (k : Int))) (hl : ds.length ≤ 1000) : Tv O (tSl rSlS te tNoPart th) σ G qX (ds.take k) :=
  (tv_sliceS (z := tx ds) (h.sub fun _ _ z => z) to_none hh (by rw [tx_len]; exact hl)).sub fun _ v z => by
    show v = .str (tx (ds.take k))
    rw [show v = .str _ from z]
    congr 1
    unfold cutS
    rw [HT.sIx_nat, HT.sIx_none, List.drop_zero, Nat.sub_zero, tx_len]
    show (⟨_⟩ : PySem.Str) = ⟨((ds.take k).map fun d => 48 + d).toArray⟩
    congr 2
    show List.take (min k ds.length) ((ds.map fun d => 48 + d).toArray).toList = _
    rw [List.map_take]
    by_cases e : k ≤ ds.length
    · rw [Nat.min_eq_left e]
    · rw [Nat.min_eq_right (by omega), List.take_of_length_le (by simp), List.take_of_length_le (by rw [List.length_map]; omega)]
theorem tv_ixX {ds : List Nat} {k d : Nat} (h : Tv O ta σ G qX ds) (g : Tv O tb σ G qI (k : Int)) (hl : ds.length ≤ 1000) (hk : ds[k]? = some d) : Tv O (tOp rIxS ta tb) σ G qX [d] := fun H w Q kk =>
  h H w _ fun v H1 s1 h1 => g H1 (w.same s1) _ fun u H2 s2 h2 => by
    refine ⟨tx ds, (k : Int), 48 + d, h1, h2, by rw [tx_len, sizeLine_eq]; omega, atI_nat ?_, kk _ _ (s1.trans s2) rfl⟩
    show ((ds.map fun d => 48 + d).toArray).toList[k]? = some (48 + d)
    simp [hk]
theorem tv_lenX {ds : List Nat} (h : Tv O te σ G qX ds) (hl : ds.length ≤ 1000) : Tv O (tCB (rLen K) (tCons te tNil)) σ G qI (ds.length : Int) :=
  (tv_lenS (z := tx ds) (h.sub fun _ _ z => z) (by rw [tx_len]; exact hl)).eq (by rw [tx_len])
end
theorem bidx_small {n : Nat} (hn : n ≤ 5) : ∀ {k : Nat} {t : List Nat}, t.length = k → Dig n t → bidx n t + 1 ≤ 6 ^ k
  | 0, t, h, _ => by rw [List.length_eq_zero_iff.mp h]; exact Nat.le_refl 1
  | k + 1, t, h, hd => by
    rcases snoc_cases t with e | ⟨u, d, e⟩
    · rw [e] at h; cases h
    · subst e
      obtain ⟨h1, h2⟩ := hd.snoc
      have ih := bidx_small hn (k := k) (t := u) (by rw [List.length_append] at h; simpa using h) h1
      rw [bidx_snoc, Nat.pow_succ]
      have := Nat.mul_le_mul_left (bidx n u) hn
      omega
theorem bidx_lim {n : Nat} {t : List Nat} (hn : n ≤ 5) (ht : t.length ≤ 8) (hd : Dig n t) : bidx n t < 2000000 := by
  have h1 := bidx_small hn rfl hd
  have h2 : 6 ^ t.length ≤ 6 ^ 8 := Nat.pow_le_pow_right (by decide) ht
  have h3 : 6 ^ 8 = 1679616 := by decide
  omega
theorem take_snoc {α : Type} {t : List α} {i : Nat} {d : α} (h : t[i]? = some d) : t.take (i + 1) = t.take i ++ [d] := by
  rw [List.take_add_one, h]
  rfl
theorem Dig.take {n : Nat} {t : List Nat} (h : Dig n t) (i : Nat) : Dig n (t.take i) := fun d hd => h d (List.mem_of_mem_take hd)
theorem map1_get {t : List Nat} {i : Nat} {x : List Nat} (h : (t.map fun d => [d])[i]? = some x) : ∃ d, t[i]? = some d ∧ x = [d] := by
  rw [List.getElem?_map] at h
  obtain ⟨d, h1, h2⟩ := Option.map_eq_some_iff.mp h
  exact ⟨d, h1, h2.symm⟩
/-- shares, the law's way -/
structure MisH (n R : Nat) (sh : List (List Rat)) : Prop where
  sp : Shape n R
  l : sh.length = (begL n R).length
  s : ∀ t, Dig n t → t.length < R → (shF n sh t).length = n ∧ ∀ x ∈ shF n sh t, Bh x ∧ Bh (1 - x)
  m : ∀ t, Dig n t → t.length ≤ R → Bh (mis (shF n sh) t)
theorem MisH.at_ {n R : Nat} {sh : List (List Rat)} (h : MisH n R sh) {t : List Nat} {d : Nat} (ht : t.length < R) (hd : Dig n t) (hn : d < n) : sh[bidx n t]? = some (shF n sh t) ∧ (shF n sh t)[d]? = some ((shF n sh t).getD d 0) ∧ Bh ((shF n sh t).getD d 0) ∧ Bh (1 - (shF n sh t).getD d 0) := by
  have hb : bidx n t < sh.length := by rw [h.l]; exact begL_lt ht hd
  obtain ⟨l1, l2⟩ := h.s t hd ht
  have hx : d < (shF n sh t).length := by omega
  have hg2 : (shF n sh t)[d]? = some ((shF n sh t).getD d 0) := by
    rw [List.getD_eq_getElem?_getD, List.getElem?_eq_getElem hx]
    rfl
  refine ⟨?_, hg2, l2 _ (List.mem_of_getElem? hg2)⟩
  unfold shF
  rw [List.getD_eq_getElem?_getD, List.getElem?_eq_getElem hb]
  rfl
theorem bh_one : Bh 1 := ⟨Nat.one_lt_pow (by decide) (by decide), Nat.one_lt_pow (by decide) (by decide)⟩
theorem bh_zero : Bh 0 := ⟨Nat.pow_pos (by decide), Nat.one_lt_pow (by decide) (by decide)⟩
def dgt (n : Nat) : Nat → Nat → List Nat
  | 0, _ => []
  | k + 1, i => dgt n k (i / n) ++ [i % n]
theorem dgt_left (n : Nat) : ∀ (k i : Nat), dgt n (k + 1) i = (i / n ^ k % n) :: dgt n k i
  | 0, i => by simp [dgt]
  | k + 1, i => by
    show dgt n (k + 1) (i / n) ++ [i % n] = _
    rw [dgt_left n k (i / n), Nat.div_div_eq_div_mul, ← Nat.pow_succ']
    rfl
theorem dgt_rows {n : Nat} (hn : 0 < n) : ∀ (k i : Nat), i < n ^ k → (rowsL n k)[i]? = some (dgt n k i)
  | 0, i, h => by
    have : i = 0 := by simpa using h
    subst this
    rfl
  | k + 1, i, h => by
    have h1 : i / n < n ^ k := Nat.div_lt_of_lt_mul (by rw [← Nat.pow_succ']; exact h)
    have g := nextL_get (dgt_rows hn k (i / n) h1) (Nat.mod_lt i hn)
    rw [Nat.mul_comm, Nat.div_add_mod] at g
    exact g
theorem rows_dgt {n : Nat} (hn : 0 < n) (k : Nat) : (List.range (n ^ k)).map (dgt n k) = rowsL n k := by
  apply List.ext_getElem?
  intro i
  rw [List.getElem?_map]
  by_cases hi : i < n ^ k
  · rw [List.getElem?_range hi, dgt_rows hn k i hi]
    rfl
  · rw [List.getElem?_eq_none (by rw [List.length_range]; omega), List.getElem?_eq_none (by rw [rowsL_len]; omega)]
    rfl
section
variable {P : Program} {w : World} {K : PySem.W.Frag} {mg : PySem.Str → Option Value} {base : Heap}
theorem sc__law_index : FnScope n__law_index ["_law_width", "_law_text"] (defScope s__law_index) := ⟨rfl, rfl, rfl, by decide +kernel, rfl, by decide +kernel, by decide +kernel⟩
theorem ok__law_index (T : Ctx P w K mg base) : Pro P w K mg base "_law_index" ["_law_width", "_law_text"] 1 (spP (raC qN (raC qX raN)) (fun x => x.1 ≤ 5 ∧ x.2.1.length ≤ 8 ∧ Dig x.1 x.2.1) qN fun x => bidx x.1 x.2.1) := by
  refine mk_pro T.d__law_index (fun _ _ _ _ _ _ us hl => match us, hl with | [_, _], _ => rfl) fun f fd F => ?_
  refine def2 F sc__law_index rfl fun cdv A outer s H E O G 
    u v n t hr wd hu hv hp Q k => ⟨_, (pss_cons (ps_set (i := 2) sc__law_index.nd rfl (Or.inl rfl) pe_int)
      (pss_cons (ps_for PassesOwn.never rfl (pi_str (pv 1)) (pg_name (i := 3) sc__law_index.nd rfl (Or.inl rfl)) (pss_one (ps_set (i := 2) sc__law_index.nd rfl (Or.inl rfl) (pe_op op_add (pe_op op_add (pe_op op_mulW (pv 2) (pv 0)) pe_int) (c_intS (K := K) rfl T.n_int (pa_cons (pv 3) pa_nil))))))
      (pss_one (ps_ret (pv 2))))), ?_⟩
  obtain ⟨h1, h2, hd⟩ : n ≤ 5 ∧ t.length ≤ 8 ∧ Dig n t := hp
  refine st_asg wd tv_i fun v0 G1 H1 g1 w1 s1 h0 => ?_
  refine st_forS w1 (it_strX (tv_v rfl (hv.mo g1))) tg1 (fun i σ G' H' => ∃ (v' : V) (o : Option V), σ = [some u, some v, some v', o] ∧ Same H H' ∧ Has qN G' v' (bidx n (t.take i)))
    (fun G' H' g s w => ⟨v0, none, rfl, s1.trans s, ⟨h0.h⟩⟩) ?_ ?_
  · rintro i x σ1 G5 H5 G6 H6 σ2 hx ⟨v', o, rfl, s5, hv'⟩ g5 g6 s6 w6 ⟨va, rfl, ha⟩ N hN
    obtain ⟨d, hd1, ex⟩ := map1_get hx
    subst ex
    have hdn := hd d (List.mem_of_getElem? hd1)
    have hb := bidx_lim h1 (show (t.take i).length ≤ 8 by rw [List.length_take]; omega) (hd.take i)
    refine st_asgL w6 (tv_opJ (tv_opJ (tv_opI (tv_v rfl (hv'.mo g6).nI) (tv_v rfl ((hu.mo g1).mo (g5.trans g6)).nI) (m_sm (sm_small (by omega)) (sm_small (by omega)))) tv_i) (tv_NI (tv_intX (tv_v rfl ha) (by omega)))) fun v7 G7 H7 g7 w7 s7 h7 => hN _ G7 H7 g7 w7 ⟨v7, some va, rfl, (s5.trans s6).trans s7, ⟨?_⟩⟩
    rw [take_snoc hd1, bidx_snoc]
    rw [show v7 = _ from h7.h]
    show V.int ((bidx n (t.take i) : Int) * (n : Int) + 1 + (d : Int)) = V.int ((bidx n (t.take i) * n + 1 + d : Nat) : Int)
    congr 1
  · rintro σ' G' H' g' w' ⟨v', o, rfl, s5, hv'⟩
    rw [List.length_map, List.take_length] at hv'
    exact st_ret w' (tv_v rfl hv') fun v H'' s hv => k v H'' (s5.trans s) hv
theorem sc__law_misses_on : FnScope n__law_misses_on ["_law_width", "_law_shares", "_law_text"] (defScope s__law_misses_on) := ⟨rfl, rfl, rfl, by decide +kernel, rfl, by decide +kernel, by decide +kernel⟩
theorem ok__law_misses_on (T : Ctx P w K mg base) : Pro P w K mg base "_law_misses_on" ["_law_width", "_law_shares", "_law_text"] 4 (spP (raC qN (raC (qL K (qL K (qQ K))) (raC qX raN))) (fun x => (∃ R, MisH x.1 R x.2.1 ∧ x.2.2.1.length ≤ R) ∧ Dig x.1 x.2.2.1) (qQ K) fun x => mis (shF x.1 x.2.1) x.2.2.1) := by
  refine mk_pro T.d__law_misses_on (fun _ _ _ _ _ _ us hl => match us, hl with | [_, _, _], _ => rfl) fun f fd F => ?_
  refine def3 F sc__law_misses_on rfl fun cdv A outer s H E O G 
    u v z n sh t hr wd hu hv hz hp Q k => ⟨_, (pss_cons (ps_set (i := 3) sc__law_misses_on.nd rfl (Or.inl rfl) (pe_tup (pa_cons pe_int (pa_cons pe_int pa_nil))))
      (pss_cons (ps_set (i := 4) sc__law_misses_on.nd rfl (Or.inl rfl) pe_int)
      (pss_cons (ps_for PassesOwn.never rfl (pi_str (pv 2)) (pg_name (i := 5) sc__law_misses_on.nd rfl (Or.inl rfl)) (pss_cons (ps_set (i := 3) sc__law_misses_on.nd rfl (Or.inl rfl) (pe_cl (ok__law_plus T) hr (pa_cons (pv 3) (pa_cons (pe_cl (ok__law_minus T) hr (pa_cons (pe_tup (pa_cons pe_int (pa_cons pe_int pa_nil))) (pa_cons (pe_ix (ixL (K := K) rfl) (pe_ix (ixL (K := K) rfl) (pv 1) (pv 4) (fun _ _ => rfl)) (c_intS (K := K) rfl T.n_int (pa_cons (pv 5) pa_nil)) (fun _ _ => rfl)) pa_nil))) pa_nil))))
      (pss_one (ps_set (i := 4) sc__law_misses_on.nd rfl (Or.inl rfl) (pe_op op_add (pe_op op_add (pe_op op_mulW (pv 4) (pv 0)) pe_int) (c_intS (K := K) rfl T.n_int (pa_cons (pv 5) pa_nil)))))))
      (pss_one (ps_ret (pv 3)))))), ?_⟩
  obtain ⟨⟨R, ok, ht⟩, hd⟩ : (∃ R, MisH n R sh ∧ t.length ≤ R) ∧ Dig n t := hp
  have h8 := ok.sp.R8
  have h5 := ok.sp.2.1
  refine st_asg wd (tv_q K (x := 0) rfl rfl) fun v0 G1 H1 g1 w1 s1 h0 => ?_
  refine st_asg w1 tv_i fun v1 G2 H2 g2 w2 s2 hat => ?_
  refine st_forS w2 (it_strX (tv_v rfl ((hz.mo g1).mo g2))) tg1 (fun i σ G' H' => ∃ (v' va : V) (o : Option V), σ = [some u, some v, some z, some v', some va, o] ∧ Same H H' ∧ Has (qQ K) G' v' (mis (shF n sh) (t.take i)) ∧ Has qN G' va (bidx n (t.take i)))
    (fun G' H' g s w => ⟨v0, v1, none, rfl, (s1.trans s2).trans s, (h0.mo g2).mo g, ⟨hat.h⟩⟩) ?_ ?_
  · rintro i x σ1 G5 H5 G6 H6 σ2 hx ⟨v', va, o, rfl, s5, hv', hva⟩ g5 g6 s6 w6 ⟨vs, rfl, hs⟩ N hN
    obtain ⟨d, hd1, ex⟩ := map1_get hx
    subst ex
    have hdn := hd d (List.mem_of_getElem? hd1)
    have hil := (List.getElem?_eq_some_iff.mp hd1).1
    have tl : (t.take i).length = i := by rw [List.length_take]; omega
    have td := hd.take i
    have hb := bidx_lim h5 (show (t.take i).length ≤ 8 by omega) td
    obtain ⟨a1, a2, a3, a4⟩ := ok.at_ (show (t.take i).length < R by omega) td hdn
    have hm := ok.m _ td (by omega)
    have gg := (g1.trans g2).trans (g5.trans g6)
    refine st_asg (r := qQ K) w6 (tv_call (ta_c (tv_v rfl (hv'.mo g6)) (ta_c (tv_call (ta_c (tv_q K (x := 1) rfl rfl) (ta_c (tv_ixL (tv_ixL (tv_v rfl (hv.mo gg)) (tv_v rfl (hva.mo g6).nI) (atI_nat a1)) (tv_NI (tv_intX (tv_v rfl hs) (by omega))) (atI_nat a2)) ta_n)) ⟨bh_one, a3⟩) ta_n)) ⟨hm, a4⟩) fun v7 G7 H7 g7 w7 s7 h7 => ?_
    refine st_asgL w7 (tv_opJ (tv_opJ (tv_opI (tv_v rfl ((hva.mo g6).mo g7).nI) (tv_v rfl ((hu.mo gg).mo g7).nI) (m_sm (sm_small (by omega)) (sm_small (by omega)))) tv_i) (tv_NI (tv_intX (tv_v rfl (hs.mo g7)) (by omega)))) fun v8 G8 H8 g8 w8 s8 h8' => hN _ G8 H8 (g7.trans g8) w8 ⟨v7, v8, some vs, rfl, ((s5.trans s6).trans s7).trans s8, ?_, ⟨?_⟩⟩
    · rw [take_snoc hd1, mis_snoc]
      exact h7.mo g8
    · rw [take_snoc hd1, bidx_snoc]
      rw [show v8 = _ from h8'.h]
      show V.int ((bidx n (t.take i) : Int) * (n : Int) + 1 + (d : Int)) = V.int ((bidx n (t.take i) * n + 1 + d : Nat) : Int)
      congr 1
  · rintro σ' G' H' g' w' ⟨v', va, o, rfl, s5, hv', hva⟩
    rw [List.length_map, List.take_length] at hv'
    exact st_ret w' (tv_v rfl hv') fun v H'' s hv => k v H'' (s5.trans s) hv
theorem sc__law_row_of : FnScope n__law_row_of ["_law_width", "_law_size", "_law_at"] (defScope s__law_row_of) := ⟨rfl, rfl, rfl, by decide +kernel, rfl, by decide +kernel, by decide +kernel⟩
theorem ok__law_row_of (T : Ctx P w K mg base) : Pro P w K mg base "_law_row_of" ["_law_width", "_law_size", "_law_at"] 1 (spP (raC qN (raC qN (raC qN raN))) (fun x => 0 < x.1 ∧ x.1 ≤ 5 ∧ x.2.1 ≤ 8 ∧ x.2.2.1 < 1000000) qX fun x => dgt x.1 x.2.1 x.2.2.1) := by
  refine mk_pro T.d__law_row_of (fun _ _ _ _ _ _ us hl => match us, hl with | [_, _, _], _ => rfl) fun f fd F => ?_
  refine def3 F sc__law_row_of rfl fun cdv A outer s H E O G 
    u v z n m a hr wd hu hv hz hp Q k => ⟨_, (pss_cons (ps_set (i := 3) sc__law_row_of.nd rfl (Or.inl rfl) pe_str)
      (pss_cons (ps_set (i := 4) sc__law_row_of.nd rfl (Or.inl rfl) (pv 2))
      (pss_cons (ps_for PassesOwn.never rfl (pi_range1 (by rfl) T.n_range (pa_cons (pv 1) pa_nil)) (pg_name (i := 5) sc__law_row_of.nd rfl (Or.inl rfl)) (pss_cons (ps_set (i := 3) sc__law_row_of.nd rfl (Or.inl rfl) (pe_op op_add_str (c_str (K := K) rfl T.n_str (pa_cons (pe_op op_mod (c_int (K := K) rfl T.n_int (pa_cons (pv 4) pa_nil)) (pv 0)) pa_nil)) (pv 3)))
      (pss_one (ps_set (i := 4) sc__law_row_of.nd rfl (Or.inl rfl) (pe_op op_fdivW (pv 4) (pv 0))))))
      (pss_one (ps_ret (pv 3)))))), ?_⟩
  obtain ⟨h0, h5, h8, ha⟩ : 0 < n ∧ n ≤ 5 ∧ m ≤ 8 ∧ a < 1000000 := hp
  refine st_asg (r := qX) (x := []) wd (tv_c fun _ => rfl) fun v0 G1 H1 g1 w1 s1 hf0 => ?_
  refine st_asg w1 (tv_v rfl (hz.mo g1)) fun v1 G2 H2 g2 w2 s2 hr0 => ?_
  refine st_forS w2 (it_rng1 (tv_v rfl ((hv.mo g1).mo g2).nI) (by omega)) tg1 (fun i σ G' H' => ∃ (v' vr : V) (o : Option V), σ = [some u, some v, some z, some v', some vr, o] ∧ Same H H' ∧ Has qX G' v' (dgt n i a) ∧ Has qN G' vr (a / n ^ i))
    (fun G' H' g s w => ⟨v0, v1, none, rfl, (s1.trans s2).trans s, ⟨hf0.h⟩, ⟨by rw [Nat.pow_zero, Nat.div_one]; exact hr0.h⟩⟩) ?_ ?_
  · rintro i x σ1 G5 H5 G6 H6 σ2 hx ⟨v', vr, o, rfl, s5, hv', hvr⟩ g5 g6 s6 w6 ⟨vk, rfl, hk⟩ N hN
    have hi : i < m := by
      have := (List.getElem?_eq_some_iff.mp hx).1
      rw [List.length_range] at this
      exact this
    have gg := (g1.trans g2).trans (g5.trans g6)
    have hdv : a / n ^ i ≤ a := Nat.div_le_self _ _
    have hdl : ∀ (j b : Nat), (dgt n j b).length = j := by
      intro j
      induction j with
      | zero => intro b; rfl
      | succ j ih => intro b; show (dgt n j (b / n) ++ [b % n]).length = j + 1; rw [List.length_append, ih]; rfl
    refine st_asg (r := qX) (x := [a / n ^ i % n] ++ dgt n i a) w6 (tv_addX (tv_strX ((tv_opI (tv_int (tv_v rfl (hvr.mo g6).nI)) (tv_v rfl (hu.mo gg).nI) (show (0 : Int) < n by omega)).eq (x' := ((a / n ^ i % n : Nat) : Int)) (by rw [Int.natCast_emod])) (by have := Nat.mod_lt (a / n ^ i) h0; omega)) (tv_v rfl (hv'.mo g6)) (by rw [hdl]; show 1 + i ≤ 1000; omega)) fun v7 G7 H7 g7 w7 s7 h7 => ?_
    refine st_asgL w7 (tv_opI (tv_v rfl ((hvr.mo g6).mo g7).nI) (tv_v rfl ((hu.mo gg).mo g7).nI) (d_sm (show (0 : Int) < n by omega) (sm_small (by omega)))) fun v8 G8 H8 g8 w8 s8 h8' => hN _ G8 H8 (g7.trans g8) w8 ⟨v7, v8, some vk, rfl, ((s5.trans s6).trans s7).trans s8, ?_, ⟨?_⟩⟩
    · rw [dgt_left]
      exact h7.mo g8
    · rw [show v8 = _ from h8'.h]
      show V.int (((a / n ^ i : Nat) : Int) / (n : Int)) = V.int ((a / n ^ (i + 1) : Nat) : Int)
      rw [← Int.natCast_ediv, Nat.div_div_eq_div_mul, ← Nat.pow_succ]
  · rintro σ' G' H' g' w' ⟨v', vr, o, rfl, s5, hv', hvr⟩
    rw [List.length_range] at hv'
    exact st_ret w' (tv_v rfl hv') fun v H'' s hv => k v H'' (s5.trans s) hv
theorem sc__law_rows : FnScope n__law_rows ["_law_width", "_law_size"] (defScope s__law_rows) := ⟨rfl, rfl, rfl, by decide +kernel, rfl, by decide +kernel, by decide +kernel⟩
theorem ok__law_rows (T : Ctx P w K mg base) : Pro P w K mg base "_law_rows" ["_law_width", "_law_size"] 2 (spP (raC qN (raC qN raN)) (fun x => ∃ R, Shape x.1 R ∧ x.2.1 ≤ R) (qLs qX) fun x => rowsL x.1 x.2.1) := by
  refine mk_pro T.d__law_rows (fun _ _ _ _ _ _ us hl => match us, hl with | [_, _], _ => rfl) fun f fd F => ?_
  refine def2 F sc__law_rows rfl fun cdv A outer s H E O G 
    u v n m hr wd hu hv hp Q k => ⟨_, (pss_one (ps_ret (pe_lc (own := [("_law_at", 2)]) (g := (gName 2)) (tt := tYes) rfl sc__law_rows.nd (pi_range1 (by rfl) T.n_range (pa_cons (pe_cl (ok__law_power T) hr (pa_cons (pv 0) (pa_cons (pv 1) pa_nil))) pa_nil)) (blkOk_by (own := [("_law_at", 2)]) (N := n__law_rows) (sc := defScope s__law_rows) (by decide +kernel)) (fun _ _ _ _ _ => (pg_name (i := 2) sc__law_rows.nd rfl (by first | exact Or.inl rfl | exact Or.inr rfl))) (fun _ _ _ _ _ => pts_nil) (fun _ _ _ _ _ => (pe_cl (ok__law_row_of T) hr (pa_cons (pv 0) (pa_cons (pv 1) (pa_cons (pv 2) pa_nil)))))))), ?_⟩
  obtain ⟨R, sp, hm⟩ : ∃ R, Shape n R ∧ m ≤ R := hp
  have h8 := sp.R8
  have hsm := pow_small sp hm
  refine st_ret (r := qLs qX) (x := rowsL n m) wd ?_ k
  rw [← rows_dgt sp.1]
  refine tv_mapS (it_rng1 (n := n ^ m) (tv_NI (Tv.eq (tv_call (ta_c (tv_v rfl hu) (ta_c (tv_v rfl hv) ta_n)) ⟨sp.2.1, show m ≤ 8 by omega⟩) rfl)) (by omega)) tg1 (own1 (by decide)) (by rw [List.length_range]; omega) fun D i x G1 σ1 hx g1 ⟨vx, ex, hvx⟩ => ?_
  subst ex
  have hlt := List.mem_range.mp (List.mem_of_getElem? hx)
  exact tv_call (ta_c (tv_v rfl (hu.mo g1)) (ta_c (tv_v rfl (hv.mo g1)) (ta_c (tv_v rfl hvx) ta_n))) ⟨sp.1, sp.2.1, show m ≤ 8 by omega, show x < 1000000 by omega⟩
theorem sc__law_cells_of : FnScope n__law_cells_of ["_law_width", "_law_rounds_here", "_law_shares"] (defScope s__law_cells_of) := ⟨rfl, rfl, rfl, by decide +kernel, rfl, by decide +kernel, by decide +kernel⟩
theorem ok__law_cells_of (T : Ctx P w K mg base) : Pro P w K mg base "_law_cells_of" ["_law_width", "_law_rounds_here", "_law_shares"] 5 (spP (raC qN (raC qN (raC (qL K (qL K (qQ K))) raN))) (fun x => MisH x.1 x.2.1 x.2.2.1) (qL K (qQ K)) fun x => (rowsL x.1 x.2.1).map (mis (shF x.1 x.2.2.1))) := by
  refine mk_pro T.d__law_cells_of (fun _ _ _ _ _ _ us hl => match us, hl with | [_, _, _], _ => rfl) fun f fd F => ?_
  refine def3 F sc__law_cells_of rfl fun cdv A outer s H E O G 
    u v z n R sh hr wd hu hv hz hp Q k => ⟨_, (pss_one (ps_ret (pe_lc (own := [("_law_row", 3)]) (g := (gName 3)) (tt := tYes) rfl sc__law_cells_of.nd (piL (K := K) rfl (pe_cl (ok__law_rows T) hr (pa_cons (pv 0) (pa_cons (pv 1) pa_nil)))) (blkOk_by (own := [("_law_row", 3)]) (N := n__law_cells_of) (sc := defScope s__law_cells_of) (by decide +kernel)) (fun _ _ _ _ _ => (pg_name (i := 3) sc__law_cells_of.nd rfl (by first | exact Or.inl rfl | exact Or.inr rfl))) (fun _ _ _ _ _ => pts_nil) (fun _ _ _ _ _ => (pe_cl (ok__law_misses_on T) hr (pa_cons (pv 0) (pa_cons (pv 2) (pa_cons (pv 3) pa_nil)))))))), ?_⟩
  have hp : MisH n R sh := hp
  have hl := hp.sp.rows (Nat.le_refl _)
  refine st_ret (r := qL K (qQ K)) (x := (rowsL n R).map (mis (shF n sh))) wd ?_ k
  refine tv_map (it_list (tv_Ls (Tv.eq (tv_call (ta_c (tv_v rfl hu) (ta_c (tv_v rfl hv) ta_n)) ⟨R, hp.sp, Nat.le_refl _⟩) rfl))) tg1 (own1 (by decide)) (by show (rowsL n R).length < 10000; omega) fun D i t G1 σ1 hx g1 ⟨vx, ex, hvx⟩ => ?_
  subst ex
  obtain ⟨tl, td⟩ := rowsL_at (List.mem_of_getElem? hx)
  exact tv_call (ta_c (tv_v rfl (hu.mo g1)) (ta_c (tv_v rfl (hz.mo g1)) (ta_c (tv_v rfl hvx) ta_n))) ⟨⟨R, hp, Nat.le_of_eq tl⟩, td⟩
end
end Nb
set_option Elab.async false
set_option linter.all false
set_option maxRecDepth 100000
set_option maxHeartbeats 4000000
namespace Nb
open PySem L2
open PyProof.Rows (envOfC)
section
variable {α β γ δ : Type} {O : List Addr} {σ : St} {G H : Hp} {ta tb te : TE} {K : PySem.W.Frag} {q : Rl α} {xs ys : List α}
theorem tv_lst0 : Tv O (tLst tNil) σ G (qLs q) [] := fun H w Q k => ⟨Nat.zero_le _, fun p hp => k _ _ (same_new hp) ⟨p, [], rfl, wo_new w.dm hp, .nil⟩⟩
theorem tv_cat [Mo q] (h : Tv O ta σ G (qLs q) xs) (g : Tv O tb σ G (qLs q) ys) (hz : xs.length + ys.length < 10000) : Tv O (tOp rCat ta tb) σ G (qLs q) (xs ++ ys) := fun H w Q k =>
  h H w _ fun v H1 s1 h1 => g H1 (w.same s1) _ fun u H2 s2 h2 => by
    obtain ⟨a, acc, rfl, e1, p1⟩ := h1
    obtain ⟨b, acc2, rfl, e2, p2⟩ := h2
    have d := ((w.same s1).same s2).dm
    refine ⟨a, b, acc, acc2, rfl, rfl, s2 _ _ (wo_le _ _ e1), wo_le _ _ e2, by rw [Paired.len p1, Paired.len p2, sizeLine_eq]; omega, fun p hp => k _ _ ((s1.trans s2).trans (same_new hp)) ⟨p, _, rfl, wo_new d hp, ?_⟩⟩
    exact Paired.app (paired_mono (fun _ _ z => Mo.mo (same_wo (s2.trans (same_new hp))) z) p1) (paired_mono (fun _ _ z => Mo.mo (same_wo (same_new hp)) z) p2)
theorem st_ifJ {D : Ends} {t1 t2 : TS} {c : TT} {b : Bool} (w : Wd O G H) (h : Tt O c σ G b) (J : St → Hp → Hp → Prop)
    (h1 : b = true → ∀ H', Same H H' → Wd O G H' → ∀ N : St → Hp → Prop, (∀ σ' G' H'', Same G G' → Wd O G' H'' → J σ' G' H'' → N σ' H'') → t1 { D with nx := N } σ H') (h2 : b = false → ∀ H', Same H H' → Wd O G H' → J σ G H')
    (k : ∀ σ' G' H', Same G G' → Wd O G' H' → J σ' G' H' → t2 D σ' H') : tSeq (tIfS c t1 tNext) t2 D σ H :=
  st_if w h (fun e H' s w' => h1 e H' s w' (t2 D) fun σ' G' H'' sg w'' j => k σ' G' H'' sg w'' j) fun e H' s w' => k σ G H' (Same.refl _) w' (h2 e H' s w')
theorem ra4 {r : Rl α} {q : Rl β} {p : Rl γ} {s : Rl δ} {G : Hp} {vs : List V} {x : α × β × γ × δ × Unit} (h : raC r (raC q (raC p (raC s raN))) G vs x) : ∃ a b c d, vs = [a, b, c, d] ∧ r G a x.1 ∧ q G b x.2.1 ∧ p G c x.2.2.1 ∧ s G d x.2.2.2.1 := by
  obtain ⟨a, ws, e1, h1, h⟩ := h
  obtain ⟨b, c, d, e, h2, h3, h4⟩ := ra3 h
  subst e1 e
  exact ⟨a, b, c, d, rfl, h1, h2, h3, h4⟩
theorem tv_max2 {i j : Int} (h : Tv O ta σ G qI i) (g : Tv O tb σ G qI j) : Tv O (tCB rMax2 (tCons ta (tCons tb tNil))) σ G qI (max i j) := fun H w Q k =>
  h H w _ fun v H1 s1 h1 => g H1 (w.same s1) _ fun u H2 s2 h2 => ⟨i, j, by rw [show v = .int i from h1, show u = .int j from h2], k _ _ (s1.trans s2) (by
    show V.int _ = V.int _
    congr 1
    split <;> omega)⟩
theorem tv_min2 {i j : Int} (h : Tv O ta σ G qI i) (g : Tv O tb σ G qI j) : Tv O (tCB rMin2 (tCons ta (tCons tb tNil))) σ G qI (min i j) := fun H w Q k =>
  h H w _ fun v H1 s1 h1 => g H1 (w.same s1) _ fun u H2 s2 h2 => ⟨i, j, by rw [show v = .int i from h1, show u = .int j from h2], k _ _ (s1.trans s2) (by
    show V.int _ = V.int _
    congr 1
    split <;> omega)⟩
end
theorem zip_range (a b : List Rat) (h : a.length = b.length) : (a.zip b).map (fun z => z.1 + z.2) = (List.range a.length).map fun j => a.getD j 0 + b.getD j 0 := by
  apply List.ext_getElem?
  intro j
  rw [List.getElem?_map, List.getElem?_map]
  by_cases hj : j < a.length
  · obtain ⟨x, hx⟩ : ∃ x, a[j]? = some x := get_of hj
    obtain ⟨y, hy⟩ : ∃ y, b[j]? = some y := get_of (by omega)
    have e : (a.zip b)[j]? = some (x, y) := List.getElem?_zip_eq_some.mpr ⟨hx, hy⟩
    rw [e, List.getElem?_range hj]
    show some (x + y) = some (a.getD j 0 + b.getD j 0)
    rw [List.getD_eq_getElem?_getD, List.getD_eq_getElem?_getD, hx, hy]
    rfl
  · rw [List.getElem?_eq_none (by rw [List.length_zip]; omega), List.getElem?_eq_none (by rw [List.length_range]; omega)]
    rfl
def plnL (n : Nat) (hs : List (List (List Rat))) : List Pln := hs.map fun sh => ⟨n, 0, sh⟩
theorem plnL_len {n : Nat} {hs : List (List (List Rat))} : (plnL n hs).length = hs.length := List.length_map _
theorem partsL_pln {n : Nat} {hs : List (List (List Rat))} {t : List Nat} {d : Nat} : partsL n (plnL n hs) t d = hs.map fun sh => 1 - (shF n sh t).getD d 0 := by
  unfold partsL plnL
  rw [List.map_map]
  rfl
def BhS (s : Stt) : Prop := ∀ row ∈ s, ∀ x ∈ row, Bh x
structure SwH (n R : Nat) (hs : List (List (List Rat))) (L : Nat) : Prop where
  sp : Shape n R
  h0 : 0 < hs.length
  h5 : hs.length ≤ 5
  l8 : L ≤ 8
  s : ∀ sh ∈ hs, MisH n R sh
  st : ∀ t, Dig n t → t.length ≤ R → BhS (stF n (plnL n hs) L t)
theorem bh_turned {s : Stt} {m L : Nat} (hm : 0 < m) (q : Sq L m s) (h : BhS s) : BhS (turnedL s) := by
  intro row hr x hx
  unfold turnedL at hr
  obtain ⟨k, hk, e⟩ := List.mem_map.mp hr
  have hk : k < s.length := List.mem_range.mp hk
  rw [← e] at hx
  by_cases z : k = 0
  · rw [if_pos z] at hx
    exact h _ (getD_mem (by omega)) x hx
  · rw [if_neg z] at hx
    obtain ⟨v, hv, e2⟩ := List.mem_map.mp hx
    have b1 := h _ (getD_mem hk) v hv
    have hk1 : k - 1 < s.length := by omega
    have hne : s.getD (k - 1) [] ≠ [] := List.length_pos_iff.mp (by rw [q.2 _ (getD_mem hk1)]; exact hm)
    have b2 := h _ (getD_mem hk1) _ (min_in hne)
    rw [← e2]
    rcases List.mem_cons.mp (min_in (xs := [v, minQ (s.getD (k - 1) [])]) (by simp)) with e3 | e3
    · rw [e3]; exact b1
    · rw [List.mem_singleton.mp e3]; exact b2
theorem min_zero : ∀ m : Nat, minQ ((List.range (m + 1)).map fun _ => (0 : Rat)) = 0 := fun m => by
  have h := min_in (xs := (List.range (m + 1)).map fun _ => (0 : Rat)) (by simp)
  obtain ⟨_, _, e⟩ := List.mem_map.mp h
  exact e.symm
theorem start_get {m L c : Nat} (hc : c < L + 1) : (startL m L).getD c [] = (List.range m).map fun _ => (0 : Rat) := by
  unfold startL
  rw [List.getD_eq_getElem?_getD, List.getElem?_map, List.getElem?_range hc]
  rfl
theorem turned_start {m L : Nat} (hm : 0 < m) : turnedL (startL m L) = startL m L := by
  have hl : (startL m L).length = L + 1 := (sq_start m L).1
  unfold turnedL
  rw [hl]
  conv => rhs; unfold startL
  refine List.map_congr_left fun c hc => ?_
  have hc := List.mem_range.mp hc
  by_cases z : c = 0
  · rw [if_pos z]
    exact start_get (by omega)
  · rw [if_neg z, start_get hc, start_get (by omega), List.map_map]
    obtain ⟨m', rfl⟩ : ∃ m', m = m' + 1 := ⟨m - 1, by omega⟩
    rw [min_zero]
    refine List.map_congr_left fun _ _ => ?_
    show minQ [0, 0] = 0
    exact min_zero 1
section
variable {P : Program} {w : World} {K : PySem.W.Frag} {mg : PySem.Str → Option Value} {base : Heap}
theorem sc__law_begins : FnScope n__law_begins ["_law_width", "_law_rounds_here"] (defScope s__law_begins) := ⟨rfl, rfl, rfl, by decide +kernel, rfl, by decide +kernel, by decide +kernel⟩
theorem ok__law_begins (T : Ctx P w K mg base) : Pro P w K mg base "_law_begins" ["_law_width", "_law_rounds_here"] 3 (spP (raC qN (raC qN raN)) (fun x => Shape x.1 x.2.1) (qLs qX) fun x => begL x.1 x.2.1) := by
  refine mk_pro T.d__law_begins (fun _ _ _ _ _ _ us hl => match us, hl with | [_, _], _ => rfl) fun f fd F => ?_
  refine def2 F sc__law_begins rfl fun cdv A outer s H E O G 
    u v n R hr wd hu hv hp Q k => ⟨_, (pss_cons (ps_set (i := 2) sc__law_begins.nd rfl (Or.inl rfl) (pe_lst pa_nil))
      (pss_cons (ps_for PassesOwn.never rfl (pi_range1 (by rfl) T.n_range (pa_cons (pv 1) pa_nil)) (pg_name (i := 3) sc__law_begins.nd rfl (Or.inl rfl)) (pss_one (ps_set (i := 2) sc__law_begins.nd rfl (Or.inl rfl) (pe_op op_cat (pv 2) (pe_cl (ok__law_rows T) hr (pa_cons (pv 0) (pa_cons (pv 3) pa_nil)))))))
      (pss_one (ps_ret (pv 2))))), ?_⟩
  have hp : Shape n R := hp
  have h8 := hp.R8
  refine st_asg wd (tv_lst0 (q := qX)) fun v0 G1 H1 g1 w1 s1 h0 => ?_
  refine st_forS w1 (it_rng1 (tv_v rfl (hv.mo g1).nI) (by omega)) tg1 (fun i σ G' H' => ∃ (v' : V) (o : Option V), σ = [some u, some v, some v', o] ∧ Same H H' ∧ Has (qLs qX) G' v' (begL n i))
    (fun G' H' g s w => ⟨v0, none, rfl, s1.trans s, h0.mo g⟩) ?_ ?_
  · rintro i x σ1 G5 H5 G6 H6 σ2 hx ⟨v', o, rfl, s5, hv'⟩ g5 g6 s6 w6 ⟨va, rfl, ha⟩ N hN
    have hi : i < R := by
      have := (List.getElem?_eq_some_iff.mp hx).1
      rw [List.length_range] at this
      exact this
    have ex : x = i := by
      rw [List.getElem?_range hi] at hx
      exact (Option.some.inj hx).symm
    subst ex
    have h1 := hp.rows (k := x) (by omega)
    have h2 := hp.begs (k := x) (by omega)
    refine st_asgL w6 (tv_cat (tv_v rfl (hv'.mo g6)) (Tv.eq (x' := rowsL n x) (tv_call (ta_c (tv_v rfl ((hu.mo g1).mo (g5.trans g6))) (ta_c (tv_v rfl ha) ta_n)) ⟨R, hp, by show x ≤ R; omega⟩) rfl) (by omega)) fun v7 G7 H7 g7 w7 s7 h7 => hN _ G7 H7 g7 w7 ⟨v7, some va, rfl, (s5.trans s6).trans s7, h7⟩
  · rintro σ' G' H' g' w' ⟨v', o, rfl, s5, hv'⟩
    rw [List.length_range] at hv'
    exact st_ret w' (tv_v rfl hv') fun v H'' s hv => k v H'' (s5.trans s) hv
theorem sc__law_least_row : FnScope n__law_least_row ["_law_width", "_law_helpers", "_law_row", "_law_limit"] (defScope s__law_least_row) := ⟨rfl, rfl, rfl, by decide +kernel, rfl, by decide +kernel, by decide +kernel⟩
theorem ok__law_least_row (T : Ctx P w K mg base) : Pro P w K mg base "_law_least_row" ["_law_width", "_law_helpers", "_law_row", "_law_limit"] 4 (spP (raC qN (raC (qL K (qL K (qL K (qQ K)))) (raC qX (raC qN raN)))) (fun x => ∃ R, SwH x.1 R x.2.1 x.2.2.2.1 ∧ Dig x.1 x.2.2.1 ∧ x.2.2.1.length ≤ R) (qQ K) fun x => minQ ((stF x.1 (plnL x.1 x.2.1) x.2.2.2.1 x.2.2.1).getD x.2.2.2.1 [])) := by
  refine mk_pro T.d__law_least_row (fun _ _ _ _ _ _ us hl => match us, hl with | [_, _, _, _], _ => rfl) fun f fd F => ?_
  refine def_any F sc__law_least_row rfl fun cdv A outer s H E O G 
    vs a hr wd hra hpr Q k => by
    obtain ⟨n, hs, t, L, _⟩ := a
    obtain ⟨u, v, z, y, rfl, hu, hv, hz, hy⟩ := ra4 hra
    obtain ⟨R, ok, td, tl⟩ : ∃ R, SwH n R hs L ∧ Dig n t ∧ t.length ≤ R := hpr
    have hu : Has qN G u n := ⟨hu⟩
    have hv : Has (qL K (qL K (qL K (qQ K)))) G v hs := ⟨hv⟩
    have hz : Has qX G z t := ⟨hz⟩
    have hy : Has qN G y L := ⟨hy⟩
    refine ⟨_, (pss_cons (ps_setLc (i := 4) (own := [("_law_count", 6)]) (g := (gName 6)) (tt := tYes) rfl sc__law_least_row.nd rfl rfl (sw_true rfl rfl rfl (by decide +kernel)) (pi_range1 (by rfl) T.n_range (pa_cons (pe_op op_add (pv 3) pe_int) pa_nil)) (blkOk_by (own := [("_law_count", 6)]) (N := n__law_least_row) (sc := defScope s__law_least_row) (by decide +kernel)) (fun _ _ _ _ _ => (pg_name (i := 6) sc__law_least_row.nd rfl (Or.inl rfl))) (fun _ _ _ _ _ => pts_nil) (fun _ _ _ _ _ => (pe_lc (own := [("_law_shares", 5)]) (g := (gName 5)) (tt := tYes) rfl sc__law_least_row.nd (piL (K := K) rfl (pv 1)) (blkOk_by (own := [("_law_shares", 5)]) (N := n__law_least_row) (sc := relS _ (defScope s__law_least_row)) (by decide +kernel)) (fun _ _ _ _ _ => (pg_name (i := 5) sc__law_least_row.nd rfl (by first | exact Or.inl rfl | exact Or.inr rfl))) (fun _ _ _ _ _ => pts_nil) (fun _ _ _ _ _ => (pe_tup (pa_cons pe_int (pa_cons pe_int pa_nil)))))))
      (pss_cons (ps_for PassesOwn.never rfl (pi_range1 (by rfl) T.n_range (pa_cons (c_len (K := K) rfl T.n_len (pa_cons (pv 2) pa_nil)) pa_nil)) (pg_name (i := 7) sc__law_least_row.nd rfl (Or.inr rfl)) (pss_cons (ps_set (i := 8) sc__law_least_row.nd rfl (Or.inr rfl) (pe_cl (ok__law_index T) hr (pa_cons (pv 0) (pa_cons (pe_slice sl_str (pv 2) po_none (po_some (pv 7))) pa_nil))))
      (pss_cons (ps_set (i := 9) sc__law_least_row.nd rfl (Or.inl rfl) (pe_lst pa_nil))
      (pss_cons (ps_for PassesOwn.never rfl (pi_range1 (by rfl) T.n_range (pa_cons (pe_op op_add (pv 3) pe_int) pa_nil)) (pg_name (i := 6) sc__law_least_row.nd rfl (Or.inl rfl)) (pss_cons (ps_set (i := 10) sc__law_least_row.nd rfl (Or.inr rfl) (c_list (K := K) rfl T.n_list (pa_cons (pe_ix (ixL (K := K) rfl) (pv 4) (pv 6) (fun _ _ => rfl)) pa_nil)))
      (pss_cons (ps_if (PW.pt (pw_and (pt_cmpR op_gt (pv 6) pe_int (nomark _)) (pw_and1 (pt_cmpR op_gt (pv 7) pe_int (nomark _))))) (pss_cons (ps_set (i := 11) sc__law_least_row.nd rfl (Or.inr rfl) (pe_cl (ok__law_lowest T) hr (pa_cons (pe_ix (ixL (K := K) rfl) (pv 4) (pe_op op_sub (pv 6) pe_int) (fun _ _ => rfl)) pa_nil)))
      (pss_one (ps_set (i := 10) sc__law_least_row.nd rfl (Or.inr rfl) (pe_lc (own := [("_law_value", 12)]) (g := (gName 12)) (tt := tYes) rfl sc__law_least_row.nd (piL (K := K) rfl (pv 10)) (blkOk_by (own := [("_law_value", 12)]) (N := n__law_least_row) (sc := defScope s__law_least_row) (by decide +kernel)) (fun _ _ _ _ _ => (pg_name (i := 12) sc__law_least_row.nd rfl (by first | exact Or.inl rfl | exact Or.inr rfl))) (fun _ _ _ _ _ => pts_nil) (fun _ _ _ _ _ => (pe_cl (ok__law_lowest T) hr (pa_cons (pe_lst (pa_cons (pv 12) (pa_cons (pv 11) pa_nil))) pa_nil))))))) pss_nil)
      (pss_cons (ps_set (i := 13) sc__law_least_row.nd rfl (Or.inr rfl) (pe_lc (own := [("_law_shares", 5)]) (g := (gName 5)) (tt := tYes) rfl sc__law_least_row.nd (piL (K := K) rfl (pv 1)) (blkOk_by (own := [("_law_shares", 5)]) (N := n__law_least_row) (sc := defScope s__law_least_row) (by decide +kernel)) (fun _ _ _ _ _ => (pg_name (i := 5) sc__law_least_row.nd rfl (by first | exact Or.inl rfl | exact Or.inr rfl))) (fun _ _ _ _ _ => pts_nil) (fun _ _ _ _ _ => (pe_cl (ok__law_minus T) hr (pa_cons (pe_tup (pa_cons pe_int (pa_cons pe_int pa_nil))) (pa_cons (pe_ix (ixL (K := K) rfl) (pe_ix (ixL (K := K) rfl) (pv 5) (pv 8) (fun _ _ => rfl)) (c_intS (K := K) rfl T.n_int (pa_cons (pe_ix ix_str (pv 2) (pv 7) (fun _ _ => rfl)) pa_nil)) (fun _ _ => rfl)) pa_nil))))))
      (pss_one (ps_expr (pe_bm PySem.F.plainAttrs_list PySem.F.slot_list_append PySem.F.type_list_append mt_append (pv 9) (pa_cons (pe_lc (own := [("_law_j", 14)]) (g := (gName 14)) (tt := tYes) rfl sc__law_least_row.nd (pi_range1 (by rfl) T.n_range (pa_cons (c_len (K := K) rfl T.n_len (pa_cons (pv 10) pa_nil)) pa_nil)) (blkOk_by (own := [("_law_j", 14)]) (N := n__law_least_row) (sc := defScope s__law_least_row) (by decide +kernel)) (fun _ _ _ _ _ => (pg_name (i := 14) sc__law_least_row.nd rfl (by first | exact Or.inl rfl | exact Or.inr rfl))) (fun _ _ _ _ _ => pts_nil) (fun _ _ _ _ _ => (pe_cl (ok__law_plus T) hr (pa_cons (pe_ix (ixL (K := K) rfl) (pv 10) (pv 14) (fun _ _ => rfl)) (pa_cons (pe_ix (ixL (K := K) rfl) (pv 13) (pv 14) (fun _ _ => rfl)) pa_nil))))) pa_nil))))))))
      (pss_one (ps_set (i := 4) sc__law_least_row.nd rfl (Or.inl rfl) (pv 9)))))))
      (pss_one (ps_ret (pe_cl (ok__law_lowest T) hr (pa_cons (pe_ix (ixL (K := K) rfl) (pv 4) (pv 3) (fun _ _ => rfl)) pa_nil)))))), ?_⟩
    have h8 := ok.sp.R8
    have hn0 := ok.sp.1
    have hn5 := ok.sp.2.1
    have hm0 := ok.h0
    have hm5 := ok.h5
    have hl8 := ok.l8
    have sqt := sq_stF n (plnL n hs) L
    rw [plnL_len] at sqt
    refine st_asg (r := qL K (qL K (qQ K))) (x := startL hs.length L) wd ?_ fun vw G1 H1 g1 w1 s1 hw => ?_
    · unfold startL
      refine tv_map (it_rng1 (n := L + 1) ((tv_opJ (tv_v rfl hy.nI) tv_i).eq (by rw [Int.natCast_add]; rfl)) (by omega)) tg1 (own1 (by decide)) (by rw [List.length_range]; omega) fun D i x G1 σ1 hx g1 ⟨vx, ex, hvx⟩ => ?_
      subst ex
      have e : ((List.range hs.length).map fun _ => (0 : Rat)) = hs.map fun _ => (0 : Rat) := by
        rw [List.map_const', List.map_const', List.length_range]
      rw [e]
      exact tv_map (it_list (tv_v rfl (hv.mo g1))) tg1 (own1 (by decide)) (by omega) fun D2 i2 x2 G2 σ2 hx2 g2 ⟨vx2, ex2, hvx2⟩ => tv_q K rfl rfl
    have hw : Has (qL K (qL K (qQ K))) G1 vw (stF n (plnL n hs) L (t.take 0)) := by
      have e : startL hs.length L = stF n (plnL n hs) L (t.take 0) := by
        unfold stF
        rw [List.take_zero, plnL_len]
        rfl
      rw [← e]
      exact hw
    refine st_forS w1 (it_rng1 (n := t.length) (tv_lenX (tv_v rfl (hz.mo g1)) (by omega)) (by omega)) tg1
      (fun i σ G' H' => ∃ (vw : V) (o6 o7 o8 o9 o10 o11 o13 : Option V), σ = [some u, some v, some z, some y, some vw, none, o6, o7, o8, o9, o10, o11, none, o13, none] ∧ Same H H' ∧ Has (qL K (qL K (qQ K))) G' vw (stF n (plnL n hs) L (t.take i)))
      (fun G' H' g s w => ⟨vw, none, none, none, none, none, none, none, rfl, s1.trans s, hw.mo g⟩) ?_ ?_
    · rintro i x σ1 G2 H2 G3 H3 σ2 hx ⟨vw, o6, o7, o8, o9, o10, o11, o13, rfl, s2, hw⟩ g2 g3 s3 w3 ⟨vk, rfl, hk⟩ N hN
      have hi : i < t.length := by
        have := (List.getElem?_eq_some_iff.mp hx).1
        rw [List.length_range] at this
        exact this
      have exi : x = i := by
        rw [List.getElem?_range hi] at hx
        exact (Option.some.inj hx).symm
      subst exi
      obtain ⟨d, hd⟩ : ∃ d, t[x]? = some d := get_of hi
      have hdn := td d (List.mem_of_getElem? hd)
      have tkl : (t.take x).length = x := by rw [List.length_take]; omega
      have tkd := td.take x
      have hb := bidx_lim hn5 (show (t.take x).length ≤ 8 by omega) tkd
      have gg := g1.trans (g2.trans g3)
      have sq := sqt (t.take x)
      have bst := ok.st _ tkd (by omega)
      have sqT := sq_turned sq
      have bT := bh_turned hm0 sq bst
      refine st_asg w3 (tv_call (ta_c (tv_v rfl (hu.mo gg)) (ta_c (tv_takeX (tv_v rfl (hz.mo gg)) (to_some (tv_v rfl hk.nI)) (by omega)) ta_n)) ⟨hn5, by show (t.take x).length ≤ 8; omega, tkd⟩) fun va G4 H4 g4 w4 s4 hat => ?_
      have hat : Has qN G4 va (bidx n (t.take x)) := hat
      refine st_new (q := qL K (qQ K)) w4 fun p G5 hp5 s5 w5 o5 => ?_
      have hpn : H p = none := by
        cases e : H p with
        | none => rfl
        | some u => rw [((s2.trans s3).trans s4) _ _ e] at hp5; cases hp5
      have stp : ∀ c, c < L + 1 → (stF n (plnL n hs) L (t.take (x + 1)))[c]? = some ((((turnedL (stF n (plnL n hs) L (t.take x))).getD c []).zip (partsL n (plnL n hs) (t.take x) d)).map fun z => z.1 + z.2) := fun c hc => by
        rw [take_snoc hd, stF_snoc]
        unfold grownL
        rw [List.getElem?_map, List.getD_eq_getElem?_getD, List.getElem?_eq_getElem (by rw [sqT.1]; exact hc)]
        rfl
      refine st_forS w5 (it_rng1 (n := L + 1) ((tv_opJ (tv_v rfl ((hy.mo gg).mo g4).nI) tv_i).eq (by rw [Int.natCast_add]; rfl)) (by omega)) tg1
        (fun c σ G' H' => ∃ (o6 o10 o11 o13 : Option V), σ = [some u, some v, some z, some y, some vw, none, o6, some vk, some va, some (.ref p), o10, o11, none, o13, none] ∧ Same H H' ∧ OwL (qL K (qQ K)) O G' H' p ((stF n (plnL n hs) L (t.take (x + 1))).take c))
        (fun G' H' g s w => ⟨_, _, _, _, rfl, (((s2.trans s3).trans s4).trans s5).trans s, by rw [List.take_zero]; exact o5.on g s⟩) ?_ ?_
      · rintro c xc σ3 G6 H6 G7 H7 σ4 hxc ⟨q6, q10, q11, q13, rfl, s6, o6'⟩ g6 g7 s7 w7 ⟨vc, rfl, hc⟩ N2 hN2
        have hcl : c < L + 1 := by
          have := (List.getElem?_eq_some_iff.mp hxc).1
          rw [List.length_range] at this
          exact this
        have exc : xc = c := by
          rw [List.getElem?_range hcl] at hxc
          exact (Option.some.inj hxc).symm
        subst exc
        have g37 := (g4.trans g6).trans g7
        have gall := gg.trans g37
        have hw7 := (hw.mo g3).mo g37
        have hsl : (stF n (plnL n hs) L (t.take x)).length = L + 1 := sq.1
        have hget : (stF n (plnL n hs) L (t.take x))[xc]? = some ((stF n (plnL n hs) L (t.take x)).getD xc []) := by
          rw [List.getD_eq_getElem?_getD, List.getElem?_eq_getElem (by omega)]
          rfl
        refine st_asg w7 (tv_listL (tv_ixL (tv_v rfl hw7) (tv_v rfl hc.nI) (atI_nat hget))) fun vl G8 H8 g8 w8 s8 hl => ?_
        have hl : Has (qL K (qQ K)) G8 vl ((stF n (plnL n hs) L (t.take x)).getD xc []) := hl
        have lnm := sq.2 _ (getD_mem (s := stF n (plnL n hs) L (t.take x)) (k := xc) (by omega))
        have turnE : ∀ c, c < L + 1 → (turnedL (stF n (plnL n hs) L (t.take x))).getD c [] = if c = 0 then (stF n (plnL n hs) L (t.take x)).getD 0 [] else ((stF n (plnL n hs) L (t.take x)).getD c []).map fun v => minQ [v, minQ ((stF n (plnL n hs) L (t.take x)).getD (c - 1) [])] := fun c hc => by
          conv => lhs; unfold turnedL
          rw [List.getD_eq_getElem?_getD, List.getElem?_map, List.getElem?_range (by omega)]
          rfl
        refine st_ifJ w8 (tt_and (tt_opB (tv_v rfl (hc.mo g8).nI) tv_i) fun _ => tt_opB (tv_v rfl (hk.mo (g37.trans g8)).nI) tv_i)
          (fun σ G' H' => ∃ (vl : V) (o11 : Option V), σ = [some u, some v, some z, some y, some vw, none, some vc, some vk, some va, some (.ref p), some vl, o11, none, q13, none] ∧ Same H H' ∧ OwL (qL K (qQ K)) O G' H' p ((stF n (plnL n hs) L (t.take (x + 1))).take xc) ∧ Has (qL K (qQ K)) G' vl ((turnedL (stF n (plnL n hs) L (t.take x))).getD xc []))
          (fun eb H9 s9 w9 N3 hN3 => ?_) (fun eb H9 s9 w9 => ⟨vl, q11, rfl, ((s6.trans s7).trans s8).trans s9, (o6'.on (g7.trans g8) (s7.trans s8)).on (Same.refl _) s9, ?_⟩) ?_
        · have h01 : 0 < xc ∧ 0 < x := by
            rw [Bool.and_eq_true] at eb
            have a1 := of_decide_eq_true eb.1
            have a2 := of_decide_eq_true eb.2
            omega
          have hpm : (stF n (plnL n hs) L (t.take x)).getD (xc - 1) [] ∈ stF n (plnL n hs) L (t.take x) := getD_mem (by omega)
          have hpl := sq.2 _ hpm
          have hpb := bst _ hpm
          have hgp : (stF n (plnL n hs) L (t.take x))[xc - 1]? = some ((stF n (plnL n hs) L (t.take x)).getD (xc - 1) []) := by
            rw [List.getD_eq_getElem?_getD, List.getElem?_eq_getElem (by omega)]
            rfl
          refine st_asg w9 (tv_call (ta_c (tv_sqL (tv_ixL (tv_v rfl (hw7.mo g8)) ((tv_opJ (tv_v rfl (hc.mo g8).nI) tv_i).eq (x' := ((xc - 1 : Nat) : Int)) (by omega)) (atI_nat hgp))) ta_n) ⟨by show 0 < ((stF n (plnL n hs) L (t.take x)).getD (xc - 1) []).length; omega, hpb⟩) fun vo G10 H10 g10 w10 s10 ho => ?_
          have ho : Has (qQ K) G10 vo (minQ ((stF n (plnL n hs) L (t.take x)).getD (xc - 1) [])) := ho
          have bo : Bh (minQ ((stF n (plnL n hs) L (t.take x)).getD (xc - 1) [])) := hpb _ (min_in (List.length_pos_iff.mp (by omega)))
          refine st_asgL (r := qL K (qQ K)) (x := ((stF n (plnL n hs) L (t.take x)).getD xc []).map fun v => minQ [v, minQ ((stF n (plnL n hs) L (t.take x)).getD (xc - 1) [])]) w10 (tv_map (it_list (tv_v rfl (hl.mo g10))) tg1 (own1 (by decide)) (by omega) fun D i2 x2 G11 σ11 hx2 g11 ⟨vx2, ex2, hvx2⟩ => ?_) fun v12 G12 H12 g12 w12 s12 h12 => hN3 _ G12 H12 (g10.trans g12) w12 ⟨v12, some vo, rfl, (((((s6.trans s7).trans s8).trans s9).trans s10).trans s12), ((o6'.on (g7.trans g8) (s7.trans s8)).on ((Same.refl _).trans g10) (s9.trans s10)).on g12 s12, ?_⟩
          · subst ex2
            have bx := bst _ (getD_mem (by omega)) x2 (List.mem_of_getElem? hx2)
            refine tv_call (ta_c (tv_sqL (tv_lst2 (tv_v rfl hvx2) (tv_v rfl (ho.mo g11)))) ta_n) ⟨by show 0 < 2; omega, fun y hy => ?_⟩
            rcases List.mem_cons.mp hy with e | e
            · rw [e]; exact bx
            · rw [List.mem_singleton.mp e]; exact bo
          · rw [turnE xc hcl, if_neg (by omega)]
            exact h12
        · rw [turnE xc hcl]
          by_cases z0 : xc = 0
          · rw [if_pos z0, ← z0]
            exact hl
          · have x0 : x = 0 := by
              by_cases q : x = 0
              · exact q
              · rw [decide_eq_true (show (0 : Int) < (xc : Int) by omega), decide_eq_true (show (0 : Int) < (x : Int) by omega)] at eb
                cases eb
            have e1 : stF n (plnL n hs) L (t.take x) = startL hs.length L := by
              rw [x0, List.take_zero]
              unfold stF
              rw [plnL_len]
              rfl
            have e2 := turned_start (m := hs.length) (L := L) hm0
            rw [← e1] at e2
            have e3 := turnE xc hcl
            rw [e2, if_neg z0] at e3
            rw [if_neg z0, ← e3]
            exact hl
        · rintro σ9 G9 H9 g9 w9 ⟨vl, o11, rfl, s9, o9, hl9⟩
          have g89 := g8.trans g9
          have sm := sqT.2 _ (getD_mem (s := turnedL (stF n (plnL n hs) L (t.take x))) (k := xc) (by rw [sqT.1]; exact hcl))
          have bl := bT _ (getD_mem (s := turnedL (stF n (plnL n hs) L (t.take x))) (k := xc) (by rw [sqT.1]; exact hcl))
          refine st_asg (r := qL K (qQ K)) (x := partsL n (plnL n hs) (t.take x) d) w9 ?_ fun vp G10 H10 g10 w10 s10 hp10 => ?_
          · rw [partsL_pln]
            refine tv_map (it_list (tv_v rfl ((hv.mo gall).mo g89))) tg1 (own1 (by decide)) (by omega) fun D i2 sh2 G11 σ11 hx2 g11 ⟨vx2, ex2, hvx2⟩ => ?_
            subst ex2
            obtain ⟨a1, a2, a3, a4⟩ := (ok.s sh2 (List.mem_of_getElem? hx2)).at_ (show (t.take x).length < R by omega) tkd hdn
            have h11 := g89.trans g11
            exact tv_call (ta_c (tv_q K (x := 1) rfl rfl) (ta_c (tv_ixL (tv_ixL (tv_v rfl hvx2) (tv_v rfl (hat.mo ((g6.trans g7).trans h11)).nI) (atI_nat a1)) (tv_NI (tv_intX (tv_ixX (tv_v rfl (hz.mo (gall.trans h11))) (tv_v rfl (hk.mo (g37.trans h11)).nI) (by omega) hd) (by omega))) (atI_nat a2)) ta_n)) ⟨bh_one, a3⟩
          · have pl : (partsL n (plnL n hs) (t.take x) d).length = hs.length := by rw [partsL_len, plnL_len]
            have bp : ∀ y ∈ partsL n (plnL n hs) (t.take x) d, Bh y := fun y hy => by
              rw [partsL_pln] at hy
              obtain ⟨sh2, hs2, e2⟩ := List.mem_map.mp hy
              rw [← e2]
              exact ((ok.s sh2 hs2).at_ (show (t.take x).length < R by omega) tkd hdn).2.2.2
            refine st_appL (y := (((turnedL (stF n (plnL n hs) L (t.take x))).getD xc []).zip (partsL n (plnL n hs) (t.take x) d)).map fun z => z.1 + z.2) w10 (o9.on g10 s10) rfl (by rw [List.length_take]; omega) ?_ fun G12 H12 g12 w12 s12 o12 => hN2 _ G12 H12 ((g89.trans g10).trans g12) w12 ⟨some vc, some vl, o11, some vp, rfl, s12.same (s9.trans s10) hpn, ?_⟩
            · rw [zip_range _ _ (by omega)]
              refine tv_map (it_rng1 (n := ((turnedL (stF n (plnL n hs) L (t.take x))).getD xc []).length) (tv_lenL (tv_v rfl (hl9.mo g10))) (by omega)) tg1 (own1 (by decide)) (by rw [List.length_range]; omega) fun D j xj G11 σ11 hxj g11 ⟨vj, ej, hvj⟩ => ?_
              subst ej
              have hjl := List.mem_range.mp (List.mem_of_getElem? hxj)
              have ga : ((turnedL (stF n (plnL n hs) L (t.take x))).getD xc [])[xj]? = some (((turnedL (stF n (plnL n hs) L (t.take x))).getD xc []).getD xj 0) := by
                rw [List.getD_eq_getElem?_getD (l := (turnedL (stF n (plnL n hs) L (t.take x))).getD xc []), List.getElem?_eq_getElem hjl]
                rfl
              have gb : (partsL n (plnL n hs) (t.take x) d)[xj]? = some ((partsL n (plnL n hs) (t.take x) d).getD xj 0) := by
                rw [List.getD_eq_getElem?_getD, List.getElem?_eq_getElem (by omega)]
                rfl
              exact tv_call (ta_c (tv_ixL (tv_v rfl ((hl9.mo g10).mo g11)) (tv_v rfl hvj.nI) (atI_nat ga)) (ta_c (tv_ixL (tv_v rfl (hp10.mo g11)) (tv_v rfl hvj.nI) (atI_nat gb)) ta_n)) ⟨bl _ (List.mem_of_getElem? ga), bp _ (List.mem_of_getElem? gb)⟩
            · rw [List.take_add_one, stp xc hcl]
              exact o12
      · rintro σ' G' H' g' w' ⟨q6, q10, q11, q13, rfl, s6, o6'⟩
        rw [List.length_range, List.take_of_length_le (by rw [(sqt (t.take (x + 1))).1]; exact Nat.le_refl _)] at o6'
        obtain ⟨G7, g7, w7, h7⟩ := o6'.fin w'
        exact st_asgL w7 (tv_v rfl h7) fun v8 G8 H8 g8 w8 s8 h8' => hN _ G8 H8 (((g4.trans g').trans g7).trans g8) w8 ⟨v8, q6, some vk, some va, some (.ref p), q10, q11, q13, rfl, s6.trans s8, ⟨qLs_L h8'.h⟩⟩
    · rintro σ' G' H' g' w' ⟨vw, o6, o7, o8, o9, o10, o11, o13, rfl, s2, hw⟩
      rw [List.length_range, List.take_length] at hw
      have sq := sqt t
      have hm := getD_mem (s := stF n (plnL n hs) L t) (k := L) (by rw [sq.1]; omega)
      have hg : (stF n (plnL n hs) L t)[L]? = some ((stF n (plnL n hs) L t).getD L []) := by
        rw [List.getD_eq_getElem?_getD, List.getElem?_eq_getElem (by rw [sq.1]; omega)]
        rfl
      have ln := sq.2 _ hm
      exact st_ret w' (tv_call (ta_c (tv_sqL (tv_ixL (tv_v rfl hw) (tv_v rfl ((hy.mo g1).mo g').nI) (atI_nat hg))) ta_n) ⟨by show 0 < ((stF n (plnL n hs) L t).getD L []).length; omega, ok.st t td tl _ hm⟩) fun v' H'' s hv => k v' H'' (s2.trans s) hv
end
end Nb
set_option Elab.async false
set_option linter.all false
set_option maxRecDepth 100000
set_option maxHeartbeats 4000000
namespace Nb
open PySem L2
open PyProof.Rows (envOfC)
def lawC (n R : Nat) (hs : List (List (List Rat))) (L : Nat) : List Rat := (rowsL n R).map fun t => minQ ((stF n (plnL n hs) L t).getD L [])
/-- the chance of a text -/
def chP (q : List Nat → List Rat) : List Nat → List Nat → Rat → Rat
  | _, [], a => a
  | pre, d :: r, a => chP q (pre ++ [d]) r (a * (q pre).getD d 0)
def chF (q : List Nat → List Rat) (t : List Nat) : Rat := chP q [] t 1
theorem chP_snoc (q : List Nat → List Rat) (d : Nat) : ∀ (r pre : List Nat) (a : Rat), chP q pre (r ++ [d]) a = chP q pre r a * (q (pre ++ r)).getD d 0
  | [], pre, a => by simp [chP]
  | e :: r, pre, a => by
    show chP q (pre ++ [e]) (r ++ [d]) _ = chP q (pre ++ [e]) r _ * _
    rw [chP_snoc q d r, List.append_assoc]
    rfl
theorem chF_snoc (q : List Nat → List Rat) (t : List Nat) (d : Nat) : chF q (t ++ [d]) = chF q t * (q t).getD d 0 := by
  unfold chF
  rw [chP_snoc]
  rfl
def wPlus (q : List Nat → List Rat) (zs : List (List Nat × Rat)) : Rat := zs.foldl (fun a z => a + chF q z.1 * z.2) 0
def wLess (q : List Nat → List Rat) (a : Rat) (ts : List (List Nat)) : Rat := ts.foldl (fun a t => a - chF q t * (1 - maxQ (q t))) a
def worthL (n R : Nat) (q : List Nat → List Rat) (cs : List Rat) : Rat := wLess q (wPlus q ((rowsL n R).zip cs)) (begL n R)
structure WorH (n R : Nat) (sh : List (List Rat)) (cs : List Rat) : Prop where
  m : MisH n R sh
  l : cs.length = n ^ R
  c : ∀ y ∈ cs, Bh y
  ch : ∀ t, Dig n t → t.length ≤ R → Bh (chF (shF n sh) t)
  cc : ∀ z ∈ (rowsL n R).zip cs, Bh (chF (shF n sh) z.1 * z.2)
  p : ∀ i, Bh (wPlus (shF n sh) (((rowsL n R).zip cs).take i))
  mx : ∀ t, Dig n t → t.length < R → Bh (maxQ (shF n sh t)) ∧ Bh (1 - maxQ (shF n sh t)) ∧ Bh (chF (shF n sh) t * (1 - maxQ (shF n sh t)))
  q : ∀ i, Bh (wLess (shF n sh) (wPlus (shF n sh) ((rowsL n R).zip cs)) ((begL n R).take i))
section
variable {P : Program} {w : World} {K : PySem.W.Frag} {mg : PySem.Str → Option Value} {base : Heap}
theorem sc__law_switched : FnScope n__law_switched ["_law_width", "_law_rounds_here", "_law_helpers", "_law_most_here"] (defScope s__law_switched) := ⟨rfl, rfl, rfl, by decide +kernel, rfl, by decide +kernel, by decide +kernel⟩
theorem ok__law_switched (T : Ctx P w K mg base) : Pro P w K mg base "_law_switched" ["_law_width", "_law_rounds_here", "_law_helpers", "_law_most_here"] 5 (spP (raC qN (raC qN (raC (qL K (qL K (qL K (qQ K)))) (raC qI raN)))) (fun x => 0 ≤ x.2.2.2.1 ∧ SwH x.1 x.2.1 x.2.2.1 (limL x.2.2.2.1 x.2.1)) (qL K (qQ K)) fun x => lawC x.1 x.2.1 x.2.2.1 (limL x.2.2.2.1 x.2.1)) := by
  refine mk_pro T.d__law_switched (fun _ _ _ _ _ _ us hl => match us, hl with | [_, _, _, _], _ => rfl) fun f fd F => ?_
  refine def_any F sc__law_switched rfl fun cdv A outer s H E O G 
    vs a hr wd hra hpr Q k => by
    obtain ⟨n, R, hs, s, _⟩ := a
    obtain ⟨u, v, z, y, rfl, hu, hv, hz, hy⟩ := ra4 hra
    obtain ⟨s0, ok⟩ : 0 ≤ s ∧ SwH n R hs (limL s R) := hpr
    have hu : Has qN G u n := ⟨hu⟩
    have hv : Has qN G v R := ⟨hv⟩
    have hz : Has (qL K (qL K (qL K (qQ K)))) G z hs := ⟨hz⟩
    have hy : Has qI G y s := ⟨hy⟩
    refine ⟨_, (pss_one (ps_ret (pe_lc (own := [("_law_row", 4)]) (g := (gName 4)) (tt := tYes) rfl sc__law_switched.nd (piL (K := K) rfl (pe_cl (ok__law_rows T) hr (pa_cons (pv 0) (pa_cons (pv 1) pa_nil)))) (blkOk_by (own := [("_law_row", 4)]) (N := n__law_switched) (sc := defScope s__law_switched) (by decide +kernel)) (fun _ _ _ _ _ => (pg_name (i := 4) sc__law_switched.nd rfl (by first | exact Or.inl rfl | exact Or.inr rfl))) (fun _ _ _ _ _ => pts_nil) (fun _ _ _ _ _ => (pe_cl (ok__law_least_row T) hr (pa_cons (pv 0) (pa_cons (pv 2) (pa_cons (pv 4) (pa_cons (c_max2 (K := K) rfl T.n_max (pa_cons pe_int (pa_cons (c_min2 (K := K) rfl T.n_min (pa_cons (c_int (K := K) rfl T.n_int (pa_cons (pv 3) pa_nil)) (pa_cons (pe_op op_sub (pv 1) pe_int) pa_nil))) pa_nil))) pa_nil))))))))), ?_⟩
    have hl := ok.sp.rows (Nat.le_refl _)
    refine st_ret (r := qL K (qQ K)) (x := lawC n R hs (limL s R)) wd ?_ k
    refine tv_map (it_list (tv_Ls (Tv.eq (x' := rowsL n R) (tv_call (ta_c (tv_v rfl hu) (ta_c (tv_v rfl hv) ta_n)) ⟨R, ok.sp, Nat.le_refl _⟩) rfl))) tg1 (own1 (by decide)) (by omega) fun D i t G1 σ1 hx g1 ⟨vx, ex, hvx⟩ => ?_
    subst ex
    obtain ⟨tl, td⟩ := rowsL_at (List.mem_of_getElem? hx)
    refine tv_call (ta_c (tv_v rfl (hu.mo g1)) (ta_c (tv_v rfl (hz.mo g1)) (ta_c (tv_v rfl hvx) (ta_c (tv_IN (n := limL s R) (tv_max2 tv_i (tv_min2 (tv_int (tv_v rfl (hy.mo g1))) (tv_opJ (tv_v rfl (hv.mo g1).nI) tv_i))) ?_) ta_n)))) ⟨R, ok, td, Nat.le_of_eq tl⟩
    unfold limL
    omega
theorem sc__law_chance_of : FnScope n__law_chance_of ["_law_width", "_law_shares", "_law_text"] (defScope s__law_chance_of) := ⟨rfl, rfl, rfl, by decide +kernel, rfl, by decide +kernel, by decide +kernel⟩
theorem ok__law_chance_of (T : Ctx P w K mg base) : Pro P w K mg base "_law_chance_of" ["_law_width", "_law_shares", "_law_text"] 4 (spP (raC qN (raC (qL K (qL K (qQ K))) (raC qX raN))) (fun x => (∃ R, MisH x.1 R x.2.1 ∧ x.2.2.1.length ≤ R ∧ ∀ i, Bh (chF (shF x.1 x.2.1) (x.2.2.1.take i))) ∧ Dig x.1 x.2.2.1) (qQ K) fun x => chF (shF x.1 x.2.1) x.2.2.1) := by
  refine mk_pro T.d__law_chance_of (fun _ _ _ _ _ _ us hl => match us, hl with | [_, _, _], _ => rfl) fun f fd F => ?_
  refine def3 F sc__law_chance_of rfl fun cdv A outer s H E O G 
    u v z n sh t hr wd hu hv hz hp Q k => ⟨_, (pss_cons (ps_set (i := 3) sc__law_chance_of.nd rfl (Or.inl rfl) (pe_tup (pa_cons pe_int (pa_cons pe_int pa_nil))))
      (pss_cons (ps_for PassesOwn.never rfl (pi_range1 (by rfl) T.n_range (pa_cons (c_len (K := K) rfl T.n_len (pa_cons (pv 2) pa_nil)) pa_nil)) (pg_name (i := 4) sc__law_chance_of.nd rfl (Or.inl rfl)) (pss_one (ps_set (i := 3) sc__law_chance_of.nd rfl (Or.inl rfl) (pe_cl (ok__law_times T) hr (pa_cons (pv 3) (pa_cons (pe_ix (ixL (K := K) rfl) (pe_ix (ixL (K := K) rfl) (pv 1) (pe_cl (ok__law_index T) hr (pa_cons (pv 0) (pa_cons (pe_slice sl_str (pv 2) po_none (po_some (pv 4))) pa_nil))) (fun _ _ => rfl)) (c_intS (K := K) rfl T.n_int (pa_cons (pe_ix ix_str (pv 2) (pv 4) (fun _ _ => rfl)) pa_nil)) (fun _ _ => rfl)) pa_nil))))))
      (pss_one (ps_ret (pv 3))))), ?_⟩
  obtain ⟨⟨R, ok, ht, hb⟩, hd⟩ : (∃ R, MisH n R sh ∧ t.length ≤ R ∧ ∀ i, Bh (chF (shF n sh) (t.take i))) ∧ Dig n t := hp
  have h8 := ok.sp.R8
  have h5 := ok.sp.2.1
  refine st_asg wd (tv_q K (x := 1) rfl rfl) fun v0 G1 H1 g1 w1 s1 h0 => ?_
  refine st_forS w1 (it_rng1 (n := t.length) (tv_lenX (tv_v rfl (hz.mo g1)) (by omega)) (by omega)) tg1 (fun i σ G' H' => ∃ (v' : V) (o : Option V), σ = [some u, some v, some z, some v', o] ∧ Same H H' ∧ Has (qQ K) G' v' (chF (shF n sh) (t.take i)))
    (fun G' H' g s w => ⟨v0, none, rfl, s1.trans s, h0.mo g⟩) ?_ ?_
  · rintro i x σ1 G5 H5 G6 H6 σ2 hx ⟨v', o, rfl, s5, hv'⟩ g5 g6 s6 w6 ⟨vk, rfl, hk⟩ N hN
    have hi : i < t.length := by
      have := (List.getElem?_eq_some_iff.mp hx).1
      rw [List.length_range] at this
      exact this
    have exi : x = i := by
      rw [List.getElem?_range hi] at hx
      exact (Option.some.inj hx).symm
    subst exi
    obtain ⟨d, hd1⟩ : ∃ d, t[x]? = some d := get_of hi
    have hdn := hd d (List.mem_of_getElem? hd1)
    have tl : (t.take x).length = x := by rw [List.length_take]; omega
    have td := hd.take x
    obtain ⟨a1, a2, a3, a4⟩ := ok.at_ (show (t.take x).length < R by omega) td hdn
    have gg := g1.trans (g5.trans g6)
    refine st_asgL w6 (tv_call (ta_c (tv_v rfl (hv'.mo g6)) (ta_c (tv_ixL (tv_ixL (tv_v rfl (hv.mo gg)) (tv_NI (tv_call (ta_c (tv_v rfl (hu.mo gg)) (ta_c (tv_takeX (tv_v rfl (hz.mo gg)) (to_some (tv_v rfl hk.nI)) (by omega)) ta_n)) ⟨h5, by show (t.take x).length ≤ 8; omega, td⟩)) (atI_nat a1)) (tv_NI (tv_intX (tv_ixX (tv_v rfl (hz.mo gg)) (tv_v rfl hk.nI) (by omega) hd1) (by omega))) (atI_nat a2)) ta_n)) ⟨hb x, a3⟩) fun v7 G7 H7 g7 w7 s7 h7 => hN _ G7 H7 g7 w7 ⟨v7, some vk, rfl, (s5.trans s6).trans s7, ?_⟩
    rw [take_snoc hd1, chF_snoc]
    exact h7
  · rintro σ' G' H' g' w' ⟨v', o, rfl, s5, hv'⟩
    rw [List.length_range, List.take_length] at hv'
    exact st_ret w' (tv_v rfl hv') fun v H'' s hv => k v H'' (s5.trans s) hv
theorem wPlus_take {q : List Nat → List Rat} {zs : List (List Nat × Rat)} {i : Nat} {z : List Nat × Rat} (h : zs[i]? = some z) : wPlus q (zs.take (i + 1)) = wPlus q (zs.take i) + chF q z.1 * z.2 := by
  unfold wPlus
  rw [take_snoc h, List.foldl_append]
  rfl
theorem wLess_take {q : List Nat → List Rat} {a : Rat} {zs : List (List Nat)} {i : Nat} {z : List Nat} (h : zs[i]? = some z) : wLess q a (zs.take (i + 1)) = wLess q a (zs.take i) - chF q z * (1 - maxQ (q z)) := by
  unfold wLess
  rw [take_snoc h, List.foldl_append]
  rfl
theorem sc__law_worth_of : FnScope n__law_worth_of ["_law_width", "_law_rounds_here", "_law_shares", "_law_cells"] (defScope s__law_worth_of) := ⟨rfl, rfl, rfl, by decide +kernel, rfl, by decide +kernel, by decide +kernel⟩
theorem ok__law_worth_of (T : Ctx P w K mg base) : Pro P w K mg base "_law_worth_of" ["_law_width", "_law_rounds_here", "_law_shares", "_law_cells"] 5 (spP (raC qN (raC qN (raC (qL K (qL K (qQ K))) (raC (qL K (qQ K)) raN)))) (fun x => WorH x.1 x.2.1 x.2.2.1 x.2.2.2.1) (qQ K) fun x => worthL x.1 x.2.1 (shF x.1 x.2.2.1) x.2.2.2.1) := by
  refine mk_pro T.d__law_worth_of (fun _ _ _ _ _ _ us hl => match us, hl with | [_, _, _, _], _ => rfl) fun f fd F => ?_
  refine def_any F sc__law_worth_of rfl fun cdv A outer s H E O G 
    vs a hr wd hra hpr Q k => by
    obtain ⟨n, R, sh, cs, _⟩ := a
    obtain ⟨u, v, z, y, rfl, hu, hv, hz, hy⟩ := ra4 hra
    have ok : WorH n R sh cs := hpr
    have hu : Has qN G u n := ⟨hu⟩
    have hv : Has qN G v R := ⟨hv⟩
    have hz : Has (qL K (qL K (qQ K))) G z sh := ⟨hz⟩
    have hy : Has (qL K (qQ K)) G y cs := ⟨hy⟩
    refine ⟨_, (pss_cons (ps_set (i := 4) sc__law_worth_of.nd rfl (Or.inl rfl) (pe_tup (pa_cons pe_int (pa_cons pe_int pa_nil))))
      (pss_cons (ps_set (i := 5) sc__law_worth_of.nd rfl (Or.inl rfl) (pe_cl (ok__law_rows T) hr (pa_cons (pv 0) (pa_cons (pv 1) pa_nil))))
      (pss_cons (ps_for PassesOwn.never rfl (pi_range1 (by rfl) T.n_range (pa_cons (c_len (K := K) rfl T.n_len (pa_cons (pv 5) pa_nil)) pa_nil)) (pg_name (i := 6) sc__law_worth_of.nd rfl (Or.inl rfl)) (pss_one (ps_set (i := 4) sc__law_worth_of.nd rfl (Or.inl rfl) (pe_cl (ok__law_plus T) hr (pa_cons (pv 4) (pa_cons (pe_cl (ok__law_times T) hr (pa_cons (pe_cl (ok__law_chance_of T) hr (pa_cons (pv 0) (pa_cons (pv 2) (pa_cons (pe_ix (ixL (K := K) rfl) (pv 5) (pv 6) (fun _ _ => rfl)) pa_nil)))) (pa_cons (pe_ix (ixL (K := K) rfl) (pv 3) (pv 6) (fun _ _ => rfl)) pa_nil))) pa_nil))))))
      (pss_cons (ps_for PassesOwn.never rfl (piL (K := K) rfl (pe_cl (ok__law_begins T) hr (pa_cons (pv 0) (pa_cons (pv 1) pa_nil)))) (pg_name (i := 7) sc__law_worth_of.nd rfl (Or.inl rfl)) (pss_cons (ps_set (i := 8) sc__law_worth_of.nd rfl (Or.inl rfl) (pe_cl (ok__law_minus T) hr (pa_cons (pe_tup (pa_cons pe_int (pa_cons pe_int pa_nil))) (pa_cons (pe_cl (ok__law_highest T) hr (pa_cons (pe_ix (ixL (K := K) rfl) (pv 2) (pe_cl (ok__law_index T) hr (pa_cons (pv 0) (pa_cons (pv 7) pa_nil))) (fun _ _ => rfl)) pa_nil)) pa_nil))))
      (pss_one (ps_set (i := 4) sc__law_worth_of.nd rfl (Or.inl rfl) (pe_cl (ok__law_minus T) hr (pa_cons (pv 4) (pa_cons (pe_cl (ok__law_times T) hr (pa_cons (pe_cl (ok__law_chance_of T) hr (pa_cons (pv 0) (pa_cons (pv 2) (pa_cons (pv 7) pa_nil)))) (pa_cons (pv 8) pa_nil))) pa_nil)))))))
      (pss_one (ps_ret (pv 4))))))), ?_⟩
    have hl := ok.m.sp.rows (Nat.le_refl _)
    have h8 := ok.m.sp.R8
    have h5 := ok.m.sp.2.1
    have hcl := ok.l
    have hrl := rowsL_len n R
    refine st_asg wd (tv_q K (x := 0) rfl rfl) fun v0 G1 H1 g1 w1 s1 h0 => ?_
    refine st_asg w1 (tv_call (ta_c (tv_v rfl (hu.mo g1)) (ta_c (tv_v rfl (hv.mo g1)) ta_n)) ⟨R, ok.m.sp, Nat.le_refl _⟩) fun vr G2 H2 g2 w2 s2 hr2 => ?_
    have hr2 : Has (qLs qX) G2 vr (rowsL n R) := hr2
    have hrq : ∀ {G' : Hp}, Same G2 G' → Has (qL K qX) G' vr (rowsL n R) := fun s => ⟨qLs_L (hr2.mo s).h⟩
    refine st_forS w2 (it_rng1 (n := (rowsL n R).length) (tv_lenL (tv_v rfl (hrq (Same.refl _)))) (by omega)) tg1 (fun i σ G' H' => ∃ (v' : V) (o : Option V), σ = [some u, some v, some z, some y, some v', some vr, o, none, none] ∧ Same H H' ∧ Has (qQ K) G' v' (wPlus (shF n sh) (((rowsL n R).zip cs).take i)))
      (fun G' H' g s w => ⟨v0, none, rfl, (s1.trans s2).trans s, (h0.mo g2).mo g⟩) ?_ ?_
    · rintro i x σ1 G5 H5 G6 H6 σ2 hx ⟨v', o, rfl, s5, hv'⟩ g5 g6 s6 w6 ⟨vk, rfl, hk⟩ N hN
      have hi : i < (rowsL n R).length := by
        have := (List.getElem?_eq_some_iff.mp hx).1
        rw [List.length_range] at this
        exact this
      have exi : x = i := by
        rw [List.getElem?_range hi] at hx
        exact (Option.some.inj hx).symm
      subst exi
      obtain ⟨t, ht⟩ : ∃ t, (rowsL n R)[x]? = some t := get_of hi
      obtain ⟨c, hc⟩ : ∃ c, cs[x]? = some c := get_of (by omega)
      have hz2 : ((rowsL n R).zip cs)[x]? = some (t, c) := List.getElem?_zip_eq_some.mpr ⟨ht, hc⟩
      obtain ⟨tl, td⟩ := rowsL_at (List.mem_of_getElem? ht)
      have gg := (g1.trans g2).trans (g5.trans g6)
      have bch := ok.ch t td (Nat.le_of_eq tl)
      have hch : ∀ j, Bh (chF (shF n sh) (t.take j)) := fun j => ok.ch _ (Dig.take td j) (by rw [List.length_take]; omega)
      have bc := ok.c c (List.mem_of_getElem? hc)
      refine st_asgL w6 (tv_call (ta_c (tv_v rfl (hv'.mo g6)) (ta_c (tv_call (ta_c (tv_call (ta_c (tv_v rfl (hu.mo gg)) (ta_c (tv_v rfl (hz.mo gg)) (ta_c (tv_ixL (tv_v rfl (hrq (g5.trans g6))) (tv_v rfl hk.nI) (atI_nat ht)) ta_n))) ⟨⟨R, ok.m, Nat.le_of_eq tl, hch⟩, td⟩) (ta_c (tv_ixL (tv_v rfl (hy.mo gg)) (tv_v rfl hk.nI) (atI_nat hc)) ta_n)) ⟨bch, bc⟩) ta_n)) ⟨ok.p x, ok.cc _ (List.mem_of_getElem? hz2)⟩) fun v7 G7 H7 g7 w7 s7 h7 => hN _ G7 H7 g7 w7 ⟨v7, some vk, rfl, (s5.trans s6).trans s7, ?_⟩
      rw [wPlus_take hz2]
      exact h7
    · rintro σ' G' H' g' w' ⟨v', o, rfl, s5, hv'⟩
      rw [List.length_range, List.take_of_length_le (by rw [List.length_zip]; omega)] at hv'
      have gg := (g1.trans g2).trans g'
      refine st_forS (r := qX) w' (it_list (tv_Ls (Tv.eq (x' := begL n R) (tv_call (ta_c (tv_v rfl (hu.mo gg)) (ta_c (tv_v rfl (hv.mo gg)) ta_n)) ok.m.sp) rfl))) tg1 (fun i σ G'' H'' => ∃ (v' : V) (o7 o8 : Option V), σ = [some u, some v, some z, some y, some v', some vr, o, o7, o8] ∧ Same H H'' ∧ Has (qQ K) G'' v' (wLess (shF n sh) (wPlus (shF n sh) ((rowsL n R).zip cs)) ((begL n R).take i)))
        (fun G'' H'' g s w => ⟨v', none, none, rfl, s5.trans s, by rw [List.take_zero]; exact hv'.mo g⟩) ?_ ?_
      · rintro i t σ1 G5 H5 G6 H6 σ2 ht ⟨v', o7, o8, rfl, s5, hv'⟩ g5 g6 s6 w6 ⟨vt, rfl, hvt⟩ N hN
        obtain ⟨tl, td⟩ := begL_at (List.mem_of_getElem? ht)
        obtain ⟨m1, m2, m3⟩ := ok.mx t td tl
        have bch := ok.ch t td (by omega)
        have hch : ∀ j, Bh (chF (shF n sh) (t.take j)) := fun j => ok.ch _ (Dig.take td j) (by rw [List.length_take]; omega)
        have hb : bidx n t < sh.length := by rw [ok.m.l]; exact begL_lt tl td
        have hg1 : sh[bidx n t]? = some (shF n sh t) := by
          unfold shF
          rw [List.getD_eq_getElem?_getD, List.getElem?_eq_getElem hb]
          rfl
        obtain ⟨l1, l2⟩ := ok.m.s t td tl
        have hn0 := ok.m.sp.1
        have g3 := gg.trans (g5.trans g6)
        refine st_asg w6 (tv_call (ta_c (tv_q K (x := 1) rfl rfl) (ta_c (tv_call (ta_c (tv_sqL (tv_ixL (tv_v rfl (hz.mo g3)) (tv_NI (tv_call (ta_c (tv_v rfl (hu.mo g3)) (ta_c (tv_v rfl hvt) ta_n)) ⟨h5, by show t.length ≤ 8; omega, td⟩)) (atI_nat hg1))) ta_n) ⟨by show 0 < (shF n sh t).length; omega, fun x hx => (l2 x hx).1⟩) ta_n)) ⟨bh_one, m1⟩) fun v7 G7 H7 g7 w7 s7 h7 => ?_
        have h7 : Has (qQ K) G7 v7 (1 - maxQ (shF n sh t)) := h7
        have g4 := g3.trans g7
        refine st_asgL w7 (tv_call (ta_c (tv_v rfl ((hv'.mo g6).mo g7)) (ta_c (tv_call (ta_c (tv_call (ta_c (tv_v rfl (hu.mo g4)) (ta_c (tv_v rfl (hz.mo g4)) (ta_c (tv_v rfl (hvt.mo g7)) ta_n))) ⟨⟨R, ok.m, by show t.length ≤ R; omega, hch⟩, td⟩) (ta_c (tv_v rfl h7) ta_n)) ⟨bch, m2⟩) ta_n)) ⟨ok.q i, m3⟩) fun v8 G8 H8 g8 w8 s8 h8' => hN _ G8 H8 (g7.trans g8) w8 ⟨v8, some vt, some v7, rfl, ((s5.trans s6).trans s7).trans s8, ?_⟩
        rw [wLess_take ht]
        exact h8'
      · rintro σ'' G'' H'' g'' w'' ⟨v', o7, o8, rfl, s5, hv'⟩
        rw [List.take_length] at hv'
        exact st_ret w'' (tv_v rfl hv') fun v H3 s hv => k v H3 (s5.trans s) hv
end
end Nb
set_option Elab.async false
set_option linter.all false
set_option maxRecDepth 100000
set_option maxHeartbeats 4000000
namespace Nb
open PySem L2
open PyProof.Rows (envOfC)
/-! ### alike -/
def qDp (K : PySem.W.Frag) : Rl PyData := fun G v d => Dp K G v d
instance (K : PySem.W.Frag) : Mo (qDp K) := ⟨fun s h => dp_mo s h⟩
def tyD : PyData → String
  | .int _ => "int" | .str _ => "str" | .bool _ => "bool"
  | .tuple _ => "tuple" | .list _ => "list" | .dict _ => "dict"
  | .none => "NoneType"
def AlD : Nat → PyData → Prop
  | _, .bool _ => True
  | _, .int _ => True
  | _, .str _ => True
  | n + 1, .list ds => ds.length < 1000 ∧ ∀ d ∈ ds, AlD n d
  | n + 1, .tuple ds => ds.length < 1000 ∧ ∀ d ∈ ds, AlD n d
  | _, _ => False
section
variable {α β : Type} {O : List Addr} {σ : St} {G H : Hp} {ta tb te : TE} {K : PySem.W.Frag} {d : PyData} {ds : List PyData} {r : Rl α} {x : α}
theorem tv_Dp {f : α → PyData} [DpR K r f] (h : Tv O te σ G r x) : Tv O te σ G (qDp K) (f x) := h.sub fun G v z => DpR.dp G v x z
theorem dp_tyX : ∀ {G : Hp} {v : V} {d : PyData}, Dp K G v d → TyX K G v (.type (tyD d))
  | _, _, _, .non => .base .non
  | _, _, _, .bl b => .base (.bl b)
  | _, _, _, .int i => .base (.int i)
  | _, _, _, .str s => .base (.str s)
  | _, _, _, .lst h _ => ty_lst ⟨_, rfl, h⟩
  | _, _, _, .tup h _ => ty_tup ⟨_, rfl, h⟩
theorem tv_isiD {a b : String} {k : Bool} (ha : tyD d = a) (h : Tv O te σ G (qDp K) d) (hk : kitB a b = some k) : Tv O (tCB (rIsi K) (tCons te (tCons (tC (.ty b)) tNil))) σ G qB k := fun H w Q kk =>
  h H w _ fun v H1 s1 h1 => ⟨v, .ty b, _, _, k, rfl, .ty b, dp_tyX (dp_mo wo_le h1), kit_ty (by rw [ha]; exact hk), kk _ _ s1 rfl⟩
theorem tv_isiD2 (h : Tv O te σ G (qDp K) d) (hk : (∃ ds, d = .list ds) ∨ ∃ ds, d = .tuple ds) : Tv O (tCB (rIsiT K) (tCons te (tCons (tTup (tCons (tC (.ty "list")) (tCons (tC (.ty "tuple")) tNil))) tNil))) σ G qB true := fun H w Q kk =>
  h H w _ fun v H1 s1 h1 => ⟨by rw [sizeLine_eq]; show 2 ≤ _; omega, fun p hp => by
    refine ⟨v, p, [.ty "list", .ty "tuple"], _, [.type "list", .type "tuple"], true, rfl, upd_same, .cons (.ty _) (.cons (.ty _) .nil), dp_tyX (dp_mo (wo_le.trans (same_new hp)) h1), ?_, kk _ _ (s1.trans (same_new hp)) rfl⟩
    rcases hk with ⟨ds, rfl⟩ | ⟨ds, rfl⟩
    · exact kitAny_cons (b := true) (kit_ty (show kitB "list" "list" = some true by decide +kernel)) (fun z => nomatch z) fun _ => rfl
    · exact kitAny_cons (b := false) (kit_ty (show kitB "tuple" "list" = some false by decide +kernel)) (fun _ => kitAny_cons (b := true) (kit_ty (show kitB "tuple" "tuple" = some true by decide +kernel)) (fun z => nomatch z) fun _ => rfl) (fun z => nomatch z)⟩
theorem tt_isND (h : Tv O te σ G (qDp K) d) (hd : d ≠ .none) : Tt O (tB (tIsN te)) σ G false := fun H w Q kk =>
  h H w _ fun v H1 s1 h1 => ⟨false, by
    have : v ≠ .non := fun e => by
      rw [e] at h1
      cases h1
      exact hd rfl
    rw [decide_eq_false this], kk _ s1⟩
theorem tv_eqB {a b : Bool} (ha : Tv O ta σ G qB a) (hb : Tv O tb σ G qB b) : Tv O (tOp rEq ta tb) σ G qB (a == b) := fun H w Q k =>
  ha H w _ fun v H1 s1 h1 => hb H1 (w.same s1) _ fun u H2 s2 h2 => by
    cases h1
    cases h2
    refine ⟨rfl, k _ _ (s1.trans s2) ?_⟩
    show V.bl _ = V.bl _
    cases a <;> cases b <;> rfl
theorem tt_neB {a b : Bool} (ha : Tv O ta σ G qB a) (hb : Tv O tb σ G qB b) : Tt O (tTest (tOp rNe ta tb)) σ G (a != b) := fun H w Q k =>
  ha H w _ fun v H1 s1 h1 => hb H1 (w.same s1) _ fun u H2 s2 h2 => by
    cases h1
    cases h2
    refine ⟨rfl, _, rfl, ?_⟩
    have e : (!decide (V.bl a = V.bl b)) = (a != b) := by cases a <;> cases b <;> rfl
    rw [e]
    exact k _ (s1.trans s2)
theorem tv_eqSS {a : PySem.Str} (ha : Tv O ta σ G qS a) (hb : Tv O tb σ G qS a) : Tv O (tOp rEq ta tb) σ G qB true := fun H w Q k =>
  ha H w _ fun v H1 s1 h1 => hb H1 (w.same s1) _ fun u H2 s2 h2 => by
    cases h1
    cases h2
    refine ⟨rfl, k _ _ (s1.trans s2) ?_⟩
    show V.bl _ = V.bl _
    rw [decide_eq_true rfl]
theorem paired_bools : ∀ {vs : List V} {bs : List Bool} {G : Hp}, Paired (qB G) vs bs → vs = bs.map V.bl
  | _, _, _, .nil => rfl
  | _, _, _, .cons h t => by rw [show _ = V.bl _ from h, paired_bools t]; rfl
theorem tv_all {bs : List Bool} (h : Tv O te σ G (qL K qB) bs) : Tv O (tCB (rAll K) (tCons te tNil)) σ G qB (bs.all id) :=
  tv_cb1 h fun v H d ⟨vs, ⟨a, ev, hs⟩, hp⟩ Q k => by
    subst ev
    exact ⟨a, bs, rfl, by rw [← paired_bools hp]; exact same_sqL wo_le hs, k _ _ (Same.refl _) rfl⟩
theorem dpAll_paired : ∀ {vs : List V} {ds : List PyData}, DpAll K G vs ds → Paired (qDp K G) vs ds
  | _, _, .nil => .nil
  | _, _, .cons h t => .cons h (dpAll_paired t)
theorem dp_bool {v : V} {b : Bool} (h : Dp K G v (.bool b)) : v = .bl b := by cases h; rfl
theorem dp_int {v : V} {b : Int} (h : Dp K G v (.int b)) : v = .int b := by cases h; rfl
theorem dp_str {v : V} {b : PySem.Str} (h : Dp K G v (.str b)) : v = .str b := by cases h; rfl
theorem dp_seq {v : V} (h : Dp K G v d) (hd : d = .list ds ∨ d = .tuple ds) : qSq K (qDp K) G v ds := by
  rcases hd with rfl | rfl
  · cases h with
    | lst h t => exact .inl ⟨_, ⟨_, rfl, h⟩, dpAll_paired t⟩
  · cases h with
    | tup h t => exact .inr ⟨_, ⟨_, rfl, h⟩, dpAll_paired t⟩
end
section
variable {P : Program} {w : World} {K : PySem.W.Frag} {mg : PySem.Str → Option Value} {base : Heap}
theorem sc__law_alike : FnScope n__law_alike ["_law_actual", "_law_due"] (defScope s__law_alike) := ⟨rfl, rfl, rfl, by decide +kernel, rfl, by decide +kernel, by decide +kernel⟩
theorem al0_alike (T : Ctx P w K mg base) : Pro P w K mg base "_law_alike" ["_law_actual", "_law_due"] 1 (spP (raC (qDp K) (raC (qDp K) raN)) (fun x => x.1 = x.2.1 ∧ AlD 0 x.1) qB fun _ => true) := by
  refine mk_pro T.d__law_alike (fun _ _ _ _ _ _ us hl => match us, hl with | [_, _], _ => rfl) fun f fd F => ?_
  refine def2 F sc__law_alike rfl fun cdv A outer s H E O G u v a b hr wd hu hv hp Q k => ⟨_, (pss_cons (ps_if (pt_cmp (pc_isN (pv 1)) rfl) (pss_one (ps_ret (pe_cmp (pc_isN (pv 0)) rfl))) pss_nil)
      (pss_cons (ps_if (PW.pt (pw_or (pt_val (c_isinstance (K := K) rfl T.n_isinstance (pa_cons (pv 1) (pa_cons (peTy T.n_bool PyProof.Rows.boot_bool) pa_nil)))) (pw_or1 (pt_val (c_isinstance (K := K) rfl T.n_isinstance (pa_cons (pv 0) (pa_cons (peTy T.n_bool PyProof.Rows.boot_bool) pa_nil))))))) (pss_one (ps_ret (pe_and (c_isinstance (K := K) rfl T.n_isinstance (pa_cons (pv 1) (pa_cons (peTy T.n_bool PyProof.Rows.boot_bool) pa_nil))) (pe_and (c_isinstance (K := K) rfl T.n_isinstance (pa_cons (pv 0) (pa_cons (peTy T.n_bool PyProof.Rows.boot_bool) pa_nil))) (pe_one (pe_cmpR op_eq (pv 0) (pv 1) (nomark _))))))) pss_nil)
      (pss_cons (ps_if (pt_val (c_isinstance (K := K) rfl T.n_isinstance (pa_cons (pv 1) (pa_cons (peTy T.n_int PyProof.Rows.boot_int) pa_nil)))) (pss_one (ps_ret (pe_and (c_isinstance (K := K) rfl T.n_isinstance (pa_cons (pv 0) (pa_cons (peTy T.n_int PyProof.Rows.boot_int) pa_nil))) (pe_one (pe_cmpR op_eq (pv 0) (pv 1) (nomark _)))))) pss_nil)
      (pss_cons (ps_if (pt_val (c_isinstance (K := K) rfl T.n_isinstance (pa_cons (pv 1) (pa_cons (peTy T.n_str PyProof.Rows.boot_str) pa_nil)))) (pss_one (ps_ret (pe_and (c_isinstance (K := K) rfl T.n_isinstance (pa_cons (pv 0) (pa_cons (peTy T.n_str PyProof.Rows.boot_str) pa_nil))) (pe_one (pe_cmpR op_eq (pv 0) (pv 1) (nomark _)))))) pss_nil)
      (pss_cons (ps_if (PW.pt (pw_or (pt_cmpR op_ne (c_isinstance (K := K) rfl T.n_isinstance (pa_cons (pv 1) (pa_cons (peTy T.n_tuple PyProof.Rows.boot_tuple) pa_nil))) (c_isinstance (K := K) rfl T.n_isinstance (pa_cons (pv 0) (pa_cons (peTy T.n_tuple PyProof.Rows.boot_tuple) pa_nil))) (nomark _)) (pw_or1 (pt_not (pt_val (c_isinstanceT (K := K) rfl T.n_isinstance (pa_cons (pv 0) (pa_cons (pe_tup (pa_cons (peTy T.n_list PyProof.Rows.boot_list) (pa_cons (peTy T.n_tuple PyProof.Rows.boot_tuple) pa_nil))) pa_nil)))))))) (pss_one (ps_ret pe_bl)) pss_nil)
      (pss_one ps_never)))))), ?_⟩
  obtain ⟨e, al⟩ : a = b ∧ AlD 0 a := hp
  subst e
  cases a with
  | bool b =>
    refine st_if wd (tt_isND (tv_v rfl hv) (by intro z; cases z)) (fun z => nomatch z) fun _ H1 s1 w1 => ?_
    have h1 : Has qB G u b := ⟨dp_bool hu.h⟩
    have h2 : Has qB G v b := ⟨dp_bool hv.h⟩
    refine st_if (b := true) w1 (tt_or (a := true) (b := true) (tt_b (tv_isiD (a := "bool") rfl (k := true) (tv_v rfl hv) (by decide +kernel))) (fun z => nomatch z)) (fun _ H2 s2 w2 => ?_) (fun z => nomatch z)
    exact st_ret w2 ((tv_and (tv_isiD (a := "bool") rfl (k := true) (tv_v rfl hv) (by decide +kernel)) fun _ => tv_and (tv_isiD (a := "bool") rfl (k := true) (tv_v rfl hu) (by decide +kernel)) fun _ => tv_eqB (tv_v rfl h1) (tv_v rfl h2)).eq (by simp)) fun v H' s hv => k v H' ((s1.trans s2).trans s) hv
  | int b =>
    refine st_if wd (tt_isND (tv_v rfl hv) (by intro z; cases z)) (fun z => nomatch z) fun _ H1 s1 w1 => ?_
    have h1 : Has qI G u b := ⟨dp_int hu.h⟩
    have h2 : Has qI G v b := ⟨dp_int hv.h⟩
    refine st_if (b := false) w1 (tt_or (a := false) (b := false) (tt_b (tv_isiD (a := "int") rfl (k := false) (tv_v rfl hv) (by decide +kernel))) fun _ => tt_b (tv_isiD (a := "int") rfl (k := false) (tv_v rfl hu) (by decide +kernel))) (fun z => nomatch z) fun _ H2 s2 w2 => ?_
    refine st_if (b := true) w2 (tt_b (tv_isiD (a := "int") rfl (k := true) (tv_v rfl hv) (by decide +kernel))) (fun _ H3 s3 w3 => ?_) (fun z => nomatch z)
    exact st_ret w3 ((tv_and (tv_isiD (a := "int") rfl (k := true) (tv_v rfl hu) (by decide +kernel)) fun _ => tv_eqI (tv_v rfl h1) (tv_v rfl h2)).eq (by simp)) fun v H' s hv => k v H' (((s1.trans s2).trans s3).trans s) hv
  | str b =>
    refine st_if wd (tt_isND (tv_v rfl hv) (by intro z; cases z)) (fun z => nomatch z) fun _ H1 s1 w1 => ?_
    have h1 : Has qS G u b := ⟨dp_str hu.h⟩
    have h2 : Has qS G v b := ⟨dp_str hv.h⟩
    refine st_if (b := false) w1 (tt_or (a := false) (b := false) (tt_b (tv_isiD (a := "str") rfl (k := false) (tv_v rfl hv) (by decide +kernel))) fun _ => tt_b (tv_isiD (a := "str") rfl (k := false) (tv_v rfl hu) (by decide +kernel))) (fun z => nomatch z) fun _ H2 s2 w2 => ?_
    refine st_if (b := false) w2 (tt_b (tv_isiD (a := "str") rfl (k := false) (tv_v rfl hv) (by decide +kernel))) (fun z => nomatch z) fun _ H3 s3 w3 => ?_
    refine st_if (b := true) w3 (tt_b (tv_isiD (a := "str") rfl (k := true) (tv_v rfl hv) (by decide +kernel))) (fun _ H4 s4 w4 => ?_) (fun z => nomatch z)
    exact st_ret w4 ((tv_and (tv_isiD (a := "str") rfl (k := true) (tv_v rfl hu) (by decide +kernel)) fun _ => tv_eqSS (tv_v rfl h1) (tv_v rfl h2)).eq (by rfl)) fun v H' s hv => k v H' ((((s1.trans s2).trans s3).trans s4).trans s) hv
  | none => exact al.elim
  | list ds => exact al.elim
  | tuple ds => exact al.elim
  | dict ds => exact al.elim
theorem alS_alike (T : Ctx P w K mg base) (n : Nat) (IH : Pro P w K mg base "_law_alike" ["_law_actual", "_law_due"] (n + 1) (spP (raC (qDp K) (raC (qDp K) raN)) (fun x => x.1 = x.2.1 ∧ AlD n x.1) qB fun _ => true)) :
    Pro P w K mg base "_law_alike" ["_law_actual", "_law_due"] (n + 1 + 1) (spP (raC (qDp K) (raC (qDp K) raN)) (fun x => x.1 = x.2.1 ∧ AlD (n + 1) x.1) qB fun _ => true) := by
  refine mk_pro T.d__law_alike (fun _ _ _ _ _ _ us hl => match us, hl with | [_, _], _ => rfl) fun f fd F => ?_
  refine def2 F sc__law_alike rfl fun cdv A outer s H E O G u v a b hr wd hu hv hp Q k => ⟨_, (pss_cons (ps_if (pt_cmp (pc_isN (pv 1)) rfl) (pss_one (ps_ret (pe_cmp (pc_isN (pv 0)) rfl))) pss_nil)
      (pss_cons (ps_if (PW.pt (pw_or (pt_val (c_isinstance (K := K) rfl T.n_isinstance (pa_cons (pv 1) (pa_cons (peTy T.n_bool PyProof.Rows.boot_bool) pa_nil)))) (pw_or1 (pt_val (c_isinstance (K := K) rfl T.n_isinstance (pa_cons (pv 0) (pa_cons (peTy T.n_bool PyProof.Rows.boot_bool) pa_nil))))))) (pss_one (ps_ret (pe_and (c_isinstance (K := K) rfl T.n_isinstance (pa_cons (pv 1) (pa_cons (peTy T.n_bool PyProof.Rows.boot_bool) pa_nil))) (pe_and (c_isinstance (K := K) rfl T.n_isinstance (pa_cons (pv 0) (pa_cons (peTy T.n_bool PyProof.Rows.boot_bool) pa_nil))) (pe_one (pe_cmpR op_eq (pv 0) (pv 1) (nomark _))))))) pss_nil)
      (pss_cons (ps_if (pt_val (c_isinstance (K := K) rfl T.n_isinstance (pa_cons (pv 1) (pa_cons (peTy T.n_int PyProof.Rows.boot_int) pa_nil)))) (pss_one (ps_ret (pe_and (c_isinstance (K := K) rfl T.n_isinstance (pa_cons (pv 0) (pa_cons (peTy T.n_int PyProof.Rows.boot_int) pa_nil))) (pe_one (pe_cmpR op_eq (pv 0) (pv 1) (nomark _)))))) pss_nil)
      (pss_cons (ps_if (pt_val (c_isinstance (K := K) rfl T.n_isinstance (pa_cons (pv 1) (pa_cons (peTy T.n_str PyProof.Rows.boot_str) pa_nil)))) (pss_one (ps_ret (pe_and (c_isinstance (K := K) rfl T.n_isinstance (pa_cons (pv 0) (pa_cons (peTy T.n_str PyProof.Rows.boot_str) pa_nil))) (pe_one (pe_cmpR op_eq (pv 0) (pv 1) (nomark _)))))) pss_nil)
      (pss_cons (ps_if (PW.pt (pw_or (pt_cmpR op_ne (c_isinstance (K := K) rfl T.n_isinstance (pa_cons (pv 1) (pa_cons (peTy T.n_tuple PyProof.Rows.boot_tuple) pa_nil))) (c_isinstance (K := K) rfl T.n_isinstance (pa_cons (pv 0) (pa_cons (peTy T.n_tuple PyProof.Rows.boot_tuple) pa_nil))) (nomark _)) (pw_or1 (pt_not (pt_val (c_isinstanceT (K := K) rfl T.n_isinstance (pa_cons (pv 0) (pa_cons (pe_tup (pa_cons (peTy T.n_list PyProof.Rows.boot_list) (pa_cons (peTy T.n_tuple PyProof.Rows.boot_tuple) pa_nil))) pa_nil)))))))) (pss_one (ps_ret pe_bl)) pss_nil)
      (pss_one (ps_ret (pe_and (pe_cmpR op_eq (c_len (K := K) rfl T.n_len (pa_cons (pv 0) pa_nil)) (c_len (K := K) rfl T.n_len (pa_cons (pv 1) pa_nil)) (nomark _)) (pe_one (c_all (K := K) rfl T.n_all (pa_cons (pe_lc (own := [("_law_k", 2)]) (g := (gName 2)) (tt := tYes) rfl sc__law_alike.nd (pi_range1 (by rfl) T.n_range (pa_cons (c_len (K := K) rfl T.n_len (pa_cons (pv 1) pa_nil)) pa_nil)) (blkOk_by (own := [("_law_k", 2)]) (N := n__law_alike) (sc := defScope s__law_alike) (by decide +kernel)) (fun _ _ _ _ _ => (pg_name (i := 2) sc__law_alike.nd rfl (by first | exact Or.inl rfl | exact Or.inr rfl))) (fun _ _ _ _ _ => pts_nil) (fun _ _ _ _ _ => (pe_cl IH hr (pa_cons (pe_ix (ixA (K := K) rfl) (pv 0) (pv 2) (fun _ _ => rfl)) (pa_cons (pe_ix (ixA (K := K) rfl) (pv 1) (pv 2) (fun _ _ => rfl)) pa_nil)) (Nat.le_refl _)))) pa_nil))))))))))), ?_⟩
  obtain ⟨e, al⟩ : a = b ∧ AlD (n + 1) a := hp
  subst e
  have seq : ∀ ds, (a = .list ds ∨ a = .tuple ds) → (ds.length < 1000 ∧ ∀ d ∈ ds, AlD n d) → ∀ H1, Same H H1 → Wd O G H1 → Tv O (tAndV (tOp rEq (tCB (rLen K) (tCons (tVar 0) tNil)) (tCB (rLen K) (tCons (tVar 1) tNil))) (tCB (rAll K) (tCons (tLc (iRng1 (tCons (tCB (rLen K) (tCons (tVar 1) tNil)) tNil)) (gName 2) tYes (tCall (spP (raC (qDp K) (raC (qDp K) raN)) (fun x => x.1 = x.2.1 ∧ AlD n x.1) qB fun _ => true) [] E0 (tCons (tOp (rIx K) (tVar 0) (tVar 2)) (tCons (tOp (rIx K) (tVar 1) (tVar 2)) tNil))) [2]) tNil))) (start n__law_alike [u, v]) G qB true := fun ds hd hl H1 s1 w1 => by
    have h1 : Has (qSq K (qDp K)) G u ds := ⟨dp_seq hu.h hd⟩
    have h2 : Has (qSq K (qDp K)) G v ds := ⟨dp_seq hv.h hd⟩
    exact (tv_and (tv_eqI (tv_lenA (tv_v rfl h1)) (tv_lenA (tv_v rfl h2))) fun _ => tv_all (bs := (List.range ds.length).map fun _ => true) (tv_map (it_rng1 (n := ds.length) (tv_lenA (tv_v rfl h2)) (by omega)) tg1 (own1 (vs := [2]) (i := 2) (by decide)) (by rw [List.length_range]; omega) fun D i x G1 σ1 hx g1 ⟨vx, ex, hvx⟩ => by
      subst ex
      have hlt := List.mem_range.mp (List.mem_of_getElem? hx)
      obtain ⟨dd, hdd⟩ : ∃ d, ds[x]? = some d := get_of hlt
      exact tv_call (f := fun _ => true) (ta_c (tv_ixA (tv_v rfl (h1.mo g1)) (tv_v rfl hvx.nI) (atI_nat hdd)) (ta_c (tv_ixA (tv_v rfl (h2.mo g1)) (tv_v rfl hvx.nI) (atI_nat hdd)) ta_n)) ⟨rfl, hl.2 dd (List.mem_of_getElem? hdd)⟩)).eq (by simp)
  cases a with
  | bool b =>
    refine st_if wd (tt_isND (tv_v rfl hv) (by intro z; cases z)) (fun z => nomatch z) fun _ H1 s1 w1 => ?_
    have h1 : Has qB G u b := ⟨dp_bool hu.h⟩
    have h2 : Has qB G v b := ⟨dp_bool hv.h⟩
    refine st_if (b := true) w1 (tt_or (a := true) (b := true) (tt_b (tv_isiD (a := "bool") rfl (k := true) (tv_v rfl hv) (by decide +kernel))) (fun z => nomatch z)) (fun _ H2 s2 w2 => ?_) (fun z => nomatch z)
    exact st_ret w2 ((tv_and (tv_isiD (a := "bool") rfl (k := true) (tv_v rfl hv) (by decide +kernel)) fun _ => tv_and (tv_isiD (a := "bool") rfl (k := true) (tv_v rfl hu) (by decide +kernel)) fun _ => tv_eqB (tv_v rfl h1) (tv_v rfl h2)).eq (by simp)) fun v H' s hv => k v H' ((s1.trans s2).trans s) hv
  | int b =>
    refine st_if wd (tt_isND (tv_v rfl hv) (by intro z; cases z)) (fun z => nomatch z) fun _ H1 s1 w1 => ?_
    have h1 : Has qI G u b := ⟨dp_int hu.h⟩
    have h2 : Has qI G v b := ⟨dp_int hv.h⟩
    refine st_if (b := false) w1 (tt_or (a := false) (b := false) (tt_b (tv_isiD (a := "int") rfl (k := false) (tv_v rfl hv) (by decide +kernel))) fun _ => tt_b (tv_isiD (a := "int") rfl (k := false) (tv_v rfl hu) (by decide +kernel))) (fun z => nomatch z) fun _ H2 s2 w2 => ?_
    refine st_if (b := true) w2 (tt_b (tv_isiD (a := "int") rfl (k := true) (tv_v rfl hv) (by decide +kernel))) (fun _ H3 s3 w3 => ?_) (fun z => nomatch z)
    exact st_ret w3 ((tv_and (tv_isiD (a := "int") rfl (k := true) (tv_v rfl hu) (by decide +kernel)) fun _ => tv_eqI (tv_v rfl h1) (tv_v rfl h2)).eq (by simp)) fun v H' s hv => k v H' (((s1.trans s2).trans s3).trans s) hv
  | str b =>
    refine st_if wd (tt_isND (tv_v rfl hv) (by intro z; cases z)) (fun z => nomatch z) fun _ H1 s1 w1 => ?_
    have h1 : Has qS G u b := ⟨dp_str hu.h⟩
    have h2 : Has qS G v b := ⟨dp_str hv.h⟩
    refine st_if (b := false) w1 (tt_or (a := false) (b := false) (tt_b (tv_isiD (a := "str") rfl (k := false) (tv_v rfl hv) (by decide +kernel))) fun _ => tt_b (tv_isiD (a := "str") rfl (k := false) (tv_v rfl hu) (by decide +kernel))) (fun z => nomatch z) fun _ H2 s2 w2 => ?_
    refine st_if (b := false) w2 (tt_b (tv_isiD (a := "str") rfl (k := false) (tv_v rfl hv) (by decide +kernel))) (fun z => nomatch z) fun _ H3 s3 w3 => ?_
    refine st_if (b := true) w3 (tt_b (tv_isiD (a := "str") rfl (k := true) (tv_v rfl hv) (by decide +kernel))) (fun _ H4 s4 w4 => ?_) (fun z => nomatch z)
    exact st_ret w4 ((tv_and (tv_isiD (a := "str") rfl (k := true) (tv_v rfl hu) (by decide +kernel)) fun _ => tv_eqSS (tv_v rfl h1) (tv_v rfl h2)).eq (by rfl)) fun v H' s hv => k v H' ((((s1.trans s2).trans s3).trans s4).trans s) hv
  | none => exact al.elim
  | list ds =>
    refine st_if wd (tt_isND (tv_v rfl hv) (by intro z; cases z)) (fun z => nomatch z) fun _ H1 s1 w1 => ?_
    refine st_if (b := false) w1 (tt_or (a := false) (b := false) (tt_b (tv_isiD (a := "list") rfl (k := false) (tv_v rfl hv) (by decide +kernel))) fun _ => tt_b (tv_isiD (a := "list") rfl (k := false) (tv_v rfl hu) (by decide +kernel))) (fun z => nomatch z) fun _ H2 s2 w2 => ?_
    refine st_if (b := false) w2 (tt_b (tv_isiD (a := "list") rfl (k := false) (tv_v rfl hv) (by decide +kernel))) (fun z => nomatch z) fun _ H3 s3 w3 => ?_
    refine st_if (b := false) w3 (tt_b (tv_isiD (a := "list") rfl (k := false) (tv_v rfl hv) (by decide +kernel))) (fun z => nomatch z) fun _ H4 s4 w4 => ?_
    refine st_if (b := false) w4 ((tt_or (tt_neB (tv_isiD (a := "list") rfl (k := false) (tv_v rfl hv) (by decide +kernel)) (tv_isiD (a := "list") rfl (k := false) (tv_v rfl hu) (by decide +kernel))) fun _ => tt_not (tt_b (tv_isiD2 (tv_v rfl hu) (.inl ⟨ds, rfl⟩)))).eq rfl) (fun z => nomatch z) fun _ H5 s5 w5 => ?_
    exact st_ret w5 (seq ds (.inl rfl) al H5 ((((s1.trans s2).trans s3).trans s4).trans s5) w5) fun v H' s hv => k v H' (((((s1.trans s2).trans s3).trans s4).trans s5).trans s) hv
  | tuple ds =>
    refine st_if wd (tt_isND (tv_v rfl hv) (by intro z; cases z)) (fun z => nomatch z) fun _ H1 s1 w1 => ?_
    refine st_if (b := false) w1 (tt_or (a := false) (b := false) (tt_b (tv_isiD (a := "tuple") rfl (k := false) (tv_v rfl hv) (by decide +kernel))) fun _ => tt_b (tv_isiD (a := "tuple") rfl (k := false) (tv_v rfl hu) (by decide +kernel))) (fun z => nomatch z) fun _ H2 s2 w2 => ?_
    refine st_if (b := false) w2 (tt_b (tv_isiD (a := "tuple") rfl (k := false) (tv_v rfl hv) (by decide +kernel))) (fun z => nomatch z) fun _ H3 s3 w3 => ?_
    refine st_if (b := false) w3 (tt_b (tv_isiD (a := "tuple") rfl (k := false) (tv_v rfl hv) (by decide +kernel))) (fun z => nomatch z) fun _ H4 s4 w4 => ?_
    refine st_if (b := false) w4 ((tt_or (tt_neB (tv_isiD (a := "tuple") rfl (k := true) (tv_v rfl hv) (by decide +kernel)) (tv_isiD (a := "tuple") rfl (k := true) (tv_v rfl hu) (by decide +kernel))) fun _ => tt_not (tt_b (tv_isiD2 (tv_v rfl hu) (.inr ⟨ds, rfl⟩)))).eq rfl) (fun z => nomatch z) fun _ H5 s5 w5 => ?_
    exact st_ret w5 (seq ds (.inr rfl) al H5 ((((s1.trans s2).trans s3).trans s4).trans s5) w5) fun v H' s hv => k v H' (((((s1.trans s2).trans s3).trans s4).trans s5).trans s) hv
  | dict ds => exact al.elim
theorem al_alike (T : Ctx P w K mg base) : ∀ n, Pro P w K mg base "_law_alike" ["_law_actual", "_law_due"] (n + 1) (spP (raC (qDp K) (raC (qDp K) raN)) (fun x => x.1 = x.2.1 ∧ AlD n x.1) qB fun _ => true)
  | 0 => al0_alike T
  | n + 1 => alS_alike T n (al_alike T n)
theorem ok__law_alike (T : Ctx P w K mg base) : Pro P w K mg base "_law_alike" ["_law_actual", "_law_due"] 4 (spP (raC (qDp K) (raC (qDp K) raN)) (fun x => x.1 = x.2.1 ∧ AlD 3 x.1) qB fun _ => true) := al_alike T 3
end
end Nb
set_option Elab.async false
set_option linter.all false
set_option maxRecDepth 100000
set_option maxHeartbeats 4000000
namespace Nb
open PySem L2
open PyProof.Rows (envOfC)
theorem beg_sum (n : Nat) : ∀ R, ((List.range R).map fun k => ((n ^ k : Nat) : Int)).sum = ((begL n R).length : Int)
  | 0 => rfl
  | R + 1 => by
    rw [List.range_succ, List.map_append, List.sum_append, beg_sum n R, begL, List.length_append, rowsL_len]
    simp
theorem al_Q (x : Rat) (n : Nat) : AlD (n + 1) (.tuple [.int x.num, .int (x.den : Int)]) := by
  refine ⟨by show 2 < 1000; omega, fun d hd => ?_⟩
  rcases List.mem_cons.mp hd with e | e
  · rw [e]; cases n <;> trivial
  · rw [List.mem_singleton.mp e]; cases n <;> trivial
theorem al_TQ (xs : List Rat) (h : xs.length < 1000) (n : Nat) : AlD (n + 2) (.tuple (xs.map fun x => PyData.tuple [.int x.num, .int (x.den : Int)])) := by
  refine ⟨by rw [List.length_map]; exact h, fun d hd => ?_⟩
  obtain ⟨x, _, e⟩ := List.mem_map.mp hd
  rw [← e]
  exact al_Q x n
theorem al_LN (xs : List Nat) (h : xs.length < 1000) (n : Nat) : AlD (n + 1) (.list (xs.map fun x : Nat => PyData.int (x : Int))) := by
  refine ⟨by rw [List.length_map]; exact h, fun d hd => ?_⟩
  obtain ⟨x, _, e⟩ := List.mem_map.mp hd
  rw [← e]
  cases n <;> trivial
theorem mkRat_self' (x : Rat) : mkRat x.num ((x.den : Int)).toNat = x := by rw [Int.toNat_natCast, Rat.mkRat_self]
structure ShaOk (n R : Nat) (p : Pln) : Prop where
  en : p.n = n
  eR : p.R = R
  sp : Shape n R
  l : p.sh.length = (begL n R).length
  g : ∀ u ∈ p.sh, GoodSh n u ∧ (∀ x ∈ u, Bh x) ∧ ∀ i, Bh (sumQ (u.take i))
theorem eqv_one {x : Rat} (h : x = 1) : PyData.eqv (.tuple [.int x.num, .int (x.den : Int)]) (.tuple [.int (1 : Rat).num, .int ((1 : Rat).den : Int)]) = true := by
  rw [h]
  simp [PyData.eqv, PyData.eqvAll]
theorem eqv_Q {x y : Rat} (h : x = y) : PyData.eqv (.tuple [.int x.num, .int (x.den : Int)]) (.tuple [.int y.num, .int (y.den : Int)]) = true := by
  rw [h]
  simp [PyData.eqv, PyData.eqvAll]
section
variable {P : Program} {w : World} {K : PySem.W.Frag} {mg : PySem.Str → Option Value} {base : Heap}
theorem tt_isNL {α : Type} {O : List Addr} {σ : St} {G : Hp} {te : TE} {r : Rl α} {xs : List α} (h : Tv O te σ G (qL K r) xs) : Tt O (tB (tIsN te)) σ G false := fun H w Q kk =>
  h H w _ fun v H1 s1 ⟨vs, ⟨a, ev, _⟩, _⟩ => ⟨false, by subst ev; rfl, kk _ s1⟩
theorem sc__law_shares_of : FnScope n__law_shares_of ["_law_plan_here", "_law_width", "_law_rounds_here"] (defScope s__law_shares_of) := ⟨rfl, rfl, rfl, by decide +kernel, rfl, by decide +kernel, by decide +kernel⟩
theorem ok__law_shares_of (T : Ctx P w K mg base) : Pro P w K mg base "_law_shares_of" ["_law_plan_here", "_law_width", "_law_rounds_here"] 5 (spP (raC (qPln K) (raC qN (raC qN raN))) (fun x => ShaOk x.2.1 x.2.2.1 x.1) (qL K (qL K (qQ K))) fun x => x.1.sh) := by
  refine mk_pro T.d__law_shares_of (fun _ _ _ _ _ _ us hl => match us, hl with | [_, _, _], _ => rfl) fun f fd F => ?_
  refine def3 F sc__law_shares_of rfl fun cdv A outer s H E O G 
    u v z p n R hr wd hu hv hz hp Q k => ⟨_, (pss_cons (ps_set (i := 3) sc__law_shares_of.nd rfl (Or.inl rfl) (pe_prp (ok_Plan_shares T) hr T.cl_Plan (pv 0)))
      (pss_cons (ps_if (PW.pt (pw_or (pt_not (pt_val (pe_cl (ok__law_alike T) hr (pa_cons (pe_lst (pa_cons (pe_prp (ok_Plan_width T) hr T.cl_Plan (pv 0)) (pa_cons (pe_prp (ok_Plan_rounds T) hr T.cl_Plan (pv 0)) pa_nil))) (pa_cons (pe_lst (pa_cons (pv 1) (pa_cons (pv 2) pa_nil))) pa_nil))))) (pw_or1 (pt_not (pt_val (c_isinstance (K := K) rfl T.n_isinstance (pa_cons (pv 3) (pa_cons (peTy T.n_list PyProof.Rows.boot_list) pa_nil)))))))) (pss_one (ps_ret pe_non)) pss_nil)
      (pss_cons (ps_if (pt_cmpR op_ne (c_len (K := K) rfl T.n_len (pa_cons (pv 3) pa_nil)) (c_sum (K := K) rfl T.n_sum (pa_cons (pe_lc (own := [("_law_size", 4)]) (g := (gName 4)) (tt := tYes) rfl sc__law_shares_of.nd (pi_range1 (by rfl) T.n_range (pa_cons (pv 2) pa_nil)) (blkOk_by (own := [("_law_size", 4)]) (N := n__law_shares_of) (sc := defScope s__law_shares_of) (by decide +kernel)) (fun _ _ _ _ _ => (pg_name (i := 4) sc__law_shares_of.nd rfl (by first | exact Or.inl rfl | exact Or.inr rfl))) (fun _ _ _ _ _ => pts_nil) (fun _ _ _ _ _ => (pe_cl (ok__law_power T) hr (pa_cons (pv 1) (pa_cons (pv 4) pa_nil))))) pa_nil)) (nomark _)) (pss_one (ps_ret pe_non)) pss_nil)
      (pss_cons (ps_for PassesOwn.never rfl (piL (K := K) rfl (c_list (K := K) rfl T.n_list (pa_cons (pv 3) pa_nil))) (pg_name (i := 5) sc__law_shares_of.nd rfl (Or.inl rfl)) (pss_cons (ps_if (PW.pt (pw_or (pt_not (pt_val (pe_cl (ok__law_alike T) hr (pa_cons (pv 5) (pa_cons (c_tuple (K := K) rfl T.n_tuple (pa_cons (pe_lc (own := [("_law_value", 6)]) (g := (gName 6)) (tt := tYes) rfl sc__law_shares_of.nd (piT (K := K) rfl (pv 5)) (blkOk_by (own := [("_law_value", 6)]) (N := n__law_shares_of) (sc := defScope s__law_shares_of) (by decide +kernel)) (fun _ _ _ _ _ => (pg_name (i := 6) sc__law_shares_of.nd rfl (by first | exact Or.inl rfl | exact Or.inr rfl))) (fun _ _ _ _ _ => pts_nil) (fun _ _ _ _ _ => (pe_cl (ok__law_low T) hr (pa_cons (pe_ix (ixT (K := K) rfl) (pv 6) pe_int (fun _ _ => rfl)) (pa_cons (pe_ix (ixT (K := K) rfl) (pv 6) pe_int (fun _ _ => rfl)) pa_nil))))) pa_nil)) pa_nil))))) (pw_or1 (pt_cmpR op_ne (c_len (K := K) rfl T.n_len (pa_cons (pv 5) pa_nil)) (pv 1) (nomark _))))) (pss_one (ps_ret pe_non)) pss_nil)
      (pss_one (ps_if (PW.pt (pw_or (pt_val (pe_cl (ok__law_below T) hr (pa_cons (pe_cl (ok__law_lowest T) hr (pa_cons (pv 5) pa_nil)) (pa_cons (pe_tup (pa_cons pe_int (pa_cons pe_int pa_nil))) pa_nil)))) (pw_or1 (pt_cmpR (neD (K := K) rfl (Room.units hr)) (pe_cl (ok__law_sum T) hr (pa_cons (pv 5) pa_nil)) (pe_tup (pa_cons pe_int (pa_cons pe_int pa_nil))) (nomark _))))) (pss_one (ps_ret pe_non)) pss_nil))))
      (pss_one (ps_ret (pe_lc (own := [("_law_sharing", 5)]) (g := (gName 5)) (tt := tYes) rfl sc__law_shares_of.nd (piL (K := K) rfl (pv 3)) (blkOk_by (own := [("_law_sharing", 5)]) (N := n__law_shares_of) (sc := defScope s__law_shares_of) (by decide +kernel)) (fun _ _ _ _ _ => (pg_name (i := 5) sc__law_shares_of.nd rfl (Or.inl rfl))) (fun _ _ _ _ _ => pts_nil) (fun _ _ _ _ _ => (c_list (K := K) rfl T.n_list (pa_cons (pv 5) pa_nil)))))))))), ?_⟩
  have ok : ShaOk n R p := hp
  have h8 := ok.sp.R8
  have h5 := ok.sp.2.1
  have hn0 := ok.sp.1
  have hb := ok.sp.begs (Nat.le_refl _)
  have hl := ok.l
  refine st_asg wd (tv_prop (tv_v rfl hu) pln_ins trivial) fun vt G1 H1 g1 w1 s1 ht => ?_
  have ht : Has (qL K (qT K (qQ K))) G1 vt p.sh := ht
  have hu1 := hu.mo g1
  have hv1 := hv.mo g1
  have hz1 := hz.mo g1
  refine st_if (b := false) w1 ((tt_or (tt_not (b := true) (tt_b (tv_call (f := fun _ => true) (ta_c (tv_Dp (tv_lst2 (K := K) (q := qN) (tv_prop (tv_v rfl hu1) pln_ins trivial) (tv_prop (tv_v rfl hu1) pln_ins trivial))) (ta_c (tv_Dp (tv_lst2 (K := K) (q := qN) (tv_v rfl hv1) (tv_v rfl hz1))) ta_n)) ⟨?_, ?_⟩))) fun _ => tt_not (b := true) (tt_b (tv_isi (k := true) (tv_v rfl ht) (by decide +kernel)))).eq rfl) (fun z => nomatch z) fun _ H2 s2 w2 => ?_
  · show PyData.list [.int (p.n : Int), .int (p.R : Int)] = PyData.list [.int (n : Int), .int (R : Int)]
    rw [ok.en, ok.eR]
  · exact al_LN [p.n, p.R] (by show 2 < 1000; omega) 2
  refine st_if (b := false) w2 ((tt_neI (tv_lenL (tv_v rfl ht)) (tv_sum (K := K) (ns := (List.range R).map fun k => ((n ^ k : Nat) : Int)) ?_)).eq (by rw [beg_sum, hl]; simp)) (fun z => nomatch z) fun _ H3 s3 w3 => ?_
  · refine tv_map (it_rng1 (tv_v rfl hz1.nI) (by omega)) tg1 (own1 (by decide)) (by rw [List.length_range]; omega) fun D i x G4 σ4 hx g4 ⟨vx, ex, hvx⟩ => ?_
    subst ex
    have hlt := List.mem_range.mp (List.mem_of_getElem? hx)
    exact tv_NI (tv_call (ta_c (tv_v rfl (hv1.mo g4)) (ta_c (tv_v rfl hvx) ta_n)) ⟨h5, by show x ≤ 8; omega⟩)
  refine st_forS (r := qT K (qQ K)) w3 (it_list (tv_listL (tv_v rfl ht))) tg1 (fun i σ G' H' => ∃ (o : Option V), σ = [some u, some v, some z, some vt, none, o, none] ∧ Same H H')
    (fun G' H' g s w => ⟨none, rfl, ((s1.trans s2).trans s3).trans s⟩) ?_ ?_
  · rintro i us σ1 G4 H4 G5 H5 σ2 hx ⟨o, rfl, s4⟩ g4 g5 s5 w5 ⟨vs, rfl, hvs⟩ N hN
    obtain ⟨gs, bh, bs⟩ := ok.g us (List.mem_of_getElem? hx)
    have gl := gs.len
    have hv5 := hv1.mo (g4.trans g5)
    refine st_if (b := false) w5 ((tt_or (tt_not (b := true) (tt_b (tv_call (f := fun _ => true) (ta_c (tv_Dp (tv_v rfl hvs)) (ta_c (tv_Dp (tv_tupL (K := K) (r := qQ K) (xs := us.map id) ?_)) ta_n)) ⟨?_, ?_⟩))) fun _ => (tt_neI (tv_lenT (tv_v rfl hvs)) (tv_v rfl hv5.nI)).eq (b := false) (by rw [gl]; simp)).eq rfl) (fun z => nomatch z) fun _ H6 s6 w6 => ?_
    · refine tv_map (it_tup (tv_v rfl hvs)) tg1 (own1 (by decide)) (by omega) fun D i2 x G7 σ7 hx7 g7 ⟨vx, ex, hvx⟩ => ?_
      subst ex
      have hpr : Has (qPr K) G7 vx (x.num, (x.den : Int)) := ⟨qQ_pr hvx.h⟩
      have bx := bh x (List.mem_of_getElem? hx7)
      exact Tv.eq (tv_call (ta_c (tv_fst (tv_v rfl hpr)) (ta_c (tv_snd (tv_v rfl hpr)) ta_n)) ⟨den_pos x, sh_sm bx.2⟩) (mkRat_self' x)
    · rw [List.map_id]
    · exact al_TQ us (by omega) 1
    · have hne : us ≠ [] := List.length_pos_iff.mp (by omega)
      have hmin := min_in hne
      have hp0 := gs.pos _ hmin
      refine st_ifE (b := false) w6 ((tt_or (a := false) ((tt_b (tv_call (ta_c (tv_call (ta_c (tv_sqT (tv_v rfl hvs)) ta_n) ⟨by show 0 < us.length; omega, bh⟩) (ta_c (tv_q K (x := 0) rfl rfl) ta_n)) ⟨bh _ hmin, bh_zero⟩)).eq ?_) fun _ => tt_op (tv_neD (K := K) (b := false) (y := (1 : Rat)) (tv_call (ta_c (tv_sqT (tv_v rfl hvs)) ta_n) ⟨bs, bh⟩) (tv_q K rfl rfl) (shaped_of shQ (by decide) _) (shaped_of shQ (by decide) _) ?_)).eq rfl) (fun z => nomatch z) (fun _ H7 s7 w7 => hN _ G5 H7 (Same.refl _) w7 ⟨some vs, rfl, ((s4.trans s5).trans s6).trans s7⟩)
      · show decide (minQ us < 0) = false
        rw [decide_eq_false]
        grind
      · have e : PyData.eqv (.tuple [.int (sumQ us).num, .int ((sumQ us).den : Int)]) (.tuple [.int (1 : Rat).num, .int ((1 : Rat).den : Int)]) = true := eqv_one gs.sum
        show (!PyData.eqv (.tuple [.int (sumQ us).num, .int ((sumQ us).den : Int)]) (.tuple [.int (1 : Rat).num, .int ((1 : Rat).den : Int)])) = false
        rw [e]
        rfl
  · rintro σ' G' H' g' w' ⟨o, rfl, s4⟩
    refine st_ret (r := qL K (qL K (qQ K))) (x := p.sh.map id) w' (tv_map (it_list (tv_v rfl (ht.mo g'))) tg1 (own1 (by decide)) (by omega) fun D i us G5 σ5 hx g5 ⟨vx, ex, hvx⟩ => ?_) fun v' H'' s hv => k v' H'' (s4.trans s) ?_
    · subst ex
      exact tv_listT (tv_v rfl hvx)
    · rw [List.map_id] at hv
      exact hv
end
def farL (n R : Nat) (sh : List (List Rat)) (cs : List Rat) : List Rat := (List.range cs.length).map fun k => ((rowsL n R).map (mis (shF n sh))).getD k 0 - cs.getD k 0
structure ShnOk (n R : Nat) (cs : List Rat) (x : Rat) (c f : Pln) : Prop where
  sc : ShaOk n R c
  sf : ShaOk n R f
  mc : MisH n R c.sh
  wf : WorH n R f.sh cs
  fb : ∀ y ∈ farL n R c.sh cs, Bh y
  bx : Bh x
  far : x = maxQ (farL n R c.sh cs)
  wor : worthL n R (shF n f.sh) cs = 0 - x
theorem ra6 {α β γ δ ε ζ : Type} {r : Rl α} {q : Rl β} {p : Rl γ} {s : Rl δ} {o : Rl ε} {m : Rl ζ} {G : Hp} {vs : List V} {x : α × β × γ × δ × ε × ζ × Unit} (h : raC r (raC q (raC p (raC s (raC o (raC m raN))))) G vs x) : ∃ a b c d e f, vs = [a, b, c, d, e, f] ∧ r G a x.1 ∧ q G b x.2.1 ∧ p G c x.2.2.1 ∧ s G d x.2.2.2.1 ∧ o G e x.2.2.2.2.1 ∧ m G f x.2.2.2.2.2.1 := by
  obtain ⟨a, ws, e1, h1, h⟩ := h
  obtain ⟨b, ws2, e2, h2, h⟩ := h
  obtain ⟨c, d, e, f, e3, h3, h4, h5, h6⟩ := ra4 h
  subst e1 e2 e3
  exact ⟨a, b, c, d, e, f, rfl, h1, h2, h3, h4, h5, h6⟩
section
variable {P : Program} {w : World} {K : PySem.W.Frag} {mg : PySem.Str → Option Value} {base : Heap}
theorem sc__law_shown : FnScope n__law_shown ["_law_width", "_law_rounds_here", "_law_cells", "_law_number", "_law_chooser", "_law_foe"] (defScope s__law_shown) := ⟨rfl, rfl, rfl, by decide +kernel, rfl, by decide +kernel, by decide +kernel⟩
theorem ok__law_shown (T : Ctx P w K mg base) : Pro P w K mg base "_law_shown" ["_law_width", "_law_rounds_here", "_law_cells", "_law_number", "_law_chooser", "_law_foe"] 6 (spP (raC qN (raC qN (raC (qL K (qQ K)) (raC (qQ K) (raC (qPln K) (raC (qPln K) raN)))))) (fun x => ShnOk x.1 x.2.1 x.2.2.1 x.2.2.2.1 x.2.2.2.2.1 x.2.2.2.2.2.1) qB fun _ => true) := by
  refine mk_pro T.d__law_shown (fun _ _ _ _ _ _ us hl => match us, hl with | [_, _, _, _, _, _], _ => rfl) fun f fd F => ?_
  refine def_any F sc__law_shown rfl fun cdv A outer s H E O G 
    vs a hr wd hra hpr Q k => by
    obtain ⟨n, R, cs, x, c, f, _⟩ := a
    obtain ⟨v1, v2, v3, v4, v5, v6, rfl, h1, h2, h3, h4, h5, h6⟩ := ra6 hra
    have ok : ShnOk n R cs x c f := hpr
    have h1 : Has qN G v1 n := ⟨h1⟩
    have h2 : Has qN G v2 R := ⟨h2⟩
    have h3 : Has (qL K (qQ K)) G v3 cs := ⟨h3⟩
    have h4 : Has (qQ K) G v4 x := ⟨h4⟩
    have h5 : Has (qPln K) G v5 c := ⟨h5⟩
    have h6 : Has (qPln K) G v6 f := ⟨h6⟩
    refine ⟨_, (pss_cons (ps_set (i := 6) sc__law_shown.nd rfl (Or.inl rfl) (pe_cl (ok__law_shares_of T) hr (pa_cons (pv 4) (pa_cons (pv 0) (pa_cons (pv 1) pa_nil)))))
      (pss_cons (ps_set (i := 7) sc__law_shown.nd rfl (Or.inl rfl) (pe_cl (ok__law_shares_of T) hr (pa_cons (pv 5) (pa_cons (pv 0) (pa_cons (pv 1) pa_nil)))))
      (pss_cons (ps_if (PW.pt (pw_or (pt_cmp (pc_isN (pv 6)) rfl) (pw_or1 (pt_cmp (pc_isN (pv 7)) rfl)))) (pss_one (ps_ret pe_bl)) pss_nil)
      (pss_cons (ps_set (i := 8) sc__law_shown.nd rfl (Or.inr rfl) (pe_cl (ok__law_cells_of T) hr (pa_cons (pv 0) (pa_cons (pv 1) (pa_cons (pv 6) pa_nil)))))
      (pss_cons (ps_set (i := 9) sc__law_shown.nd rfl (Or.inl rfl) (pe_cl (ok__law_highest T) hr (pa_cons (pe_lc (own := [("_law_k", 10)]) (g := (gName 10)) (tt := tYes) rfl sc__law_shown.nd (pi_range1 (by rfl) T.n_range (pa_cons (c_len (K := K) rfl T.n_len (pa_cons (pv 2) pa_nil)) pa_nil)) (blkOk_by (own := [("_law_k", 10)]) (N := n__law_shown) (sc := defScope s__law_shown) (by decide +kernel)) (fun _ _ _ _ _ => (pg_name (i := 10) sc__law_shown.nd rfl (by first | exact Or.inl rfl | exact Or.inr rfl))) (fun _ _ _ _ _ => pts_nil) (fun _ _ _ _ _ => (pe_cl (ok__law_minus T) hr (pa_cons (pe_ix (ixL (K := K) rfl) (pv 8) (pv 10) (fun _ _ => rfl)) (pa_cons (pe_ix (ixL (K := K) rfl) (pv 2) (pv 10) (fun _ _ => rfl)) pa_nil))))) pa_nil)))
      (pss_one (ps_ret (pe_and (pe_cl (ok__law_alike T) hr (pa_cons (pv 3) (pa_cons (pv 9) pa_nil))) (pe_one (pe_cmpR (eqD (K := K) rfl (Room.units hr)) (pe_cl (ok__law_worth_of T) hr (pa_cons (pv 0) (pa_cons (pv 1) (pa_cons (pv 7) (pa_cons (pv 2) pa_nil))))) (pe_cl (ok__law_minus T) hr (pa_cons (pe_tup (pa_cons pe_int (pa_cons pe_int pa_nil))) (pa_cons (pv 3) pa_nil))) (nomark _))))))))))), ?_⟩
    have hl := ok.mc.sp.rows (Nat.le_refl _)
    have hcl := ok.wf.l
    have hrl := rowsL_len n R
    have hpos : 0 < cs.length := by rw [hcl]; exact pow_pos' ok.mc.sp
    refine st_asg wd (tv_call (ta_c (tv_v rfl h5) (ta_c (tv_v rfl h1) (ta_c (tv_v rfl h2) ta_n))) ok.sc) fun vc G1 H1 g1 w1 s1 hc => ?_
    have hc : Has (qL K (qL K (qQ K))) G1 vc c.sh := hc
    refine st_asg w1 (tv_call (ta_c (tv_v rfl (h6.mo g1)) (ta_c (tv_v rfl (h1.mo g1)) (ta_c (tv_v rfl (h2.mo g1)) ta_n))) ok.sf) fun vf G2 H2 g2 w2 s2 hf => ?_
    have hf : Has (qL K (qL K (qQ K))) G2 vf f.sh := hf
    refine st_if (b := false) w2 (tt_or (a := false) (b := false) (tt_isNL (tv_v rfl (hc.mo g2))) fun _ => tt_isNL (tv_v rfl hf)) (fun z => nomatch z) fun _ H3 s3 w3 => ?_
    have g12 := g1.trans g2
    refine st_asg w3 (tv_call (ta_c (tv_v rfl (h1.mo g12)) (ta_c (tv_v rfl (h2.mo g12)) (ta_c (tv_v rfl (hc.mo g2)) ta_n))) ok.mc) fun vm G4 H4 g4 w4 s4 hm => ?_
    have hm : Has (qL K (qQ K)) G4 vm ((rowsL n R).map (mis (shF n c.sh))) := hm
    have g14 := g12.trans g4
    refine st_asg w4 (tv_call (ta_c (tv_sqL (K := K) (r := qQ K) (xs := farL n R c.sh cs) ?_) ta_n) ⟨?_, ok.fb⟩) fun va G5 H5 g5 w5 s5 ha => ?_
    · refine tv_map (it_rng1 (n := cs.length) (tv_lenL (tv_v rfl (h3.mo g14))) (by omega)) tg1 (own1 (by decide)) (by rw [List.length_range]; omega) fun D i k G6 σ6 hx g6 ⟨vk, ek, hk⟩ => ?_
      subst ek
      have hlt := List.mem_range.mp (List.mem_of_getElem? hx)
      have e1 : ((rowsL n R).map (mis (shF n c.sh)))[k]? = some (((rowsL n R).map (mis (shF n c.sh))).getD k 0) := by
        rw [List.getD_eq_getElem?_getD, List.getElem?_eq_getElem (by rw [List.length_map]; omega)]
        rfl
      have e2 : cs[k]? = some (cs.getD k 0) := by
        rw [List.getD_eq_getElem?_getD, List.getElem?_eq_getElem hlt]
        rfl
      have b1 : Bh (((rowsL n R).map (mis (shF n c.sh))).getD k 0) := by
        obtain ⟨t, ht, e⟩ := List.mem_map.mp (List.mem_of_getElem? e1)
        rw [← e]
        exact ok.mc.m t (rowsL_at ht).2 (Nat.le_of_eq (rowsL_at ht).1)
      exact tv_call (ta_c (tv_ixL (tv_v rfl (hm.mo g6)) (tv_v rfl hk.nI) (atI_nat e1)) (ta_c (tv_ixL (tv_v rfl ((h3.mo g14).mo g6)) (tv_v rfl hk.nI) (atI_nat e2)) ta_n)) ⟨b1, ok.wf.c _ (List.mem_of_getElem? e2)⟩
    · show 0 < (farL n R c.sh cs).length
      unfold farL
      rw [List.length_map, List.length_range]
      exact hpos
    · have ha : Has (qQ K) G5 va (maxQ (farL n R c.sh cs)) := ha
      rw [← ok.far] at ha
      have g15 := g14.trans g5
      refine st_ret w5 ((tv_and (b := true) (tv_call (f := fun _ => true) (ta_c (tv_Dp (tv_v rfl (h4.mo g15))) (ta_c (tv_Dp (tv_v rfl ha)) ta_n)) ⟨rfl, al_Q x 2⟩) fun _ => tv_eqD (K := K) (b := true) (tv_call (ta_c (tv_v rfl (h1.mo g15)) (ta_c (tv_v rfl (h2.mo g15)) (ta_c (tv_v rfl ((hf.mo g4).mo g5)) (ta_c (tv_v rfl (h3.mo g15)) ta_n)))) ok.wf) (tv_call (ta_c (tv_q K (x := 0) rfl rfl) (ta_c (tv_v rfl (h4.mo g15)) ta_n)) ⟨bh_zero, ok.bx⟩) (shaped_of shQ (by decide) _) (shaped_of shQ (by decide) _) (eqv_Q ok.wor)).eq rfl) fun v' H' s hv => k v' H' (((((s1.trans s2).trans s3).trans s4).trans s5).trans s) hv
end
end Nb
set_option Elab.async false
set_option linter.all false
set_option maxRecDepth 100000
set_option maxHeartbeats 4000000
namespace Nb
open PySem L2
open PyProof.Rows (envOfC)
abbrev sl5 (a0 a1 a2 a3 a4 : Int) (rest : List Int) : List V := (a0 :: a1 :: a2 :: a3 :: a4 :: rest).map V.int
theorem sb_upd {H : Hp} {b : Addr} {o : HO} : Sb b H (upd H b o) := Sb.upd
section
variable {P : Program} {w : World} {K : PySem.W.Frag} {mg : PySem.Str → Option Value} {base : Heap}
theorem sc__law_mixed : FnScope n__law_mixed ["_law_store_here"] (defScope s__law_mixed) := ⟨rfl, rfl, rfl, by decide +kernel, rfl, by decide +kernel, by decide +kernel⟩
theorem ok__law_mixed (T : Ctx P w K mg base) : Pro P w K mg base "_law_mixed" ["_law_store_here"] 1 (spS raN (fun _ => True) qI fun _ y => 0 ≤ y) := by
  refine mk_pro T.d__law_mixed (fun _ _ _ _ _ _ us hl => match us, hl with | [_], _ => rfl) fun f fd F => ?_
  refine def_S F sc__law_mixed rfl fun cdv A outer s H E O G 
    b vs a hr nb wd st hra hp Q k => by
    obtain rfl : vs = [] := hra
    refine ⟨_, (pss_cons (ps_set (i := 1) sc__law_mixed.nd rfl (Or.inl rfl) pe_int)
      (pss_cons (ps_asg (pe_op op_add (pe_ix (ixL (K := K) rfl) (pv 0) pe_int (fun _ _ => rfl)) pe_int) (pg_sub (pv 0) pe_int set_list))
      (pss_cons (ps_asg (pe_op op_mod (c_int (K := K) rfl T.n_int (pa_cons (pe_op op_add (pe_op op_add (pe_op op_mul (pe_ix (ixL (K := K) rfl) (pv 0) pe_int (fun _ _ => rfl)) pe_int) (pe_op op_mul (pe_ix (ixL (K := K) rfl) (pv 0) pe_int (fun _ _ => rfl)) pe_int)) pe_int) pa_nil)) (pv 1)) (pg_sub (pv 0) pe_int set_list))
      (pss_cons (ps_set (i := 2) sc__law_mixed.nd rfl (Or.inl rfl) (pe_op op_mod (c_int (K := K) rfl T.n_int (pa_cons (pe_op op_add (pe_op op_mul (pe_ix (ixL (K := K) rfl) (pv 0) pe_int (fun _ _ => rfl)) (pe_ix (ixL (K := K) rfl) (pv 0) pe_int (fun _ _ => rfl))) (pe_op op_mul (pe_ix (ixL (K := K) rfl) (pv 0) pe_int (fun _ _ => rfl)) pe_int)) pa_nil)) pe_int))
      (pss_one (ps_ret (pe_op op_mod (c_int (K := K) rfl T.n_int (pa_cons (pe_op op_add (pe_op op_add (pe_op op_mul (pv 2) pe_int) (pe_op op_fdiv (pv 2) pe_int)) pe_int) pa_nil)) (pv 1)))))))), ?_⟩
    obtain ⟨a0, a1, a2, a3, a4, rest, e, g⟩ := st
    have h1 := g.h2
    have h2 := g.h3
    refine sx_asg tx_i ?_
    refine sx_put (k := 3) (v := .int (a3 + 1)) (tx_opJ (tx_ix (tx_v rfl) e tx_i (atI_nat (j := 3) rfl)) tx_i) (tx_v rfl) tx_i e (by simp) ?_
    have e3 : upd H b (.lst (((a0 :: a1 :: a2 :: a3 :: a4 :: rest).map V.int).set 3 (.int (a3 + 1)))) b = some (.lst (sl5 a0 a1 a2 (a3 + 1) a4 rest)) := upd_same
    have s3 : Sb b H (upd H b (.lst (((a0 :: a1 :: a2 :: a3 :: a4 :: rest).map V.int).set 3 (.int (a3 + 1))))) := Sb.upd
    generalize upd H b (.lst (((a0 :: a1 :: a2 :: a3 :: a4 :: rest).map V.int).set 3 (.int (a3 + 1)))) = H3 at e3 s3 ⊢
    refine sx_put (k := 2) (v := .int ((a2 * 68718952447 + (a3 + 1) * 1000003 + 97) % 2305843009213693951)) (tx_opI (tx_int (tx_opJ (tx_opJ (tx_opI (tx_ix (tx_v rfl) e3 tx_i (atI_nat (j := 2) rfl)) tx_i (.inr (by decide))) (tx_opI (tx_ix (tx_v rfl) e3 tx_i (atI_nat (j := 3) rfl)) tx_i (.inr (by decide)))) tx_i)) (tx_v rfl) (show (0 : Int) < 2305843009213693951 by decide)) (tx_v rfl) tx_i e3 (by simp) ?_
    have p1 : 0 ≤ (a2 * 68718952447 + (a3 + 1) * 1000003 + 97) % 2305843009213693951 := Int.emod_nonneg _ (by decide)
    have p2 : (a2 * 68718952447 + (a3 + 1) * 1000003 + 97) % 2305843009213693951 < 2305843009213693951 := Int.emod_lt_of_pos _ (by decide)
    generalize (a2 * 68718952447 + (a3 + 1) * 1000003 + 97) % 2305843009213693951 = z at p1 p2 ⊢
    have e4 : upd H3 b (.lst ((sl5 a0 a1 a2 (a3 + 1) a4 rest).set 2 (.int z))) b = some (.lst (sl5 a0 a1 z (a3 + 1) a4 rest)) := upd_same
    have s4 : Sb b H3 (upd H3 b (.lst ((sl5 a0 a1 a2 (a3 + 1) a4 rest).set 2 (.int z)))) := Sb.upd
    generalize upd H3 b (.lst ((sl5 a0 a1 a2 (a3 + 1) a4 rest).set 2 (.int z))) = H4 at e4 s4 ⊢
    refine sx_asg (v := .int ((z * z + (a3 + 1) * 1048583) % 2305843009213693921)) (tx_opI (tx_int (tx_opJ (tx_opI (tx_ix (tx_v rfl) e4 tx_i (atI_nat (j := 2) rfl)) (tx_ix (tx_v rfl) e4 tx_i (atI_nat (j := 2) rfl)) (.inr ⟨by omega, by omega⟩)) (tx_opI (tx_ix (tx_v rfl) e4 tx_i (atI_nat (j := 3) rfl)) tx_i (.inr (by decide))))) tx_i (show (0 : Int) < 2305843009213693921 by decide)) ?_
    generalize (z * z + (a3 + 1) * 1048583) % 2305843009213693921 = y
    refine sx_ret (v := .int ((y * 6700417 + y / 30103 + 7) % 2305843009213693951)) (tx_opI (tx_int (tx_opJ (tx_opJ (tx_opI (tx_v rfl) tx_i (.inr (by decide))) (tx_opI (tx_v rfl) tx_i (show CDiv _ 30103 from ⟨by decide, by decide⟩))) tx_i)) (tx_v rfl) (show (0 : Int) < 2305843009213693951 by decide)) ?_
    exact k _ _ _ (s3.trans s4) ⟨_, _, _, _, _, _, e4, ⟨g.h0, g.h1, p1, p2, g.l⟩⟩ (Int.emod_nonneg _ (by decide)) rfl
end
end Nb
set_option Elab.async false
set_option linter.all false
set_option maxRecDepth 100000
set_option maxHeartbeats 4000000
namespace Nb
open PySem L2
open PyProof.Rows (envOfC)
section
variable {P : Program} {w : World} {K : PySem.W.Frag} {mg : PySem.Str → Option Value} {base : Heap}
theorem sc__law_take : FnScope n__law_take ["_law_store_here", "_law_many"] (defScope s__law_take) := ⟨rfl, rfl, rfl, by decide +kernel, rfl, by decide +kernel, by decide +kernel⟩
theorem ok__law_take (T : Ctx P w K mg base) : Pro P w K mg base "_law_take" ["_law_store_here", "_law_many"] 2 (spS (raC qI raN) (fun x => x.1 < 1073741824) qN fun x y => (y : Int) < max 1 x.1) := by
  refine mk_pro T.d__law_take (fun _ _ _ _ _ _ us hl => match us, hl with | [_, _], _ => rfl) fun f fd F => ?_
  refine def_S F sc__law_take rfl fun cdv A outer s H E O G 
    b vs a hr nb wd st hra hp Q k => by
    obtain ⟨u, rfl, hu⟩ := ra1 hra
    obtain ⟨m, _⟩ := a
    obtain rfl : u = .int m := hu
    have hp : m < 1073741824 := hp
    refine ⟨_, (pss_cons (ps_if (pt_cmpR op_lt (pv 1) pe_int (nomark _)) (pss_one (ps_ret pe_int)) pss_nil)
      (pss_cons (ps_if (PW.pt (pw_and (pt_cmpR op_eq (pe_ix (ixL (K := K) rfl) (pv 0) pe_int (fun _ _ => rfl)) pe_int (nomark _)) (pw_and (pt_cmpR op_eq (pe_ix (ixL (K := K) rfl) (pv 0) pe_int (fun _ _ => rfl)) pe_int (nomark _)) (pw_and1 (pt_cmpR op_lt (pe_ix (ixL (K := K) rfl) (pv 0) pe_int (fun _ _ => rfl)) (c_len (K := K) rfl T.n_len (pa_cons (pv 0) pa_nil)) (nomark _)))))) (pss_cons (ps_set (i := 2) sc__law_take.nd rfl (Or.inl rfl) (c_int (K := K) rfl T.n_int (pa_cons (pe_ix (ixL (K := K) rfl) (pv 0) (pe_ix (ixL (K := K) rfl) (pv 0) pe_int (fun _ _ => rfl)) (fun _ _ => rfl)) pa_nil)))
      (pss_cons (ps_asg (pe_op op_add (pe_ix (ixL (K := K) rfl) (pv 0) pe_int (fun _ _ => rfl)) pe_int) (pg_sub (pv 0) pe_int set_list))
      (pss_cons (ps_asg (pe_op op_mod (c_int (K := K) rfl T.n_int (pa_cons (pe_op op_add (pe_op op_add (pe_ix (ixL (K := K) rfl) (pv 0) pe_int (fun _ _ => rfl)) (pe_op op_mul (pv 2) pe_int)) pe_int) pa_nil)) pe_int) (pg_sub (pv 0) pe_int set_list))
      (pss_one (ps_if (PW.pt (pw_or (pt_cmpR op_ge (pv 2) (pe_op op_pow pe_int pe_int) (nomark _)) (pw_or1 (pt_cmpR op_le (pv 2) (pe_op op_sub pe_int (pe_op op_pow pe_int pe_int)) (nomark _))))) (pss_one (ps_asg (c_abs (K := K) rfl T.n_abs (pa_cons (pv 2) pa_nil)) (pg_sub (pv 0) pe_int set_list))) (pss_one (ps_asg pe_int (pg_sub (pv 0) pe_int set_list)))))))) pss_nil)
      (pss_cons (ps_if (pt_cmpR op_gt (pe_ix (ixL (K := K) rfl) (pv 0) pe_int (fun _ _ => rfl)) pe_int (nomark _)) (pss_cons (ps_set (i := 3) sc__law_take.nd rfl (Or.inl rfl) (pe_op op_mod (c_int (K := K) rfl T.n_int (pa_cons (pe_ix (ixL (K := K) rfl) (pv 0) pe_int (fun _ _ => rfl)) pa_nil)) (pv 1)))
      (pss_cons (ps_asg (pe_op op_fdiv (pe_ix (ixL (K := K) rfl) (pv 0) pe_int (fun _ _ => rfl)) (pv 1)) (pg_sub (pv 0) pe_int set_list))
      (pss_one (ps_ret (pv 3))))) pss_nil)
      (pss_cons (ps_if (pt_cmpR op_gt (pe_ix (ixL (K := K) rfl) (pv 0) pe_int (fun _ _ => rfl)) pe_int (nomark _)) (pss_one (ps_asg (pe_op op_sub (pe_ix (ixL (K := K) rfl) (pv 0) pe_int (fun _ _ => rfl)) pe_int) (pg_sub (pv 0) pe_int set_list))) pss_nil)
      (pss_one (ps_ret (pe_op op_mod (c_int (K := K) rfl T.n_int (pa_cons (pe_cl (ok__law_mixed T) hr (pa_cons (pv 0) pa_nil)) pa_nil)) (pv 1)))))))), ?_⟩
    refine sx_if (b := decide (m < 2)) (txt_opJ (tx_v rfl) tx_i) (fun z => ?_) (fun z => ?_)
    · exact sx_ret (v := .int 0) tx_i (k _ _ 0 (Sb.of (Same.refl _)) st (by show ((0 : Nat) : Int) < max 1 m; omega) rfl)
    have hm : 2 ≤ m := by have := of_decide_eq_false z; omega
    obtain ⟨a0, a1, a2, a3, a4, rest, e, g⟩ := st
    refine sx_ifJ (fun σ' H' => ∃ c, σ' = [some (.ref b), some (.int m), c, none] ∧ Sb b H H' ∧ Sto H' b) (txt_and (txt_eq (tx_ix (tx_v rfl) e tx_i (atI_nat (j := 1) rfl)) tx_i) fun _ => txt_and (txt_eq (tx_ix (tx_v rfl) e tx_i (atI_nat (j := 4) rfl)) tx_i) fun _ => txt_opJ (tx_ix (tx_v rfl) e tx_i (atI_nat (j := 0) rfl)) (tx_lenL (tx_v rfl) e)) (fun z2 N hN => ?_) (fun _ => ⟨none, rfl, Sb.of (Same.refl _), _, _, _, _, _, _, e, g⟩) ?_
    · rw [Bool.and_eq_true, Bool.and_eq_true] at z2
      have hlt : a0 < ((sl5 a0 a1 a2 a3 a4 rest).length : Int) := of_decide_eq_true z2.2.2
      have h0 := g.h0
      have hx : ∃ cell : Int, (sl5 a0 a1 a2 a3 a4 rest)[a0.toNat]? = some (.int cell) := by
        have hl : a0.toNat < (a0 :: a1 :: a2 :: a3 :: a4 :: rest).length := by
          rw [List.length_map] at hlt
          omega
        refine ⟨(a0 :: a1 :: a2 :: a3 :: a4 :: rest)[a0.toNat], ?_⟩
        rw [List.getElem?_map, List.getElem?_eq_getElem hl]
        rfl
      obtain ⟨cell, hx⟩ := hx
      have hx : atI (sl5 a0 a1 a2 a3 a4 rest) a0 = some (.int cell) := by
        have := atI_nat hx
        rw [Int.toNat_of_nonneg h0] at this
        exact this
      refine sx_asg (tx_int (tx_ix (tx_v rfl) e (tx_ix (tx_v rfl) e tx_i (atI_nat (j := 0) rfl)) hx)) ?_
      refine sx_put (k := 0) (v := .int (a0 + 1)) (tx_opJ (tx_ix (tx_v rfl) e tx_i (atI_nat (j := 0) rfl)) tx_i) (tx_v rfl) tx_i e (by simp) ?_
      have e3 : upd H b (.lst ((sl5 a0 a1 a2 a3 a4 rest).set 0 (.int (a0 + 1)))) b = some (.lst (sl5 (a0 + 1) a1 a2 a3 a4 rest)) := upd_same
      have s3 : Sb b H (upd H b (.lst ((sl5 a0 a1 a2 a3 a4 rest).set 0 (.int (a0 + 1))))) := Sb.upd
      generalize upd H b (.lst ((sl5 a0 a1 a2 a3 a4 rest).set 0 (.int (a0 + 1)))) = H3 at e3 s3 ⊢
      refine sx_put (k := 2) (v := .int ((a2 + cell * 5 + 1) % 2305843009213693951)) (tx_opI (tx_int (tx_opJ (tx_opJ (tx_ix (tx_v rfl) e3 tx_i (atI_nat (j := 2) rfl)) (tx_opI (tx_v rfl) tx_i (.inr (by decide)))) tx_i)) tx_i (show (0 : Int) < 2305843009213693951 by decide)) (tx_v rfl) tx_i e3 (by simp) ?_
      have p1 : 0 ≤ (a2 + cell * 5 + 1) % 2305843009213693951 := Int.emod_nonneg _ (by decide)
      have p2 : (a2 + cell * 5 + 1) % 2305843009213693951 < 2305843009213693951 := Int.emod_lt_of_pos _ (by decide)
      generalize (a2 + cell * 5 + 1) % 2305843009213693951 = z at p1 p2 ⊢
      have e4 : upd H3 b (.lst ((sl5 (a0 + 1) a1 a2 a3 a4 rest).set 2 (.int z))) b = some (.lst (sl5 (a0 + 1) a1 z a3 a4 rest)) := upd_same
      have s4 : Sb b H3 (upd H3 b (.lst ((sl5 (a0 + 1) a1 a2 a3 a4 rest).set 2 (.int z)))) := Sb.upd
      generalize upd H3 b (.lst ((sl5 (a0 + 1) a1 a2 a3 a4 rest).set 2 (.int z))) = H4 at e4 s4 ⊢
      refine sx_ifE (txt_or (txt_opJ (tx_v rfl) (tx_opI tx_i tx_i ⟨by decide, by decide, by decide⟩)) fun _ => txt_opJ (tx_v rfl) (tx_opJ tx_i (tx_opI tx_i tx_i ⟨by decide, by decide, by decide⟩))) (fun _ => ?_) (fun _ => ?_)
      · refine sx_putL (k := 1) (v := .int (cell.natAbs : Int)) (tx_abs (tx_v rfl)) (tx_v rfl) tx_i e4 (by simp) ?_
        exact hN _ _ ⟨some (.int cell), rfl, (s3.trans s4).trans Sb.upd, _, _, _, _, _, _, upd_same, ⟨by omega, Int.natCast_nonneg _, p1, p2, g.l⟩⟩
      · refine sx_putL (k := 4) (v := .int 2) tx_i (tx_v rfl) tx_i e4 (by simp) ?_
        exact hN _ _ ⟨some (.int cell), rfl, (s3.trans s4).trans Sb.upd, _, _, _, _, _, _, upd_same, ⟨by omega, g.h1, p1, p2, g.l⟩⟩
    rintro σ1 H1 ⟨c, rfl, s1, b0, b1, b2, b3, b4, rest, e, g⟩
    refine sx_if (txt_opJ (tx_ix (tx_v rfl) e tx_i (atI_nat (j := 1) rfl)) tx_i) (fun z => ?_) (fun z => ?_)
    · have h1 := g.h1
      refine sx_asg (v := .int (b1 % m)) (tx_opI (tx_int (tx_ix (tx_v rfl) e tx_i (atI_nat (j := 1) rfl))) (tx_v rfl) (show (0 : Int) < m by omega)) ?_
      refine sx_put (k := 1) (v := .int (b1 / m)) (tx_opI (tx_ix (tx_v rfl) e tx_i (atI_nat (j := 1) rfl)) (tx_v rfl) (show CDiv b1 m from ⟨by omega, hp⟩)) (tx_v rfl) tx_i e (by simp) ?_
      have q1 : 0 ≤ b1 % m := Int.emod_nonneg _ (by omega)
      have q2 : b1 % m < m := Int.emod_lt_of_pos _ (by omega)
      refine sx_ret (tx_v rfl) (k _ _ (b1 % m).toNat (s1.trans Sb.upd) ⟨_, _, _, _, _, _, upd_same, ⟨g.h0, Int.ediv_nonneg h1 (by omega), g.h2, g.h3, g.l⟩⟩ (by show ((b1 % m).toNat : Int) < max 1 m; omega) ?_)
      show V.int (b1 % m) = V.int ((b1 % m).toNat : Int)
      rw [Int.toNat_of_nonneg q1]
    refine sx_ifJ (fun σ' H' => σ' = [some (.ref b), some (.int m), c, none] ∧ Sb b H H' ∧ Sto H' b) (txt_opJ (tx_ix (tx_v rfl) e tx_i (atI_nat (j := 4) rfl)) tx_i) (fun z2 N hN => ?_) (fun _ => ⟨rfl, s1, _, _, _, _, _, _, e, g⟩) ?_
    · refine sx_putL (k := 4) (v := .int (b4 - 1)) (tx_opJ (tx_ix (tx_v rfl) e tx_i (atI_nat (j := 4) rfl)) tx_i) (tx_v rfl) tx_i e (by simp) ?_
      exact hN _ _ ⟨rfl, s1.trans Sb.upd, _, _, _, _, _, _, upd_same, ⟨g.h0, g.h1, g.h2, g.h3, g.l⟩⟩
    rintro σ2 H2 ⟨rfl, s2, st2⟩
    refine st_retN (Y := fun y : Int => 0 ≤ y ∧ y < m) (r := qI) nb (wd.sb s2 st2.ne) st2 (tn_opI (Y := fun y => 0 ≤ y) (Z := fun y => y = m) (tn_int (tn_callS rfl ta_n trivial)) (tn_of (tv_v rfl ⟨rfl⟩) rfl) fun i j hi hj => ?_) fun v H' y s st' hy hv => k v H' y.toNat (s2.trans s) st' (by show ((y.toNat : Nat) : Int) < max 1 m; omega) ?_
    · subst hj
      exact ⟨by show (0 : Int) < j; omega, Int.emod_nonneg _ (by omega), Int.emod_lt_of_pos _ (by omega)⟩
    · show v = V.int ((y.toNat : Nat) : Int)
      rw [Int.toNat_of_nonneg hy.1]
      exact hv
end
end Nb
set_option Elab.async false
set_option linter.all false
set_option maxRecDepth 100000
set_option maxHeartbeats 4000000
namespace Nb
open PySem L2
open PyProof.Rows (envOfC)
theorem pr_eqs {α β : Type} {xs : List α} {ys : List α} (h : Paired (fun (x y : α) => y = x) xs ys) : ys = xs := by
  induction h with
  | nil => rfl
  | cons h _ ih => rw [h, ih]
theorem sm39 {i : Int} (h : i.natAbs < 10 ^ 39) {k : Nat} (hk : k ≤ 4) : Sm (i * (k : Int)) := by
  show (i * (k : Int)).natAbs < 2 ^ 4000
  rw [Int.natAbs_mul, Int.natAbs_natCast]
  have h1 : i.natAbs * k ≤ i.natAbs * 4 := Nat.mul_le_mul_left _ hk
  have h2 : (10 : Nat) ^ 39 * 4 < 2 ^ 200 := by decide
  have h3 : 2 ^ 200 < 2 ^ 4000 := Nat.pow_lt_pow_right (by decide) (by decide)
  omega
theorem mk_den {x : Rat} (h : (x.den : Int) = 1) : mkRat x.num (1 : Int).toNat = x := by
  have e : (1 : Int).toNat = x.den := by omega
  rw [e]
  exact Rat.mkRat_self x
section
variable {P : Program} {w : World} {K : PySem.W.Frag} {mg : PySem.Str → Option Value} {base : Heap}
theorem sc__law_edge : FnScope n__law_edge ["_law_store_here", "_law_many"] (defScope s__law_edge) := ⟨rfl, rfl, rfl, by decide +kernel, rfl, by decide +kernel, by decide +kernel⟩
theorem ok__law_edge (T : Ctx P w K mg base) : Pro P w K mg base "_law_edge" ["_law_store_here", "_law_many"] 3 (spS (raC qI raN) (fun x => x.1 < 1073741824) qN fun x y => (y : Int) < max 1 x.1) := by
  refine mk_pro T.d__law_edge (fun _ _ _ _ _ _ us hl => match us, hl with | [_, _], _ => rfl) fun f fd F => ?_
  refine def_S F sc__law_edge rfl fun cdv A outer s H E O G 
    b vs a hr nb wd st hra hp Q k => by
    obtain ⟨u, rfl, hu⟩ := ra1 hra
    obtain ⟨m, _⟩ := a
    have hu : Has qI G u m := ⟨hu⟩
    have hp : m < 1073741824 := hp
    refine ⟨_, (pss_cons (ps_if (pt_cmpR op_lt (pv 1) pe_int (nomark _)) (pss_one (ps_ret pe_int)) pss_nil)
      (pss_cons (ps_set (i := 2) sc__law_edge.nd rfl (Or.inl rfl) (pe_cl (ok__law_take T) hr (pa_cons (pv 0) (pa_cons pe_int pa_nil))))
      (pss_cons (ps_if (pt_cmpR op_eq (pv 2) pe_int (nomark _)) (pss_one (ps_ret pe_int)) pss_nil)
      (pss_cons (ps_if (pt_cmpR op_eq (pv 2) pe_int (nomark _)) (pss_one (ps_ret (pe_op op_sub (pv 1) pe_int))) pss_nil)
      (pss_one (ps_ret (pe_cl (ok__law_take T) hr (pa_cons (pv 0) (pa_cons (pv 1) pa_nil))))))))), ?_⟩
    refine st_if wd (tt_opB (tv_v rfl hu) tv_i) (fun z H1 s1 w1 => ?_) (fun z H1 s1 w1 => ?_)
    · exact st_ret w1 (tv_IN (n := 0) tv_i rfl) fun v H' s hv => k v H' 0 (Sb.of (s1.trans s)) ((st.on s1).on s) (by show ((0 : Nat) : Int) < max 1 m; omega) hv
    have hm : 2 ≤ m := by have := of_decide_eq_false z; omega
    refine st_asgN nb w1 (st.on s1) (tn_callS rfl (ta_c tv_i ta_n) (show (6 : Int) < 1073741824 by decide)) fun v2 G2 H2 y g2 w2 s2 st2 hy h2 => ?_
    have h2 : Has qN G2 v2 y := h2
    refine st_if w2 (tt_eqI (tv_v rfl h2.nI) tv_i) (fun _ H3 s3 w3 => ?_) (fun _ H3 s3 w3 => ?_)
    · exact st_ret w3 (tv_IN (n := 0) tv_i rfl) fun v H' s hv => k v H' 0 (((Sb.of s1).trans s2).trans (Sb.of (s3.trans s))) ((st2.on s3).on s) (by show ((0 : Nat) : Int) < max 1 m; omega) hv
    refine st_if w3 (tt_eqI (tv_v rfl h2.nI) tv_i) (fun _ H4 s4 w4 => ?_) (fun _ H4 s4 w4 => ?_)
    · exact st_ret w4 (tv_IN (n := (m - 1).toNat) (tv_opJ (tv_v rfl (hu.mo g2)) tv_i) (by omega)) fun v H' s hv => k v H' _ (((Sb.of s1).trans s2).trans (Sb.of ((s3.trans s4).trans s))) (((st2.on s3).on s4).on s) (by show (((m - 1).toNat : Nat) : Int) < max 1 m; omega) hv
    · exact st_retN nb w4 ((st2.on s3).on s4) (tn_callS rfl (ta_c (tv_v rfl (hu.mo g2)) ta_n) hp) fun v H' y s st' hy hv => k v H' y ((((Sb.of s1).trans s2).trans (Sb.of (s3.trans s4))).trans s) st' hy hv
theorem sc__law_dress : FnScope n__law_dress ["_law_store_here", "_law_value"] (defScope s__law_dress) := ⟨rfl, rfl, rfl, by decide +kernel, rfl, by decide +kernel, by decide +kernel⟩
theorem ok__law_dress (T : Ctx P w K mg base) : Pro P w K mg base "_law_dress" ["_law_store_here", "_law_value"] 3 (spS (raC (qQ K) raN) (fun x => Bq x.1) (qR K) fun x y => y = x.1) := by
  refine mk_pro T.d__law_dress (fun _ _ _ _ _ _ us hl => match us, hl with | [_, _], _ => rfl) fun f fd F => ?_
  refine def_S F sc__law_dress rfl fun cdv A outer s H E O G 
    b vs a hr nb wd st hra hp Q k => by
    obtain ⟨u, rfl, hu⟩ := ra1 hra
    obtain ⟨x, _⟩ := a
    have hx : Has (qPr K) G u (x.num, (x.den : Int)) := ⟨qQ_pr hu⟩
    have hp : Bq x := hp
    refine ⟨_, (pss_cons (ps_set (i := 2) sc__law_dress.nd rfl (Or.inl rfl) (pe_cl (ok__law_take T) hr (pa_cons (pv 0) (pa_cons pe_int pa_nil))))
      (pss_cons (ps_if (PW.pt (pw_and (pt_cmpR op_lt (pv 2) pe_int (nomark _)) (pw_and1 (pt_cmpR op_eq (pe_ix (ixT (K := K) rfl) (pv 1) pe_int (fun _ _ => rfl)) pe_int (nomark _))))) (pss_one (ps_ret (pe_ix (ixT (K := K) rfl) (pv 1) pe_int (fun _ _ => rfl)))) pss_nil)
      (pss_cons (ps_if (PW.pt (pw_and (pt_cmpR op_gt (pv 2) pe_int (nomark _)) (pw_and (pt_cmpR op_lt (pv 2) pe_int (nomark _)) (pw_and (pt_cmpR op_lt (c_abs (K := K) rfl T.n_abs (pa_cons (pe_ix (ixT (K := K) rfl) (pv 1) pe_int (fun _ _ => rfl)) pa_nil)) (pe_op op_pow pe_int pe_int) (nomark _)) (pw_and1 (pt_cmpR op_lt (pe_ix (ixT (K := K) rfl) (pv 1) pe_int (fun _ _ => rfl)) (pe_op op_pow pe_int pe_int) (nomark _))))))) (pss_cons (ps_set (i := 3) sc__law_dress.nd rfl (Or.inl rfl) (pe_op op_add pe_int (pe_cl (ok__law_take T) hr (pa_cons (pv 0) (pa_cons pe_int pa_nil)))))
      (pss_one (ps_ret (pe_tup (pa_cons (pe_op op_mulW (pe_ix (ixT (K := K) rfl) (pv 1) pe_int (fun _ _ => rfl)) (pv 3)) (pa_cons (pe_op op_mulW (pe_ix (ixT (K := K) rfl) (pv 1) pe_int (fun _ _ => rfl)) (pv 3)) pa_nil)))))) pss_nil)
      (pss_one (ps_ret (pe_tup (pa_cons (pe_ix (ixT (K := K) rfl) (pv 1) pe_int (fun _ _ => rfl)) (pa_cons (pe_ix (ixT (K := K) rfl) (pv 1) pe_int (fun _ _ => rfl)) pa_nil)))))))), ?_⟩
    refine st_asgN nb wd st (tn_callS rfl (ta_c tv_i ta_n) (show (4 : Int) < 1073741824 by decide)) fun v1 G1 H1 y g1 w1 s1 st1 hy h1 => ?_
    have h1 : Has qN G1 v1 y := h1
    have hx1 := hx.mo g1
    refine st_if w1 (tt_and (tt_opB (tv_v rfl h1.nI) tv_i) fun _ => tt_eqI (tv_snd (tv_v rfl hx1)) tv_i) (fun z H2 s2 w2 => ?_) (fun z H2 s2 w2 => ?_)
    · have hd : (x.den : Int) = 1 := by
        rw [Bool.and_eq_true] at z
        exact of_decide_eq_true z.2
      exact st_ret w2 (tv_fst (tv_v rfl hx1)) fun v H' s hv => k v H' x (s1.trans (Sb.of (s2.trans s))) ((st1.on s2).on s) rfl ⟨x.num, 1, .inl ⟨hv, rfl⟩, by decide, hp.1, sm_small (by decide), (mk_den hd).symm⟩
    refine st_if w2 (tt_and (tt_opB (tv_v rfl h1.nI) tv_i) fun _ => tt_and (tt_opB (tv_v rfl h1.nI) tv_i) fun _ => tt_and (tt_opB (tv_abs (tv_fst (tv_v rfl hx1))) (tv_opI (g := fun i j => i ^ j.toNat) tv_i tv_i ⟨by decide, by decide, by decide⟩)) fun _ => tt_opB (tv_snd (tv_v rfl hx1)) (tv_opI (g := fun i j => i ^ j.toNat) tv_i tv_i ⟨by decide, by decide, by decide⟩)) (fun z H3 s3 w3 => ?_) (fun z H3 s3 w3 => ?_)
    · rw [Bool.and_eq_true, Bool.and_eq_true, Bool.and_eq_true] at z
      have z3 : ((x.num.natAbs : Nat) : Int) < 10 ^ 39 := of_decide_eq_true z.2.2.1
      have z4 : (x.den : Int) < 10 ^ 39 := of_decide_eq_true z.2.2.2
      refine st_asgN (r := qI) (Y := fun p : Int => 2 ≤ p ∧ p ≤ 4) nb w3 ((st1.on s2).on s3) (tn_opJ (Y := fun z => z = 2) (Z := fun z => 0 ≤ z ∧ z < 3) (tn_of tv_i rfl) ((tn_callS (F := fun (x : Int × Unit) (y : Nat) => (y : Int) < max 1 x.1) (x := ((3 : Int), ())) rfl (ta_c tv_i ta_n) (show (3 : Int) < 1073741824 by decide)).sub (fun n : Nat => (n : Int)) (fun _ _ _ _ h => h) (fun y hy => ⟨by omega, by have hy : (y : Int) < max 1 3 := hy; omega⟩)) (fun i j hi hj => by omega)) fun v4 G4 H4 p g4 w4 s4 st4 hp4 h4 => ?_
      obtain ⟨p, rfl⟩ : ∃ n : Nat, p = n := ⟨p.toNat, by omega⟩
      have hp1 : 2 ≤ p := by omega
      have hp2 : p ≤ 4 := by omega
      have hx4 := hx1.mo g4
      have m1 : Sm (x.num * (p : Int)) := sm39 (by omega) hp2
      have m2 : Sm ((x.den : Int) * (p : Int)) := sm39 (by rw [Int.natAbs_natCast]; omega) hp2
      refine st_ret w4 (tv_pair (K := K) (tv_opI (tv_fst (tv_v rfl hx4)) (tv_v rfl h4) (m_sm hp.1 (sm_small (by omega)))) (tv_opI (tv_snd (tv_v rfl hx4)) (tv_v rfl h4) (m_sm hp.2 (sm_small (by omega))))) fun v H' s hv => k v H' x (((s1.trans (Sb.of (s2.trans s3))).trans s4).trans (Sb.of s)) (st4.on s) rfl ⟨_, _, .inr hv, Int.mul_pos (den_pos x) (by omega), m1, m2, ?_⟩
      rw [show ((x.den : Int) * (p : Int)).toNat = x.den * p by rw [← Int.natCast_mul, Int.toNat_natCast], Rat.mkRat_mul_right (by omega), Rat.mkRat_self]
    · exact st_ret w3 (tv_pair (K := K) (tv_fst (tv_v rfl hx1)) (tv_snd (tv_v rfl hx1))) fun v H' s hv => k v H' x (s1.trans (Sb.of ((s2.trans s3).trans s))) (((st1.on s2).on s3).on s) rfl (qR_of hp (pr_qQ hv rfl rfl))
theorem sc__law_dressed : FnScope n__law_dressed ["_law_store_here", "_law_values"] (defScope s__law_dressed) := ⟨rfl, rfl, rfl, by decide +kernel, rfl, by decide +kernel, by decide +kernel⟩
theorem ok__law_dressed (T : Ctx P w K mg base) : Pro P w K mg base "_law_dressed" ["_law_store_here", "_law_values"] 4 (spS (raC (qL K (qQ K)) raN) (fun x => x.1.length < 10000 ∧ ∀ y ∈ x.1, Bq y) (qL K (qR K)) fun x y => y = x.1) := by
  refine mk_pro T.d__law_dressed (fun _ _ _ _ _ _ us hl => match us, hl with | [_, _], _ => rfl) fun f fd F => ?_
  refine def_S F sc__law_dressed rfl fun cdv A outer s H E O G 
    b vs a hr nb wd st hra hp Q k => by
    obtain ⟨u, rfl, hu⟩ := ra1 hra
    obtain ⟨xs, _⟩ := a
    have hu : Has (qL K (qQ K)) G u xs := ⟨hu⟩
    obtain ⟨hl, hb⟩ : xs.length < 10000 ∧ ∀ y ∈ xs, Bq y := hp
    refine ⟨_, (pss_one (ps_ret (pe_lc (own := [("_law_value", 2)]) (g := (gName 2)) (tt := tYes) rfl sc__law_dressed.nd (piL (K := K) rfl (pv 1)) (blkOk_by (own := [("_law_value", 2)]) (N := n__law_dressed) (sc := defScope s__law_dressed) (by decide +kernel)) (fun _ _ _ _ _ => (pg_name (i := 2) sc__law_dressed.nd rfl (by first | exact Or.inl rfl | exact Or.inr rfl))) (fun _ _ _ _ _ => pts_nil) (fun _ _ _ _ _ => (pe_cl (ok__law_dress T) hr (pa_cons (pv 0) (pa_cons (pv 2) pa_nil))))))), ?_⟩
    refine st_retN nb wd st (tn_map (q := qR K) (Y := fun x y => y = x) (it_list (tv_v rfl hu)) tg1 (own1 (by decide)) hl fun D i x G1 σ2 hx g1 ⟨vx, ex, hvx⟩ => ?_) fun v H' ys s st' hy hv => k v H' ys s st' (pr_eqs (β := Unit) hy) (qLs_L hv)
    subst ex
    exact tn_callS rfl (ta_c (tv_v rfl hvx) ta_n) (hb x (List.mem_of_getElem? hx))
end
end Nb
set_option Elab.async false
set_option linter.all false
set_option maxRecDepth 100000
set_option maxHeartbeats 4000000
namespace Nb
open PySem L2
open PyProof.Rows (envOfC)
def BadD (d : PyData) : Prop := (∃ b, d = .bool b) ∨ ∃ i : Int, d = .int i ∧ (i < 0 ∨ 8 < i)
def widL : List Nat := [2, 2, 2, 2, 3, 3, 1, 4, 5, 2]
theorem pow_step {n f : Nat} (h0 : n ^ f ≤ 16 ∨ f ≤ 0) : n ^ f ≤ 16 := by
  rcases h0 with h | h
  · exact h
  · rw [show f = 0 by omega, Nat.pow_zero]
    decide
section
variable {P : Program} {w : World} {K : PySem.W.Frag} {mg : PySem.Str → Option Value} {base : Heap}
theorem sc__law_bad_count : FnScope n__law_bad_count ["_law_store_here", "_law_low_here", "_law_high"] (defScope s__law_bad_count) := ⟨rfl, rfl, rfl, by decide +kernel, rfl, by decide +kernel, by decide +kernel⟩
theorem ok__law_bad_count (T : Ctx P w K mg base) : Pro P w K mg base "_law_bad_count" ["_law_store_here", "_law_low_here", "_law_high"] 3 (spS (raC qI (raC qI raN)) (fun x => x.1 = 0 ∧ x.2.1 = 8) (qDp K) fun _ d => BadD d) := by
  refine mk_pro T.d__law_bad_count (fun _ _ _ _ _ _ us hl => match us, hl with | [_, _, _], _ => rfl) fun f fd F => ?_
  refine def_S F sc__law_bad_count rfl fun cdv A outer s H E O G 
    b vs a hr nb wd st hra hp Q k => by
    obtain ⟨u, v, rfl, hu, hv⟩ := ra2 hra
    obtain ⟨i, j, _⟩ := a
    obtain ⟨rfl, rfl⟩ : i = 0 ∧ j = 8 := hp
    have hu : Has qI G u 0 := ⟨hu⟩
    have hv : Has qI G v 8 := ⟨hv⟩
    refine ⟨_, (pss_cons (ps_set (i := 3) sc__law_bad_count.nd rfl (Or.inl rfl) (pe_cl (ok__law_take T) hr (pa_cons (pv 0) (pa_cons (pe_op op_pow pe_int pe_int) pa_nil))))
      (pss_cons (ps_set (i := 4) sc__law_bad_count.nd rfl (Or.inl rfl) (pe_lst (pa_cons (pe_op op_sub (pv 1) pe_int) (pa_cons (pe_op op_add (pv 2) pe_int) (pa_cons pe_bl (pa_cons pe_bl (pa_cons (pe_op op_sub (pe_op op_sub (pv 1) pe_int) (pv 3)) (pa_cons (pe_op op_add (pe_op op_add (pv 2) pe_int) (pv 3)) (pa_cons (pe_op op_sub (pe_op op_pow pe_int pe_int) pe_int) (pa_cons (pe_op op_sub pe_int (pe_op op_pow pe_int pe_int)) pa_nil))))))))))
      (pss_one (ps_ret (pe_ix (ixL (K := K) rfl) (pv 4) (pe_cl (ok__law_take T) hr (pa_cons (pv 0) (pa_cons (c_len (K := K) rfl T.n_len (pa_cons (pv 4) pa_nil)) pa_nil))) (fun _ _ => rfl)))))), ?_⟩
    refine st_asgN nb wd st (tn_callS rfl (ta_c (tv_opI (g := fun i j => i ^ j.toNat) tv_i tv_i ⟨by decide, by decide, by decide⟩) ta_n) (show (10 : Int) ^ 9 < 1073741824 by decide)) fun v1 G1 H1 y g1 w1 s1 st1 hy h1 => ?_
    have h1 : Has qN G1 v1 y := h1
    have hu1 := hu.mo g1
    have hv1 := hv.mo g1
    refine st_asg (r := qL K (qDp K)) (x := [.int (0 - 1), .int (8 + 1), .bool true, .bool false, .int (0 - 2 - (y : Int)), .int (8 + 2 + (y : Int)), .int (10 ^ 40 - 1), .int (1 - 10 ^ 40)]) w1
      (tv_lstE (ta_e (tv_Dp (tv_opJ (tv_v rfl hu1) tv_i)) (ta_e (tv_Dp (tv_opJ (tv_v rfl hv1) tv_i)) (ta_e (tv_Dp tv_b) (ta_e (tv_Dp tv_b) (ta_e (tv_Dp (tv_opJ (tv_opJ (tv_v rfl hu1) tv_i) (tv_v rfl h1.nI))) (ta_e (tv_Dp (tv_opJ (tv_opJ (tv_v rfl hv1) tv_i) (tv_v rfl h1.nI))) (ta_e (tv_Dp (tv_opJ (tv_opI (g := fun i j => i ^ j.toNat) tv_i tv_i ⟨by decide, by decide, by decide⟩) tv_i)) (ta_e (tv_Dp (tv_opJ tv_i (tv_opI (g := fun i j => i ^ j.toNat) tv_i tv_i ⟨by decide, by decide, by decide⟩))) ta_e0)))))))) (by decide)) fun vm G2 H2 g2 w2 s2 hm => ?_
    refine st_retN (Y := BadD) (r := qDp K) nb w2 (st1.on s2) (tn_ixL (Z := fun i => i < 8) (tv_v rfl hm) ((tn_callS rfl (ta_c (tv_lenL (tv_v rfl hm)) ta_n) (show (8 : Int) < 1073741824 by decide)).mono fun z hz => by have hz : (z : Int) < max 1 8 := hz; omega) fun z hz => ?_) fun v H' y s st' hy hv => k v H' y ((s1.trans (Sb.of s2)).trans s) st' hy hv
    have : z = 0 ∨ z = 1 ∨ z = 2 ∨ z = 3 ∨ z = 4 ∨ z = 5 ∨ z = 6 ∨ z = 7 := by omega
    rcases this with rfl | rfl | rfl | rfl | rfl | rfl | rfl | rfl
    · exact ⟨_, rfl, .inr ⟨_, rfl, .inl (by decide)⟩⟩
    · exact ⟨_, rfl, .inr ⟨_, rfl, .inr (by decide)⟩⟩
    · exact ⟨_, rfl, .inl ⟨_, rfl⟩⟩
    · exact ⟨_, rfl, .inl ⟨_, rfl⟩⟩
    · exact ⟨_, rfl, .inr ⟨_, rfl, .inl (by omega)⟩⟩
    · exact ⟨_, rfl, .inr ⟨_, rfl, .inr (by omega)⟩⟩
    · exact ⟨_, rfl, .inr ⟨_, rfl, .inr (by decide)⟩⟩
    · exact ⟨_, rfl, .inr ⟨_, rfl, .inl (by decide)⟩⟩
theorem sc__law_most : FnScope n__law_most ["_law_width"] (defScope s__law_most) := ⟨rfl, rfl, rfl, by decide +kernel, rfl, by decide +kernel, by decide +kernel⟩
theorem ok__law_most (T : Ctx P w K mg base) : Pro P w K mg base "_law_most" ["_law_width"] 1 (spP (raC qN raN) (fun x => 1 ≤ x.1 ∧ x.1 ≤ 5) qN fun x => mostR x.1) := by
  refine mk_pro T.d__law_most (fun _ _ _ _ _ _ us hl => match us, hl with | [_], _ => rfl) fun f fd F => ?_
  refine def1 F sc__law_most rfl fun cdv A outer s H E O G 
    u n hr wd hu hp Q k => ⟨_, (pss_one (ps_ret (pe_ix (ixL (K := K) rfl) (pe_lst (pa_cons pe_int (pa_cons pe_int (pa_cons pe_int (pa_cons pe_int (pa_cons pe_int pa_nil)))))) (pe_op op_sub (pv 0) pe_int) (fun _ _ => rfl)))), ?_⟩
  obtain ⟨h1, h5⟩ : 1 ≤ n ∧ n ≤ 5 := hp
  refine st_ret wd (tv_ixL (K := K) (r := qI) (xs := [8, 8, 5, 4, 3]) (x := (mostR n : Int)) (tv_lstE (ta_e tv_i (ta_e tv_i (ta_e tv_i (ta_e tv_i (ta_e tv_i ta_e0))))) (by decide)) (tv_opJ (tv_v rfl hu.nI) tv_i) ?_) fun v H' s hv => k v H' s hv
  have : n = 1 ∨ n = 2 ∨ n = 3 ∨ n = 4 ∨ n = 5 := by omega
  rcases this with rfl | rfl | rfl | rfl | rfl <;> rfl
def limR (n : Nat) : Nat := [4, 4, 3, 2, 2].getD (n - 1) 0
theorem limR_le {n : Nat} (h1 : 1 ≤ n) (h5 : n ≤ 5) : limR n ≤ mostR n := by
  have : n = 1 ∨ n = 2 ∨ n = 3 ∨ n = 4 ∨ n = 5 := by omega
  rcases this with rfl | rfl | rfl | rfl | rfl <;> decide
theorem mostR8 {n : Nat} (h1 : 1 ≤ n) (h5 : n ≤ 5) : mostR n ≤ 8 := by
  have : n = 1 ∨ n = 2 ∨ n = 3 ∨ n = 4 ∨ n = 5 := by omega
  rcases this with rfl | rfl | rfl | rfl | rfl <;> decide
theorem sc__law_rounds : FnScope n__law_rounds ["_law_store_here", "_law_width", "_law_top"] (defScope s__law_rounds) := ⟨rfl, rfl, rfl, by decide +kernel, rfl, by decide +kernel, by decide +kernel⟩
theorem ok__law_rounds (T : Ctx P w K mg base) : Pro P w K mg base "_law_rounds" ["_law_store_here", "_law_width", "_law_top"] 4 (spS (raC qN (raC qI raN)) (fun x => (1 ≤ x.1 ∧ x.1 ≤ 5) ∧ x.2.1 = 16) qN fun x R => R ≤ mostR x.1 ∧ x.1 ^ R ≤ 16) := by
  refine mk_pro T.d__law_rounds (fun _ _ _ _ _ _ us hl => match us, hl with | [_, _, _], _ => rfl) fun f fd F => ?_
  refine def_S F sc__law_rounds rfl fun cdv A outer s H E O G 
    b vs a hr nb wd st hra hp Q k => by
    obtain ⟨u, v, rfl, hu, hv⟩ := ra2 hra
    obtain ⟨n, j, _⟩ := a
    obtain ⟨⟨n1, n5⟩, rfl⟩ : (1 ≤ n ∧ n ≤ 5) ∧ j = 16 := hp
    have hu : Has qN G u n := ⟨hu⟩
    have hv : Has qI G v 16 := ⟨hv⟩
    have m8 := mostR8 n1 n5
    refine ⟨_, (pss_cons (ps_set (i := 3) sc__law_rounds.nd rfl (Or.inl rfl) (pe_ix (ixL (K := K) rfl) (pe_lst (pa_cons pe_int (pa_cons pe_int (pa_cons pe_int (pa_cons pe_int (pa_cons pe_int pa_nil)))))) (pe_op op_sub (pv 1) pe_int) (fun _ _ => rfl)))
      (pss_cons (ps_if (pt_cmpR op_eq (pe_cl (ok__law_take T) hr (pa_cons (pv 0) (pa_cons pe_int pa_nil))) pe_int (nomark _)) (pss_one (ps_set (i := 3) sc__law_rounds.nd rfl (Or.inl rfl) (pe_cl (ok__law_most T) hr (pa_cons (pv 1) pa_nil)))) pss_nil)
      (pss_cons (ps_set (i := 4) sc__law_rounds.nd rfl (Or.inl rfl) (pe_cl (ok__law_edge T) hr (pa_cons (pv 0) (pa_cons (pe_op op_add (pv 3) pe_int) pa_nil))))
      (pss_cons (ps_for PassesOwn.never rfl (pi_range1 (by rfl) T.n_range (pa_cons pe_int pa_nil)) (pg_name (i := 5) sc__law_rounds.nd rfl (Or.inl rfl)) (pss_one (ps_if (pt_cmpR op_gt (pe_cl (ok__law_power T) hr (pa_cons (pv 1) (pa_cons (pv 4) pa_nil))) (pv 2) (nomark _)) (pss_one (ps_set (i := 4) sc__law_rounds.nd rfl (Or.inl rfl) (pe_op op_sub (pv 4) pe_int))) pss_nil)))
      (pss_one (ps_ret (pv 4))))))), ?_⟩
    refine st_asg wd (tv_ixL (K := K) (r := qI) (xs := [4, 4, 3, 2, 2]) (x := (limR n : Int)) (tv_lstE (ta_e tv_i (ta_e tv_i (ta_e tv_i (ta_e tv_i (ta_e tv_i ta_e0))))) (by decide)) (tv_opJ (tv_v rfl hu.nI) tv_i) ?_) fun v1 G1 H1 g1 w1 s1 h1 => ?_
    · have : n = 1 ∨ n = 2 ∨ n = 3 ∨ n = 4 ∨ n = 5 := by omega
      rcases this with rfl | rfl | rfl | rfl | rfl <;> rfl
    have h1 : Has qI G1 v1 (limR n : Int) := h1
    have hu1 := hu.mo g1
    have hv1 := hv.mo g1
    have ll := limR_le n1 n5
    refine st_ifNJ (fun σ' H' => ∃ (v' : V) (G' : Hp) (l : Nat), σ' = [some (.ref b), some u, some v, some v', none, none] ∧ Same G1 G' ∧ Wd (b :: O) G' H' ∧ Sb b H H' ∧ Sto H' b ∧ Has qI G' v' (l : Int) ∧ l ≤ mostR n) nb w1 (st.on s1) (tnt_eqI (Z := fun z => z = 0) ((tn_callS rfl (ta_c tv_i ta_n) (show (8 : Int) < 1073741824 by decide)).sub (Z := fun _ => True) (fun y : Nat => (y : Int)) (fun _ _ _ _ h => h) fun _ _ => trivial) (tn_of tv_i rfl)) (fun _ H2 s2 w2 st2 N hN => ?_) (fun _ H2 s2 w2 st2 => ⟨v1, G1, limR n, rfl, Same.refl _, w2, (Sb.of s1).trans s2, st2, h1, ll⟩) ?_
    · refine st_asgL w2 (tv_call (ta_c (tv_v rfl hu1) ta_n) ⟨n1, n5⟩) fun v3 G3 H3 g3 w3 s3 h3 => ?_
      exact hN _ _ ⟨v3, G3, mostR n, rfl, g3, w3, ((Sb.of s1).trans s2).trans (Sb.of s3), st2.on s3, ⟨h3.h⟩, Nat.le_refl _⟩
    rintro σ2 H2 ⟨v2, G2, l, rfl, g2, w2, s2, st2, h2, hl⟩
    refine st_asgN nb w2 st2 (tn_callS rfl (ta_c (tv_opJ (tv_v rfl h2) tv_i) ta_n) (show (l : Int) + 1 < 1073741824 by omega)) fun v3 G3 H3 f g3 w3 s3 st3 hf h3 => ?_
    have h3 : Has qN G3 v3 f := h3
    have hf : (f : Int) < max 1 ((l : Int) + 1) := hf
    have hu3 := (hu1.mo g2).mo g3
    have hv3 := (hv1.mo g2).mo g3
    refine st_forS w3 (it_rng1 (n := 8) tv_i (by decide)) tg1 (fun i σ G' H' => ∃ (v' : V) (o : Option V) (f : Nat), σ = [some (.ref b), some u, some v, some v2, some v', o] ∧ Same H3 H' ∧ Has qN G' v' f ∧ f ≤ mostR n ∧ (n ^ f ≤ 16 ∨ f ≤ 8 - i))
      (fun G' H' g s w => ⟨v3, none, f, rfl, s, h3.mo g, by omega, .inr (by omega)⟩) ?_ ?_
    · rintro i x σ1 G5 H5 G6 H6 σ2 hx ⟨v', o, f, rfl, s5, hv', hf1, hf2⟩ g5 g6 s6 w6 ⟨va, rfl, ha⟩ N hN
      have hi : i < 8 := by
        have := (List.getElem?_eq_some_iff.mp hx).1
        rw [List.length_range] at this
        exact this
      have g36 := g5.trans g6
      refine st_ifE w6 (tt_opB (tv_NI (tv_call (ta_c (tv_v rfl (hu3.mo g36)) (ta_c (tv_v rfl (hv'.mo g6)) ta_n)) (show n ≤ 5 ∧ f ≤ 8 from ⟨n5, by omega⟩))) (tv_v rfl (hv3.mo g36))) (fun z H7 s7 w7 => ?_) (fun z H7 s7 w7 => ?_)
      · have z : (16 : Int) < ((n ^ f : Nat) : Int) := of_decide_eq_true z
        have h0 : f ≠ 0 := by
          intro e
          rw [e, Nat.pow_zero] at z
          exact absurd z (by decide)
        refine st_asgL w7 (tv_IN (n := f - 1) (tv_opJ (tv_v rfl (hv'.mo g6).nI) tv_i) (by omega)) fun v8 G8 H8 g8 w8 s8 h8 => hN _ G8 H8 g8 w8 ⟨v8, some va, f - 1, rfl, ((s5.trans s6).trans s7).trans s8, h8, by omega, ?_⟩
        rcases hf2 with h | h
        · omega
        · exact .inr (by omega)
      · have z : ¬ (16 : Int) < ((n ^ f : Nat) : Int) := of_decide_eq_false z
        exact hN _ G6 H7 (Same.refl _) w7 ⟨v', some va, f, rfl, (s5.trans s6).trans s7, hv'.mo g6, hf1, .inl (by omega)⟩
    · rintro σ' G' H' g' w' ⟨v', o, f, rfl, s5, hv', hf1, hf2⟩
      rw [List.length_range] at hf2
      exact st_ret w' (tv_v rfl hv') fun v H'' s hv => k v H'' f ((s2.trans s3).trans (Sb.of (s5.trans s))) ((st3.on s5).on s) ⟨hf1, pow_step hf2⟩ hv
end
end Nb
set_option Elab.async false
set_option linter.all false
set_option maxRecDepth 100000
set_option maxHeartbeats 4000000
namespace Nb
open PySem L2
open PyProof.Rows (envOfC)
/-- the common denominator of all drawn shares -/
def D0 : Nat := 26771144400
structure GoodW (n : Nat) (ys : List Rat) : Prop where
  len : ys.length = n
  pos : ∀ x ∈ ys, 0 ≤ x
  sum : sumQ ys = 1
  la : ∀ x ∈ ys, La D0 1 x
theorem d0_div : ∀ W, W < 27 → 1 ≤ W → D0 % W = 0 := by decide
theorem qn_acc {G : Hp} {acc : List V} {ns : List Nat} (h : Paired (qN G) acc ns) : acc = ns.map fun n : Nat => V.int (n : Int) := by
  induction h with
  | nil => rfl
  | cons h _ ih => rw [show _ = V.int _ from h, ih]; rfl
theorem acc_qn {G : Hp} (ns : List Nat) : Paired (qN G) (ns.map fun n : Nat => V.int (n : Int)) ns := by
  induction ns with
  | nil => exact .nil
  | cons n ns ih => exact .cons rfl ih
theorem pr_all {α : Type} {xs : List α} {ys : List Nat} {p : Nat → Prop} (h : Paired (fun (_ : α) y => p y) xs ys) : ys.length = xs.length ∧ ∀ y ∈ ys, p y := by
  induction h with
  | nil => exact ⟨rfl, fun _ h => nomatch h⟩
  | cons h _ ih =>
    refine ⟨by rw [List.length_cons, List.length_cons, ih.1], fun y hy => ?_⟩
    rcases List.mem_cons.mp hy with e | e
    · rw [e]; exact h
    · exact ih.2 y e
theorem nat_sum_le {ns : List Nat} (h : ∀ x ∈ ns, x ≤ 5) : ns.sum ≤ 5 * ns.length := by
  induction ns with
  | nil => exact Nat.le_refl _
  | cons n ns ih =>
    have h1 := h n List.mem_cons_self
    have h2 := ih fun x hx => h x (List.mem_cons_of_mem _ hx)
    rw [List.sum_cons, List.length_cons]
    omega
theorem nat_set_sum {ns : List Nat} {i v : Nat} (h : ns[i]? = some v) : (ns.set i (v + 1)).sum = ns.sum + 1 := by
  induction ns generalizing i with
  | nil => cases h
  | cons n ns ih =>
    cases i with
    | zero =>
      rw [List.getElem?_cons_zero] at h
      cases h
      rw [List.set_cons_zero, List.sum_cons, List.sum_cons]
      omega
    | succ i =>
      rw [List.getElem?_cons_succ] at h
      rw [List.set_cons_succ, List.sum_cons, List.sum_cons, ih h]
      omega
theorem sum_mk {W : Nat} (hW : 0 < W) : ∀ ns : List Nat, sumQ (ns.map fun x : Nat => mkRat (x : Int) W) = mkRat ((ns.sum : Nat) : Int) W
  | [] => by
    show sumQ [] = mkRat ((0 : Nat) : Int) W
    rw [Int.natCast_zero, Rat.zero_mkRat]
    rfl
  | n :: ns => by
    rw [List.map_cons, sumQ_cons, sum_mk hW ns, List.sum_cons, Int.natCast_add, Rat.mkRat_eq_div, Rat.mkRat_eq_div, Rat.mkRat_eq_div]
    have hz : ((W : Int) : Rat) ≠ 0 := by
      rw [Rat.intCast_natCast]
      exact fun z => absurd (Rat.natCast_pos.mpr hW) (by rw [z]; decide)
    rw [Rat.intCast_add]
    grind
theorem nat_sum_one {ns : List Nat} (h : ∀ y ∈ ns, y = 1) : ns.sum = ns.length := by
  induction ns with
  | nil => rfl
  | cons n ns ih =>
    rw [List.sum_cons, List.length_cons, ih fun y hy => h y (List.mem_cons_of_mem _ hy), h n List.mem_cons_self, Nat.add_comm]
theorem sum_cast (ns : List Nat) : (ns.map fun n : Nat => (n : Int)).sum = ((ns.sum : Nat) : Int) := by
  induction ns with
  | nil => rfl
  | cons n ns ih => rw [List.map_cons, List.sum_cons, List.sum_cons, ih, Int.natCast_add]
theorem acc_qi {G : Hp} (ns : List Nat) : Paired (qI G) (ns.map fun n : Nat => V.int (n : Int)) (ns.map fun n : Nat => (n : Int)) := by
  induction ns with
  | nil => exact .nil
  | cons n ns ih => exact .cons rfl ih
theorem sb_none {H H' : Hp} {b p : Addr} (s : Sb b H H') (n : p ≠ b) (h : H' p = none) : H p = none := by
  cases e : H p with
  | none => rfl
  | some o => rw [s _ _ n e] at h; cases h
theorem nat_le_sum {x : Nat} : ∀ {ns : List Nat}, x ∈ ns → x ≤ ns.sum
  | n :: ns, h => by
    rw [List.sum_cons]
    rcases List.mem_cons.mp h with e | e
    · omega
    · have := nat_le_sum e
      omega
theorem good_w {n : Nat} {ns : List Nat} (hl : ns.length = n) (h0 : 0 < ns.sum) (h26 : ns.sum ≤ 26) : GoodW n (ns.map fun x : Nat => mkRat (x : Int) ns.sum) := by
  refine ⟨by rw [List.length_map, hl], fun y hy => ?_, ?_, fun y hy => ?_⟩
  · obtain ⟨x, hx, e⟩ := List.mem_map.mp hy
    rw [← e]
    rw [← Rat.num_nonneg, Rat.num_mkRat, if_neg (by omega)]
    exact Int.ediv_nonneg (Int.natCast_nonneg _) (Int.natCast_nonneg _)
  · rw [sum_mk h0]
    have hz : ((ns.sum : Nat) : Rat) ≠ 0 := fun z => absurd (Rat.natCast_pos.mpr h0) (by rw [z]; decide)
    rw [Rat.mkRat_eq_div, Rat.intCast_natCast, Rat.div_def, Rat.mul_inv_cancel _ hz]
  · obtain ⟨x, hx, e⟩ := List.mem_map.mp hy
    rw [← e]
    have hm : x ≤ ns.sum := nat_le_sum hx
    obtain ⟨c, hc⟩ := Nat.dvd_of_mod_eq_zero (d0_div ns.sum (by omega) h0)
    have hz : ((ns.sum : Nat) : Rat) ≠ 0 := fun z => absurd (Rat.natCast_pos.mpr h0) (by rw [z]; decide)
    refine ⟨by decide, (x * c : Nat), ?_, ?_⟩
    · rw [hc, Rat.mkRat_eq_div, Rat.intCast_natCast, Rat.intCast_natCast, Rat.natCast_mul, Rat.natCast_mul]
      grind
    · rw [Int.natAbs_natCast, Nat.one_mul]
      show x * c ≤ D0
      rw [hc]
      exact Nat.mul_le_mul_right _ hm
section
variable {P : Program} {w : World} {K : PySem.W.Frag} {mg : PySem.Str → Option Value} {base : Heap}
theorem sc__law_weights : FnScope n__law_weights ["_law_store_here", "_law_width"] (defScope s__law_weights) := ⟨rfl, rfl, rfl, by decide +kernel, rfl, by decide +kernel, by decide +kernel⟩
theorem ok__law_weights (T : Ctx P w K mg base) : Pro P w K mg base "_law_weights" ["_law_store_here", "_law_width"] 3 (spS (raC qN raN) (fun x => 1 ≤ x.1 ∧ x.1 ≤ 5) (qL K (qQ K)) fun x ys => GoodW x.1 ys) := by
  refine mk_pro T.d__law_weights (fun _ _ _ _ _ _ us hl => match us, hl with | [_, _], _ => rfl) fun f fd F => ?_
  refine def_S F sc__law_weights rfl fun cdv A outer s H E O G 
    b vs a hr nb wd st hra hp Q k => by
    obtain ⟨u, rfl, hu⟩ := ra1 hra
    obtain ⟨n, _⟩ := a
    obtain ⟨n1, n5⟩ : 1 ≤ n ∧ n ≤ 5 := hp
    have hu : Has qN G u n := ⟨hu⟩
    refine ⟨_, (pss_cons (ps_set (i := 2) sc__law_weights.nd rfl (Or.inl rfl) (pe_cl (ok__law_take T) hr (pa_cons (pv 0) (pa_cons pe_int pa_nil))))
      (pss_cons (ps_set (i := 3) sc__law_weights.nd rfl (Or.inl rfl) (pe_cl (ok__law_take T) hr (pa_cons (pv 0) (pa_cons (pv 1) pa_nil))))
      (pss_cons (ps_setLc (i := 4) (own := [("_law_y", 5)]) (g := (gName 5)) (tt := tYes) rfl sc__law_weights.nd rfl rfl (sw_true rfl rfl rfl (by decide +kernel)) (pi_range1 (by rfl) T.n_range (pa_cons (pv 1) pa_nil)) (blkOk_by (own := [("_law_y", 5)]) (N := n__law_weights) (sc := defScope s__law_weights) (by decide +kernel)) (fun _ _ _ _ _ => (pg_name (i := 5) sc__law_weights.nd rfl (by first | exact Or.inl rfl | exact Or.inr rfl))) (fun _ _ _ _ _ => pts_nil) (fun _ _ _ _ _ => (pe_cl (ok__law_take T) hr (pa_cons (pv 0) (pa_cons pe_int pa_nil)))))
      (pss_cons (ps_if (pt_cmpR op_eq (pv 2) pe_int (nomark _)) (pss_one (ps_setLc (i := 4) (own := [("_law_y", 5)]) (g := (gName 5)) (tt := tYes) rfl sc__law_weights.nd rfl rfl (sw_true rfl rfl rfl (by decide +kernel)) (pi_range1 (by rfl) T.n_range (pa_cons (pv 1) pa_nil)) (blkOk_by (own := [("_law_y", 5)]) (N := n__law_weights) (sc := defScope s__law_weights) (by decide +kernel)) (fun _ _ _ _ _ => (pg_name (i := 5) sc__law_weights.nd rfl (by first | exact Or.inl rfl | exact Or.inr rfl))) (fun _ _ _ _ _ => pts_nil) (fun _ _ _ _ _ => pe_int))) pss_nil)
      (pss_cons (ps_if (pt_cmpR op_eq (pv 2) pe_int (nomark _)) (pss_one (ps_setLc (i := 4) (own := [("_law_y", 5)]) (g := (gName 5)) (tt := tYes) rfl sc__law_weights.nd rfl rfl (sw_true rfl rfl rfl (by decide +kernel)) (pi_range1 (by rfl) T.n_range (pa_cons (pv 1) pa_nil)) (blkOk_by (own := [("_law_y", 5)]) (N := n__law_weights) (sc := defScope s__law_weights) (by decide +kernel)) (fun _ _ _ _ _ => (pg_name (i := 5) sc__law_weights.nd rfl (by first | exact Or.inl rfl | exact Or.inr rfl))) (fun _ _ _ _ _ => pts_nil) (fun _ _ _ _ _ => pe_int))) (pss_one (ps_asg (pe_op op_add (pe_ix (ixL (K := K) rfl) (pv 4) (pv 3) (fun _ _ => rfl)) pe_int) (pg_sub (pv 4) (pv 3) set_list))))
      (pss_cons (ps_set (i := 6) sc__law_weights.nd rfl (Or.inr rfl) (c_sum (K := K) rfl T.n_sum (pa_cons (pv 4) pa_nil)))
      (pss_one (ps_ret (pe_lc (own := [("_law_weight", 7)]) (g := (gName 7)) (tt := tYes) rfl sc__law_weights.nd (piL (K := K) rfl (pv 4)) (blkOk_by (own := [("_law_weight", 7)]) (N := n__law_weights) (sc := defScope s__law_weights) (by decide +kernel)) (fun _ _ _ _ _ => (pg_name (i := 7) sc__law_weights.nd rfl (by first | exact Or.inl rfl | exact Or.inr rfl))) (fun _ _ _ _ _ => pts_nil) (fun _ _ _ _ _ => (pe_cl (ok__law_low T) hr (pa_cons (pv 7) (pa_cons (pv 6) pa_nil))))))))))))), ?_⟩
    refine st_asgN nb wd st (tn_callS rfl (ta_c tv_i ta_n) (show (5 : Int) < 1073741824 by decide)) fun v1 G1 H1 kd g1 w1 s1 st1 hy1 h1 => ?_
    have h1 : Has qN G1 v1 kd := h1
    refine st_asgN nb w1 st1 (tn_callS rfl (ta_c (tv_v rfl (hu.mo g1).nI) ta_n) (show (n : Int) < 1073741824 by omega)) fun v2 G2 H2 at' g2 w2 s2 st2 hy2 h2 => ?_
    have h2 : Has qN G2 v2 at' := h2
    have hat : at' < n := by
      have hy2 : (at' : Int) < max 1 (n : Int) := hy2
      omega
    have hu2 := (hu.mo g1).mo g2
    refine st_mapO (q := qN) (Y := fun _ y => y ≤ 5) nb w2 st2 (it_rng1 (tv_v rfl hu2.nI) (by omega)) tg1 (own1 (by decide)) (by rw [List.length_range]; omega) (fun D i x G1 σ2 hx g1 ⟨vx, ex, hvx⟩ => ?_) fun p G3 H3 acc ns hp0 nbp g3 w3 s3 st3 hy3 e3 pr3 => ?_
    · subst ex
      exact (tn_callS rfl (ta_c tv_i ta_n) (show (6 : Int) < 1073741824 by decide)).mono fun z hz => by have hz : (z : Int) < max 1 6 := hz; omega
    obtain ⟨hl3, hb3⟩ := pr_all hy3
    rw [List.length_range] at hl3
    have ea := qn_acc pr3
    subst ea
    have hp0' : H p = none := sb_none (s1.trans s2) (fun z => nbp (by rw [z]; exact List.mem_cons_self)) hp0
    have g12 := g1.trans g2
    have h1' := h1.mo g2
    refine st_ifEJ (fun σ' H' => ∃ (p : Addr) (ns : List Nat) (G' : Hp), σ' = [some (.ref b), some u, some v1, some v2, some (.ref p), none, none, none] ∧ Same G2 G' ∧ Wd (b :: p :: O) G' H' ∧ b ∉ p :: O ∧ Sb b H H' ∧ Sto H' b ∧ H p = none ∧ H' p = some (.lst (ns.map fun n : Nat => V.int (n : Int))) ∧ ns.length = n ∧ ∀ x ∈ ns, x ≤ 5) w3 (tt_eqI (tv_v rfl (h1'.mo g3).nI) tv_i) (fun _ H4 s4 w4 N hN => ?_) (fun _ H4 s4 w4 N hN => hN _ _ ⟨p, ns, G3, rfl, g3, w4, nbp, ((s1.trans s2).trans s3).trans (Sb.of s4), st3.on s4, hp0', s4 _ _ e3, hl3, hb3⟩) ?_
    · refine st_mapOL (q := qN) (Y := fun _ y => y ≤ 5) nbp w4 (st3.on s4) (it_rng1 (tv_v rfl (hu2.mo g3).nI) (by omega)) tg1 (own1 (by decide)) (by rw [List.length_range]; omega) (fun D i x G1 σ2 hx g1 ⟨vx, ex, hvx⟩ => ?_) fun p5 G5 H5 acc5 ns5 hq5 nbp5 g5 w5 s5 st5 hy5 e5 pr5 => ?_
      · subst ex
        exact tn_of (tv_IN (n := 0) tv_i rfl) (by decide)
      obtain ⟨hl5, hb5⟩ := pr_all hy5
      rw [List.length_range] at hl5
      have ea := qn_acc pr5
      subst ea
      have s14 : Sb b H H4 := ((s1.trans s2).trans s3).trans (Sb.of s4)
      have nb5 : b ∉ p5 :: O := fun z => nbp5 (by simp only [List.mem_cons] at z ⊢; rcases z with e | e <;> simp [e])
      exact hN _ _ ⟨p5, ns5, G5, rfl, g3.trans g5, w5.sub (fun x hx => by simp only [List.mem_cons] at hx ⊢; rcases hx with e | e | e <;> simp [e]), nb5, s14.trans s5, st5, sb_none s14 (fun z => nb5 (by rw [z]; exact List.mem_cons_self)) hq5, e5, hl5, hb5⟩
    rintro σ3 H4 ⟨p, ns, G4, rfl, g4, w4, nbp, s4, st4, hp0, e4, hl4, hb4⟩
    have h1'' := h1'.mo g4
    refine st_ifEJ (fun σ' H' => ∃ (p : Addr) (ns : List Nat) (G' : Hp), σ' = [some (.ref b), some u, some v1, some v2, some (.ref p), none, none, none] ∧ Same G2 G' ∧ Wd (b :: p :: O) G' H' ∧ b ∉ p :: O ∧ Sb b H H' ∧ Sto H' b ∧ H p = none ∧ H' p = some (.lst (ns.map fun n : Nat => V.int (n : Int))) ∧ ns.length = n ∧ 0 < ns.sum ∧ ns.sum ≤ 26) w4 (tt_eqI (tv_v rfl h1''.nI) tv_i) (fun _ H5 s5 w5 N hN => ?_) (fun _ H5 s5 w5 N hN => ?_) ?_
    · refine st_mapOL (q := qN) (Y := fun _ y => y = 1) nbp w5 (st4.on s5) (it_rng1 (tv_v rfl (hu2.mo g4).nI) (by omega)) tg1 (own1 (by decide)) (by rw [List.length_range]; omega) (fun D i x G1 σ2 hx g1 ⟨vx, ex, hvx⟩ => ?_) fun p6 G6 H6 acc6 ns6 hq6 nbp6 g6 w6 s6 st6 hy6 e6 pr6 => ?_
      · subst ex
        exact tn_of (tv_IN (n := 1) tv_i rfl) rfl
      obtain ⟨hl6, hb6⟩ := pr_all hy6
      rw [List.length_range] at hl6
      have ea := qn_acc pr6
      subst ea
      have s15 : Sb b H H5 := s4.trans (Sb.of s5)
      have nb6 : b ∉ p6 :: O := fun z => nbp6 (by simp only [List.mem_cons] at z ⊢; rcases z with e | e <;> simp [e])
      have hs1 := nat_sum_one hb6
      exact hN _ _ ⟨p6, ns6, G6, rfl, g4.trans g6, w6.sub (fun x hx => by simp only [List.mem_cons] at hx ⊢; rcases hx with e | e | e <;> simp [e]), nb6, s15.trans s6, st6, sb_none s15 (fun z => nb6 (by rw [z]; exact List.mem_cons_self)) hq6, e6, hl6, by omega, by omega⟩
    · have e5 := s5 _ _ e4
      obtain ⟨c, hc⟩ : ∃ c, ns[at']? = some c := ⟨ns[at']'(by omega), List.getElem?_eq_getElem (by omega)⟩
      have ev2 : v2 = .int (at' : Int) := h2.h
      subst ev2
      have hc' : (ns.map fun n : Nat => V.int (n : Int))[at']? = some (.int (c : Int)) := by rw [List.getElem?_map, hc]; rfl
      refine sx_putL (k := at') (v := .int ((c : Int) + 1)) (tx_opJ (tx_ix (tx_v rfl) e5 (tx_v rfl) (atI_nat hc')) tx_i) (tx_v rfl) (tx_v rfl) e5 (by rw [List.length_map]; omega) ?_
      have bp : b ≠ p := fun z => nbp (by rw [z]; exact List.mem_cons_self)
      refine hN _ _ ⟨p, ns.set at' (c + 1), G4, rfl, g4, w5.set (List.mem_cons_of_mem _ List.mem_cons_self), nbp, fun x o hx e => ?_, ?_, hp0, ?_, by rw [List.length_set, hl4], ?_, ?_⟩
      · rw [upd_ne (ne_of_none e hp0)]
        exact s5 _ _ (s4 _ _ hx e)
      · obtain ⟨a0, a1, a2, a3, a4, rest, ea, gd⟩ := st4.on s5
        exact ⟨a0, a1, a2, a3, a4, rest, by rw [upd_ne bp]; exact ea, gd⟩
      · rw [upd_same, List.map_set]
        rfl
      · rw [nat_set_sum hc]
        omega
      · rw [nat_set_sum hc]
        have := nat_sum_le hb4
        omega
    rintro σ4 H6 ⟨p, ns, G6, rfl, g6, w6, nbp, s6, st6, hp0, e6, hl6, hs0, hs26⟩
    -- the list is free again
    have w7 : Wd (b :: O) (wo H6 (b :: O)) H6 := (w6.sub (O' := b :: O) (fun x hx => by simp only [List.mem_cons] at hx ⊢; rcases hx with e | e <;> simp [e])).up
    have g7 : Same G2 (wo H6 (b :: O)) := g6.trans (w6.sub (O' := b :: O) (fun x hx => by simp only [List.mem_cons] at hx ⊢; rcases hx with e | e <;> simp [e])).le
    have hpl : Has (qL K qN) (wo H6 (b :: O)) (.ref p) ns := by
      refine ⟨qLs_L ⟨p, _, rfl, ?_, acc_qn ns⟩⟩
      rw [wo_out]
      · exact e6
      · intro z
        rcases List.mem_cons.mp z with e | e
        · exact nbp (by rw [e]; exact List.mem_cons_self)
        · exact wd.dm p (List.mem_cons_of_mem _ e) hp0
    have hpi : Has (qL K qI) (wo H6 (b :: O)) (.ref p) (ns.map fun n : Nat => (n : Int)) := by
      obtain ⟨vs, h1, h2⟩ := hpl.h
      refine ⟨vs, h1, ?_⟩
      rw [qn_acc h2]
      exact acc_qi ns
    refine st_asg w7 (tv_sum (tv_v rfl hpi)) fun vw G8 H8 g8 w8 s8 hw => ?_
    have hw : Has qI G8 vw ((ns.sum : Nat) : Int) := by rw [← sum_cast]; exact hw
    refine st_ret w8 (tv_map (K := K) (f := fun x : Nat => mkRat (x : Int) ns.sum) (it_list (tv_v rfl (hpl.mo g8))) tg1 (own1 (by decide)) (by omega) fun D i x G1 σ2 hx g1 ⟨vx, ex, hvx⟩ => ?_) fun v H' s hv => k v H' _ (s6.trans (Sb.of (s8.trans s))) ((st6.on s8).on s) (good_w hl6 hs0 hs26) hv
    subst ex
    exact tv_call (ta_c (tv_v rfl hvx.nI) (ta_c (tv_v rfl (hw.mo g1)) ta_n)) ⟨by show (0 : Int) < (ns.sum : Nat); omega, sm_small (by show (((ns.sum : Nat) : Int)).natAbs < _; omega)⟩
end
end Nb
set_option Elab.async false
set_option linter.all false
set_option maxRecDepth 100000
set_option maxHeartbeats 4000000
namespace Nb
open PySem L2
open PyProof.Rows (envOfC)
section
variable {α β : Type} {a : Addr} {O : List Addr} {σ : St} {G H : Hp} {K : PySem.W.Frag} {r : Rl α} {q : Rl β} {ta tb : TE} {Y : α → Prop} {Z : β → Prop}
theorem tn_pair [Mo r] [Mo q] (h : Tn a O ta σ G r Y) (g : Tn a O tb σ G q Z) : Tn a O (tTup (tCons ta (tCons tb tNil))) σ G (qP K r q) fun p => Y p.1 ∧ Z p.2 := fun H n w st Q k =>
  h H n w st _ fun v H1 y s1 st1 hy hv => g H1 n (w.sb s1 st1.ne) st1 _ fun u H2 z s2 st2 hz hu => by
    have w2 := (w.sb s1 st1.ne).sb s2 st2.ne
    refine ⟨by show 2 ≤ sizeLine; rw [sizeLine_eq]; omega, fun p hp => ?_⟩
    have n2 := same_new (o := HO.tup [v, u]) hp
    exact k _ _ (y, z) ((s1.trans s2).trans (Sb.of n2)) (st2.on n2) ⟨hy, hz⟩ ⟨v, u, ⟨p, rfl, SqT.of (wo_new w2.dm hp)⟩, Mo.mo (same_wo n2) (Mo.mo (sb_wo s2) hv), Mo.mo (same_wo n2) hu⟩
end
def ShpOk (p : Nat × Nat) : Prop := Shape p.1 p.2 ∧ p.1 ^ p.2 ≤ 16
theorem wid_ok {i : Nat} (h : i < 10) : ∃ x, widL[i]? = some x ∧ (1 ≤ x ∧ x ≤ 5) := by
  have : i = 0 ∨ i = 1 ∨ i = 2 ∨ i = 3 ∨ i = 4 ∨ i = 5 ∨ i = 6 ∨ i = 7 ∨ i = 8 ∨ i = 9 := by omega
  rcases this with rfl | rfl | rfl | rfl | rfl | rfl | rfl | rfl | rfl | rfl <;> exact ⟨_, rfl, by decide, by decide⟩
theorem pr_allL {α β : Type} {xs : List α} {ys : List β} {p : β → Prop} (h : Paired (fun (_ : α) y => p y) xs ys) : ys.length = xs.length ∧ ∀ y ∈ ys, p y := by
  induction h with
  | nil => exact ⟨rfl, fun _ h => nomatch h⟩
  | cons h _ ih =>
    refine ⟨by rw [List.length_cons, List.length_cons, ih.1], fun y hy => ?_⟩
    rcases List.mem_cons.mp hy with e | e
    · rw [e]; exact h
    · exact ih.2 y e
def PlsOk (n R : Nat) (sh : List (List Rat)) : Prop := sh.length = (begL n R).length ∧ ∀ u ∈ sh, GoodW n u
section
variable {P : Program} {w : World} {K : PySem.W.Frag} {mg : PySem.Str → Option Value} {base : Heap}
theorem sc__law_shape : FnScope n__law_shape ["_law_store_here", "_law_top"] (defScope s__law_shape) := ⟨rfl, rfl, rfl, by decide +kernel, rfl, by decide +kernel, by decide +kernel⟩
theorem ok__law_shape (T : Ctx P w K mg base) : Pro P w K mg base "_law_shape" ["_law_store_here", "_law_top"] 5 (spS (raC qI raN) (fun x => x.1 = 16) (qP K qN qN) fun _ p => ShpOk p) := by
  refine mk_pro T.d__law_shape (fun _ _ _ _ _ _ us hl => match us, hl with | [_, _], _ => rfl) fun f fd F => ?_
  refine def_S F sc__law_shape rfl fun cdv A outer s H E O G 
    b vs a hr nb wd st hra hp Q k => by
    obtain ⟨u, rfl, hu⟩ := ra1 hra
    obtain ⟨j, _⟩ := a
    obtain rfl : j = 16 := hp
    have hu : Has qI G u 16 := ⟨hu⟩
    refine ⟨_, (pss_cons (ps_set (i := 2) sc__law_shape.nd rfl (Or.inl rfl) (pe_ix (ixL (K := K) rfl) (pe_lst (pa_cons pe_int (pa_cons pe_int (pa_cons pe_int (pa_cons pe_int (pa_cons pe_int (pa_cons pe_int (pa_cons pe_int (pa_cons pe_int (pa_cons pe_int (pa_cons pe_int pa_nil))))))))))) (pe_cl (ok__law_take T) hr (pa_cons (pv 0) (pa_cons pe_int pa_nil))) (fun _ _ => rfl)))
      (pss_one (ps_ret (pe_tup (pa_cons (pv 2) (pa_cons (pe_cl (ok__law_rounds T) hr (pa_cons (pv 0) (pa_cons (pv 2) (pa_cons (pv 1) pa_nil)))) pa_nil)))))), ?_⟩
    refine st_asgN (r := qN) (Y := fun n => 1 ≤ n ∧ n ≤ 5) nb wd st (tn_ixL (xs := widL) (Z := fun i => i < 10) ((tv_lstE (K := K) (ta_e (tv_IN (n := 2) tv_i rfl) (ta_e (tv_IN (n := 2) tv_i rfl) (ta_e (tv_IN (n := 2) tv_i rfl) (ta_e (tv_IN (n := 2) tv_i rfl) (ta_e (tv_IN (n := 3) tv_i rfl) (ta_e (tv_IN (n := 3) tv_i rfl) (ta_e (tv_IN (n := 1) tv_i rfl) (ta_e (tv_IN (n := 4) tv_i rfl) (ta_e (tv_IN (n := 5) tv_i rfl) (ta_e (tv_IN (n := 2) tv_i rfl) ta_e0)))))))))) (by decide))) ((tn_callS rfl (ta_c tv_i ta_n) (show (10 : Int) < 1073741824 by decide)).mono fun z hz => by have hz : (z : Int) < max 1 10 := hz; omega) fun i hi => wid_ok hi) fun v1 G1 H1 n g1 w1 s1 st1 hn h1 => ?_
    refine st_retN (r := qP K qN qN) (Y := fun p => p.1 = n ∧ (p.2 ≤ mostR n ∧ n ^ p.2 ≤ 16)) nb w1 st1 (tn_pair (K := K) (Y := fun m => m = n) (tn_of (tv_v rfl h1) rfl) (tn_callS rfl (ta_c (tv_v rfl h1) (ta_c (tv_v rfl (hu.mo g1)) ta_n)) ⟨hn, rfl⟩)) fun v H' y s st' hy hv => k v H' y (s1.trans s) st' ?_ hv
    obtain ⟨m, R⟩ := y
    obtain ⟨e, h2, h3⟩ := hy
    have e : m = n := e
    subst e
    exact ⟨⟨hn.1, hn.2, h2⟩, h3⟩
theorem sc__law_plan_shares : FnScope n__law_plan_shares ["_law_store_here", "_law_width", "_law_rounds_here"] (defScope s__law_plan_shares) := ⟨rfl, rfl, rfl, by decide +kernel, rfl, by decide +kernel, by decide +kernel⟩
theorem ok__law_plan_shares (T : Ctx P w K mg base) : Pro P w K mg base "_law_plan_shares" ["_law_store_here", "_law_width", "_law_rounds_here"] 4 (spS (raC qN (raC qN raN)) (fun x => Shape x.1 x.2.1) (qL K (qL K (qQ K))) fun x sh => PlsOk x.1 x.2.1 sh) := by
  refine mk_pro T.d__law_plan_shares (fun _ _ _ _ _ _ us hl => match us, hl with | [_, _, _], _ => rfl) fun f fd F => ?_
  refine def_S F sc__law_plan_shares rfl fun cdv A outer s H E O G 
    b vs a hr nb wd st hra hp Q k => by
    obtain ⟨u, v, rfl, hu, hv⟩ := ra2 hra
    obtain ⟨n, R, _⟩ := a
    have sp : Shape n R := hp
    have hu : Has qN G u n := ⟨hu⟩
    have hv : Has qN G v R := ⟨hv⟩
    have h8 := sp.R8
    have h5 := sp.2.1
    have hb := sp.begs (Nat.le_refl _)
    refine ⟨_, (pss_cons (ps_set (i := 3) sc__law_plan_shares.nd rfl (Or.inl rfl) (c_sum (K := K) rfl T.n_sum (pa_cons (pe_lc (own := [("_law_size", 4)]) (g := (gName 4)) (tt := tYes) rfl sc__law_plan_shares.nd (pi_range1 (by rfl) T.n_range (pa_cons (pv 2) pa_nil)) (blkOk_by (own := [("_law_size", 4)]) (N := n__law_plan_shares) (sc := defScope s__law_plan_shares) (by decide +kernel)) (fun _ _ _ _ _ => (pg_name (i := 4) sc__law_plan_shares.nd rfl (by first | exact Or.inl rfl | exact Or.inr rfl))) (fun _ _ _ _ _ => pts_nil) (fun _ _ _ _ _ => (pe_cl (ok__law_power T) hr (pa_cons (pv 1) (pa_cons (pv 4) pa_nil))))) pa_nil)))
      (pss_cons (ps_set (i := 5) sc__law_plan_shares.nd rfl (Or.inr rfl) (pe_cl (ok__law_weights T) hr (pa_cons (pv 0) (pa_cons (pv 1) pa_nil))))
      (pss_cons (ps_if (pt_cmpR op_eq (pe_cl (ok__law_take T) hr (pa_cons (pv 0) (pa_cons pe_int pa_nil))) pe_int (nomark _)) (pss_one (ps_ret (pe_lc (own := [("_law_k", 6)]) (g := (gName 6)) (tt := tYes) rfl sc__law_plan_shares.nd (pi_range1 (by rfl) T.n_range (pa_cons (pv 3) pa_nil)) (blkOk_by (own := [("_law_k", 6)]) (N := n__law_plan_shares) (sc := defScope s__law_plan_shares) (by decide +kernel)) (fun _ _ _ _ _ => (pg_name (i := 6) sc__law_plan_shares.nd rfl (by first | exact Or.inl rfl | exact Or.inr rfl))) (fun _ _ _ _ _ => pts_nil) (fun _ _ _ _ _ => (c_list (K := K) rfl T.n_list (pa_cons (pv 5) pa_nil)))))) pss_nil)
      (pss_one (ps_ret (pe_lc (own := [("_law_k", 6)]) (g := (gName 6)) (tt := tYes) rfl sc__law_plan_shares.nd (pi_range1 (by rfl) T.n_range (pa_cons (pv 3) pa_nil)) (blkOk_by (own := [("_law_k", 6)]) (N := n__law_plan_shares) (sc := defScope s__law_plan_shares) (by decide +kernel)) (fun _ _ _ _ _ => (pg_name (i := 6) sc__law_plan_shares.nd rfl (by first | exact Or.inl rfl | exact Or.inr rfl))) (fun _ _ _ _ _ => pts_nil) (fun _ _ _ _ _ => (pe_cl (ok__law_weights T) hr (pa_cons (pv 0) (pa_cons (pv 1) pa_nil)))))))))), ?_⟩
    refine st_asg wd (tv_sum (K := K) (ns := (List.range R).map fun k => ((n ^ k : Nat) : Int)) ?_) fun v1 G1 H1 g1 w1 s1 h1 => ?_
    · refine tv_map (it_rng1 (tv_v rfl hv.nI) (by omega)) tg1 (own1 (by decide)) (by rw [List.length_range]; omega) fun D i x G4 σ4 hx g4 ⟨vx, ex, hvx⟩ => ?_
      subst ex
      have hlt := List.mem_range.mp (List.mem_of_getElem? hx)
      exact tv_NI (tv_call (ta_c (tv_v rfl (hu.mo g4)) (ta_c (tv_v rfl hvx) ta_n)) ⟨h5, by show x ≤ 8; omega⟩)
    have h1 : Has qI G1 v1 (((begL n R).length : Nat) : Int) := by rw [← beg_sum]; exact h1
    refine st_asgN nb w1 (st.on s1) (tn_callS rfl (ta_c (tv_v rfl (hu.mo g1)) ta_n) ⟨sp.1, h5⟩) fun v2 G2 H2 ys g2 w2 s2 st2 hy2 h2 => ?_
    have h2 : Has (qL K (qQ K)) G2 v2 ys := h2
    have gw : GoodW n ys := hy2
    refine st_ifN nb w2 st2 (tnt_eqI (Z := fun z => z = 0) ((tn_callS rfl (ta_c tv_i ta_n) (show (6 : Int) < 1073741824 by decide)).sub (Z := fun _ => True) (fun y : Nat => (y : Int)) (fun _ _ _ _ h => h) fun _ _ => trivial) (tn_of tv_i rfl)) (fun _ H3 s3 w3 st3 => ?_) (fun _ H3 s3 w3 st3 => ?_)
    · refine st_ret (r := qL K (qL K (qQ K))) (x := (List.range (begL n R).length).map fun _ => ys) w3 (tv_map (it_rng1 (tv_v rfl (h1.mo g2)) (by omega)) tg1 (own1 (by decide)) (by rw [List.length_range]; omega) fun D i x G4 σ4 hx g4 ⟨vx, ex, hvx⟩ => ?_) fun v H' s hv => k v H' _ (((Sb.of s1).trans s2).trans (s3.trans (Sb.of s))) (st3.on s) ⟨?_, ?_⟩ hv
      · subst ex
        exact tv_listL (tv_v rfl (h2.mo g4))
      · rw [List.length_map, List.length_range]
      · intro u hu
        obtain ⟨_, _, e⟩ := List.mem_map.mp hu
        rw [← e]
        exact gw
    · refine st_retN nb w3 st3 (tn_map (q := qL K (qQ K)) (Y := fun _ u => GoodW n u) (it_rng1 (tv_v rfl (h1.mo g2)) (by omega)) tg1 (own1 (by decide)) (by rw [List.length_range]; omega) fun D i x G4 σ4 hx g4 ⟨vx, ex, hvx⟩ => ?_) fun v H' sh s st' hy hv => k v H' sh (((Sb.of s1).trans s2).trans (s3.trans s)) st' ?_ (qLs_L hv)
      · subst ex
        exact tn_callS rfl (ta_c (tv_v rfl ((hu.mo (g1.trans g2)).mo g4)) ta_n) ⟨sp.1, h5⟩
      · obtain ⟨e1, e2⟩ := pr_allL hy
        rw [List.length_range] at e1
        exact ⟨e1, e2⟩
end
end Nb
set_option Elab.async false
set_option linter.all false
set_option maxRecDepth 100000
set_option maxHeartbeats 4000000
namespace Nb
open PySem L2
open PyProof.Rows (envOfC)
theorem d0_bh {b : Nat} {x : Rat} (h : La D0 b x) (hb : b ≤ 2 ^ 100) : Bh x := h.bh (Nat.lt_of_lt_of_le (show D0 < 2 ^ 100 by decide) (Nat.pow_le_pow_right (by decide) (by decide))) hb
theorem GoodW.sh {n : Nat} {u : List Rat} (g : GoodW n u) (hn : n ≤ 5) : GoodSh n u := by
  refine ⟨g.len, g.pos, g.sum, fun x hx => (d0_bh (g.la x hx) (by decide)).bq, fun i => (d0_bh (b := 1 * u.length) (sum_take_la (by decide) g.la i) ?_).bq⟩
  rw [g.len]
  have : (5 : Nat) ≤ 2 ^ 100 := by decide
  omega
section
variable {P : Program} {w : World} {K : PySem.W.Frag} {mg : PySem.Str → Option Value} {base : Heap}
theorem sc__law_plan : FnScope n__law_plan ["_law_store_here", "_law_width", "_law_rounds_here", "_law_shares"] (defScope s__law_plan) := ⟨rfl, rfl, rfl, by decide +kernel, rfl, by decide +kernel, by decide +kernel⟩
theorem ok__law_plan (T : Ctx P w K mg base) : Pro P w K mg base "_law_plan" ["_law_store_here", "_law_width", "_law_rounds_here", "_law_shares"] 9 (spS (raC qN (raC qN (raC (qL K (qL K (qQ K))) raN))) (fun x => Shape x.1 x.2.1 ∧ PlsOk x.1 x.2.1 x.2.2.1) (qPln K) fun x p => p = ⟨x.1, x.2.1, x.2.2.1⟩) := by
  refine mk_pro T.d__law_plan (fun _ _ _ _ _ _ us hl => match us, hl with | [_, _, _, _], _ => rfl) fun f fd F => ?_
  refine def_S F sc__law_plan rfl fun cdv A outer s H E O G 
    b vs a hr nb wd st hra hp Q k => by
    obtain ⟨u, v, z, rfl, hu, hv, hz⟩ := ra3 hra
    obtain ⟨n, R, sh, _⟩ := a
    obtain ⟨sp, hl, hg⟩ : Shape n R ∧ PlsOk n R sh := hp
    have hu : Has qN G u n := ⟨hu⟩
    have hv : Has qN G v R := ⟨hv⟩
    have hz : Has (qL K (qL K (qQ K))) G z sh := ⟨hz⟩
    have h8 := sp.R8
    have h5 := sp.2.1
    have hb := sp.begs (Nat.le_refl _)
    refine ⟨_, (pss_one (ps_ret (pe_mkr (ok_Plan___init__ T) hr (pa_cons (pv 1) (pa_cons (pv 2) (pa_cons (pe_lc (own := [("_law_sharing", 4)]) (g := (gName 4)) (tt := tYes) rfl sc__law_plan.nd (piL (K := K) rfl (pv 3)) (blkOk_by (own := [("_law_sharing", 4)]) (N := n__law_plan) (sc := defScope s__law_plan) (by decide +kernel)) (fun _ _ _ _ _ => (pg_name (i := 4) sc__law_plan.nd rfl (by first | exact Or.inl rfl | exact Or.inr rfl))) (fun _ _ _ _ _ => pts_nil) (fun _ _ _ _ _ => (pe_cl (ok__law_dressed T) hr (pa_cons (pv 0) (pa_cons (pv 4) pa_nil))))) pa_nil)))))), ?_⟩
    refine st_retN (r := qPln K) nb wd st (tn_make (Y := fun x => x.1 = n ∧ x.2.1 = R ∧ x.2.2.1 = sh ∧ True) (tan_c (Y := fun x => x = n) (tn_of (tv_v rfl hu) rfl) (tan_c (Y := fun x => x = R) (tn_of (tv_v rfl hv) rfl) (tan_c (Y := fun x => x = sh) (Tn.sub (r := qLs (qSq K (qR K))) (q := qL K (qSq K (qR K))) (tn_map (q := qSq K (qR K)) (Y := fun x y => y = x) (it_list (tv_v rfl hz)) tg1 (own1 (by decide)) (by omega) fun D i x G1 σ2 hx g1 hE => ?_) (fun ys => ys) (fun _ _ _ _ h => qLs_L h) fun ys hy => pr_eqs (β := Unit) hy) (tan_of (Y := fun _ => True) ta_n trivial)))) ?_) fun v H' y s st' hy hv => k v H' y s st' ?_ hv
    · obtain ⟨vx, ex, hvx⟩ := hE
      subst ex
      have g := hg x (List.mem_of_getElem? hx)
      exact Tn.sub (r := qL K (qR K)) (q := qSq K (qR K)) (tn_callS rfl (ta_c (tv_v rfl hvx) ta_n) ⟨by show x.length < 10000; rw [g.len]; omega, (g.sh h5).bq⟩) (fun ys => ys) (fun _ _ _ _ h => .inl h) fun ys hy => hy
    · rintro ⟨a, b, c, _⟩ ⟨e1, e2, e3, _⟩
      have e1 : a = n := e1
      have e2 : b = R := e2
      have e3 : c = sh := e3
      subst e1 e2 e3
      exact ⟨sp, hl, fun u hu => (hg u hu).sh h5⟩
    · obtain ⟨⟨a, b, c, _⟩, ⟨e1, e2, e3, _⟩, e⟩ := hy
      have e1 : a = n := e1
      have e2 : b = R := e2
      have e3 : c = sh := e3
      subst e1 e2 e3
      exact e
theorem sc__law_new_plan : FnScope n__law_new_plan ["_law_store_here", "_law_width", "_law_rounds_here"] (defScope s__law_new_plan) := ⟨rfl, rfl, rfl, by decide +kernel, rfl, by decide +kernel, by decide +kernel⟩
theorem ok__law_new_plan (T : Ctx P w K mg base) : Pro P w K mg base "_law_new_plan" ["_law_store_here", "_law_width", "_law_rounds_here"] 10 (spS (raC qN (raC qN raN)) (fun x => Shape x.1 x.2.1) (qPln K) fun x p => p.n = x.1 ∧ p.R = x.2.1) := by
  refine mk_pro T.d__law_new_plan (fun _ _ _ _ _ _ us hl => match us, hl with | [_, _, _], _ => rfl) fun f fd F => ?_
  refine def_S F sc__law_new_plan rfl fun cdv A outer s H E O G 
    b vs a hr nb wd st hra hp Q k => by
    obtain ⟨u, v, rfl, hu, hv⟩ := ra2 hra
    obtain ⟨n, R, _⟩ := a
    have sp : Shape n R := hp
    have hu : Has qN G u n := ⟨hu⟩
    have hv : Has qN G v R := ⟨hv⟩
    refine ⟨_, (pss_one (ps_ret (pe_cl (ok__law_plan T) hr (pa_cons (pv 0) (pa_cons (pv 1) (pa_cons (pv 2) (pa_cons (pe_cl (ok__law_plan_shares T) hr (pa_cons (pv 0) (pa_cons (pv 1) (pa_cons (pv 2) pa_nil)))) pa_nil))))))), ?_⟩
    refine st_retN (r := qPln K) nb wd st (tn_callN rfl (Y := fun x => x.1 = n ∧ x.2.1 = R ∧ PlsOk n R x.2.2.1 ∧ True) (tan_c (Y := fun x => x = n) (tn_of (tv_v rfl hu) rfl) (tan_c (Y := fun x => x = R) (tn_of (tv_v rfl hv) rfl) (tan_c (Y := fun sh => PlsOk n R sh) (tn_callS (pr := fun x : Nat × Nat × Unit => Shape x.1 x.2.1) (F := fun x sh => PlsOk x.1 x.2.1 sh) (x := (n, R, ())) rfl (ta_c (tv_v rfl hu) (ta_c (tv_v rfl hv) ta_n)) sp) (tan_of (Y := fun _ => True) ta_n trivial)))) ?_) fun v H' y s st' hy hv => k v H' y s st' ?_ hv
    · rintro ⟨a, b, c, _⟩ ⟨e1, e2, e3, _⟩
      have e1 : a = n := e1
      have e2 : b = R := e2
      subst e1 e2
      exact ⟨sp, e3⟩
    · obtain ⟨⟨a, b, c, _⟩, ⟨e1, e2, e3, _⟩, e⟩ := hy
      have e1 : a = n := e1
      have e2 : b = R := e2
      subst e1 e2
      rw [show y = _ from e]
      exact ⟨rfl, rfl⟩
end
end Nb
set_option Elab.async false
set_option linter.all false
set_option maxRecDepth 100000
set_option maxHeartbeats 4000000
namespace Nb
open PySem L2
open PyProof.Rows (envOfC)
section
variable {α β : Type} {a : Addr} {O : List Addr} {σ : St} {G H : Hp} {te : TE}
theorem Tn.eqv {r : Rl α} {Y Z : α → Prop} (h : Tn a O te σ G r Y) (i : ∀ x, Y x → Z x) : Tn a O te σ G r Z := h.mono i
theorem pr_map {f : α → β} {xs : List α} {ys : List β} (h : Paired (fun x y => y = f x) xs ys) : ys = xs.map f := by
  induction h with
  | nil => rfl
  | cons h _ ih => rw [h, ih, List.map_cons]
end
section
variable {P : Program} {w : World} {K : PySem.W.Frag} {mg : PySem.Str → Option Value} {base : Heap}
theorem sc__law_plans : FnScope n__law_plans ["_law_store_here", "_law_width", "_law_rounds_here", "_law_helpers"] (defScope s__law_plans) := ⟨rfl, rfl, rfl, by decide +kernel, rfl, by decide +kernel, by decide +kernel⟩
theorem ok__law_plans (T : Ctx P w K mg base) : Pro P w K mg base "_law_plans" ["_law_store_here", "_law_width", "_law_rounds_here", "_law_helpers"] 10 (spS (raC qN (raC qN (raC (qL K (qL K (qL K (qQ K)))) raN))) (fun x => Shape x.1 x.2.1 ∧ x.2.2.1.length < 10000 ∧ ∀ sh ∈ x.2.2.1, PlsOk x.1 x.2.1 sh) (qL K (qPln K)) fun x ps => ps = x.2.2.1.map fun sh => ⟨x.1, x.2.1, sh⟩) := by
  refine mk_pro T.d__law_plans (fun _ _ _ _ _ _ us hl => match us, hl with | [_, _, _, _], _ => rfl) fun f fd F => ?_
  refine def_S F sc__law_plans rfl fun cdv A outer s H E O G 
    b vs a hr nb wd st hra hp Q k => by
    obtain ⟨u, v, z, rfl, hu, hv, hz⟩ := ra3 hra
    obtain ⟨n, R, hs, _⟩ := a
    obtain ⟨sp, hl, hg⟩ : Shape n R ∧ hs.length < 10000 ∧ ∀ sh ∈ hs, PlsOk n R sh := hp
    have hu : Has qN G u n := ⟨hu⟩
    have hv : Has qN G v R := ⟨hv⟩
    have hz : Has (qL K (qL K (qL K (qQ K)))) G z hs := ⟨hz⟩
    refine ⟨_, (pss_one (ps_ret (pe_lc (own := [("_law_shares", 4)]) (g := (gName 4)) (tt := tYes) rfl sc__law_plans.nd (piL (K := K) rfl (pv 3)) (blkOk_by (own := [("_law_shares", 4)]) (N := n__law_plans) (sc := defScope s__law_plans) (by decide +kernel)) (fun _ _ _ _ _ => (pg_name (i := 4) sc__law_plans.nd rfl (by first | exact Or.inl rfl | exact Or.inr rfl))) (fun _ _ _ _ _ => pts_nil) (fun _ _ _ _ _ => (pe_cl (ok__law_plan T) hr (pa_cons (pv 0) (pa_cons (pv 1) (pa_cons (pv 2) (pa_cons (pv 4) pa_nil))))))))), ?_⟩
    refine st_retN nb wd st (tn_map (q := qPln K) (Y := fun sh p => p = (⟨n, R, sh⟩ : Pln)) (it_list (tv_v rfl hz)) tg1 (own1 (by decide)) hl fun D i x G1 σ2 hx g1 hE => ?_) fun v H' ps s st' hy hv => k v H' ps s st' (pr_map hy) (qLs_L hv)
    obtain ⟨vx, ex, hvx⟩ := hE
    subst ex
    exact tn_callS (pr := fun x : Nat × Nat × List (List Rat) × Unit => Shape x.1 x.2.1 ∧ PlsOk x.1 x.2.1 x.2.2.1) (F := fun x p => p = (⟨x.1, x.2.1, x.2.2.1⟩ : Pln)) (x := (n, R, x, ())) rfl (ta_c (tv_v rfl (hu.mo g1)) (ta_c (tv_v rfl (hv.mo g1)) (ta_c (tv_v rfl hvx) ta_n))) ⟨sp, hg x (List.mem_of_getElem? hx)⟩
end
end Nb
set_option Elab.async false
set_option linter.all false
set_option maxRecDepth 100000
set_option maxHeartbeats 4000000
namespace Nb
open PySem L2
open PyProof.Rows (envOfC)
theorem shape3 {n R : Nat} (h1 : 1 ≤ n) (h5 : n ≤ 5) (h : R ≤ 3) : Shape n R := by
  refine ⟨h1, h5, ?_⟩
  have : n = 1 ∨ n = 2 ∨ n = 3 ∨ n = 4 ∨ n = 5 := by omega
  rcases this with rfl | rfl | rfl | rfl | rfl <;> (show R ≤ _; simp only [mostR]; simp; omega)
def UnlOk (n R : Nat) (p : Pln) : Prop := ¬ (p.n = n ∧ p.R = R)
section
variable {P : Program} {w : World} {K : PySem.W.Frag} {mg : PySem.Str → Option Value} {base : Heap}
theorem sc__law_unlike : FnScope n__law_unlike ["_law_store_here", "_law_width", "_law_rounds_here"] (defScope s__law_unlike) := ⟨rfl, rfl, rfl, by decide +kernel, rfl, by decide +kernel, by decide +kernel⟩
theorem ok__law_unlike (T : Ctx P w K mg base) : Pro P w K mg base "_law_unlike" ["_law_store_here", "_law_width", "_law_rounds_here"] 11 (spS (raC qN (raC qN raN)) (fun x => Shape x.1 x.2.1) (qPln K) fun x p => UnlOk x.1 x.2.1 p) := by
  refine mk_pro T.d__law_unlike (fun _ _ _ _ _ _ us hl => match us, hl with | [_, _, _], _ => rfl) fun f fd F => ?_
  refine def_S F sc__law_unlike rfl fun cdv A outer s H E O G 
    b vs a hr nb wd st hra hp Q k => by
    obtain ⟨u, v, rfl, hu, hv⟩ := ra2 hra
    obtain ⟨n, R, _⟩ := a
    have sp : Shape n R := hp
    have h8 := sp.R8
    obtain ⟨n1, n5, hR⟩ := sp
    have hu : Has qN G u n := ⟨hu⟩
    have hv : Has qN G v R := ⟨hv⟩
    refine ⟨_, (pss_cons (ps_set (i := 3) sc__law_unlike.nd rfl (Or.inl rfl) (pe_cl (ok__law_take T) hr (pa_cons (pv 0) (pa_cons pe_int pa_nil))))
      (pss_cons (ps_if (PW.pt (pw_and (pt_cmpR op_eq (pv 3) pe_int (nomark _)) (pw_and1 (pt_cmpR op_gt (pv 2) pe_int (nomark _))))) (pss_one (ps_ret (pe_cl (ok__law_new_plan T) hr (pa_cons (pv 0) (pa_cons (pv 1) (pa_cons (pe_op op_sub (pv 2) pe_int) pa_nil)))))) pss_nil)
      (pss_cons (ps_if (PW.pt (pw_and (pt_cmpR op_eq (pv 3) pe_int (nomark _)) (pw_and1 (pt_cmpR op_lt (pv 2) pe_int (nomark _))))) (pss_one (ps_ret (pe_cl (ok__law_new_plan T) hr (pa_cons (pv 0) (pa_cons (pv 1) (pa_cons (pe_op op_add (pv 2) pe_int) pa_nil)))))) pss_nil)
      (pss_one (ps_ret (pe_cl (ok__law_new_plan T) hr (pa_cons (pv 0) (pa_cons (pe_op op_add pe_int (pe_op op_mod (c_int (K := K) rfl T.n_int (pa_cons (pv 1) pa_nil)) pe_int)) (pa_cons (c_min2 (K := K) rfl T.n_min (pa_cons (pv 2) (pa_cons pe_int pa_nil))) pa_nil))))))))), ?_⟩
    refine st_asgN nb wd st (tn_callS rfl (ta_c tv_i ta_n) (show (3 : Int) < 1073741824 by decide)) fun v1 G1 H1 kd g1 w1 s1 st1 hy1 h1 => ?_
    have h1 : Has qN G1 v1 kd := h1
    have hu1 := hu.mo g1
    have hv1 := hv.mo g1
    refine st_if w1 (tt_and (tt_eqI (tv_v rfl h1.nI) tv_i) fun _ => tt_opB (tv_v rfl hv1.nI) tv_i) (fun z H2 s2 w2 => ?_) (fun _ H2 s2 w2 => ?_)
    · rw [Bool.and_eq_true] at z
      have hR0 : (0 : Int) < (R : Int) := of_decide_eq_true z.2
      refine st_retN (r := qPln K) nb w2 (st1.on s2) (tn_callS (pr := fun x : Nat × Nat × Unit => Shape x.1 x.2.1) (F := fun x (p : Pln) => p.n = x.1 ∧ p.R = x.2.1) (x := (n, R - 1, ())) rfl (ta_c (tv_v rfl hu1) (ta_c (tv_IN (n := R - 1) (tv_opJ (tv_v rfl hv1.nI) tv_i) (by omega)) ta_n)) ⟨n1, n5, by show R - 1 ≤ mostR n; omega⟩) fun v H' y s st' hy hv => k v H' y ((s1.trans (Sb.of s2)).trans s) st' ?_ hv
      intro e
      have h2 : y.R = R - 1 := hy.2
      have h3 : y.R = R := e.2
      omega
    refine st_if w2 (tt_and (tt_eqI (tv_v rfl h1.nI) tv_i) fun _ => tt_opB (tv_v rfl hv1.nI) tv_i) (fun z H3 s3 w3 => ?_) (fun _ H3 s3 w3 => ?_)
    · rw [Bool.and_eq_true] at z
      have hR0 : (R : Int) < 3 := of_decide_eq_true z.2
      refine st_retN (r := qPln K) nb w3 ((st1.on s2).on s3) (tn_callS (pr := fun x : Nat × Nat × Unit => Shape x.1 x.2.1) (F := fun x (p : Pln) => p.n = x.1 ∧ p.R = x.2.1) (x := (n, R + 1, ())) rfl (ta_c (tv_v rfl hu1) (ta_c (tv_IN (n := R + 1) (tv_opJ (tv_v rfl hv1.nI) tv_i) (by omega)) ta_n)) (shape3 n1 n5 (by show R + 1 ≤ 3; omega))) fun v H' y s st' hy hv => k v H' y ((s1.trans (Sb.of (s2.trans s3))).trans s) st' ?_ hv
      intro e
      have h2 : y.R = R + 1 := hy.2
      have h3 : y.R = R := e.2
      omega
    · refine st_retN (r := qPln K) nb w3 ((st1.on s2).on s3) (tn_callS (pr := fun x : Nat × Nat × Unit => Shape x.1 x.2.1) (F := fun x (p : Pln) => p.n = x.1 ∧ p.R = x.2.1) (x := (1 + n % 5, min R 2, ())) rfl (ta_c (tv_IN (n := 1 + n % 5) (tv_opJ tv_i (tv_opI (tv_int (tv_v rfl hu1.nI)) tv_i (show (0 : Int) < 5 by decide))) (by omega)) (ta_c (tv_IN (n := min R 2) (tv_min2 (tv_v rfl hv1.nI) tv_i) (by omega)) ta_n)) (shape3 (by show 1 ≤ 1 + n % 5; omega) (by show 1 + n % 5 ≤ 5; omega) (by show min R 2 ≤ 3; omega))) fun v H' y s st' hy hv => k v H' y ((s1.trans (Sb.of (s2.trans s3))).trans s) st' ?_ hv
      intro e
      have h2 : y.n = 1 + n % 5 := hy.1
      have h3 : y.n = n := e.1
      omega
end
end Nb
set_option Elab.async false
set_option linter.all false
set_option maxRecDepth 100000
set_option maxHeartbeats 4000000
namespace Nb
open PySem L2
open PyProof.Rows (envOfC)
section
variable {P : Program} {w : World} {K : PySem.W.Frag} {mg : PySem.Str → Option Value} {base : Heap}
theorem sc__law_helper_list : FnScope n__law_helper_list ["_law_store_here", "_law_width", "_law_rounds_here", "_law_most_here"] (defScope s__law_helper_list) := ⟨rfl, rfl, rfl, by decide +kernel, rfl, by decide +kernel, by decide +kernel⟩
theorem ok__law_helper_list (T : Ctx P w K mg base) : Pro P w K mg base "_law_helper_list" ["_law_store_here", "_law_width", "_law_rounds_here", "_law_most_here"] 5 (spS (raC qN (raC qN (raC qI raN))) (fun x => Shape x.1 x.2.1 ∧ x.2.2.1 = 5) (qL K (qL K (qL K (qQ K)))) fun x hs => (1 ≤ hs.length ∧ hs.length ≤ 5) ∧ ∀ sh ∈ hs, PlsOk x.1 x.2.1 sh) := by
  refine mk_pro T.d__law_helper_list (fun _ _ _ _ _ _ us hl => match us, hl with | [_, _, _, _], _ => rfl) fun f fd F => ?_
  refine def_S F sc__law_helper_list rfl fun cdv A outer s H E O G 
    b vs a hr nb wd st hra hp Q k => by
    obtain ⟨u, v, z, rfl, hu, hv, hz⟩ := ra3 hra
    obtain ⟨n, R, m, _⟩ := a
    obtain ⟨sp, rfl⟩ : Shape n R ∧ m = 5 := hp
    have hu : Has qN G u n := ⟨hu⟩
    have hv : Has qN G v R := ⟨hv⟩
    have hz : Has qI G z 5 := ⟨hz⟩
    refine ⟨_, (pss_cons (ps_set (i := 4) sc__law_helper_list.nd rfl (Or.inl rfl) (pe_lst pa_nil))
      (pss_cons (ps_for PassesOwn.never rfl (pi_range1 (by rfl) T.n_range (pa_cons (pe_op op_add pe_int (pe_cl (ok__law_edge T) hr (pa_cons (pv 0) (pa_cons (pv 3) pa_nil)))) pa_nil)) (pg_name (i := 5) sc__law_helper_list.nd rfl (Or.inl rfl)) (pss_one (ps_if (PW.pt (pw_and (pt_cmpR op_gt (pv 5) pe_int (nomark _)) (pw_and1 (pt_cmpR op_eq (pe_cl (ok__law_take T) hr (pa_cons (pv 0) (pa_cons pe_int pa_nil))) pe_int (nomark _))))) (pss_one (ps_expr (pe_bm PySem.F.plainAttrs_list PySem.F.slot_list_append PySem.F.type_list_append mt_append (pv 4) (pa_cons (pe_ix (ixL (K := K) rfl) (pv 4) (pe_cl (ok__law_take T) hr (pa_cons (pv 0) (pa_cons (pv 5) pa_nil))) (fun _ _ => rfl)) pa_nil)))) (pss_one (ps_expr (pe_bm PySem.F.plainAttrs_list PySem.F.slot_list_append PySem.F.type_list_append mt_append (pv 4) (pa_cons (pe_cl (ok__law_plan_shares T) hr (pa_cons (pv 0) (pa_cons (pv 1) (pa_cons (pv 2) pa_nil)))) pa_nil)))))))
      (pss_one (ps_ret (pv 4))))), ?_⟩
    refine st_new (q := qL K (qL K (qQ K))) wd fun p H1 hp0 s1 w1 ow => ?_
    have nbp : b ∉ p :: O := by
      intro z
      rcases List.mem_cons.mp z with e | e
      · exact st.ne (by rw [e]; exact hp0)
      · exact nb e
    have bp : b ≠ p := fun z => nbp (by rw [z]; exact List.mem_cons_self)
    have wp : Wd (b :: p :: O) G H1 := w1.sub fun x hx => by simp only [List.mem_cons] at hx ⊢; rcases hx with e | e | e <;> simp [e]
    obtain ⟨_, acc0, e0, pr0⟩ := ow
    cases pr0
    refine st_forN nbp wp (st.on s1) (nit_rng1 (Z := fun c => 1 ≤ c ∧ c ≤ 5) (tn_opJ (Y := fun i => i = 1) (Z := fun i => ∃ n : Nat, i = n ∧ n < 5) (tn_of tv_i rfl) ((tn_callS rfl (ta_c (tv_v rfl hz) ta_n) (show (5 : Int) < 1073741824 by decide)).sub (fun y : Nat => (y : Int)) (fun _ _ _ _ h => h) fun y hy => ⟨y, rfl, by have hy : (y : Int) < max 1 5 := hy; omega⟩) fun i j hi hj => by
        obtain ⟨m, rfl, hm⟩ := hj
        subst hi
        exact ⟨1 + m, by omega, by omega, by omega, by omega⟩)) tg1
      (fun xs i σ G' H' => ∃ (o : Option V) (acc : List V) (hs : List (List (List Rat))), σ = [some (.ref b), some u, some v, some z, some (.ref p), o] ∧ (∀ b' o, b' ≠ b → b' ≠ p → H1 b' = some o → H' b' = some o) ∧ Sto H' b ∧ H' p = some (.lst acc) ∧ Paired (qL K (qL K (qQ K)) G') acc hs ∧ hs.length = i ∧ ∀ sh ∈ hs, PlsOk n R sh)
      (fun xs G' H' _ g s st' w' => ⟨none, [], [], rfl, fun b' o h1 _ e => s _ _ h1 e, st', s _ _ (Ne.symm bp) e0, .nil, rfl, fun _ h => nomatch h⟩) ?_ ?_
    · rintro xs i x σ1 G2 H2 G3 H3 σ2 ⟨c, ⟨hc1, hc5⟩, rfl⟩ hx ⟨o, acc, hs, rfl, s2, st2, e2, pr2, hl, hg⟩ g2 g3 s3 w3 ⟨vx, rfl, hvx⟩ N hN
      have hxi : x = i ∧ i < c := by
        have h := List.getElem?_eq_some_iff.mp hx
        obtain ⟨h1, h2⟩ := h
        rw [List.length_range] at h1
        rw [List.getElem_range] at h2
        exact ⟨h2.symm, h1⟩
      obtain ⟨rfl, hic⟩ := hxi
      have e3 := s3 _ _ e2
      have st3 := st2.on s3
      have pr3 := paired_mono (fun _ _ z => Mo.mo g3 z) pr2
      have hla : acc.length = hs.length := Paired.len pr2
      refine st_ifNE nbp w3 st3 (tnt_and (tnt_of (tt_opB (tv_v rfl hvx.nI) tv_i)) fun _ => tnt_eqI (Y := fun _ => True) (Z := fun z => z = 0) ((tn_callS rfl (ta_c tv_i ta_n) (show (4 : Int) < 1073741824 by decide)).sub (fun y : Nat => (y : Int)) (fun _ _ _ _ h => h) fun _ _ => trivial) (tn_of tv_i rfl)) (fun hB H4 s4 w4 st4 => ?_) (fun _ H4 s4 w4 st4 => ?_)
      · have hx0 : (0 : Int) < (x : Int) := of_decide_eq_true (hB rfl).1.symm
        have e4 := s4 _ _ (Ne.symm bp) e3
        refine st_appNL (q := qL K (qL K (qQ K))) (Y := fun sh => PlsOk n R sh) nbp w4 st4 rfl e4 (by omega) (fun Q' k' => ?_) fun v' G5 H5 y g5 w5 st5 s5 hy hv5 e5 => ?_
        · refine ⟨_, rfl, ?_⟩
          refine tn_callS (a := b) (O := p :: O) (G := G3) (q := qN) (σ := [some (.ref b), some u, some v, some z, some (.ref p), some vx]) (pr := fun x : Int × Unit => x.1 < 1073741824) (F := fun x (y : Nat) => (y : Int) < max 1 x.1) (x := ((x : Int), ())) rfl (ta_c (tv_v rfl hvx.nI) ta_n) (show (x : Int) < 1073741824 by omega) H4 nbp w4 st4 _ fun vz H5 y s5 st5 hy hv5 => ?_
          have hy : (y : Int) < max 1 (x : Int) := hy
          have hyx : y < hs.length := by omega
          have e5 := s5 _ _ (Ne.symm bp) e4
          obtain ⟨w', hw1, hw2⟩ := Paired.at pr3 (List.getElem?_eq_getElem hyx)
          exact ⟨p, acc, (y : Int), w', rfl, hv5, SqL.of e5, atI_nat hw1, k' _ _ _ s5 st5 (hg _ (List.getElem_mem hyx)) (Mo.mo (w4.sb s5 st5.ne).le hw2)⟩
        · refine hN _ G5 H5 g5 w5 ⟨some vx, acc ++ [v'], hs ++ [y], rfl, fun b' o h1 h2 e => s5 _ _ h1 h2 (s4 _ _ h1 (s3 _ _ (s2 _ _ h1 h2 e))), st5, e5, Paired.snoc (paired_mono (fun _ _ z => Mo.mo g5 z) pr3) hv5, by rw [List.length_append, List.length_singleton, hl], fun sh hsh => ?_⟩
          rcases List.mem_append.mp hsh with h | h
          · exact hg _ h
          · rw [List.mem_singleton.mp h]; exact hy
      · have e4 := s4 _ _ (Ne.symm bp) e3
        have hu3 := hu.mo (g2.trans g3)
        have hv3 := hv.mo (g2.trans g3)
        refine st_appNL (q := qL K (qL K (qQ K))) (Y := fun sh => PlsOk n R sh) nbp w4 st4 rfl e4 (by omega) (fun Q' k' => tn_callS (a := b) (O := p :: O) (G := G3) (q := qL K (qL K (qQ K))) (pr := fun x : Nat × Nat × Unit => Shape x.1 x.2.1) (F := fun x (sh : List (List Rat)) => PlsOk x.1 x.2.1 sh) (x := (n, R, ())) rfl (ta_c (tv_v rfl hu3) (ta_c (tv_v rfl hv3) ta_n)) sp H4 nbp w4 st4 Q' k') fun v' G5 H5 y g5 w5 st5 s5 hy hv5 e5 => ?_
        refine hN _ G5 H5 g5 w5 ⟨some vx, acc ++ [v'], hs ++ [y], rfl, fun b' o h1 h2 e => s5 _ _ h1 h2 (s4 _ _ h1 (s3 _ _ (s2 _ _ h1 h2 e))), st5, e5, Paired.snoc (paired_mono (fun _ _ z => Mo.mo g5 z) pr3) hv5, by rw [List.length_append, List.length_singleton, hl], fun sh hsh => ?_⟩
        rcases List.mem_append.mp hsh with h | h
        · exact hg _ h
        · rw [List.mem_singleton.mp h]; exact hy
    · rintro xs σ6 G6 H6 ⟨c, ⟨hc1, hc5⟩, rfl⟩ g6 w6 ⟨o, acc, hs, rfl, s6, st6, e6, pr6, hl, hg⟩
      rw [List.length_range] at hl
      have sH : Sb b H H6 := fun x o hx e => s6 _ _ hx (ne_of_none e hp0) (s1 _ _ e)
      have wb := w6.sub (O' := b :: O) fun x hx => by simp only [List.mem_cons] at hx ⊢; rcases hx with e | e <;> simp [e]
      refine st_ret (O := b :: O) (r := qL K (qL K (qL K (qQ K)))) (x := hs) wb.up (tv_v rfl ⟨qLs_L ⟨p, acc, rfl, ?_, paired_mono (fun _ _ z => Mo.mo wb.le z) pr6⟩⟩) fun v H' s hv => k v H' hs (sH.trans (Sb.of s)) (st6.on s) ⟨⟨by omega, by omega⟩, hg⟩ hv
      rw [wo_out]
      · exact e6
      · intro z
        rcases List.mem_cons.mp z with e | e
        · exact bp e.symm
        · exact wd.dm p (List.mem_cons_of_mem _ e) hp0
end
end Nb
set_option Elab.async false
set_option linter.all false
set_option maxRecDepth 100000
set_option maxHeartbeats 4000000
namespace Nb
open PySem L2
open PyProof.Rows (envOfC)
section
variable {α β : Type} {a : Addr} {O : List Addr} {σ : St} {G H : Hp} {r : Rl α} {q : Rl β} {ta tb te : TE} {t : TA} {K : PySem.W.Frag} {n : Nat} {xs : List α}
theorem tv_sliceLs {tl th : TO} {lo hi : Option Int} [Mo r] (h : Tv O te σ G (qL K r) xs) (hl : To O tl σ G lo) (hh : To O th σ G hi) : Tv O (tSl (rSlL K) te tl th) σ G (qLs r) (cutG xs lo hi) := fun H w Q k =>
  h H w _ fun v H1 s1 h1 => hl H1 (w.same s1) _ fun H2 s2 => hh H2 ((w.same s1).same s2) _ fun H3 s3 => by
    obtain ⟨vs, ⟨a, ev, hs⟩, hp⟩ := h1
    have s13 := s2.trans s3
    have w3 := (w.same s1).same s13
    refine ⟨a, vs, ev, same_sqL (wo_le.trans s13) hs, fun p hpn => k _ _ ((s1.trans s13).trans (same_new hpn)) ⟨p, cutV vs lo hi, rfl, wo_new w3.dm hpn, ?_⟩⟩
    unfold cutV cutG
    rw [Paired.len hp]
    exact Paired.take' _ (Paired.drop' _ (paired_mono (fun _ _ z => Mo.mo (same_wo (s13.trans (same_new hpn))) z) hp))
theorem tan_e0 {Y : List β → Prop} (h : Y []) : Tan a O tNil σ G (raE q 0) Y := fun H w st' st Q k => k [] H [] (Sb.of (Same.refl _)) st h ⟨.nil, rfl⟩
theorem tan_e [Mo q] {Y : β → Prop} {Z W : List β → Prop} (h : Tn a O te σ G q Y) (g : Tan a O t σ G (raE q n) Z) (i : ∀ x ys, Y x → Z ys → W (x :: ys)) : Tan a O (tCons te t) σ G (raE q (n + 1)) W := fun H nb w st Q k =>
  tan_c h g H nb w st Q fun vs H' p s st' hp hh => by
    obtain ⟨v, ws, e, h1, h2, h3⟩ := hh
    subst e
    exact k _ H' (p.1 :: p.2) s st' (i _ _ hp.1 hp.2) ⟨.cons h1 h2, by rw [List.length_cons, h3]⟩
theorem tn_lst [Mo q] {Y : List β → Prop} (h : Tan a O t σ G (raE q n) Y) (hn : n ≤ 1000) : Tn a O (tLst t) σ G (qL K q) Y := fun H nb w st Q k =>
  h H nb w st _ fun vs H1 ys s1 st1 hy hh => by
    have w1 := w.sb s1 st1.ne
    refine ⟨by rw [show vs.length = n by rw [Paired.len hh.1, hh.2], sizeLine_eq]; omega, fun p hp => ?_⟩
    have n2 := same_new (o := HO.lst vs) hp
    exact k _ _ ys (s1.trans (Sb.of n2)) (st1.on n2) hy ⟨vs, ⟨p, rfl, SqL.of (wo_new w1.dm hp)⟩, paired_mono (fun _ _ z => Mo.mo (same_wo n2) z) hh.1⟩
/-- xs[e], both drawn -/
theorem tn_ixLN {Y : List α → Prop} {Z : Nat → Prop} {W : α → Prop} [Mo r] (h : Tn a O ta σ G (qL K r) Y) (g : Tn a O tb σ G qN Z) (hz : ∀ xs i, Y xs → Z i → ∃ x, xs[i]? = some x ∧ W x) : Tn a O (tOp (rIxL K) ta tb) σ G r W :=
  tn_op (r := qL K r) (Y := Y) h g fun H' v u xs z hy hz' d hv hu Q k => by
    obtain ⟨x, hx, hyx⟩ := hz xs z hy hz'
    obtain ⟨vs, ⟨b, ev, hs⟩, hp⟩ := hv
    obtain ⟨w', e1, e2⟩ := Paired.at hp hx
    exact ⟨b, vs, (z : Int), w', ev, hu, same_sqL wo_le hs, atI_nat e1, k _ _ x (Same.refl _) hyx e2⟩
theorem tv_tupD {ds : List PyData} (h : Ta O t σ G (raE (qDp K) n) ds) (hn : n ≤ 1000) : Tv O (tTup t) σ G (qDp K) (.tuple ds) := tv_tup h hn fun G v vs hv hx => by
  obtain ⟨a, rfl, hs⟩ := hv
  have hd := dp_paired (K := K) (H := G) (f := id) (fun v x h => h) hx.1
  rw [List.map_id] at hd
  exact .tup hs hd
end
/-- what a wrong list raises, as the law tells it -/
inductive Wrong : List Pln → PyData → Prop
  | no : Wrong [] (.tuple [.str "NoHelper"])
  | long {ps : List Pln} (h : 5 < ps.length) (h2 : ps.length ≤ 20) : Wrong ps (.tuple [.str "BadCount", .int (ps.length : Int), .int 1, .int 5])
  | mis {p : Pln} {ps : List Pln} (h : ps.length < 5) (u : Pln) (hu : u ∈ ps) (hn : ¬ (p.n = u.n ∧ p.R = u.R)) : Wrong (p :: ps) (.tuple [.str "Mismatch"])
theorem wrong_mid {n R : Nat} {ps : List Pln} {u : Pln} {c : Nat} (hc : c ≤ 4) (h1 : 1 ≤ ps.length) (hp : ∀ p ∈ ps, p.n = n ∧ p.R = R) (hu : UnlOk n R u) : Wrong (ps.take c ++ [u] ++ (ps.drop c).take (4 - c)) (.tuple [.str "Mismatch"]) := by
  cases ps with
  | nil => cases h1
  | cons p ps =>
    obtain ⟨e1, e2⟩ := hp p List.mem_cons_self
    cases c with
    | zero =>
      show Wrong (u :: (p :: ps).take 4) _
      refine .mis ?_ p ?_ ?_
      · rw [List.length_take]; omega
      · rw [List.take_succ_cons]; exact List.mem_cons_self
      · intro z
        exact hu ⟨z.1.trans e1, z.2.trans e2⟩
    | succ c =>
      show Wrong (p :: (ps.take c ++ [u] ++ ((p :: ps).drop (c + 1)).take (4 - (c + 1)))) _
      refine .mis ?_ u ?_ ?_
      · rw [List.length_append, List.length_append, List.length_take, List.length_take, List.length_drop, List.length_cons, List.length_cons, List.length_nil]
        omega
      · exact List.mem_append_left _ (List.mem_append_right _ (List.mem_singleton.mpr rfl))
      · intro z
        exact hu ⟨z.1.symm.trans e1, z.2.symm.trans e2⟩
section
variable {P : Program} {w : World} {K : PySem.W.Frag} {mg : PySem.Str → Option Value} {base : Heap}
theorem sc__law_bad_lists : FnScope n__law_bad_lists ["_law_store_here", "_law_sleepers", "_law_unlike_here"] (defScope s__law_bad_lists) := ⟨rfl, rfl, rfl, by decide +kernel, rfl, by decide +kernel, by decide +kernel⟩
theorem ok__law_bad_lists (T : Ctx P w K mg base) : Pro P w K mg base "_law_bad_lists" ["_law_store_here", "_law_sleepers", "_law_unlike_here"] 3 (spS (raC (qL K (qPln K)) (raC (qPln K) raN)) (fun x => (1 ≤ x.1.length ∧ x.1.length ≤ 5) ∧ ∃ n R, (∀ p ∈ x.1, p.n = n ∧ p.R = R) ∧ UnlOk n R x.2.1) (qL K (qP K (qL K (qPln K)) (qDp K))) fun _ ls => ls.length = 3 ∧ ∀ l ∈ ls, Wrong l.1 l.2) := by
  refine mk_pro T.d__law_bad_lists (fun _ _ _ _ _ _ us hl => match us, hl with | [_, _, _], _ => rfl) fun f fd F => ?_
  refine def_S F sc__law_bad_lists rfl fun cdv A outer s H E O G 
    b vs a hr nb wd st hra hp Q k => by
    obtain ⟨u, v, rfl, hu, hv⟩ := ra2 hra
    obtain ⟨ps, ul, _⟩ := a
    obtain ⟨⟨l1, l5⟩, n, R, hps, hul⟩ : (1 ≤ ps.length ∧ ps.length ≤ 5) ∧ ∃ n R, (∀ p ∈ ps, p.n = n ∧ p.R = R) ∧ UnlOk n R ul := hp
    have hu : Has (qL K (qPln K)) G u ps := ⟨hu⟩
    have hv : Has (qPln K) G v ul := ⟨hv⟩
    refine ⟨_, (pss_cons (ps_set (i := 3) sc__law_bad_lists.nd rfl (Or.inl rfl) (pe_cl (ok__law_take T) hr (pa_cons (pv 0) (pa_cons (pe_op op_add (c_min2 (K := K) rfl T.n_min (pa_cons pe_int (pa_cons (c_len (K := K) rfl T.n_len (pa_cons (pv 1) pa_nil)) pa_nil))) pe_int) pa_nil))))
      (pss_cons (ps_set (i := 4) sc__law_bad_lists.nd rfl (Or.inl rfl) (pe_ix (ixL (K := K) rfl) (pe_lst (pa_cons pe_int (pa_cons pe_int (pa_cons pe_int (pa_cons (pe_op op_add pe_int (pe_cl (ok__law_take T) hr (pa_cons (pv 0) (pa_cons pe_int pa_nil)))) pa_nil))))) (pe_cl (ok__law_take T) hr (pa_cons (pv 0) (pa_cons pe_int pa_nil))) (fun _ _ => rfl)))
      (pss_cons (ps_set (i := 5) sc__law_bad_lists.nd rfl (Or.inl rfl) (pe_op op_cat (pe_lc (own := [("_law_k", 6)]) (g := (gName 6)) (tt := tYes) rfl sc__law_bad_lists.nd (pi_range1 (by rfl) T.n_range (pa_cons (pe_op op_sub (pv 4) pe_int) pa_nil)) (blkOk_by (own := [("_law_k", 6)]) (N := n__law_bad_lists) (sc := defScope s__law_bad_lists) (by decide +kernel)) (fun _ _ _ _ _ => (pg_name (i := 6) sc__law_bad_lists.nd rfl (by first | exact Or.inl rfl | exact Or.inr rfl))) (fun _ _ _ _ _ => pts_nil) (fun _ _ _ _ _ => (pe_ix (ixL (K := K) rfl) (pv 1) (pe_op op_mod (c_int (K := K) rfl T.n_int (pa_cons (pv 6) pa_nil)) (c_len (K := K) rfl T.n_len (pa_cons (pv 1) pa_nil))) (fun _ _ => rfl)))) (pe_lst (pa_cons (pv 2) pa_nil))))
      (pss_one (ps_ret (pe_lst (pa_cons (pe_tup (pa_cons (pe_lst pa_nil) (pa_cons (pe_tup (pa_cons pe_str pa_nil)) pa_nil))) (pa_cons (pe_tup (pa_cons (pv 5) (pa_cons (pe_tup (pa_cons pe_str (pa_cons (pv 4) (pa_cons pe_int (pa_cons pe_int pa_nil))))) pa_nil))) (pa_cons (pe_tup (pa_cons (pe_op op_cat (pe_op op_cat (pe_slice (slL (K := K) rfl) (pv 1) po_none (po_some (pv 3))) (pe_lst (pa_cons (pv 2) pa_nil))) (pe_slice (slL (K := K) rfl) (pv 1) (po_some (pv 3)) (po_some pe_int))) (pa_cons (pe_tup (pa_cons pe_str pa_nil)) pa_nil))) pa_nil))))))))), ?_⟩
    refine st_asgN nb wd st (tn_callS (pr := fun x : Int × Unit => x.1 < 1073741824) (F := fun x (y : Nat) => (y : Int) < max 1 x.1) (x := ((min 4 (ps.length : Int) + 1 : Int), ())) rfl (ta_c (tv_opJ (tv_min2 tv_i (tv_lenL (tv_v rfl hu))) tv_i) ta_n) (show min 4 (ps.length : Int) + 1 < 1073741824 by omega)) fun v1 G1 H1 c g1 w1 s1 st1 hy1 h1 => ?_
    have h1 : Has qN G1 v1 c := h1
    have hc : c ≤ 4 := by
      have hy1 : (c : Int) < max 1 (min 4 (ps.length : Int) + 1) := hy1
      omega
    refine st_asgN (r := qN) (Y := fun m => 6 ≤ m ∧ m ≤ 20) nb w1 st1 (tn_ixLN (r := qN) (Y := fun xs => ∃ m, xs = [6, 7, 8, m] ∧ 9 ≤ m ∧ m ≤ 20) (Z := fun i => i < 4)
      (tn_lst (n := 4) (tan_e (Y := fun x => x = 6) (Z := fun xs => ∃ m, xs = [7, 8, m] ∧ 9 ≤ m ∧ m ≤ 20) (tn_of (tv_IN (n := 6) tv_i rfl) rfl) (tan_e (Y := fun x => x = 7) (Z := fun xs => ∃ m, xs = [8, m] ∧ 9 ≤ m ∧ m ≤ 20) (tn_of (tv_IN (n := 7) tv_i rfl) rfl) (tan_e (Y := fun x => x = 8) (Z := fun xs => ∃ m, xs = [m] ∧ 9 ≤ m ∧ m ≤ 20) (tn_of (tv_IN (n := 8) tv_i rfl) rfl)
        (tan_e (Y := fun m => 9 ≤ m ∧ m ≤ 20) (Z := fun xs => xs = []) (Tn.sub (r := qI) (q := qN) (Y := fun i => 9 ≤ i ∧ i ≤ 20) (tn_opJ (Y := fun i => i = 9) (Z := fun i => 0 ≤ i ∧ i < 12) (tn_of tv_i rfl) ((tn_callS rfl (ta_c tv_i ta_n) (show (12 : Int) < 1073741824 by decide)).sub (fun y : Nat => (y : Int)) (fun _ _ _ _ h => h) fun y hy => ⟨by omega, by have hy : (y : Int) < max 1 12 := hy; omega⟩) fun i j hi hj => by subst hi; exact ⟨by omega, by omega⟩) (fun i => i.toNat) (fun G v i hi h => by have h : v = .int i := h; show v = .int ((i.toNat : Nat) : Int); rw [h, Int.toNat_of_nonneg (by omega)]) (fun i hi => by omega)) (tan_e0 rfl) (fun x ys hx hys => ⟨x, by rw [hys], hx⟩))
        (fun x ys hx ⟨m, e, hm⟩ => ⟨m, by rw [hx, e], hm⟩)) (fun x ys hx ⟨m, e, hm⟩ => ⟨m, by rw [hx, e], hm⟩)) (fun x ys hx ⟨m, e, hm⟩ => ⟨m, by rw [hx, e], hm⟩)) (by decide))
      ((tn_callS rfl (ta_c tv_i ta_n) (show (4 : Int) < 1073741824 by decide)).mono fun z hz => by have hz : (z : Int) < max 1 4 := hz; omega)
      (fun xs i ⟨m, e, hm⟩ hi => by
        subst e
        have : i = 0 ∨ i = 1 ∨ i = 2 ∨ i = 3 := by omega
        rcases this with rfl | rfl | rfl | rfl
        · exact ⟨6, rfl, by decide, by decide⟩
        · exact ⟨7, rfl, by decide, by decide⟩
        · exact ⟨8, rfl, by decide, by decide⟩
        · exact ⟨m, rfl, by omega, by omega⟩)) fun v2 G2 H2 m g2 w2 s2 st2 hm h2 => ?_
    obtain ⟨m6, m20⟩ := hm
    have h2 : Has qN G2 v2 m := h2
    have hu2 := (hu.mo g1).mo g2
    have hv2 := (hv.mo g1).mo g2
    obtain ⟨p0, hp0⟩ : ∃ p, ps[0]? = some p := get_of l1
    refine st_asg (r := qLs (qPln K)) (x := ((List.range (m - 1)).map fun i => ps.getD (i % ps.length) p0) ++ [ul]) w2 (tv_cat (tv_mapS (it_rng1 (n := m - 1) ((tv_opJ (tv_v rfl h2.nI) tv_i).eq (by omega)) (by omega)) tg1 (own1 (by decide)) (by rw [List.length_range]; omega) fun D i x G3 σ2 hx g3 ⟨vx, ex, hvx⟩ => ?_) (tv_lst1 (tv_v rfl hv2)) (by rw [List.length_map, List.length_range]; show m - 1 + 1 < 10000; omega)) fun v3 G3 H3 g3 w3 s3 h3 => ?_
    · subst ex
      have hlt : x % ps.length < ps.length := Nat.mod_lt _ l1
      refine tv_ixL (x := ps.getD (x % ps.length) p0) (tv_v rfl (hu2.mo g3)) (i := ((x % ps.length : Nat) : Int)) ((tv_opI (tv_int (tv_v rfl hvx.nI)) (tv_lenL (tv_v rfl (hu2.mo g3))) (show (0 : Int) < (ps.length : Int) by omega)).eq (by rw [Int.natCast_emod])) (atI_nat ?_)
      rw [List.getD_eq_getElem?_getD, List.getElem?_eq_getElem hlt]
      rfl
    have hlen : (((List.range (m - 1)).map fun i => ps.getD (i % ps.length) p0) ++ [ul]).length = m := by
      rw [List.length_append, List.length_map, List.length_range, List.length_singleton]
      omega
    generalize ((List.range (m - 1)).map fun i => ps.getD (i % ps.length) p0) ++ [ul] = ls at h3 hlen
    have h3 : Has (qLs (qPln K)) G3 v3 ls := h3
    have hu3 := hu2.mo g3
    have hv3 := hv2.mo g3
    have h13 := (h1.mo g2).mo g3
    have h23 := h2.mo g3
    refine st_ret (r := qL K (qP K (qL K (qPln K)) (qDp K))) (x := [([], .tuple [.str "NoHelper"]), (ls, .tuple [.str "BadCount", .int (m : Int), .int 1, .int 5]), (ps.take c ++ [ul] ++ (ps.drop c).take (4 - c), .tuple [.str "Mismatch"])]) w3
      (tv_lstE (n := 3) (ta_e (tv_pair (tv_Ls tv_lst0) (tv_tupD (n := 1) (ta_e (tv_Dp tv_s) ta_e0) (by decide)))
        (ta_e (tv_pair (tv_Ls (tv_v rfl h3)) (tv_tupD (n := 4) (ta_e (tv_Dp tv_s) (ta_e (tv_Dp (tv_v rfl h23.nI)) (ta_e (tv_Dp tv_i) (ta_e (tv_Dp tv_i) ta_e0)))) (by decide)))
        (ta_e (tv_pair (tv_Ls ?_) (tv_tupD (n := 1) (ta_e (tv_Dp tv_s) ta_e0) (by decide))) ta_e0))) (by decide)) fun v H' s hv => k v H' _ (((s1.trans s2).trans (Sb.of s3)).trans (Sb.of s)) ((st2.on s3).on s) ⟨rfl, fun l hl => ?_⟩ hv
    · have e1 : cutG ps none (some (c : Int)) = ps.take c := cut_to
      have e2 : cutG ps (some (c : Int)) (some ((4 : Nat) : Int)) = (ps.drop c).take (4 - c) := cut_mid
      rw [← e1, ← e2]
      refine tv_cat (tv_cat (tv_sliceLs (tv_v rfl hu3) to_none (to_some (tv_v rfl h13.nI))) (tv_lst1 (tv_v rfl hv3)) ?_) (tv_sliceLs (tv_v rfl hu3) (to_some (tv_v rfl h13.nI)) (to_some tv_i)) ?_
      · rw [e1, List.length_take]
        show min c ps.length + 1 < 10000
        omega
      · rw [e1, e2, List.length_append, List.length_take, List.length_take, List.length_drop]
        show min c ps.length + 1 + _ < 10000
        omega
    · simp only [List.mem_cons, List.not_mem_nil, or_false] at hl
      rcases hl with e | e | e
      · rw [e]; exact .no
      · rw [e]
        show Wrong ls (.tuple [.str "BadCount", .int (m : Int), .int 1, .int 5])
        rw [← hlen]
        exact .long (by omega) (by omega)
      · rw [e]; exact wrong_mid hc l1 hps hul
end
end Nb
set_option Elab.async false
set_option linter.all false
set_option maxRecDepth 100000
set_option maxHeartbeats 4000000
namespace Nb
open PySem L2
open PyProof.Rows (envOfC)
theorem acc_qiV {G : Hp} {acc : List V} {ns : List Int} (h : Paired (qI G) acc ns) : acc = ns.map V.int := by
  induction h with
  | nil => rfl
  | cons h _ ih => rw [show _ = V.int _ from h, ih]; rfl
theorem tv_lstS {α : Type} {O : List Addr} {σ : St} {G : Hp} {q : Rl α} {t : TA} {xs : List α} {n : Nat} [Mo q] (h : Ta O t σ G (raE q n) xs) (hn : n ≤ 1000) : Tv O (tLst t) σ G (qLs q) xs := fun H w Q k =>
  h H w _ fun vs H1 s1 hh => by
    have w1 := w.same s1
    refine ⟨by rw [show vs.length = n by rw [Paired.len hh.1, hh.2], sizeLine_eq]; omega, fun p hp => ?_⟩
    have n2 := same_new (o := HO.lst vs) hp
    exact k _ _ (s1.trans n2) ⟨p, vs, rfl, wo_new w1.dm hp, paired_mono (fun _ _ z => Mo.mo (same_wo n2) z) hh.1⟩
/-- the made store -/
theorem sto_of {G H : Hp} {v : V} {xs : List Int} (h : qLs qI G v ([5, 0, 1 + (xs.length : Int), 0, 0] ++ xs)) (s : Same G H) (hl : xs.length ≤ 63) : ∃ a, v = .ref a ∧ Sto H a := by
  obtain ⟨a, acc, e, ha, p⟩ := h
  rw [acc_qiV p] at ha
  exact ⟨a, e, 5, 0, 1 + (xs.length : Int), 0, 0, xs, s _ _ ha, by decide, by decide, by omega, by omega, hl⟩
section
variable {P : Program} {w : World} {K : PySem.W.Frag} {mg : PySem.Str → Option Value} {base : Heap}
theorem sc__law_store : FnScope n__law_store ["_law_script"] (defScope s__law_store) := ⟨rfl, rfl, rfl, by decide +kernel, rfl, by decide +kernel, by decide +kernel⟩
theorem ok__law_store (T : Ctx P w K mg base) : Pro P w K mg base "_law_store" ["_law_script"] 1 (spP (raC (qL K qI) raN) (fun x => x.1.length ≤ 63) (qLs qI) fun x => [5, 0, 1 + (x.1.length : Int), 0, 0] ++ x.1) := by
  refine mk_pro T.d__law_store (fun _ _ _ _ _ _ us hl => match us, hl with | [_], _ => rfl) fun f fd F => ?_
  refine def1 F sc__law_store rfl fun cdv A outer s H E O G 
    u xs hr wd hu hp Q k => ⟨_, (pss_one (ps_ret (pe_op op_cat (pe_lst (pa_cons pe_int (pa_cons pe_int (pa_cons (pe_op op_add pe_int (c_len (K := K) rfl T.n_len (pa_cons (pv 0) pa_nil))) (pa_cons pe_int (pa_cons pe_int pa_nil)))))) (pe_lc (own := [("_law_cell", 1)]) (g := (gName 1)) (tt := tYes) rfl sc__law_store.nd (piL (K := K) rfl (pv 0)) (blkOk_by (own := [("_law_cell", 1)]) (N := n__law_store) (sc := defScope s__law_store) (by decide +kernel)) (fun _ _ _ _ _ => (pg_name (i := 1) sc__law_store.nd rfl (by first | exact Or.inl rfl | exact Or.inr rfl))) (fun _ _ _ _ _ => pts_nil) (fun _ _ _ _ _ => (c_int (K := K) rfl T.n_int (pa_cons (pv 1) pa_nil))))))), ?_⟩
  have hp : xs.length ≤ 63 := hp
  refine st_ret (r := qLs qI) (x := [5, 0, 1 + (xs.length : Int), 0, 0] ++ xs) wd (tv_cat (q := qI) ?_ (Tv.eq (tv_mapS (f := fun x : Int => x) (it_list (tv_v rfl hu)) tg1 (own1 (by decide)) (by omega) fun D i x G1 σ2 hx g1 ⟨vx, ex, hvx⟩ => ?_) (List.map_id' _)) (by show 5 + xs.length < 10000; omega)) fun v H' s hv => k v H' s hv
  · refine tv_lstS (n := 5) (ta_e tv_i (ta_e tv_i (ta_e (tv_opJ tv_i (tv_lenL (tv_v rfl hu))) (ta_e tv_i (ta_e tv_i ta_e0))))) (by decide)
  · subst ex
    exact tv_int (tv_v rfl hvx)
end
end Nb
set_option Elab.async false
set_option linter.all false
set_option maxRecDepth 100000
set_option maxHeartbeats 2000000
namespace Nb
open PySem PySem.Spec PyProof.Rows L2
/-! ### a try with many clauses, some of them naming the exception; all that the body raises is caught -/
/-- a clause: its class, its name's slot, what its suite asks -/
structure Cl where
  c : Value
  i : Option Nat
  ts : Addr → Value → Option Addr → TS
def offN (D : Ends) : Option Nat → Ends
  | none => D
  | some i => { nx := fun σ H => D.nx (σ.set i none) H, rt := D.rt, bk := fun σ H => D.bk (σ.set i none) H, ct := fun σ H => D.ct (σ.set i none) H }
def onN (a : Addr) (σ : L2.St) : Option Nat → L2.St
  | none => σ
  | some i => σ.set i (some (.ref a))
def wCl (K : PySem.W.Frag) (D : Ends) : List Cl → WX
  | [] => fun _ _ _ _ => False
  | k :: r => fun cls d σ H => ∃ b, PySem.W.exmOne K cls k.c = some b ∧ (b = true → ∀ a, H a = none → k.ts a cls d (offN D k.i) (onN a σ k.i) H) ∧ (b = false → wCl K D r cls d σ H)
def NmOk (X : Cx) : Option PySem.Str → Option Nat → Prop
  | none, none => True
  | some n, some i => X.N.Nodup ∧ X.N[i]? = some n ∧ X.env.kindOf n = some .local
  | _, _ => False
inductive ClsOk (X : Cx) : List ExceptHandler → List Cl → Prop
  | nil : ClsOk X [] []
  | cons {x : PySem.Str} {nm : Option PySem.Str} {k : Cl} {b₀ : Stmt} {suite : List Stmt} {np p : Pos} {hds : List ExceptHandler} {l : List Cl} (hc : Names X x k.c) (hn : NmOk X nm k.i)
      (hsu : ∀ (a : Addr) (oe : Obj) (cls : Value) (d : Option Addr) (pn : List (Addr × Obj)), Zc cls d oe → (∃ vs, oe.data = .fields vs) → PSs (X.suite a ((a, oe) :: pn)) (b₀ :: suite) (k.ts a cls d)) (r : ClsOk X hds l) :
      ClsOk X (.ExceptHandler (some (.Name x np)) nm (b₀ :: suite) p :: hds) (k :: l)
/-- the exception at a stands on the ground of X's frame, over the state s0 without it -/
structure Down (X : Cx) (pins : List (Addr × Obj)) (B : Heap) (a : Addr) (cls : Value) (d : Option Addr) (s0 : Shared) (σ : L2.St) (H : Hp) (s : Shared) : Prop where
  fl : HandSPX.FlyingZ B (X.env :: X.outer) a (Zc cls d) s.heap
  J : Inv X pins σ H s0
  nb : ∀ b o, s0.heap.get? b = some o → b ∉ frs X.stack → B.get? b = some o
  up : s0.heap.UpToSlots s.heap
  na : H a = none
  os : s.os = s0.os
  ag : AllBare s.gens
section
variable {X : Cx} {pins : List (Addr × Obj)} {B : Heap} {a : Addr} {cls : Value} {d : Option Addr} {s0 s : Shared} {σ : L2.St} {H : Hp}
theorem Down.inv (D : Down X pins B a cls d s0 σ H s) : Inv X pins σ H s := D.J.landed D.nb D.fl.1 D.up D.os D.ag
theorem Down.obj (D : Down X pins B a cls d s0 σ H s) (hf : X.env.frame = some X.env.locals) :
    ∃ oe vs, s.heap.get? a = some oe ∧ Zc cls d oe ∧ oe.data = .fields vs ∧ a ≠ X.env.locals ∧ a ∉ X.fs := by
  obtain ⟨oe, vs, e, z, q⟩ := D.fl.there
  have out : a ∉ frs (X.env :: X.outer) := fun m => by
    obtain ⟨_, o2, e2, no⟩ := D.fl.2.2.1.mem m
    rw [e] at e2
    cases e2
    exact no _ q
  refine ⟨oe, vs, e, z, q, fun w => out ?_, fun m => ?_⟩
  · exact List.mem_filterMap.mpr ⟨X.env, List.mem_cons_self, by rw [hf, w]⟩
  · obtain ⟨u, hu, r⟩ := List.mem_filterMap.mp m
    exact out (List.mem_filterMap.mpr ⟨u, List.mem_cons_of_mem _ hu, r⟩)
/-- the suite's flow, seen from outside -/
theorem suite_sp {oe : Obj} {D : Ends} {f : Flow} {t : Shared} (ok : X.Ok) (h : SP (X.suite a ((a, oe) :: (X.pn ++ pins))) [] D f t) : SP X pins D f t := by
  cases f with
  | next => exact let ⟨_, _, J, q⟩ := h; ⟨_, _, J.unsuite ok, q⟩
  | brk => exact let ⟨_, _, J, q⟩ := h; ⟨_, _, J.unsuite ok, q⟩
  | cont => exact let ⟨_, _, J, q⟩ := h; ⟨_, _, J.unsuite ok, q⟩
  | ret u => exact let ⟨_, _, _, J, r, q⟩ := h; ⟨_, _, _, J.unsuite ok, r, q⟩
theorem gone_sp {D : Ends} {n : PySem.Str} {i : Nat} {f : Flow} {t : Shared} {p : Pos} (hN : X.N.Nodup) (hi : X.N[i]? = some n) (hl : X.env.kindOf n = some .local) (h : SP X pins (offN D (some i)) f t) :
    wpAny (model X.prog X.w) X.A (do bindName X.env n .none; unbindBehindTheSuite X.env n p) (fun _ t' => SP X pins D f t') X.xe t := by
  cases f with
  | next => exact let ⟨_, _, J, q⟩ := h; gone_ok J hN hi hl fun _ J' => ⟨_, _, J', q⟩
  | brk => exact let ⟨_, _, J, q⟩ := h; gone_ok J hN hi hl fun _ J' => ⟨_, _, J', q⟩
  | cont => exact let ⟨_, _, J, q⟩ := h; gone_ok J hN hi hl fun _ J' => ⟨_, _, J', q⟩
  | ret u => exact let ⟨_, _, _, J, r, q⟩ := h; gone_ok J hN hi hl fun _ J' => ⟨_, _, _, J', r, q⟩
/-- the clause's class, as a test -/
theorem Down.test (D : Down X pins B a cls d s0 σ H s) (hf : X.env.frame = some X.env.locals) {x : PySem.Str} {c : Value} {np : Pos} {b : Bool} (hc : Names X x c) (hb : PySem.W.exmOne X.K cls c = some b) {E1 : Value → Shared → Prop} {R : Bool → Shared → Prop} {E2 : Value → Shared → Prop}
    (q : R b s) : wpAny (model X.prog X.w) (X.A.mark (some (.ref a))) (eval (.Name x np) X.env) (fun v t => wpAny (model X.prog X.w) (X.A.mark (some (.ref a))) (excMatches (.ref a) v) R E2 t) E1 s := by
  obtain ⟨oe, vs, e, z, qd, nL, nF⟩ := D.obj hf
  have S := D.inv.suite e qd D.na nL nF
  have ty : PySem.W.Looks (model X.prog X.w) s.heap (typeOf (.ref a)) cls := fun _ _ _ _ k r => wpAny_typeOf_ref (k _ _ e) (by rw [z.1]; exact r)
  have go := (PySem.W.exm_one (M := model X.prog X.w) D.inv.kIn ty hb)
  obtain ⟨hg, hdb, hm | ⟨hm, hv, hnn⟩⟩ := hc
  · exact ld_glob (X := X.suite a ((a, oe) :: (X.pn ++ pins))) S hg hm (go.here q) hdb
  · exact ld_blt (X := X.suite a ((a, oe) :: (X.pn ++ pins))) S hg hm hv (go.here q) hnn hdb
theorem Down.caught {D : Ends} (hf : X.env.frame = some X.env.locals) {hds : List ExceptHandler} {l : List Cl} (hk : ClsOk X hds l) (dn : Down X pins B a cls d s0 σ H s) (w : wCl X.K D l cls d σ H) :
    wpAny (model X.prog X.w) X.A (handleBy (.ref a) X.env hds) (SP X pins D) X.xe s := by
  induction hk with
  | nil => exact w.elim
  | @cons x nm k b₀ suite np p hds2 l2 hc hn hsu r ih =>
    obtain ⟨c, i, ts⟩ := k
    obtain ⟨b, hb, hyes, hno⟩ := w
    have ok := dn.J.ok
    -- the flight is at rest, the suite's own state
    have enter : ∀ {E : Value → Shared → Prop} {Q : Unit → Shared → Prop}, (∀ t oe, Zc cls d oe → (∃ vs, oe.data = .fields vs) → Inv (X.suite a ((a, oe) :: (X.pn ++ pins))) [] σ H t → Q () t) → wpAny (model X.prog X.w) (X.A.mark (some (.ref a))) (setFlight (.ref a) none) Q E s := fun {E Q} h =>
      HandSPX.lands_againZ dn.fl fun h4 fl4 up4 => by
        have d4 : Down X pins B a cls d s0 σ H { s with heap := h4 } := ⟨fl4, dn.J, dn.nb, dn.up.trans up4, dn.na, dn.os, dn.ag⟩
        obtain ⟨oe, vs, e, z, qd, nL, nF⟩ := d4.obj hf
        exact h _ oe z ⟨vs, qd⟩ (d4.inv.suite e qd d4.na nL nF)
    refine wpAny_handleBy_cons (codeAny_handlers_test (dn.test hf hc hb ?_)) (by intro q; cases q)
    cases b with
    | false => exact ih (hno rfl)
    | true =>
      have hy := hyes rfl a dn.na
      cases nm with
      | none =>
        cases i with
        | some i => exact hn.elim
        | none =>
          refine codeAny_handlers_suite (enter fun t oe z f S => ?_)
          refine wpAny_mono ((hsu a oe cls d (X.pn ++ pins) z f).run [] _ _ H _ S hy) (fun fl t2 q => ?_) fun _ _ q => False.elim q
          exact suite_sp ok q
      | some n =>
        cases i with
        | none => exact hn.elim
        | some i =>
          obtain ⟨hN, hi, hl⟩ := hn
          refine codeAny_handlers_suite_as (enter fun t oe z f S => ?_)
          refine store_ok (X := X.suite a ((a, oe) :: (X.pn ++ pins))) (v := .ref a) S hN hi (.inl hl) rfl (fun t1 S1 => ?_) (.inr hl)
          refine wpAny_mono ((hsu a oe cls d (X.pn ++ pins) z f).run [] t1 _ H _ S1 hy) (fun fl t2 q => ?_) fun _ _ q => False.elim q
          exact gone_sp hN hi hl (suite_sp ok q)
/-- the rule -/
theorem ps_tryN {body : List Stmt} {h₀ : ExceptHandler} {hds : List ExceptHandler} {l : List Cl} {pos : Pos} {tb : WX → TS} (hs : X.stack = X.env :: X.outer) (hf : X.env.frame = some X.env.locals)
    (hb : ∀ (W : WX) (pn : List (Addr × Obj)) (xe : Value → Shared → Prop), Takes (X.tr pn xe) W → PSs (X.tr pn xe) body (tb W)) (hh : ClsOk X (h₀ :: hds) l) :
    PS X (.Try body (h₀ :: hds) [] [] pos) (fun D σ H => tb (wCl X.K D l) D σ H) := by
  refine ⟨fun pins s σ H D I h => wpAny_Try_except ?_⟩
  have ok := I.ok
  have T : Takes (X.tr (X.pn ++ pins) fun e t => wpAny (model X.prog X.w) X.A (noteFrame e X.env) (fun _ t1 => wpAny (model X.prog X.w) X.A (setFlight e none) (fun _ t2 => wpAny (model X.prog X.w) X.A (handleBy e X.env (h₀ :: hds)) (SP X pins D) X.xe t2) X.xe t1) X.xe t) (wCl X.K D l) := by
    rintro u t ⟨a, B, s0, pn2, σ2, H2, cls, d, rfl, J, nb, up, sky, na, os, ag, w⟩
    have J2 : Inv X pins σ2 H2 s0 := J.ofTry ok
    have fr : X.A.frames = some (X.env :: X.outer) := ok.frames.trans (by rw [hs])
    have sky2 : Sky B (X.env :: X.outer) a (Zc cls d) X.env.locals t.heap := hs ▸ sky
    refine Sky.land Zc.steady fr hf sky2 fun h3 fl3 up3 => ?_
    exact Down.caught hf hh (s := { t with heap := h3 }) ⟨fl3, J2, nb, up.trans up3, na, os, ag⟩ w
  refine wpAny_mono ((hb _ _ _ T).run [] s σ H D (I.toTry _) h) (fun f t q => ?_) fun _ _ z => z
  cases f with
  | next => exact let ⟨_, _, J, r⟩ := q; wpAny_execs_nil ⟨_, _, J.ofTry ok, r⟩
  | brk => exact let ⟨_, _, J, r⟩ := q; ⟨_, _, J.ofTry ok, r⟩
  | cont => exact let ⟨_, _, J, r⟩ := q; ⟨_, _, J.ofTry ok, r⟩
  | ret u => exact let ⟨_, _, _, J, r, z⟩ := q; ⟨_, _, _, J.ofTry ok, r, z⟩
end
end Nb
set_option Elab.async false
set_option linter.all false
set_option maxRecDepth 100000
set_option maxHeartbeats 4000000
namespace Nb
open PySem L2
open PyProof.Rows (envOfC)
/-! ### errors -/
inductive Er
  | no
  | mis
  | bad (d : PyData) (lo hi : Int)
/-- the error e in the air: its class, its dict -/
def ErP (K : PySem.W.Frag) : Er → Hp → Value → Option Addr → Prop
  | .no => fun _ cls _ => cls = .ref (He.ga K "NoHelper")
  | .mis => fun _ cls _ => cls = .ref (He.ga K "Mismatch")
  | .bad d lo hi => fun G cls dx => cls = .ref (He.ga K "BadCount") ∧ ∃ (x : Addr) (v : V), dx = some x ∧ G x = some (.xd [("high", .int hi), ("low", .int lo), ("found", v)]) ∧ Dp K G v d
theorem ErP.mo {K : PySem.W.Frag} {e : Er} {G G' : Hp} {cls : Value} {dx : Option Addr} (s : Same G G') (h : ErP K e G cls dx) : ErP K e G' cls dx := by
  cases e with
  | no => exact h
  | mis => exact h
  | bad d lo hi => exact let ⟨h1, x, v, h2, h3, h4⟩ := h; ⟨h1, x, v, h2, s _ _ h3, dp_mo s h4⟩
/-- as the law tells it -/
def erD : Er → PyData
  | .no => .tuple [.str "NoHelper"]
  | .mis => .tuple [.str "Mismatch"]
  | .bad d lo hi => .tuple [.str "BadCount", d, .int lo, .int hi]
/-- what the top has written of the errors' classes -/
structure CtxE (K : PySem.W.Frag) : Prop where
  oB : OexC K (He.ga K "BadCount")
  iB : ∃ fI fd, PySem.W.findIn K (.ref (He.ga K "BadCount")) "__init__" = some (some (.ref fI)) ∧ PySem.W.typeIn K (.ref fI) = some (.type "function") ∧ FunD K "__init__" "BadCount.__init__" (defArgs s_BadCount___init__) (defBody s_BadCount___init__) (defScope s_BadCount___init__) [] [] fI fd
  nB : ∀ f ∈ (["found", "low", "high"] : List PySem.Str), PySem.W.findIn K (.ref (He.ga K "BadCount")) f = some none
  xB : XfC K (He.ga K "BadCount")
  xN : PySem.W.excIn K (He.ga K "NoHelper") [.type "ValueError", .type "Exception", .type "BaseException", .type "object"] "ValueError.__new__" = true
  xM : PySem.W.excIn K (He.ga K "Mismatch") [.type "ValueError", .type "Exception", .type "BaseException", .type "object"] "ValueError.__new__" = true
  kN : PySem.W.keepIn K (.ref (He.ga K "NoHelper")) = true
  kM : PySem.W.keepIn K (.ref (He.ga K "Mismatch")) = true
  bN : PySem.W.subIn K (.ref (He.ga K "NoHelper")) (.type "BaseException") = some true
  bM : PySem.W.subIn K (.ref (He.ga K "Mismatch")) (.type "BaseException") = some true
  tN : PySem.W.typeIn K (.ref (He.ga K "NoHelper")) = some (.type "type")
  tM : PySem.W.typeIn K (.ref (He.ga K "Mismatch")) = some (.type "type")
  eBB : PySem.W.exmOne K (.ref (He.ga K "BadCount")) (.ref (He.ga K "BadCount")) = some true
  eNB : PySem.W.exmOne K (.ref (He.ga K "NoHelper")) (.ref (He.ga K "BadCount")) = some false
  eNN : PySem.W.exmOne K (.ref (He.ga K "NoHelper")) (.ref (He.ga K "NoHelper")) = some true
  eMB : PySem.W.exmOne K (.ref (He.ga K "Mismatch")) (.ref (He.ga K "BadCount")) = some false
  eMN : PySem.W.exmOne K (.ref (He.ga K "Mismatch")) (.ref (He.ga K "NoHelper")) = some false
  eMM : PySem.W.exmOne K (.ref (He.ga K "Mismatch")) (.ref (He.ga K "Mismatch")) = some true
/-! ### promises of defs that may raise -/
def spX {α β : Type} (K : PySem.W.Frag) (ra : RA α) (pr : α → Prop) (r : Rl β) (f : α → Except Er β) : Sp := fun vs H Q E =>
  ∃ (O : List Addr) (x : α), Dom O H ∧ ra (wo H O) vs x ∧ pr x ∧ (∀ y, f x = .ok y → ∀ v H', Same H H' → r (wo H' O) v y → Q v H') ∧ ∀ e, f x = .error e → ∀ cls dx H', Same H H' → ErP K e (wo H' O) cls dx → E cls dx H'
structure ProX (P : Program) (w : World) (K : PySem.W.Frag) (mg : PySem.Str → Option Value) (base : Heap) (x : PySem.Str) (ps : List PySem.Str) (k : Nat) (sp : Sp) : Prop where
  ex : ∃ (f : Addr) (fd : FuncData), mg x = some (.ref f) ∧ PySem.W.keepIn K (.ref f) = true ∧ Binds K fd ps [] ∧ FnOk P w K mg base (L2.CX P w) k f fd ps sp
structure ProXK (P : Program) (w : World) (K : PySem.W.Frag) (mg : PySem.Str → Option Value) (base : Heap) (x : PySem.Str) (ps : List PySem.Str) (n : Nat) (ks : List PySem.Str) (k : Nat) (sp : Sp) : Prop where
  ex : ∃ (f : Addr) (fd : FuncData), mg x = some (.ref f) ∧ PySem.W.keepIn K (.ref f) = true ∧ KBn K fd ps n ks (fun us ws => us ++ ws) (fun vs zs => vs ++ zs) ∧ FnOk P w K mg base (L2.CX P w) k f fd ps sp
/-- the body's context -/
abbrev Xx (P : Program) (w : World) (K : PySem.W.Frag) (mg : PySem.Str → Option Value) (base : Heap) (N : List PySem.Str) (qual : PySem.Str) (scope : Scope) (f : Addr) (cdv : Value) (A : Around) (outer : List Env) (s : Shared) (H : Hp) (E : XK) : Cx :=
  cxOf (L2.CX P w) P w K mg base N qual scope f cdv A outer s H E
section
variable {P : Program} {w : World} {K : PySem.W.Frag} {mg : PySem.Str → Option Value} {base : Heap} {x qual name : PySem.Str} {params : Arguments} {body : List Stmt} {scope : Scope} {dvs : List V} {kws : List (PySem.Str × V)} {f : Addr} {fd : FuncData} {N ps ks : List PySem.Str} {k n : Nat} {sp : Sp} {cdv : Value} {A : Around} {outer : List Env} {s : Shared} {H : Hp} {E : XK} {st : Stmt}
theorem tkX : L2.Takes (Xx P w K mg base N qual scope f cdv A outer s H E) (fun cls d _ H' => E cls d H') := takes_of rfl rfl rfl rfl
theorem mk_proX (F : FnF K mg x name qual st kws)
    (hb : ∀ (kV doc pm : Value) (an : Option Addr) (cdv ct : Value) (us : List Value), us.length = ps.length → bindArgs (PySem.W.fnOf name qual (defArgs st) (defBody st) (defScope st) .none kV doc pm an cdv ct) ⟨us, []⟩ = pure (ps.zip us))
    (h : ∀ f fd, FunD K name qual (defArgs st) (defBody st) (defScope st) [] kws f fd → FnOk P w K mg base (L2.CX P w) k f fd ps sp) : ProX P w K mg base x ps k sp := by
  obtain ⟨f, ⟨fd, F⟩, hg⟩ := F.ex
  exact ⟨f, fd, hg, F.kp, F.bindsN hb, h f fd F⟩
theorem mk_proXK (F : FnF K mg x name qual st kws)
    (hb : ∀ (kV doc pm : Value) (an : Option Addr) (cdv ct : Value) (us ws : List Value), us.length = n → ws.length = ks.length → bindArgs (PySem.W.fnOf name qual (defArgs st) (defBody st) (defScope st) .none kV doc pm an cdv ct) ⟨us, ks.zip ws⟩ = pure (ps.zip (us ++ ws)))
    (h : ∀ f fd, FunD K name qual (defArgs st) (defBody st) (defScope st) [] kws f fd → FnOk P w K mg base (L2.CX P w) k f fd ps sp) : ProXK P w K mg base x ps n ks k sp := by
  obtain ⟨f, ⟨fd, F⟩, hg⟩ := F.ex
  refine ⟨f, fd, hg, F.kp, ⟨fun s us ws _ h1 h2 => ?_, fun a b => a.append b⟩, h f fd F⟩
  obtain ⟨_, _, dV, kV, doc, pm, an, cdv, ct, _, rfl, _, _, ⟨_, rfl⟩ | ⟨filled, _⟩, _⟩ := F.ex
  · exact BindsTo.of_eq (hb kV doc pm an cdv ct us ws h1 h2)
  · exact absurd rfl filled
theorem def_X {α β : Type} {ra : RA α} {pr : α → Prop} {r : Rl β} {g : α → Except Er β} {n : Nat} [LenA ra n] (F : FunD K x qual params body scope dvs kws f fd) (S : FnScope N ps scope) (hn : ps.length = n)
    (hbody : ∀ (cdv : Value) (A : Around) (outer : List Env) (s : Shared) (H : Hp) (E : XK) (O : List Addr) (G : Hp) (vs : List V) (a : α), Room k (A.deeper (envOfC qual scope s.heap.objs.size f cdv)) → Wd O G H → ra G vs a → pr a →
      ∀ Q : VK, (∀ y, g a = .ok y → ∀ v H', Same H H' → r (wo H' O) v y → Q v H') → (∀ e, g a = .error e → ∀ cls dx H', Same H H' → ErP K e (wo H' O) cls dx → E cls dx H') →
      ∃ t, PSs (Xx P w K mg base N qual scope f cdv A outer s H E) body t ∧ t { nx := fun _ H' => Q .non H', rt := Q } (start N vs) H) :
    FnOk P w K mg base (L2.CX P w) (k + 1) f fd ps (spX K ra pr r g) := by
  refine F.ok S (fun vs H Q E h => ?_) (fun cdv A outer s H vs Q E hr h => ?_)
  · obtain ⟨O, a, _, h, _⟩ := h
    rw [LenA.len _ _ _ h, hn]
  · obtain ⟨O, a, d, h, hp, q, qe⟩ := h
    exact hbody cdv A outer s H E O _ vs a hr (Wd.here d) h hp Q q qe
end
section
variable {X : Cx} {W : WX} {E : XK} {K : PySem.W.Frag} {x : PySem.Str} {p pos : Pos} {e : Expr} {es : List Expr} {kws : List Keyword} {t tk : TA} {ps ks : List PySem.Str} {j k n : Nat} {sp : Sp}
theorem pe_clX {P : Program} {w : World} {mg : PySem.Str → Option Value} {base : Heap} (C : ProX P w K mg base x ps j sp) (hr : Room k X.A) (T : L2.Takes X W) (hW : ∀ cls d σ H, E cls d H → W cls d σ H) (ha : PA X (e :: es) t) (hj : j ≤ k := by decide) (hP : X.prog = P := by rfl) (hw : X.w = w := by rfl) (hK : X.K = K := by rfl) (hM : X.mg = mg := by rfl) (hB : X.base = base := by rfl) (hg : Gl X x := by rfl) (hdb : (x == ("__debug__" : PySem.Str)) = false := by decide)
    (he : starEach (e :: es) X.env = (false, eval e X.env) :: starEach es X.env := by rfl) (hpl : (backTo pos (starEach es X.env)).any (·.1) = false := by rfl) : PE X (.Call (.Name x p) (e :: es) [] pos) (tCall sp [] E t) := by
  subst hP hw hK hM hB
  obtain ⟨f, fd, hm, hk, hb, F⟩ := C.ex
  exact pe_call F (hr.mono hj) hg hm hk hb .nil (passes_call T hW) ha hdb he hpl
theorem pe_clXK {P : Program} {w : World} {mg : PySem.Str → Option Value} {base : Heap} (C : ProXK P w K mg base x ps n ks j sp) (hr : Room k X.A) (T : L2.Takes X W) (hW : ∀ cls d σ H, E cls d H → W cls d σ H) (ha : PA X (e :: es) t) (hkw : PK X kws tk) (hj : j ≤ k := by decide) (hP : X.prog = P := by rfl) (hw : X.w = w := by rfl) (hK : X.K = K := by rfl) (hM : X.mg = mg := by rfl) (hB : X.base = base := by rfl) (hg : Gl X x := by rfl)
    (hall : (backToKw pos (keywordEach kws X.env)).all (·.1.isSome) = true := by rfl) (hks : (backToKw pos (keywordEach kws X.env)).filterMap (·.1) = ks := by rfl)
    (hdb : (x == ("__debug__" : PySem.Str)) = false := by decide) (he : starEach (e :: es) X.env = (false, eval e X.env) :: starEach es X.env := by rfl)
    (hpl : ((backTo pos (starEach (e :: es) X.env)).any (·.1) || (backToKw pos (keywordEach kws X.env)).any (·.1.isNone)) = false := by rfl) : PE X (.Call (.Name x p) (e :: es) kws pos) (tCallN n ks.length sp (fun vs zs => vs ++ zs) E t tk) := by
  subst hP hw hK hM hB
  obtain ⟨f, fd, hm, hk, hb, F⟩ := C.ex
  exact pe_callN F (hr.mono hj) hg hm hk hb (passes_call T hW) ha hkw hall hks hdb he hpl
end
/-! readings -/
/-- an expression that raises e -/
def Tr (K : PySem.W.Frag) (O : List Addr) (te : TE) (σ : St) (G : Hp) (E : XK) (e : Er) : Prop := ∀ H, Wd O G H → ∀ Q : VK, (∀ cls dx H', Same H H' → ErP K e (wo H' O) cls dx → E cls dx H') → te σ H Q
section
variable {α β γ : Type} {O : List Addr} {σ : St} {G H : Hp} {r : Rl α} {q : Rl β} {K : PySem.W.Frag} {E : XK} {t : TA} {ra : RA α} {x : α} {y : β} {pr : α → Prop} {f : α → Except Er β} {e : Er} {D : Ends} {t2 : TS} {te : TE}
theorem tr_call (h : Ta O t σ G ra x) (p : pr x) (hf : f x = .error e) : Tr K O (tCall (spX K ra pr q f) [] E t) σ G E e := fun H w Q k =>
  h H w _ fun vs H1 s1 h1 => by
    show spX K ra pr q f (vs ++ []) H1 Q E
    rw [List.append_nil]
    refine ⟨O, x, (w.same s1).dm, h1, p, fun y hy => ?_, fun e' he cls dx H2 s2 z => ?_⟩
    · rw [hf] at hy
      cases hy
    · rw [hf] at he
      cases he
      exact k cls dx H2 (s1.trans s2) z
theorem tv_callX (h : Ta O t σ G ra x) (p : pr x) (hf : f x = .ok y) : Tv O (tCall (spX K ra pr q f) [] E t) σ G q y := fun H w Q k =>
  h H w _ fun vs H1 s1 h1 => by
    show spX K ra pr q f (vs ++ []) H1 Q E
    rw [List.append_nil]
    refine ⟨O, x, (w.same s1).dm, h1, p, fun y' hy v H2 s2 z => ?_, fun e' he => ?_⟩
    · rw [hf] at hy
      cases hy
      exact k v H2 (s1.trans s2) z
    · rw [hf] at he
      cases he
theorem tr_callK {r1 : Rl α} {r2 : Rl γ} {t1 tk : TE} {c : γ} {pr : α × γ × Unit → Prop} {f : α × γ × Unit → Except Er β} [Mo r1] (h1 : Tv O t1 σ G r1 x) (h2 : Tv O tk σ G r2 c) (p : pr (x, c, ())) (hf : f (x, c, ()) = .error e) :
    Tr K O (tCallN 1 1 (spX K (raC r1 (raC r2 raN)) pr q f) (fun vs zs => vs ++ zs) E (tCons t1 tNil) (tCons tk tNil)) σ G E e := fun H w Q k =>
  h1 H w _ fun v H1 s1 e1 => h2 H1 (w.same s1) _ fun u H2 s2 e2 =>
    ⟨rfl, rfl, O, (x, c, ()), ((w.same s1).same s2).dm, ⟨v, [u], rfl, Mo.mo (same_wo s2) e1, u, [], rfl, e2, rfl⟩, p, (fun y hy => by rw [hf] at hy; cases hy), fun e' he cls dx H3 s3 z => by
      rw [hf] at he
      cases he
      exact k cls dx H3 ((s1.trans s2).trans s3) z⟩
theorem st_dropR (w : Wd O G H) (h : Tr K O te σ G E e) (k : ∀ cls dx H', Same H H' → ErP K e (wo H' O) cls dx → E cls dx H') : tSeq (tDrop te) t2 D σ H := h H w _ k
theorem st_dropRL (w : Wd O G H) (h : Tr K O te σ G E e) (k : ∀ cls dx H', Same H H' → ErP K e (wo H' O) cls dx → E cls dx H') : tDrop te D σ H := h H w _ k
theorem st_retR (w : Wd O G H) (h : Tr K O te σ G E e) (k : ∀ cls dx H', Same H H' → ErP K e (wo H' O) cls dx → E cls dx H') : tRet te D σ H := h H w _ k
/-- an argument raises -/
theorem tr_arg {sp : Sp} {E2 : XK} {dvs : List V} {ta : TA} (h : Tr K O te σ G E e) : Tr K O (tCall sp dvs E2 (tCons te ta)) σ G E e := fun H w Q k => h H w _ k
/-! raise BadCount(found, low, high) -/
def spBI (C : Addr) : Sp := fun vs H Q _ => ∃ (a : Addr) (u v z : V), vs = [.ref a, u, v, z] ∧ H a = some (exo a C none) ∧
  ∀ dx H', H dx = none → dx ≠ a → (∀ b o, b ≠ a → H b = some o → H' b = some o) → H' a = some (exo a C (some dx)) → H' dx = some (exd dx [("high", z), ("low", v), ("found", u)]) → Q .non H'
theorem ho_bad {d : PyData} {lo hi : Int} {qd : Rl PyData} (hd : ∀ G v, qd G v d → Dp K G v d) [Mo qd] (w : Wd O G H) (h : Ta O t σ G (raC qd (raC qI (raC qI raN))) (d, lo, hi, ())) (k : ∀ cls dx H', Same H H' → ErP K (.bad d lo hi) (wo H' O) cls dx → E cls dx H') :
    tMkO (He.ga K "BadCount") (spBI (He.ga K "BadCount")) [] t σ H E := h H w _ fun vs H1 s1 hh => by
  obtain ⟨v1, v2, v3, rfl, h1, h2, h3⟩ := ra3 hh
  refine ⟨by simp, fun a ha => ⟨a, v1, v2, v3, rfl, upd_same, fun dx H2 hdx hne keep ea ed => ⟨rfl, dx, _, ea, ed, ?_, ?_⟩⟩⟩
  · rw [upd_ne hne] at hdx
    exact hdx
  · rw [upd_ne hne] at hdx
    have w1 := w.same s1
    have sm : Same H1 (upd (del H2 a) dx (.xd [("high", v3), ("low", v2), ("found", v1)])) := fun b o z => by
      have n1 := ne_of_none z ha
      rw [upd_ne (ne_of_none z hdx), del_ne n1]
      exact keep b o n1 (by rw [upd_ne n1]; exact z)
    refine k _ _ _ (s1.trans sm) ⟨rfl, dx, v1, rfl, ?_, hd _ _ (Mo.mo (same_wo sm) h1)⟩
    rw [wo_out (dom_new w1.dm hdx), upd_same, show v2 = _ from h2, show v3 = _ from h3]
end
section
variable {P : Program} {w : World} {K : PySem.W.Frag} {mg : PySem.Str → Option Value} {base : Heap}
theorem sc_BadCount___init__ : FnScope n_BadCount___init__ ["self", "found", "low", "high"] (defScope s_BadCount___init__) := ⟨rfl, rfl, rfl, by decide +kernel, rfl, by decide +kernel, by decide +kernel⟩
theorem ok_bad_init (TE : CtxE K) {f : Addr} {fd : FuncData} (F : FunD K "__init__" "BadCount.__init__" (defArgs s_BadCount___init__) (defBody s_BadCount___init__) (defScope s_BadCount___init__) [] [] f fd) : FnOk P w K mg base CX0 1 f fd ["self", "found", "low", "high"] (spBI (He.ga K "BadCount")) := by
  refine F.ok sc_BadCount___init__ (fun vs H Q E h => ?_) (fun cdv A outer s H vs Q E hr h => ⟨_, PSs.nox (pss_cons (ps_ost (pv 0) (pv 1)) (pss_cons (ps_ost (pv 0) (pv 2)) (pss_one (ps_ost (pv 0) (pv 3))))), ?_⟩)
  · obtain ⟨a, u, v, z, rfl, _⟩ := h
    rfl
  · obtain ⟨a, u, v, z, rfl, ea, k⟩ := h
    refine ⟨_, rfl, _, rfl, a, _, rfl, TE.oB, TE.nB _ (by simp), .inl ⟨ea, fun dx hdx hne => ?_⟩⟩
    refine ⟨_, rfl, _, rfl, a, _, rfl, TE.oB, TE.nB _ (by simp), .inr ⟨dx, _, upd_same, by rw [upd_ne hne]; exact upd_same, by simp, ?_⟩⟩
    refine ⟨_, rfl, _, rfl, a, _, rfl, TE.oB, TE.nB _ (by simp), .inr ⟨dx, _, by rw [upd_ne (Ne.symm hne)]; exact upd_same, upd_same, by simp, ?_⟩⟩
    refine k dx _ hdx hne (fun b o n1 hb => ?_) ?_ upd_same
    · have n2 := ne_of_none hb hdx
      rw [upd_ne n2, upd_ne n2, upd_ne n1, upd_ne n2]
      exact hb
    · rw [upd_ne (Ne.symm hne), upd_ne (Ne.symm hne), upd_same]
section
variable {X : Cx} {e1 e2 e3 : Expr} {ta : TA} {p pos : Pos} {k : Nat}
theorem mk_bad (T : Ctx P w K mg base) (TE : CtxE K) (hr : Room k X.A) (ha : PA X [e1, e2, e3] ta) (hk : 2 ≤ k := by decide) (hP : X.prog = P := by rfl) (hw : X.w = w := by rfl) (hK : X.K = K := by rfl) (hM : X.mg = mg := by rfl) (hB : X.base = base := by rfl) (hg : Gl X "BadCount" := by rfl)
    (he : starEach [e1, e2, e3] X.env = (false, eval e1 X.env) :: starEach [e2, e3] X.env := by rfl) (hpl : (backTo pos (starEach [e2, e3] X.env)).any (·.1) = false := by rfl) : PMk X (.Call (.Name "BadCount" p) [e1, e2, e3] [] pos) (tMkO (He.ga K "BadCount") (spBI (He.ga K "BadCount")) [] ta) := by
  subst hP hw hK hM hB
  obtain ⟨fI, fd, h1, h2, F⟩ := TE.iB
  exact pmk_oex TE.oB h1 h2 (ok_bad_init TE F) (hr.mono hk) (F.bindsN (fun _ _ _ _ _ _ us hl => match us, hl with | [_, _, _, _], _ => rfl)) .nil pass0 hg T.g_BadCount ha (by decide) he hpl
theorem mk_no {m : PySem.Str} {j : Nat} {p2 : Pos} (T : Ctx P w K mg base) (TE : CtxE K) (hK : X.K = K := by rfl) (hM : X.mg = mg := by rfl) (hg : Gl X "NoHelper" := by rfl) : PMk X (.Call (.Name "NoHelper" p) [.Constant (.str m) j p2] [] pos) (fun _ H Q => Q (.ref (He.ga K "NoHelper")) none H) := by
  subst hK hM
  exact pmk_own PySem.F.excBase_ValueError TE.xN T.g_NoHelper TE.kN (raises_own TE.bN TE.tN) hg
theorem mk_mis {m : PySem.Str} {j : Nat} {p2 : Pos} (T : Ctx P w K mg base) (TE : CtxE K) (hK : X.K = K := by rfl) (hM : X.mg = mg := by rfl) (hg : Gl X "Mismatch" := by rfl) : PMk X (.Call (.Name "Mismatch" p) [.Constant (.str m) j p2] [] pos) (fun _ H Q => Q (.ref (He.ga K "Mismatch")) none H) := by
  subst hK hM
  exact pmk_own PySem.F.excBase_ValueError TE.xM T.g_Mismatch TE.kM (raises_own TE.bM TE.tM) hg
end
end
end Nb
set_option Elab.async false
set_option linter.all false
set_option maxRecDepth 100000
set_option maxHeartbeats 4000000
namespace Nb
open PySem L2
open PyProof.Rows (envOfC)
def sameL (ps : List Pln) : Bool := ps.all fun p => decide ((hdP ps).n = p.n) && decide ((hdP ps).R = p.R)
/-- what check_group raises -/
def erG (ps : List Pln) : Option Er := if ps.length = 0 then some .no else if 5 < ps.length then some (.bad (.int (ps.length : Int)) 1 5) else if sameL ps = true then none else some .mis
def erE (o : Option Er) : Except Er Unit := match o with
  | none => .ok ()
  | some e => .error e
section
variable {P : Program} {w : World} {K : PySem.W.Frag} {mg : PySem.Str → Option Value} {base : Heap}
theorem ox_check_shapes_aid_stakes (T : Ctx P w K mg base) (TE : CtxE K) : ProX P w K mg base "check_shapes_aid_stakes" ["first", "second"] 4 (spX K (raC (qPln K) (raC (qPln K) raN)) (fun _ => True) qU fun x => if x.1.n = x.2.1.n ∧ x.1.R = x.2.1.R then .ok () else .error .mis) := by
  refine mk_proX T.d_check_shapes_aid_stakes (fun _ _ _ _ _ _ us hl => match us, hl with | [_, _], _ => rfl) fun f fd F => ?_
  refine def_X F sc_check_shapes_aid_stakes rfl fun cdv A outer s H E O G 
    vs a hr wd hra hp Q k ke => by
    obtain ⟨u, v, rfl, hu, hv⟩ := ra2 hra
    obtain ⟨a, b, _⟩ := a
    have hu : Has (qPln K) G u a := ⟨hu⟩
    have hv : Has (qPln K) G v b := ⟨hv⟩
    refine ⟨_, (pss_one (ps_if (pt_not (pt_val (pe_cl (ok_same_shape_aid_stakes T) hr (pa_cons (pv 0) (pa_cons (pv 1) pa_nil))))) (pss_one (ps_raise rfl tkX (mk_mis T TE))) pss_nil)), ?_⟩
    refine st_ifE wd (tt_not (tt_b (tv_call (ta_c (tv_v rfl hu) (ta_c (tv_v rfl hv) ta_n)) trivial))) (fun z H1 s1 w1 => ?_) (fun z H1 s1 w1 => ?_)
    · refine ke .mis ?_ _ _ _ s1 rfl
      have z : (!(decide (a.n = b.n) && decide (a.R = b.R))) = true := z
      refine if_neg fun h => ?_
      rw [decide_eq_true h.1, decide_eq_true h.2] at z
      cases z
    · refine k () ?_ _ _ s1 rfl
      have z : (!(decide (a.n = b.n) && decide (a.R = b.R))) = false := z
      refine if_pos ?_
      simpa using z
theorem ox_check_count_aid_stakes (T : Ctx P w K mg base) (TE : CtxE K) : ProX P w K mg base "check_count_aid_stakes" ["found", "low", "high"] 3 (spX K (raC (qDp K) (raC qI (raC qI raN))) (fun x => x.2.1 = 0 ∧ x.2.2.1 = 8 ∧ BadD x.1) qU fun x => .error (.bad x.1 x.2.1 x.2.2.1)) := by
  refine mk_proX T.d_check_count_aid_stakes (fun _ _ _ _ _ _ us hl => match us, hl with | [_, _, _], _ => rfl) fun f fd F => ?_
  refine def_X F sc_check_count_aid_stakes rfl fun cdv A outer s H E O G 
    vs a hr wd hra hp Q k ke => by
    obtain ⟨u, v, z, rfl, gu, gv, gz⟩ := ra3 hra
    obtain ⟨d, lo, hi, _⟩ := a
    obtain ⟨rfl, rfl, hb⟩ : lo = 0 ∧ hi = 8 ∧ BadD d := hp
    have hu : Has (qDp K) G u d := ⟨gu⟩
    have hv : Has qI G v 0 := ⟨gv⟩
    have hz : Has qI G z 8 := ⟨gz⟩
    clear gu gv gz
    refine ⟨_, (pss_one (ps_if (PW.pt (pw_or (pt_val (c_isinstance (K := K) rfl T.n_isinstance (pa_cons (pv 0) (pa_cons (peTy T.n_bool PyProof.Rows.boot_bool) pa_nil)))) (pw_or (pt_cmpR op_lt (pv 0) (pv 1) (nomark _)) (pw_or1 (pt_cmpR op_gt (pv 0) (pv 2) (nomark _)))))) (pss_one (ps_raise rfl tkX (mk_bad T TE hr (pa_cons (pv 0) (pa_cons (pv 1) (pa_cons (pv 2) pa_nil)))))) pss_nil)), ?_⟩
    have fin : ∀ H1, Same H H1 → Wd O G H1 → tMkO (He.ga K "BadCount") (spBI (He.ga K "BadCount")) [] (tCons (tVar 0) (tCons (tVar 1) (tCons (tVar 2) tNil))) [some u, some v, some z] H1 E := fun H1 s1 w1 =>
      ho_bad (qd := qDp K) (fun _ _ h => h) w1 (ta_c (tv_v rfl hu) (ta_c (tv_v rfl hv) (ta_c (tv_v rfl hz) ta_n))) fun cls dx H2 s2 hE => ke _ rfl cls dx H2 (s1.trans s2) hE
    rcases hb with ⟨b, rfl⟩ | ⟨i, rfl, hi⟩
    · refine st_ifE (b := true) wd (tt_or (a := true) (b := true) (tt_b (tv_isiD (a := "bool") rfl (k := true) (tv_v rfl hu) (by decide +kernel))) (fun q => nomatch q)) (fun _ H1 s1 w1 => fin H1 s1 w1) (fun q => nomatch q)
    · have hu1 : Has qI G u i := ⟨dp_int hu.h⟩
      refine st_ifE wd (tt_or (a := false) (tt_b (tv_isiD (a := "int") rfl (k := false) (tv_v rfl hu) (by decide +kernel))) fun _ => tt_or (tt_opB (tv_v rfl hu1) (tv_v rfl hv)) fun _ => tt_opB (tv_v rfl hu1) (tv_v rfl hz)) (fun _ H1 s1 w1 => fin H1 s1 w1) fun q => ?_
      have q : (false || (decide (i < 0) || decide (8 < i))) = false := q
      simp only [Bool.false_or, Bool.or_eq_false_iff, decide_eq_false_iff_not] at q
      omega
theorem dec_ne (n : Nat) : decide ((n : Int) = 0) = decide (n = 0) := by
  by_cases h : n = 0
  · rw [h]; rfl
  · rw [decide_eq_false h, decide_eq_false (by omega)]
theorem ox_check_group (T : Ctx P w K mg base) (TE : CtxE K) : ProX P w K mg base "check_group" ["things"] 5 (spX K (raC (qSq K (qPln K)) raN) (fun x => x.1.length < 10000) qU fun x => erE (erG x.1)) := by
  refine mk_proX T.d_check_group (fun _ _ _ _ _ _ us hl => match us, hl with | [_], _ => rfl) fun f fd F => ?_
  refine def_X F sc_check_group rfl fun cdv A outer s H E O G 
    vs a hr wd hra hp Q k ke => by
    obtain ⟨u, rfl, hu⟩ := ra1 hra
    obtain ⟨ps, _⟩ := a
    have hu : Has (qSq K (qPln K)) G u ps := ⟨hu⟩
    have hl : ps.length < 10000 := hp
    have ke : ∀ e, erG ps = some e → ∀ cls dx H', Same H H' → ErP K e (wo H' O) cls dx → E cls dx H' := fun e he => ke e (by show erE (erG ps) = _; rw [he]; rfl)
    have k : erG ps = none → ∀ v H', Same H H' → qU (wo H' O) v () → Q v H' := fun he => k () (by show erE (erG ps) = _; rw [he]; rfl)
    refine ⟨_, (pss_cons (ps_if (pt_cmpR op_eq (c_len (K := K) rfl T.n_len (pa_cons (pv 0) pa_nil)) pe_int (nomark _)) (pss_one (ps_raise rfl tkX (mk_no T TE))) pss_nil)
      (pss_cons (ps_if (pt_cmpR op_gt (c_len (K := K) rfl T.n_len (pa_cons (pv 0) pa_nil)) (pe_gI T.c_MOST_HELPERS) (nomark _)) (pss_one (ps_raise rfl tkX (mk_bad T TE hr (pa_cons (c_len (K := K) rfl T.n_len (pa_cons (pv 0) pa_nil)) (pa_cons pe_int (pa_cons (pe_gI T.c_MOST_HELPERS) pa_nil)))))) pss_nil)
      (pss_one (ps_for (passes_of rfl) rfl (piA (K := K) rfl (pv 0)) (pg_name (i := 1) sc_check_group.nd rfl (Or.inl rfl)) (pss_one (ps_expr (pe_clX (ox_check_shapes_aid_stakes T TE) hr tkX (fun _ _ _ _ h => h) (pa_cons (pe_ix (ixA (K := K) rfl) (pv 0) pe_int (fun _ _ => rfl)) (pa_cons (pv 1) pa_nil))))))))), ?_⟩
    refine st_if wd (tt_eqI (tv_lenA (tv_v rfl hu)) tv_i) (fun z H1 s1 w1 => ?_) (fun z H1 s1 w1 => ?_)
    · rw [dec_ne] at z
      exact ke .no (if_pos (of_decide_eq_true z)) _ _ _ s1 rfl
    rw [dec_ne] at z
    have z : ¬ ps.length = 0 := of_decide_eq_false z
    refine st_if w1 (tt_opB (tv_lenA (tv_v rfl hu)) (tv_c (r := qI) fun _ => rfl)) (fun z2 H2 s2 w2 => ?_) (fun z2 H2 s2 w2 => ?_)
    · have z2 : (5 : Int) < (ps.length : Int) := of_decide_eq_true z2
      exact ho_bad (d := .int (ps.length : Int)) (qd := qDp K) (fun _ _ h => h) w2 (ta_c (tv_Dp (tv_lenA (tv_v rfl hu))) (ta_c tv_i (ta_c (tv_c (r := qI) fun _ => rfl) ta_n))) fun cls dx H3 s3 hE => ke _ (by unfold erG; rw [if_neg z, if_pos (by omega)]) cls dx H3 ((s1.trans s2).trans s3) hE
    have z2 : ¬ (5 : Int) < (ps.length : Int) := of_decide_eq_false z2
    have e2 : erG ps = if sameL ps = true then none else some .mis := by unfold erG; rw [if_neg z, if_neg (by omega)]
    obtain ⟨p0, hp0⟩ : ∃ p, ps[0]? = some p := get_of (by omega)
    have eh : hdP ps = p0 := by
      unfold hdP
      cases ps with
      | nil => cases hp0
      | cons a t => cases hp0; rfl
    refine st_for w2 (it_seq (tv_v rfl hu)) tg1 (fun i σ G' H' => ∃ o : Option V, σ = [some u, o] ∧ Same H H' ∧ ∀ p ∈ ps.take i, p0.n = p.n ∧ p0.R = p.R)
      (fun G' H' g s' w' => ⟨none, rfl, (s1.trans s2).trans s', fun p hp => nomatch hp⟩) ?_ ?_
    · rintro i p σ1 G3 H3 G4 H4 σ2 hx ⟨o, rfl, s3, hs⟩ g3 g4 s4 w4 ⟨vp, rfl, hvp⟩ N hN
      have g34 := g3.trans g4
      by_cases c : p0.n = p.n ∧ p0.R = p.R
      · refine st_dropL w4 (tv_callX (y := ()) (ta_c (tv_ixA (tv_v rfl (hu.mo g34)) tv_i (atI_nat (j := 0) hp0)) (ta_c (tv_v rfl hvp) ta_n)) trivial (if_pos c)) fun H5 s5 w5 => ?_
        refine hN _ G4 H5 (Same.refl _) w5 ⟨some vp, rfl, (s3.trans s4).trans s5, fun q hq => ?_⟩
        rw [List.take_add_one, hx] at hq
        rcases List.mem_append.mp hq with h | h
        · exact hs q h
        · rw [List.mem_singleton.mp h]; exact c
      · refine st_dropRL w4 (tr_call (e := .mis) (ta_c (tv_ixA (tv_v rfl (hu.mo g34)) tv_i (atI_nat (j := 0) hp0)) (ta_c (tv_v rfl hvp) ta_n)) trivial (if_neg c)) fun cls dx H5 s5 hE => ?_
        refine ke .mis ?_ cls dx H5 ((s3.trans s4).trans s5) hE
        rw [e2, if_neg]
        intro q
        unfold sameL at q
        rw [List.all_eq_true] at q
        have q2 := q p (List.mem_of_getElem? hx)
        rw [eh] at q2
        exact c (by simpa using q2)
    · rintro σ' G' H' g' w' ⟨o, rfl, s3, hs⟩
      rw [List.take_length] at hs
      refine k ?_ _ _ s3 rfl
      rw [e2, if_pos]
      unfold sameL
      rw [List.all_eq_true]
      intro p hp
      rw [eh]
      simpa using hs p hp
end
end Nb
set_option Elab.async false
set_option linter.all false
set_option maxRecDepth 100000
set_option maxHeartbeats 4000000
namespace Nb
open PySem L2
open PyProof.Rows (envOfC)
def erS (ps : List Pln) (d : PyData) : Er := (erG ps).getD (.bad d 0 8)
section
variable {P : Program} {w : World} {K : PySem.W.Frag} {mg : PySem.Str → Option Value} {base : Heap}
theorem ox_switch_table (T : Ctx P w K mg base) (TE : CtxE K) : ProXK P w K mg base "switch_table" ["helpers", "switches"] 1 ["switches"] 6 (spX K (raC (qSq K (qPln K)) (raC (qDp K) raN)) (fun x => x.1.length < 10000 ∧ BadD x.2.1) (qTab K) fun x => .error (erS x.1 x.2.1)) := by
  refine mk_proXK T.d_switch_table (fun _ _ _ _ _ _ us ws h1 h2 => match us, ws, h1, h2 with | [_], [_], _, _ => rfl) fun f fd F => ?_
  refine def_X F sc_switch_table rfl fun cdv A outer s H E O G 
    vs a hr wd hra hp Q k ke => by
    obtain ⟨u, v, rfl, hu, hv⟩ := ra2 hra
    obtain ⟨ps, d, _⟩ := a
    have hu : Has (qSq K (qPln K)) G u ps := ⟨hu⟩
    have hv : Has (qDp K) G v d := ⟨hv⟩
    obtain ⟨hl, hd⟩ : ps.length < 10000 ∧ BadD d := hp
    have ke : ∀ cls dx H', Same H H' → ErP K (erS ps d) (wo H' O) cls dx → E cls dx H' := ke _ rfl
    refine ⟨_, (pss_cons (ps_expr (pe_clX (ox_check_group T TE) hr tkX (fun _ _ _ _ h => h) (pa_cons (pv 0) pa_nil)))
      (pss_cons (ps_expr (pe_clX (ox_check_count_aid_stakes T TE) hr tkX (fun _ _ _ _ h => h) (pa_cons (pv 1) (pa_cons pe_int (pa_cons (pe_gI T.c_MOST_SWITCHES) pa_nil))))) pss_never)), ?_⟩
    cases e : erG ps with
    | some er =>
      have es : erS ps d = er := by unfold erS; rw [e]; rfl
      rw [es] at ke
      exact st_dropR wd (tr_call (e := er) (ta_c (tv_v rfl hu) ta_n) hl (by show erE (erG ps) = _; rw [e]; rfl)) ke
    | none =>
      have es : erS ps d = .bad d 0 8 := by unfold erS; rw [e]; rfl
      rw [es] at ke
      refine st_drop wd (tv_callX (y := ()) (ta_c (tv_v rfl hu) ta_n) hl (by show erE (erG ps) = _; rw [e]; rfl)) fun H1 s1 w1 => ?_
      exact st_dropR w1 (tr_call (e := .bad d 0 8) (ta_c (tv_v rfl hv) (ta_c tv_i (ta_c (tv_c (r := qI) fun _ => rfl) ta_n))) ⟨rfl, rfl, hd⟩ rfl) fun cls dx H' s' hE => ke cls dx H' (s1.trans s') hE
theorem ox_switch_chooser (T : Ctx P w K mg base) (TE : CtxE K) : ProXK P w K mg base "switch_chooser" ["helpers", "switches"] 1 ["switches"] 10 (spX K (raC (qSq K (qPln K)) (raC (qDp K) raN)) (fun x => x.1.length < 10000 ∧ BadD x.2.1) (qPln K) fun x => .error (erS x.1 x.2.1)) := by
  refine mk_proXK T.d_switch_chooser (fun _ _ _ _ _ _ us ws h1 h2 => match us, ws, h1, h2 with | [_], [_], _, _ => rfl) fun f fd F => ?_
  refine def_X F sc_switch_chooser rfl fun cdv A outer s H E O G 
    vs a hr wd hra hp Q k ke => by
    obtain ⟨u, v, rfl, hu, hv⟩ := ra2 hra
    obtain ⟨ps, d, _⟩ := a
    have hu : Has (qSq K (qPln K)) G u ps := ⟨hu⟩
    have hv : Has (qDp K) G v d := ⟨hv⟩
    exact ⟨_, (pss_one (ps_ret (pe_cl (ok_wide_keeper T) hr (pa_cons (pe_clXK (ox_switch_table T TE) hr tkX (fun _ _ _ _ h => h) (pa_cons (pv 0) pa_nil) (pk_cons (pv 1) pk_nil)) pa_nil)))), st_retR wd (tr_arg (tr_callK (tv_v rfl hu) (tv_v rfl hv) hp rfl)) (ke _ rfl)⟩
theorem ox_switch_foe (T : Ctx P w K mg base) (TE : CtxE K) : ProXK P w K mg base "switch_foe" ["helpers", "switches"] 1 ["switches"] 10 (spX K (raC (qSq K (qPln K)) (raC (qDp K) raN)) (fun x => x.1.length < 10000 ∧ BadD x.2.1) (qPln K) fun x => .error (erS x.1 x.2.1)) := by
  refine mk_proXK T.d_switch_foe (fun _ _ _ _ _ _ us ws h1 h2 => match us, ws, h1, h2 with | [_], [_], _, _ => rfl) fun f fd F => ?_
  refine def_X F sc_switch_foe rfl fun cdv A outer s H E O G 
    vs a hr wd hra hp Q k ke => by
    obtain ⟨u, v, rfl, hu, hv⟩ := ra2 hra
    obtain ⟨ps, d, _⟩ := a
    have hu : Has (qSq K (qPln K)) G u ps := ⟨hu⟩
    have hv : Has (qDp K) G v d := ⟨hv⟩
    exact ⟨_, (pss_one (ps_ret (pe_cl (ok_wide_breaker T) hr (pa_cons (pe_clXK (ox_switch_table T TE) hr tkX (fun _ _ _ _ h => h) (pa_cons (pv 0) pa_nil) (pk_cons (pv 1) pk_nil)) pa_nil)))), st_retR wd (tr_arg (tr_callK (tv_v rfl hu) (tv_v rfl hv) hp rfl)) (ke _ rfl)⟩
end
/-- the wrong lists' errors, as the law tells them -/
theorem wrong_er {ps : List Pln} {c d : PyData} (h : Wrong ps c) : erD (erS ps d) = c := by
  unfold erS erG
  cases h with
  | no => rfl
  | long h h2 => rw [if_neg (by omega), if_pos h]; rfl
  | mis h u hu hn =>
    rename_i p ps'
    rw [if_neg (by simp), if_neg (by rw [List.length_cons]; omega), if_neg]
    · rfl
    · intro q
      unfold sameL at q
      rw [List.all_eq_true] at q
      have q2 := q u (List.mem_cons_of_mem _ hu)
      have q3 : p.n = u.n ∧ p.R = u.R := by simpa [hdP] using q2
      exact hn q3
theorem wrong_len {ps : List Pln} {c : PyData} (h : Wrong ps c) : ps.length < 10000 := by
  cases h with
  | no => decide
  | long h h2 => omega
  | mis h u hu hn => rw [List.length_cons]; omega
theorem right_er {ps : List Pln} {n R : Nat} {d : PyData} (h1 : 1 ≤ ps.length) (h5 : ps.length ≤ 5) (h : ∀ p ∈ ps, p.n = n ∧ p.R = R) : erD (erS ps d) = .tuple [.str "BadCount", d, .int 0, .int 8] := by
  unfold erS erG
  rw [if_neg (by omega), if_neg (by omega), if_pos]
  · rfl
  · unfold sameL
    rw [List.all_eq_true]
    intro p hp
    obtain ⟨e1, e2⟩ := h p hp
    obtain ⟨p0, hp0⟩ : ∃ p, ps[0]? = some p := get_of h1
    have eh : hdP ps = p0 := by
      unfold hdP
      cases ps with
      | nil => cases hp0
      | cons a t => cases hp0; rfl
    obtain ⟨e3, e4⟩ := h p0 (List.mem_of_getElem? hp0)
    rw [eh, e1, e2, e3, e4]
    simp
end Nb
set_option Elab.async false
set_option linter.all false
set_option maxRecDepth 100000
set_option maxHeartbeats 4000000
namespace Nb
open PySem L2
open PyProof.Rows (envOfC)
/-- what _law_fails makes of a lambda that raises -/
def TFail (K : PySem.W.Frag) : (XK → Hp → VK → Prop) → Hp → VK → Prop := fun tl H Q => ∃ O : List Addr, Dom O H ∧
  tl (fun cls dx H' => ∃ e, Same H H' ∧ ErP K e (wo H' O) cls dx ∧ ∀ v H'', Same H' H'' → Dp K (wo H'' O) v (erD e) → Q v H'') H fun _ H1 => Q .non H1
theorem takes_len {X : Cx} {W : WX} (T : L2.Takes X W) : L2.Takes X fun cls d σ H => σ.length = X.N.length → W cls d σ H := fun u s' ⟨a, B, sI, pins, σ, H, cls, d, e, I, nb, up, sky, na, os, ag, w⟩ =>
  T u s' ⟨a, B, sI, pins, σ, H, cls, d, e, I, nb, up, sky, na, os, ag, w I.len⟩
theorem pe_bad {X : Cx} {K : PySem.W.Frag} {a : Addr} {oe : Obj} {cls : Value} {d : Option Addr} {pn : List (Addr × Obj)} {e : Expr} {te : TE} {pos : Pos} {n : PySem.Str} (TE : CtxE K) (hn : n ∈ (["found", "low", "high"] : List PySem.Str)) (hz : Zc cls d oe) (hf : ∃ vs, oe.data = .fields vs) (he : PE (X.suite a ((a, oe) :: pn)) e te) (hK : X.K = K := by rfl)
    (hb : attributeBase e n X.env (eval e X.env) = eval e X.env := by rfl) : PE (X.suite a ((a, oe) :: pn)) (.Attribute e n pos) (tXf a cls d (He.ga K "BadCount") n te) := by
  subst hK
  exact pe_xf TE.xB (TE.nB n hn) hz hf he hb
/-- a new tuple of data -/
theorem tup_dp {K : PySem.W.Frag} {O : List Addr} {H : Hp} {vs : List V} {ds : List PyData} {Q : VK} (d : Dom O H) (h : DpAll K (wo H O) vs ds) (k : ∀ v H', Same H H' → Dp K (wo H' O) v (.tuple ds) → Q v H') : ∀ p, H p = none → Q (.ref p) (upd H p (.tup vs)) := fun p hp => by
  have s := same_new (o := HO.tup vs) hp
  exact k _ _ s (.tup (SqT.of (wo_new d hp)) (dpAll_mo (same_wo s) h))
section
variable {P : Program} {w : World} {K : PySem.W.Frag} {mg : PySem.Str → Option Value} {base : Heap}
theorem sc__law_fails : FnScope n__law_fails ["_law_deed"] (defScope s__law_fails) := ⟨rfl, rfl, rfl, by decide +kernel, rfl, by decide +kernel, by decide +kernel⟩
theorem fails_gives {X : Cx} (T : Ctx P w K mg base) (TE : CtxE K) (hK : X.K = K) (hM : X.mg = mg) {g : Addr} {cdg : Value} {q : PySem.Str} :
    LamX.GivesTo X n__law_fails "_law_fails" (defScope s__law_fails) g cdg (defBody s__law_fails) "_law_deed" q (TFail K) := by
  subst hK hM
  intro f c' s H Q tl act hc h
  obtain ⟨O, dO, h⟩ := h
  refine ⟨_, pss_cons (ps_tryN (X := (cxOf C8.CX0 X.prog X.w X.K X.mg X.base n__law_fails "_law_fails" (defScope s__law_fails) g cdg X.A X.stack s H C8.E0).nox)
    (l := [⟨.ref (He.ga X.K "BadCount"), some 1, fun a cls d => tRet (tTup (tCons (tC (.str "BadCount")) (tCons (tXf a cls d (He.ga X.K "BadCount") "found" (tVar 1)) (tCons (tXf a cls d (He.ga X.K "BadCount") "low" (tVar 1)) (tCons (tXf a cls d (He.ga X.K "BadCount") "high" (tVar 1)) tNil)))))⟩,
      ⟨.ref (He.ga X.K "NoHelper"), none, fun _ _ _ => tRet (tTup (tCons (tC (.str "NoHelper")) tNil))⟩, ⟨.ref (He.ga X.K "Mismatch"), none, fun _ _ _ => tRet (tTup (tCons (tC (.str "Mismatch")) tNil))⟩])
    (tb := fun W D σ H => ∃ Ech : XK, (∀ cls d σ' H', Ech cls d H' → σ'.length = 2 → W cls d σ' H') ∧ σ[0]? = some (some (.ref f)) ∧ H c' = some (LamX.CodeO c' q) ∧ tl Ech H fun _ H1 => D.nx σ H1)
    rfl rfl (fun W pn xe tk => ?_) (.cons ⟨rfl, by decide, .inl T.g_BadCount⟩ ⟨sc__law_fails.nd, rfl, rfl⟩ (fun a oe cls d pn hz hf => ?_)
      (.cons ⟨rfl, by decide, .inl T.g_NoHelper⟩ trivial (fun a oe cls d pn hz hf => pss_one (ps_ret (pe_tup (pa_cons pe_str pa_nil)))) (.cons ⟨rfl, by decide, .inl T.g_Mismatch⟩ trivial (fun a oe cls d pn hz hf => pss_one (ps_ret (pe_tup (pa_cons pe_str pa_nil)))) .nil)))) (pss_one (ps_ret pe_non)), ?_⟩
  · constructor
    rintro pins s' σ H' D I ⟨Ech, hW, h1, h2, h3⟩
    have hp := fun p1 p2 => act (fun cls d σ H => σ.length = 2 → W cls d σ H) pn xe Ech p1 p2 (takes_len tk) hW
    exact (pss_one (ps_expr (hp _ _))).run pins s' σ H' D I ⟨h1, h2, h3⟩
  · exact pss_one (ps_ret (pe_tup (pa_cons pe_str (pa_cons (pe_bad (n := "found") TE (by simp) hz hf (pv 1)) (pa_cons (pe_bad (n := "low") TE (by simp) hz hf (pv 1)) (pa_cons (pe_bad (n := "high") TE (by simp) hz hf (pv 1)) pa_nil))))))
  · refine ⟨_, fun cls dx σ' H' hE hl => ?_, rfl, hc, h⟩
    obtain ⟨e, s1, hP, k⟩ := hE
    have d1 := dO.of s1
    cases e with
    | no =>
      have ec : cls = .ref (He.ga X.K "NoHelper") := hP
      subst ec
      refine ⟨false, TE.eNB, (fun z => nomatch z), fun _ => ⟨true, TE.eNN, fun _ a ha => ?_, (fun z => nomatch z)⟩⟩
      exact ⟨by decide, tup_dp d1 (.cons (.str _) .nil) k⟩
    | mis =>
      have ec : cls = .ref (He.ga X.K "Mismatch") := hP
      subst ec
      refine ⟨false, TE.eMB, (fun z => nomatch z), fun _ => ⟨false, TE.eMN, (fun z => nomatch z), fun _ => ⟨true, TE.eMM, fun _ a ha => ?_, (fun z => nomatch z)⟩⟩⟩
      exact ⟨by decide, tup_dp d1 (.cons (.str _) .nil) k⟩
    | bad d lo hi =>
      obtain ⟨ec, x, v, e1, e2, e3⟩ := hP
      subst ec e1
      have e4 := wo_le _ _ e2
      refine ⟨true, TE.eBB, fun _ a ha => ?_, (fun z => nomatch z)⟩
      have hv : (onN a σ' (some 1))[1]? = some (some (.ref a)) := List.getElem?_set_self (by omega)
      refine ⟨_, hv, rfl, rfl, x, _, v, rfl, e4, by rfl, _, hv, rfl, rfl, x, _, .int lo, rfl, e4, by rfl, _, hv, rfl, rfl, x, _, .int hi, rfl, e4, by rfl, by rw [sizeLine_eq]; show 4 ≤ _; omega, ?_⟩
      exact tup_dp d1 (.cons (.str _) (.cons e3 (.cons (.int _) (.cons (.int _) .nil)))) k
end
end Nb
set_option Elab.async false
set_option linter.all false
set_option maxRecDepth 100000
set_option maxHeartbeats 4000000
namespace Nb
open PySem L2
open PyProof.Rows (envOfC)
/-! ### heaps whose tables are left out -/
def nt (G : Hp) : Hp := fun b => match G b with
  | some (.tbl _) => none
  | o => o
theorem nt_of {G : Hp} {b : Addr} {o : HO} (h : G b = some o) (n : ∀ ps, o ≠ .tbl ps) : nt G b = some o := by
  unfold nt
  rw [h]
  cases o with
  | tbl ps => exact absurd rfl (n ps)
  | _ => rfl
theorem nt_some {G : Hp} {b : Addr} {o : HO} (h : nt G b = some o) : G b = some o ∧ ∀ ps, o ≠ .tbl ps := by
  unfold nt at h
  cases e : G b with
  | none => rw [e] at h; cases h
  | some u =>
    rw [e] at h
    cases u with
    | tbl ps => cases h
    | _ => exact ⟨h, fun ps z => by rw [z] at h; cases h⟩
theorem nt_le {G : Hp} : Same (nt G) G := fun b o h => (nt_some h).1
theorem nt_nt {G : Hp} : nt (nt G) = nt G := by
  funext b
  cases e : nt G b with
  | none =>
    unfold nt at e ⊢
    rw [e]
  | some o => exact nt_of e (nt_some e).2
/-- the relation does not lean on a table -/
class NoT {α : Type} (r : Rl α) : Prop where
  nt : ∀ {G : Hp} {v : V} {x : α}, r G v x → r (nt G) v x
instance : NoT qI := ⟨fun h => h⟩
instance : NoT qN := ⟨fun h => h⟩
instance : NoT qS := ⟨fun h => h⟩
instance : NoT qB := ⟨fun h => h⟩
theorem rd_nt {G : Hp} {a : Addr} {u : HO} (n : ∀ ps, u ≠ .tbl ps) (h : Rd G a u) : Rd (nt G) a u := by
  rcases h with h | ⟨o, h⟩
  · exact .inl (nt_of h n)
  · exact .inr ⟨o, nt_of h fun ps z => nomatch z⟩
theorem sqL_nt {K : PySem.W.Frag} {G : Hp} {a : Addr} {xs : List V} (h : SqL K G a xs) : SqL K (nt G) a xs := by
  rcases h with h | h
  · exact .inl (rd_nt (fun ps z => nomatch z) h)
  · exact .inr h
theorem sqT_nt {K : PySem.W.Frag} {G : Hp} {a : Addr} {xs : List V} (h : SqT K G a xs) : SqT K (nt G) a xs := by
  rcases h with h | h
  · exact .inl (rd_nt (fun ps z => nomatch z) h)
  · exact .inr h
section
variable {α β : Type} {K : PySem.W.Frag} {r : Rl α} {q : Rl β}
instance : NoT (qLv K) := ⟨fun ⟨a, e, h⟩ => ⟨a, e, sqL_nt h⟩⟩
instance : NoT (qTv K) := ⟨fun ⟨a, e, h⟩ => ⟨a, e, sqT_nt h⟩⟩
instance [NoT r] : NoT (qL K r) := ⟨fun ⟨vs, h, p⟩ => ⟨vs, NoT.nt h, paired_mono (fun _ _ z => NoT.nt z) p⟩⟩
instance [NoT r] : NoT (qT K r) := ⟨fun ⟨vs, h, p⟩ => ⟨vs, NoT.nt h, paired_mono (fun _ _ z => NoT.nt z) p⟩⟩
instance [NoT r] [NoT q] : NoT (qP K r q) := ⟨fun ⟨a, b, h, h1, h2⟩ => ⟨a, b, NoT.nt h, NoT.nt h1, NoT.nt h2⟩⟩
instance : NoT (qQ K) := ⟨fun h => NoT.nt (r := qTv K) h⟩
instance [NoT q] : NoT (qDs q) := ⟨fun {G v f} ⟨d, L, e, h, p⟩ => ⟨d, L, e, nt_of h (fun ps z => nomatch z), fun ds => by
  have := p ds
  revert this
  cases f ds with
  | none => exact fun z => z
  | some y => exact fun ⟨x, h1, h2⟩ => ⟨x, h1, NoT.nt h2⟩⟩⟩
instance : NoT (qPln K) := ⟨fun ⟨a, dx, fs, vs, d, f, e, h, h1, h2, h3, h4, h5, h6, h7⟩ => ⟨a, dx, fs, vs, d, f, e, nt_of h (fun ps z => nomatch z), h1, h2, h3, NoT.nt h4, h5, NoT.nt h6, h7⟩⟩
end
mutual
theorem dp_nt {K : PySem.W.Frag} {H : Hp} : ∀ {v : V} {d : PyData}, Dp K H v d → Dp K (nt H) v d
  | _, _, .non => .non
  | _, _, .bl b => .bl b
  | _, _, .int i => .int i
  | _, _, .str x => .str x
  | _, _, .lst h t => .lst (sqL_nt h) (dpAll_nt t)
  | _, _, .tup h t => .tup (sqT_nt h) (dpAll_nt t)
theorem dpAll_nt {K : PySem.W.Frag} {H : Hp} : ∀ {v : List V} {d : List PyData}, DpAll K H v d → DpAll K (nt H) v d
  | _, _, .nil => .nil
  | _, _, .cons h t => .cons (dp_nt h) (dpAll_nt t)
end
instance {K : PySem.W.Frag} : NoT (qDp K) := ⟨fun h => dp_nt h⟩
theorem Has.nt {α : Type} {r : Rl α} [NoT r] {G : Hp} {v : V} {x : α} (h : Has r G v x) : Has r (nt G) v x := ⟨NoT.nt h.h⟩
/-- the heap behind a lambda's making: all but the tables stands -/
theorem wd_ext {O : List Addr} {G H H1 : Hp} (w : Wd O G H) (n : nt G = G) (e : LamX.ExtN H H1) (d : Dom O H1) : Wd O G H1 := ⟨fun b o h => by
  have h' := h
  rw [← n] at h'
  obtain ⟨h1, h2⟩ := wo_some (w.le _ _ h)
  rw [wo_out h1]
  exact e b o h2 (nt_some h').2, d⟩
theorem sto_ext {H H1 : Hp} {a : Addr} (st : Sto H a) (e : LamX.ExtN H H1) : Sto H1 a := by
  obtain ⟨a0, a1, a2, a3, a4, rest, ea, g⟩ := st
  exact ⟨a0, a1, a2, a3, a4, rest, e _ _ ea (fun ps z => nomatch z), g⟩
/-! ### _law_fails(lambda: ..) -/
section
variable {O : List Addr} {a Pt : Addr} {q : PySem.Str} {σ : St} {G H : Hp} {K : PySem.W.Frag} {t : XK → TE} {e : Er} {td : TE} {D : Ends} {t1 t2 : TS}
theorem dom_tab {H1 : Hp} (st : Sto H1 a) (h : LamX.Tabs [(Pt, q)] H1) : Dom [a, Pt] H1 := fun b hb => by
  obtain ⟨ps, hP, _⟩ := h (Pt, q) List.mem_cons_self
  simp only [List.mem_cons, List.not_mem_nil, or_false] at hb
  rcases hb with rfl | rfl
  · exact st.ne
  · rw [hP]
    simp
theorem ho_fails (w : Wd [a, Pt] G H) (n : nt G = G) (st : Sto H a) (hT : LamX.Tabs [(Pt, q)] H) (h : ∀ E, Tr K [a, Pt] (t E) σ G E e) (Q : VK)
    (k : ∀ v H', LamX.Tabs [(Pt, q)] H' → Sto H' a → Wd [a, Pt] G H' → Dp K (wo H' [a, Pt]) v (erD e) → Q v H') : LamX.tLam [(Pt, q)] (TFail K) t σ H Q :=
  ⟨hT, fun H1 eN T1 => by
    have st1 := sto_ext st eN
    have w1 := wd_ext w n eN (dom_tab st1 T1)
    refine ⟨[a, Pt], w1.dm, h _ H1 w1 _ fun cls dx H2 s2 hE => ⟨e, s2, hE, fun v H3 s3 hv => ?_⟩⟩
    have s13 := s2.trans s3
    exact k v H3 (T1.ext s13) (st1.on s13) (w1.same s13) hv⟩
/-- if not _law_alike(_law_fails(lambda: ..), due): return False -/
theorem st_failsL {pr : PyData × PyData × Unit → Prop} (w : Wd [a, Pt] G H) (n : nt G = G) (st : Sto H a) (hT : LamX.Tabs [(Pt, q)] H) (h : ∀ E, Tr K [a, Pt] (t E) σ G E e) (hd : Tv [a, Pt] td σ G (qDp K) (erD e)) (hp : pr (erD e, erD e, ()))
    (k : ∀ H', LamX.Tabs [(Pt, q)] H' → Sto H' a → Wd [a, Pt] G H' → D.nx σ H') :
    tIfS (tNot (tB (tCall (spP (raC (qDp K) (raC (qDp K) raN)) pr qB fun _ => true) [] E0 (tCons (LamX.tLam [(Pt, q)] (TFail K) t) (tCons td tNil))))) t1 tNext D σ H := by
  refine ho_fails w n st hT h _ fun v H1 T1 st1 w1 hv => hd H1 w1 _ fun u H2 s2 hu => ?_
  refine ⟨[a, Pt], (erD e, erD e, ()), (w1.same s2).dm, ⟨v, [u], rfl, dp_mo (same_wo s2) hv, u, [], rfl, hu, rfl⟩, hp, fun b H3 s3 hb => ⟨true, hb, ?_⟩⟩
  have s23 := s2.trans s3
  exact iteF (k H3 (T1.ext s23) (st1.on s23) (w1.same s23))
theorem st_fails {pr : PyData × PyData × Unit → Prop} (w : Wd [a, Pt] G H) (n : nt G = G) (st : Sto H a) (hT : LamX.Tabs [(Pt, q)] H) (h : ∀ E, Tr K [a, Pt] (t E) σ G E e) (hd : Tv [a, Pt] td σ G (qDp K) (erD e)) (hp : pr (erD e, erD e, ()))
    (k : ∀ H', LamX.Tabs [(Pt, q)] H' → Sto H' a → Wd [a, Pt] G H' → t2 D σ H') :
    tSeq (tIfS (tNot (tB (tCall (spP (raC (qDp K) (raC (qDp K) raN)) pr qB fun _ => true) [] E0 (tCons (LamX.tLam [(Pt, q)] (TFail K) t) (tCons td tNil))))) t1 tNext) t2 D σ H := st_failsL (D := { D with nx := t2 D }) w n st hT h hd hp k
theorem tabs_sb {H1 : Hp} (st : Sto H a) (hT : LamX.Tabs [(Pt, q)] H) (s : Sb a H H1) : LamX.Tabs [(Pt, q)] H1 := fun p hp => by
  obtain ⟨a0, a1, a2, a3, a4, rest, ea, _⟩ := st
  obtain ⟨ps, h1, h2, h3⟩ := hT p hp
  refine ⟨ps, s _ _ (fun z => ?_) h1, h2, fun pos cv hc => ?_⟩
  · rw [z, ea] at h1
    cases h1
  · obtain ⟨c, e1, e2⟩ := h3 pos cv hc
    refine ⟨c, e1, s _ _ (fun z => ?_) e2⟩
    rw [z, ea] at e2
    have e3 := Option.some.inj e2
    unfold LamX.CodeO at e3
    cases e3
end
end Nb
set_option Elab.async false
set_option linter.all false
set_option maxRecDepth 100000
set_option maxHeartbeats 4000000
namespace Nb
open PySem L2
open PyProof.Rows (envOfC)
theorem tkL {X : Cx} {A : Around} {outer : List Env} {s : Shared} {H : Hp} {E : XK} {scope : Scope} {f c' : Addr} : L2.Takes (LamX.lamCx X A outer s H E scope f c') (fun cls d _ H' => E cls d H') := takes_of rfl rfl rfl rfl
section
variable {P : Program} {w : World} {K : PySem.W.Frag} {mg : PySem.Str → Option Value} {base : Heap}
/-- _law_fails(lambda: body) -/
theorem pe_fails {X : Cx} {c Pt : Addr} {k : Nat} {q : PySem.Str} {params : Arguments} {body : Expr} {scope : Scope} {t : XK → TE} {p lpos pos : Pos} (T : Ctx P w K mg base) (TE : CtxE K) (TB : LamX.TabB base mg c Pt) (hcode : X.env.code = .ref c) (hr : Room (k + 2) X.A) (L : LamX.LamS X.env.scope scope)
    (hbody : ∀ (A : Around) (outer : List Env) (s : Shared) (H : Hp) (E : XK) (f c' : Addr), Room k (A.deeper (LamX.lamEnv X scope s.heap.objs.size f c')) → PE (LamX.lamCx X A outer s H E scope f c') body (t E))
    (hdef : defaultsOf params X.env = ([], []) := by rfl) (hbind : ∀ (q : PySem.Str) (cl : List (PySem.Str × Addr)) (pm cv ctv : Value), bindArgs (PySem.W.kla_fn "<lambda>" q params body scope cl pm cv ctv) ⟨[], []⟩ = pure [] := by exact fun _ _ _ _ _ => rfl)
    (hq : q = X.env.qual ++ "<lambda>" := by rfl) (hK : X.K = K := by rfl) (hM : X.mg = mg := by rfl) (hB : X.base = base := by rfl) (hg : Gl X "_law_fails" := by rfl) : PE X (.Call (.Name "_law_fails" p) [.Lambda params body scope lpos] [] pos) (LamX.tLam [(Pt, q)] (TFail K) t) := by
  subst hq hK hM hB
  obtain ⟨g, ⟨fd, F⟩, hm⟩ := T.d__law_fails.ex
  have F0 := F
  obtain ⟨_, _, dV, kV, doc, pm, an, cdv, ct, _, rfl, lk, hcd, _, _⟩ := F.ex
  exact LamX.pe_lamcall (a := "_law_deed") (Ng := n__law_fails) hg hm F0.kp lk hcd (F0.bindsN (fun _ _ _ _ _ _ us hl => match us, hl with | [_], _ => rfl)) sc__law_fails rfl (.inl rfl) (fails_gives T TE rfl rfl) TB hcode List.mem_cons_self (fun p hp _ => by rw [List.mem_singleton.mp hp]) hr L hdef hbind hbody
def qDoor : PySem.Str := (("_law_doors" : PySem.Str) ++ ".<locals>.") ++ "<lambda>"
/-- the promise of _law_doors -/
def spDoor (K : PySem.W.Frag) (Pt : Addr) : Sp := fun vs H Q _ => ∃ (a : Addr) (u v z : V) (n R : Nat) (ps : List Pln), vs = [.ref a, u, v, z] ∧ a ≠ Pt ∧ Sto H a ∧ LamX.TabS H Pt qDoor ∧ qN (wo H [a, Pt]) u n ∧ qN (wo H [a, Pt]) v R ∧ qL K (qPln K) (wo H [a, Pt]) z ps ∧
  Shape n R ∧ (1 ≤ ps.length ∧ ps.length ≤ 5) ∧ (∀ p ∈ ps, p.n = n ∧ p.R = R) ∧ ∀ H', Q (.bl true) H'
theorem tv_p0 {α β : Type} {O : List Addr} {σ : St} {G : Hp} {r : Rl α} {q : Rl β} {te : TE} {x : α} {y : β} [Mo r] (h : Tv O te σ G (qP K r q) (x, y)) : Tv O (tOp (rIxT K) te (tC (.int 0))) σ G r x := fun H w Q k =>
  h H w _ fun v H1 s1 h1 => by
    obtain ⟨a, b, ⟨p, e, hs⟩, e1, e2⟩ := h1
    exact ⟨p, [a, b], 0, a, e, rfl, same_sqT wo_le hs, rfl, k _ _ s1 e1⟩
theorem tv_p1 {α β : Type} {O : List Addr} {σ : St} {G : Hp} {r : Rl α} {q : Rl β} {te : TE} {x : α} {y : β} [Mo q] (h : Tv O te σ G (qP K r q) (x, y)) : Tv O (tOp (rIxT K) te (tC (.int 1))) σ G q y := fun H w Q k =>
  h H w _ fun v H1 s1 h1 => by
    obtain ⟨a, b, ⟨p, e, hs⟩, e1, e2⟩ := h1
    exact ⟨p, [a, b], 1, b, e, rfl, same_sqT wo_le hs, rfl, k _ _ s1 e2⟩
theorem al_wrong {ps : List Pln} {c : PyData} (h : Wrong ps c) : AlD 3 c := by
  cases h with
  | no => exact ⟨by decide, fun d hd => by simp only [List.mem_cons, List.not_mem_nil, or_false] at hd; subst hd; trivial⟩
  | long h h2 => exact ⟨by show 4 < 1000; decide, fun d hd => by simp only [List.mem_cons, List.not_mem_nil, or_false] at hd; rcases hd with rfl | rfl | rfl | rfl <;> trivial⟩
  | mis h u hu hn => exact ⟨by decide, fun d hd => by simp only [List.mem_cons, List.not_mem_nil, or_false] at hd; subst hd; trivial⟩
theorem al_bad {d : PyData} (h : BadD d) : AlD 3 (.tuple [.str "BadCount", d, .int 0, .int 8]) := by
  refine ⟨by show 4 < 1000; decide, fun e he => ?_⟩
  simp only [List.mem_cons, List.not_mem_nil, or_false] at he
  rcases he with rfl | rfl | rfl | rfl
  · trivial
  · rcases h with ⟨b, rfl⟩ | ⟨i, rfl, _⟩ <;> trivial
  · trivial
  · trivial
theorem sc__law_doors : FnScope n__law_doors ["_law_store_here", "_law_width", "_law_rounds_here", "_law_plans_here"] (defScope s__law_doors) := ⟨rfl, rfl, rfl, by decide +kernel, rfl, by decide +kernel, by decide +kernel⟩
theorem fn_doors (T : Ctx P w K mg base) (TE : CtxE K) {f c Pt : Addr} {oc : Value} {od : Option Addr} {dV kV doc pm ct : Value} {an : Option Addr} {osl : Array (Option Value)} (TB : LamX.TabB base mg c Pt)
    (lk : K.lookup f = some ⟨oc, od, .func (PySem.W.fnOf "_law_doors" "_law_doors" (defArgs s__law_doors) (defBody s__law_doors) (defScope s__law_doors) dV kV doc pm an (.ref c) ct), osl⟩) (hcd : PySem.W.codeIn K (.ref c) "_law_doors" = true) :
    FnOk P w K mg base CX0 13 f (PySem.W.fnOf "_law_doors" "_law_doors" (defArgs s__law_doors) (defBody s__law_doors) (defScope s__law_doors) dV kV doc pm an (.ref c) ct) ["_law_store_here", "_law_width", "_law_rounds_here", "_law_plans_here"] (spDoor K Pt) := by
  refine fn_of (k := 12) lk hcd sc__law_doors (fun vs H Q E h => ?_) (fun A outer s H vs Q E hr h => ?_)
  · obtain ⟨a, u, v, z, n, R, ps, rfl, _⟩ := h
    rfl
  · obtain ⟨a, u, v, z, n, R, ps, rfl, na, st, hT, hu, hv, hz, sp, ⟨l1, l5⟩, hps, hQ⟩ := h
    have hT : LamX.Tabs [(Pt, qDoor)] H := fun p hp => by
      rw [List.mem_singleton.mp hp]
      exact hT
    have wd := Wd.here (dom_tab st hT)
    have nb : a ∉ [Pt] := by
      intro z
      exact na (List.mem_singleton.mp z)
    refine ⟨_, PSs.nox (X := cxOf CX0 P w K mg base n__law_doors "_law_doors" (defScope s__law_doors) f (.ref c) A outer s H E) (pss_cons (ps_set (i := 4) sc__law_doors.nd rfl (Or.inr rfl) (pe_cl (ok__law_bad_count T) hr (pa_cons (pv 0) (pa_cons pe_int (pa_cons pe_int pa_nil)))))
      (pss_cons (ps_if (pt_not (pt_val (pe_cl (ok__law_alike T) hr (pa_cons (pe_fails T TE TB rfl hr (LamX.lamS_by (sc := defScope s__law_doors) (by decide +kernel)) (fun A outer s H E f c' hr' => pe_clXK (ox_switch_chooser T TE) hr' tkL (fun _ _ _ _ h => h) (pa_cons (pv 3) pa_nil) (pk_cons (pv 4) pk_nil))) (pa_cons (pe_tup (pa_cons pe_str (pa_cons (pv 4) (pa_cons pe_int (pa_cons pe_int pa_nil))))) pa_nil))))) (pss_one (ps_ret pe_bl)) pss_nil)
      (pss_cons (ps_if (pt_not (pt_val (pe_cl (ok__law_alike T) hr (pa_cons (pe_fails T TE TB rfl hr (LamX.lamS_by (sc := defScope s__law_doors) (by decide +kernel)) (fun A outer s H E f c' hr' => pe_clXK (ox_switch_foe T TE) hr' tkL (fun _ _ _ _ h => h) (pa_cons (pv 3) pa_nil) (pk_cons (pv 4) pk_nil))) (pa_cons (pe_tup (pa_cons pe_str (pa_cons (pv 4) (pa_cons pe_int (pa_cons pe_int pa_nil))))) pa_nil))))) (pss_one (ps_ret pe_bl)) pss_nil)
      (pss_cons (ps_for PassesOwn.never rfl (piL (K := K) rfl (pe_cl (ok__law_bad_lists T) hr (pa_cons (pv 0) (pa_cons (pv 3) (pa_cons (pe_cl (ok__law_unlike T) hr (pa_cons (pv 0) (pa_cons (pv 1) (pa_cons (pv 2) pa_nil)))) pa_nil))))) (pg_name (i := 5) sc__law_doors.nd rfl (Or.inr rfl)) (pss_cons (ps_if (pt_not (pt_val (pe_cl (ok__law_alike T) hr (pa_cons (pe_fails T TE TB rfl hr (LamX.lamS_by (sc := defScope s__law_doors) (by decide +kernel)) (fun A outer s H E f c' hr' => pe_clXK (ox_switch_chooser T TE) hr' tkL (fun _ _ _ _ h => h) (pa_cons (pe_ix (ixT (K := K) rfl) (pv 5) pe_int (fun _ _ => rfl)) pa_nil) (pk_cons (pv 4) pk_nil))) (pa_cons (pe_ix (ixT (K := K) rfl) (pv 5) pe_int (fun _ _ => rfl)) pa_nil))))) (pss_one (ps_ret pe_bl)) pss_nil)
      (pss_one (ps_if (pt_not (pt_val (pe_cl (ok__law_alike T) hr (pa_cons (pe_fails T TE TB rfl hr (LamX.lamS_by (sc := defScope s__law_doors) (by decide +kernel)) (fun A outer s H E f c' hr' => pe_clXK (ox_switch_foe T TE) hr' tkL (fun _ _ _ _ h => h) (pa_cons (pe_ix (ixT (K := K) rfl) (pv 5) pe_int (fun _ _ => rfl)) pa_nil) (pk_cons (pv 4) pk_nil))) (pa_cons (pe_ix (ixT (K := K) rfl) (pv 5) pe_int (fun _ _ => rfl)) pa_nil))))) (pss_one (ps_ret pe_bl)) pss_nil))))
      (pss_one (ps_ret pe_bl)))))), ?_⟩
    have w0 : Wd [a, Pt] (nt (wo H [a, Pt])) H := ⟨nt_le.trans wd.le, wd.dm⟩
    have hu0 : Has qN (nt (wo H [a, Pt])) u n := ⟨NoT.nt hu⟩
    have hv0 : Has qN (nt (wo H [a, Pt])) v R := ⟨NoT.nt hv⟩
    have hz0 : Has (qL K (qPln K)) (nt (wo H [a, Pt])) z ps := ⟨NoT.nt hz⟩
    refine st_asgN (r := qDp K) (Y := BadD) nb w0 st (tn_callS (pr := fun x : Int × Int × Unit => x.1 = 0 ∧ x.2.1 = 8) (F := fun _ d => BadD d) (x := (0, 8, ())) rfl (ta_c tv_i (ta_c tv_i ta_n)) ⟨rfl, rfl⟩) fun v1 G1 H1 d g1 w1 s1 st1 hd h1 => ?_
    have T1 := tabs_sb st hT s1
    have w1 : Wd [a, Pt] (nt G1) H1 := ⟨nt_le.trans w1.le, w1.dm⟩
    have hu1 := (hu0.mo g1).nt
    have hv1 := (hv0.mo g1).nt
    have hz1 := (hz0.mo g1).nt
    have hb1 := h1.nt
    have er := right_er (d := d) l1 l5 hps
    have due : ∀ {σ : St}, σ[4]? = some (some v1) → Tv [a, Pt] (tTup (tCons (tC (.str "BadCount")) (tCons (tVar 4) (tCons (tC (.int 0)) (tCons (tC (.int 8)) tNil))))) σ (nt G1) (qDp K) (erD (erS ps d)) := fun h => by
      rw [er]
      exact tv_tupD (n := 4) (ta_e (tv_Dp tv_s) (ta_e (tv_v h hb1) (ta_e (tv_Dp tv_i) (ta_e (tv_Dp tv_i) ta_e0)))) (by decide)
    have hz1' : Has (qSq K (qPln K)) (nt G1) z ps := ⟨.inl hz1.h⟩
    have len : ps.length < 10000 := by omega
    refine st_fails w1 nt_nt st1 T1 (fun E => tr_callK (tv_v rfl hz1') (tv_v rfl hb1) ⟨len, hd⟩ rfl) (due rfl) ⟨rfl, by rw [er]; exact al_bad hd⟩ fun H2 T2 st2 w2 => ?_
    refine st_fails w2 nt_nt st2 T2 (fun E => tr_callK (tv_v rfl hz1') (tv_v rfl hb1) ⟨len, hd⟩ rfl) (due rfl) ⟨rfl, by rw [er]; exact al_bad hd⟩ fun H3 T3 st3 w3 => ?_
    refine tn_callN (a := a) (O := [Pt]) (G := nt G1) (q := qL K (qP K (qL K (qPln K)) (qDp K))) (Y := fun x => x.1 = ps ∧ UnlOk n R x.2.1 ∧ True) (pr := fun x : List Pln × Pln × Unit => (1 ≤ x.1.length ∧ x.1.length ≤ 5) ∧ ∃ n R, (∀ p ∈ x.1, p.n = n ∧ p.R = R) ∧ UnlOk n R x.2.1) (F := fun _ (ls : List (List Pln × PyData)) => ls.length = 3 ∧ ∀ l ∈ ls, Wrong l.1 l.2) rfl
      (tan_c (Y := fun x => x = ps) (tn_of (tv_v rfl hz1) rfl) (tan_c (Y := fun x => UnlOk n R x) (tn_callS (pr := fun x : Nat × Nat × Unit => Shape x.1 x.2.1) (F := fun x (p : Pln) => UnlOk x.1 x.2.1 p) (x := (n, R, ())) rfl (ta_c (tv_v rfl hu1) (ta_c (tv_v rfl hv1) ta_n)) sp) (tan_of (Y := fun _ : Unit => True) ta_n trivial))) (fun x hx => ?_) H3 nb w3 st3 _ fun v5 H5 ls s5 st5 hls hv5 => ?_
    · obtain ⟨xs, p, _⟩ := x
      obtain ⟨e1, e2, _⟩ := hx
      have e1 : xs = ps := e1
      subst e1
      exact ⟨⟨l1, l5⟩, n, R, hps, e2⟩
    obtain ⟨_, _, hl3, hw⟩ := hls
    have T5 := tabs_sb st3 T3 s5
    have w5 := (w3.sb s5 st5.ne)
    have w6 : Wd [a, Pt] (nt (wo H5 [a, Pt])) H5 := ⟨nt_le, w5.dm⟩
    have hb5 : Has (qDp K) (nt (wo H5 [a, Pt])) v1 d := (hb1.mo w5.le).nt
    obtain ⟨vs, ⟨b, ev, hs⟩, hp⟩ := NoT.nt hv5
    refine ⟨b, ev, ⟨vs, same_sqL w6.to hs⟩, ?_⟩
    refine for_it (walk_list (xs := vs)) (fun i σ1 H1 => ∃ o, σ1 = [some (.ref a), some u, some v, some z, some v1, o] ∧ LamX.Tabs [(Pt, qDoor)] H1 ∧ Sto H1 a ∧ Wd [a, Pt] (nt (wo H5 [a, Pt])) H1) ⟨none, rfl, T5, st5, w6⟩ (fun i σ1 H1 _ ⟨_, _, _, _, w⟩ => same_sqL w.to hs) ?_ ?_
    · rintro i x σ1 H6 H7 hi ⟨o, rfl, T6, st6, w7⟩ ⟨rfl, e⟩
      obtain ⟨⟨qs, cc⟩, hx, hr'⟩ := Paired.at' hp e
      have wr : Wrong qs cc := hw _ (List.mem_of_getElem? hx)
      have hx5 : Has (qP K (qL K (qPln K)) (qDp K)) (nt (wo H5 [a, Pt])) x (qs, cc) := ⟨hr'⟩
      have ew := wrong_er (d := d) wr
      have tr : ∀ {σ : St} {r : Rl Pln} {E : XK}, σ[5]? = some (some x) → σ[4]? = some (some v1) → Tv [a, Pt] (tOp (rIxT K) (tVar 5) (tC (.int 0))) σ (nt (wo H5 [a, Pt])) (qSq K (qPln K)) qs ∧ Tv [a, Pt] (tVar 4) σ (nt (wo H5 [a, Pt])) (qDp K) d := fun h1 h2 => ⟨(tv_p0 (tv_v h1 hx5)).sub fun _ _ z => .inl z, tv_v h2 hb5⟩
      have due2 : ∀ {σ : St}, σ[5]? = some (some x) → Tv [a, Pt] (tOp (rIxT K) (tVar 5) (tC (.int 1))) σ (nt (wo H5 [a, Pt])) (qDp K) (erD (erS qs d)) := fun h => by
        rw [ew]
        exact tv_p1 (tv_v h hx5)
      refine st_fails w7 nt_nt st6 T6 (fun E => tr_callK (tr rfl rfl (r := qPln K) (E := E)).1 (tr rfl rfl (r := qPln K) (E := E)).2 ⟨wrong_len wr, hd⟩ rfl) (due2 rfl) ⟨rfl, by rw [ew]; exact al_wrong wr⟩ fun H8 T8 st8 w8 => ?_
      exact st_failsL w8 nt_nt st8 T8 (fun E => tr_callK (tr rfl rfl (r := qPln K) (E := E)).1 (tr rfl rfl (r := qPln K) (E := E)).2 ⟨wrong_len wr, hd⟩ rfl) (due2 rfl) ⟨rfl, by rw [ew]; exact al_wrong wr⟩ fun H9 T9 st9 w9 => ⟨some x, rfl, T9, st9, w9⟩
    · rintro σ1 H6 ⟨o, rfl, T6, st6, w7⟩
      exact hQ _
end
end Nb
set_option Elab.async false
set_option linter.all false
set_option maxRecDepth 100000
set_option maxHeartbeats 2000000
namespace Nb
/-! ### the plain law: extremes, sums -/
theorem cmp_m1 {x y : Rat} : cmpQ x y = -1 ↔ x < y := by
  unfold cmpQ
  by_cases h : x < y
  · simp [h]
  · by_cases g : y < x
    · simp [h, g]
    · simp [h, g]
theorem cmp_p1 {x y : Rat} : cmpQ x y = 1 ↔ y < x := by
  unfold cmpQ
  by_cases h : x < y
  · have : ¬ y < x := by grind
    simp [h, this]
  · by_cases g : y < x
    · simp [h, g]
    · simp [h, g]
theorem fold_min : ∀ (xs : List Rat) (b : Rat), xs.foldl (fun b y => if cmpQ y b = -1 then y else b) b ≤ b ∧ ∀ y ∈ xs, xs.foldl (fun b y => if cmpQ y b = -1 then y else b) b ≤ y
  | [], b => ⟨Rat.le_refl, fun _ h => nomatch h⟩
  | x :: xs, b => by
    rw [List.foldl_cons]
    obtain ⟨h1, h2⟩ := fold_min xs (if cmpQ x b = -1 then x else b)
    have key : (if cmpQ x b = -1 then x else b) ≤ x ∧ (if cmpQ x b = -1 then x else b) ≤ b := by
      by_cases e : x < b
      · rw [if_pos (cmp_m1.mpr e)]
        exact ⟨Rat.le_refl, by grind⟩
      · rw [if_neg (fun z => e (cmp_m1.mp z))]
        exact ⟨by grind, Rat.le_refl⟩
    refine ⟨by grind, fun y hy => ?_⟩
    rcases List.mem_cons.mp hy with e | e
    · rw [e]; grind
    · exact h2 y e
theorem fold_max : ∀ (xs : List Rat) (b : Rat), b ≤ xs.foldl (fun b y => if cmpQ y b = 1 then y else b) b ∧ ∀ y ∈ xs, y ≤ xs.foldl (fun b y => if cmpQ y b = 1 then y else b) b
  | [], b => ⟨Rat.le_refl, fun _ h => nomatch h⟩
  | x :: xs, b => by
    rw [List.foldl_cons]
    obtain ⟨h1, h2⟩ := fold_max xs (if cmpQ x b = 1 then x else b)
    have key : x ≤ (if cmpQ x b = 1 then x else b) ∧ b ≤ (if cmpQ x b = 1 then x else b) := by
      by_cases e : b < x
      · rw [if_pos (cmp_p1.mpr e)]
        exact ⟨Rat.le_refl, by grind⟩
      · rw [if_neg (fun z => e (cmp_p1.mp z))]
        exact ⟨by grind, Rat.le_refl⟩
    refine ⟨by grind, fun y hy => ?_⟩
    rcases List.mem_cons.mp hy with e | e
    · rw [e]; grind
    · exact h2 y e
theorem min_le {xs : List Rat} {y : Rat} (h : y ∈ xs) : minQ xs ≤ y := (fold_min xs _).2 y h
theorem le_max {xs : List Rat} {y : Rat} (h : y ∈ xs) : y ≤ maxQ xs := (fold_max xs _).2 y h
theorem max_in {xs : List Rat} (h : xs ≠ []) : maxQ xs ∈ xs := far_in h
theorem min_eq {xs : List Rat} {m : Rat} (hm : m ∈ xs) (hl : ∀ y ∈ xs, m ≤ y) : minQ xs = m := by
  have h1 := min_le hm
  have h2 := hl _ (min_in (List.ne_nil_of_mem hm))
  grind
theorem max_eq {xs : List Rat} {m : Rat} (hm : m ∈ xs) (hl : ∀ y ∈ xs, y ≤ m) : maxQ xs = m := by
  have h1 := le_max hm
  have h2 := hl _ (max_in (List.ne_nil_of_mem hm))
  grind
/-! sums -/
theorem dot_fold (zs : List (Rat × Rat)) (a : Rat) : zs.foldl (fun a p => a + p.1 * p.2) a = a + zs.foldl (fun a p => a + p.1 * p.2) 0 := by
  induction zs generalizing a with
  | nil => exact (Rat.add_zero a).symm
  | cons z zs ih =>
    rw [List.foldl_cons, List.foldl_cons, ih, ih (0 + z.1 * z.2)]
    grind
theorem dot_nil (ys : List Rat) : dotQ [] ys = 0 := rfl
theorem dot_cons (x y : Rat) (xs ys : List Rat) : dotQ (x :: xs) (y :: ys) = x * y + dotQ xs ys := by
  unfold dotQ
  rw [List.zip_cons_cons, List.foldl_cons, dot_fold]
  grind
theorem dot_sub (f g : Nat → Rat) : ∀ (q : List Rat) (l : List Nat), dotQ q (l.map f) - dotQ q (l.map g) = dotQ q (l.map fun d => f d - g d)
  | [], l => by rw [dot_nil, dot_nil, dot_nil]; grind
  | x :: q, [] => by
    show dotQ (x :: q) [] - dotQ (x :: q) [] = dotQ (x :: q) []
    have : dotQ (x :: q) [] = 0 := rfl
    rw [this]; grind
  | x :: q, d :: l => by
    rw [List.map_cons, List.map_cons, List.map_cons, dot_cons, dot_cons, dot_cons, ← dot_sub f g q l]
    grind
theorem sum_app : ∀ xs ys : List Rat, sumQ (xs ++ ys) = sumQ xs + sumQ ys
  | [], ys => by rw [List.nil_append, sumQ_nil]; grind
  | x :: xs, ys => by rw [List.cons_append, sumQ_cons, sum_app xs ys, sumQ_cons]; grind
theorem sum_mul {α : Type} (c : Rat) (f : α → Rat) : ∀ l : List α, sumQ (l.map fun d => c * f d) = c * sumQ (l.map f)
  | [] => by
    show (0 : Rat) = c * 0
    grind
  | d :: l => by rw [List.map_cons, List.map_cons, sumQ_cons, sumQ_cons, sum_mul c f l]; grind
theorem sum_add {α : Type} (f g : α → Rat) : ∀ l : List α, sumQ (l.map fun d => f d + g d) = sumQ (l.map f) + sumQ (l.map g)
  | [] => by
    show (0 : Rat) = 0 + 0
    grind
  | d :: l => by rw [List.map_cons, List.map_cons, List.map_cons, sumQ_cons, sumQ_cons, sumQ_cons, sum_add f g l]; grind
theorem sum_congr {α : Type} {f g : α → Rat} {l : List α} (h : ∀ x ∈ l, f x = g x) : sumQ (l.map f) = sumQ (l.map g) := by
  rw [List.map_congr_left h]
theorem sum_flat {α β : Type} (f : α → List β) (g : β → Rat) : ∀ l : List α, sumQ ((l.flatMap f).map g) = sumQ (l.map fun x => sumQ ((f x).map g))
  | [] => rfl
  | x :: l => by rw [List.flatMap_cons, List.map_append, sum_app, List.map_cons, sumQ_cons, sum_flat f g l]
theorem dot_range (f : Nat → Rat) (xs : List Rat) : dotQ xs ((List.range xs.length).map f) = sumQ ((List.range xs.length).map fun d => xs.getD d 0 * f d) := by
  induction xs generalizing f with
  | nil => rfl
  | cons x xs ih =>
    rw [List.length_cons, List.range_succ_eq_map, List.map_cons, List.map_cons, List.map_map, List.map_map, dot_cons, sumQ_cons]
    have h := ih (f ∘ Nat.succ)
    rw [h]
    rfl
/-! ### the keeper -/
theorem kids_get {n : Nat} {F : Nat → List Nat → Rat} {k : Nat} {t : List Nat} {d : Nat} (hd : d < n) : (kidsF n F k t)[d]? = some (F k (t ++ [d])) := by
  unfold kidsF
  rw [List.getElem?_map, List.getElem?_range hd]
  rfl
theorem kids_ne {n : Nat} {F : Nat → List Nat → Rat} {k : Nat} {t : List Nat} (hn : 0 < n) : kidsF n F k t ≠ [] := List.length_pos_iff.mp (by rw [kid_len]; exact hn)
theorem shF_floor {n R : Nat} {cs : List Rat} {f : List Rat → List Rat} {t : List Nat} (ht : t.length < R) (hd : Dig n t) : shF n ((floorsL n R cs).map f) t = f (kidsF n (vF n cs) (R - (t.length + 1)) t) := by
  unfold shF floorsL
  rw [List.getD_eq_getElem?_getD, List.getElem?_map, List.getElem?_map, begL_get hd ht]
  rfl
theorem vF_succ {n : Nat} {cs : List Rat} {k : Nat} {t : List Nat} : vF n cs (k + 1) t = hgt (kidsF n (vF n cs) k t) - 1 := rfl
theorem pour_get {xs : List Rat} {d : Nat} {x : Rat} (h : xs[d]? = some x) : (pourQ xs).getD d 0 = if x < hgt xs then hgt xs - x else 0 := by
  unfold pourQ
  rw [List.getD_eq_getElem?_getD, List.getElem?_map, h]
  rfl
theorem keep_step {n R : Nat} {cs : List Rat} {t : List Nat} {d : Nat} (ht : t.length < R) (hd : Dig n t) (hn : d < n) :
    mis (shF n (keepP n R cs).sh) (t ++ [d]) = mis (shF n (keepP n R cs).sh) t + (1 - if vF n cs (R - (t.length + 1)) (t ++ [d]) < hgt (kidsF n (vF n cs) (R - (t.length + 1)) t) then hgt (kidsF n (vF n cs) (R - (t.length + 1)) t) - vF n cs (R - (t.length + 1)) (t ++ [d]) else 0) := by
  rw [mis_snoc]
  show _ + (1 - (shF n ((floorsL n R cs).map pourQ) t).getD d 0) = _
  rw [shF_floor ht hd, pour_get (kids_get hn)]
theorem keep_le {n R : Nat} {cs : List Rat} : ∀ (m : Nat) (t : List Nat), t.length = m → m ≤ R → Dig n t → mis (shF n (keepP n R cs).sh) t ≤ vF n cs (R - m) t - vF n cs R []
  | 0, t, h, _, _ => by
    rw [List.length_eq_zero_iff.mp h, mis_nil, Nat.sub_zero]
    grind
  | m + 1, t, h, hm, hd => by
    rcases snoc_cases t with e | ⟨u, d, e⟩
    · rw [e] at h; cases h
    subst e
    have hu : u.length = m := by rw [List.length_append] at h; simpa using h
    obtain ⟨h1, h2⟩ := hd.snoc
    have ih := keep_le (n := n) (R := R) (cs := cs) m u hu (by omega) h1
    rw [keep_step (R := R) (cs := cs) (t := u) (d := d) (by omega) h1 h2, hu]
    have e : R - m = (R - (m + 1)) + 1 := by omega
    rw [e, vF_succ] at ih
    by_cases z : vF n cs (R - (m + 1)) (u ++ [d]) < hgt (kidsF n (vF n cs) (R - (m + 1)) u)
    · rw [if_pos z]; grind
    · rw [if_neg z]; grind
theorem keep_eq {n R : Nat} {cs : List Rat} (hn : 0 < n) : ∀ m, m ≤ R → ∃ t : List Nat, t.length = m ∧ Dig n t ∧ mis (shF n (keepP n R cs).sh) t = vF n cs (R - m) t - vF n cs R []
  | 0, _ => ⟨[], rfl, (fun _ h => nomatch h), by rw [mis_nil, Nat.sub_zero]; grind⟩
  | m + 1, hm => by
    obtain ⟨u, hu, hd, ih⟩ := keep_eq (n := n) (R := R) (cs := cs) hn m (by omega)
    obtain ⟨l1, _⟩ := hgt_spec (kids_ne (n := n) (F := vF n cs) (k := R - (m + 1)) (t := u) hn)
    obtain ⟨x, hx⟩ := List.exists_mem_of_ne_nil _ l1
    obtain ⟨a, b⟩ := List.mem_filter.mp hx
    obtain ⟨d, hd1, e⟩ := List.mem_map.mp (show x ∈ (List.range n).map fun d => vF n cs (R - (m + 1)) (u ++ [d]) from a)
    have hdn := List.mem_range.mp hd1
    have b : x < hgt (kidsF n (vF n cs) (R - (m + 1)) u) := by simpa using b
    refine ⟨u ++ [d], by rw [List.length_append, hu]; rfl, hd.app hdn, ?_⟩
    rw [keep_step (R := R) (cs := cs) (t := u) (d := d) (by omega) hd hdn, hu]
    have e2 : R - m = (R - (m + 1)) + 1 := by omega
    rw [e2, vF_succ] at ih
    have e : vF n cs (R - (m + 1)) (u ++ [d]) = x := e
    rw [e, if_pos b]
    grind
theorem rows_cell {n R : Nat} {cs : List Rat} {i : Nat} {t : List Nat} (h : (rowsL n R)[i]? = some t) : cs.getD i 0 = cellF n cs t := by
  unfold cellF
  rw [rowsL_idx h]
/-- the least slack of the keeper -/
theorem slack_min {n R : Nat} {cs : List Rat} (hn : 0 < n) (hl : cs.length = n ^ R) : minQ (slackC (keepP n R cs) cs) = vF n cs R [] := by
  have hlen : ((rowsL n R).map (mis (shF n (keepP n R cs).sh))).length = n ^ R := by rw [List.length_map, rowsL_len]
  have get : ∀ i t, (rowsL n R)[i]? = some t → (slackC (keepP n R cs) cs)[i]? = some (vF n cs 0 t - mis (shF n (keepP n R cs).sh) t) := fun i t h => by
    have hi := (List.getElem?_eq_some_iff.mp h).1
    rw [rowsL_len] at hi
    unfold slackC
    rw [List.getElem?_map]
    have hz : (cs.zip ((rowsL n R).map (mis (shF n (keepP n R cs).sh))))[i]? = some (cs[i]'(by omega), mis (shF n (keepP n R cs).sh) t) := by
      rw [List.getElem?_zip_eq_some]
      exact ⟨List.getElem?_eq_getElem _, by rw [List.getElem?_map, h]; rfl⟩
    show ((cs.zip ((rowsL n R).map (mis (shF n (keepP n R cs).sh))))[i]?).map _ = _
    rw [hz]
    show some (_ - _) = some (_ - _)
    congr 2
    show cs[i] = cellF n cs t
    rw [← rows_cell (cs := cs) h, List.getD_eq_getElem?_getD, List.getElem?_eq_getElem (by omega)]
    rfl
  refine min_eq ?_ fun y hy => ?_
  · obtain ⟨t, h1, h2, h3⟩ := keep_eq (cs := cs) hn R (Nat.le_refl _)
    have g := get _ t (rowsL_get h1 h2)
    have e : vF n cs 0 t - mis (shF n (keepP n R cs).sh) t = vF n cs R [] := by
      rw [h3, Nat.sub_self]
      grind
    rw [e] at g
    exact List.mem_of_getElem? g
  · obtain ⟨i, hi⟩ := List.mem_iff_getElem?.mp hy
    have hlt : i < (rowsL n R).length := by
      have h1 := (List.getElem?_eq_some_iff.mp hi).1
      unfold slackC at h1
      rw [List.length_map, List.length_zip] at h1
      have h2 : ((rowsL n R).map (mis (shF n (keepP n R cs).sh))).length = (rowsL n R).length := List.length_map _
      exact Nat.lt_of_lt_of_le h1 (Nat.le_trans (Nat.min_le_right _ _) (Nat.le_of_eq h2))
    have ht := List.getElem?_eq_getElem hlt
    rw [get i _ ht] at hi
    have e := Option.some.inj hi
    obtain ⟨t1, t2⟩ := rowsL_at (List.getElem_mem hlt)
    have h := keep_le (cs := cs) R _ t1 (Nat.le_refl _) t2
    rw [Nat.sub_self] at h
    rw [← e]
    grind
/-- the greatest distance behind -/
theorem far_max {n R : Nat} {cs : List Rat} (hn : 0 < n) (hl : cs.length = n ^ R) : maxQ (farL n R (keepP n R cs).sh cs) = -vF n cs R [] := by
  have get : ∀ i t, (rowsL n R)[i]? = some t → (farL n R (keepP n R cs).sh cs)[i]? = some (mis (shF n (keepP n R cs).sh) t - vF n cs 0 t) := fun i t h => by
    have hi := (List.getElem?_eq_some_iff.mp h).1
    rw [rowsL_len] at hi
    unfold farL
    rw [List.getElem?_map, List.getElem?_range (by omega)]
    show some (_ - _) = some (_ - _)
    congr 2
    · rw [List.getD_eq_getElem?_getD, List.getElem?_map, h]
      rfl
    · exact rows_cell h
  refine max_eq ?_ fun y hy => ?_
  · obtain ⟨t, h1, h2, h3⟩ := keep_eq (cs := cs) hn R (Nat.le_refl _)
    have g := get _ t (rowsL_get h1 h2)
    have e : mis (shF n (keepP n R cs).sh) t - vF n cs 0 t = -vF n cs R [] := by
      rw [h3, Nat.sub_self]
      grind
    rw [e] at g
    exact List.mem_of_getElem? g
  · obtain ⟨i, hi⟩ := List.mem_iff_getElem?.mp hy
    have hlt : i < (rowsL n R).length := by
      have h1 := (List.getElem?_eq_some_iff.mp hi).1
      unfold farL at h1
      rw [List.length_map, List.length_range] at h1
      rw [rowsL_len]
      omega
    have ht := List.getElem?_eq_getElem hlt
    rw [get i _ ht] at hi
    have e := Option.some.inj hi
    obtain ⟨t1, t2⟩ := rowsL_at (List.getElem_mem hlt)
    have h := keep_le (cs := cs) R _ t1 (Nat.le_refl _) t2
    rw [Nat.sub_self] at h
    rw [← e]
    grind
/-! ### the breaker -/
theorem dot_even (h c : Rat) : ∀ xs : List Rat, dotQ (xs.map fun x => if x ≤ h then c else 0) xs = c * sumQ (xs.filter fun x => decide (x ≤ h))
  | [] => by
    show (0 : Rat) = c * 0
    grind
  | x :: xs => by
    rw [List.map_cons, dot_cons, dot_even h c xs]
    by_cases e : x ≤ h
    · rw [if_pos e, List.filter_cons_of_pos (by simpa using e), sumQ_cons]
      grind
    · rw [if_neg e, List.filter_cons_of_neg (by simpa using e)]
      grind
theorem max_even {xs : List Rat} (h : xs ≠ []) : maxQ (evenQ xs) = 1 / (reachN xs : Rat) := by
  have hp : (0 : Rat) < (reachN xs : Rat) := Rat.natCast_pos.mpr (reach_pos h)
  have h0 : (0 : Rat) ≤ 1 / (reachN xs : Rat) := by
    have := inv_cancel (reach_pos h)
    by_cases q : 0 ≤ 1 / (reachN xs : Rat)
    · exact q
    · have h3 : (1 / (reachN xs : Rat)) * (reachN xs : Rat) < 0 * (reachN xs : Rat) := (Rat.mul_lt_mul_right hp).mpr (by grind)
      grind
  have hr : 0 < (xs.filter fun x => decide (x ≤ hgt xs)).length := reach_pos h
  obtain ⟨x, hx⟩ := List.exists_mem_of_length_pos hr
  obtain ⟨a, b⟩ := List.mem_filter.mp hx
  refine max_eq ?_ fun y hy => ?_
  · refine List.mem_map.mpr ⟨x, a, ?_⟩
    rw [if_pos (by simpa using b)]
  · obtain ⟨z, _, e⟩ := List.mem_map.mp hy
    rw [← e]
    by_cases q : z ≤ hgt xs
    · rw [if_pos q]; exact Rat.le_refl
    · rw [if_neg q]; exact h0
theorem even_val {xs : List Rat} (h : xs ≠ []) : dotQ (evenQ xs) xs = hgt xs - maxQ (evenQ xs) := by
  have h1 := inv_cancel (reach_pos h)
  have h2 := reach_eq h
  rw [max_even h]
  unfold evenQ
  rw [dot_even]
  have e : sumQ (xs.filter fun x => decide (x ≤ hgt xs)) = hgt xs * (reachN xs : Rat) - 1 := by rw [h2]; grind
  rw [e]
  have e2 : 1 / (reachN xs : Rat) * (hgt xs * (reachN xs : Rat) - 1) = hgt xs * (1 / (reachN xs : Rat) * (reachN xs : Rat)) - 1 / (reachN xs : Rat) := by grind
  rw [e2, h1]
  grind
structure BrkQ (n R : Nat) (cs : List Rat) (q : List Nat → List Rat) : Prop where
  e : ∀ t, t.length < R → Dig n t → q t = evenQ (kidsF n (vF n cs) (R - (t.length + 1)) t)
theorem brk_q (n R : Nat) (cs : List Rat) : BrkQ n R cs (shF n (breakP n R cs).sh) := ⟨fun t ht hd => shF_floor ht hd⟩
theorem BrkQ.len {n R : Nat} {cs : List Rat} {q : List Nat → List Rat} (h : BrkQ n R cs q) {t : List Nat} (ht : t.length < R) (hd : Dig n t) : (q t).length = n := by
  rw [h.e t ht hd]
  unfold evenQ
  rw [List.length_map, kid_len]
theorem BrkQ.val {n R k : Nat} {cs : List Rat} {q : List Nat → List Rat} (h : BrkQ n R cs q) (hn : 0 < n) {t : List Nat} (ht : t.length + (k + 1) = R) (hd : Dig n t) : dotQ (q t) (kidsF n (vF n cs) k t) = vF n cs (k + 1) t + (1 - maxQ (q t)) := by
  have e := h.e t (by omega) hd
  rw [show R - (t.length + 1) = k by omega] at e
  rw [e, even_val (kids_ne hn), vF_succ]
  grind
theorem mn_lm {n R : Nat} {cs : List Rat} {q : List Nat → List Rat} (h : BrkQ n R cs q) (hn : 0 < n) : ∀ (k : Nat) (t : List Nat), Dig n t → t.length + k = R → mnF n q (cellF n cs) k t - lmF n q k t = vF n cs k t
  | 0, t, hd, hl => by
    show cellF n cs t - 0 = cellF n cs t
    grind
  | k + 1, t, hd, hl => by
    have e1 : mnF n q (cellF n cs) (k + 1) t = dotQ (q t) ((List.range n).map fun d => mnF n q (cellF n cs) k (t ++ [d])) := rfl
    have e2 : lmF n q (k + 1) t = (1 - maxQ (q t)) + dotQ (q t) ((List.range n).map fun d => lmF n q k (t ++ [d])) := rfl
    have e3 := dot_sub (fun d => mnF n q (cellF n cs) k (t ++ [d])) (fun d => lmF n q k (t ++ [d])) (q t) (List.range n)
    have e4 : ((List.range n).map fun d => mnF n q (cellF n cs) k (t ++ [d]) - lmF n q k (t ++ [d])) = kidsF n (vF n cs) k t := by
      unfold kidsF
      refine List.map_congr_left fun d hdm => ?_
      exact mn_lm h hn k _ (hd.app (List.mem_range.mp hdm)) (by rw [List.length_append]; simp; omega)
    rw [e4, h.val hn hl hd] at e3
    rw [e1, e2]
    grind
theorem worth_val {n R : Nat} {cs : List Rat} (hn : 0 < n) : worthQ (breakP n R cs) cs = vF n cs R [] := mn_lm (brk_q n R cs) hn R [] (fun _ h => nomatch h) (by simp)
/-! the law's own walk -/
theorem wPlus_sum (q : List Nat → List Rat) (zs : List (List Nat × Rat)) : wPlus q zs = sumQ (zs.map fun z => chF q z.1 * z.2) := by
  unfold wPlus sumQ
  rw [List.foldl_map]
theorem wLess_sum (q : List Nat → List Rat) : ∀ (ts : List (List Nat)) (a : Rat), wLess q a ts = a - sumQ (ts.map fun t => chF q t * (1 - maxQ (q t)))
  | [], a => by
    show a = a - 0
    grind
  | t :: ts, a => by
    have e : wLess q a (t :: ts) = wLess q (a - chF q t * (1 - maxQ (q t))) ts := rfl
    rw [e, wLess_sum q ts, List.map_cons, sumQ_cons]
    grind
theorem level_sum {n R : Nat} {cs : List Rat} {q : List Nat → List Rat} (h : BrkQ n R cs q) (hn : 0 < n) : ∀ k, k ≤ R → sumQ ((rowsL n k).map fun t => chF q t * vF n cs (R - k) t) = vF n cs R [] + sumQ ((begL n k).map fun t => chF q t * (1 - maxQ (q t)))
  | 0, _ => by
    have e1 : chF q [] = 1 := rfl
    have e2 : sumQ ((rowsL n 0).map fun t => chF q t * vF n cs (R - 0) t) = 0 + chF q [] * vF n cs R [] := rfl
    have e3 : sumQ ((begL n 0).map fun t => chF q t * (1 - maxQ (q t))) = 0 := rfl
    rw [e2, e3, e1]
    grind
  | k + 1, hk => by
    have ih := level_sum h hn k (by omega)
    have e1 : sumQ ((rowsL n (k + 1)).map fun t => chF q t * vF n cs (R - (k + 1)) t) = sumQ ((rowsL n k).map fun t => chF q t * vF n cs (R - k) t + chF q t * (1 - maxQ (q t))) := by
      rw [rowsL]
      unfold nextL
      rw [sum_flat]
      refine sum_congr fun t ht => ?_
      obtain ⟨tl, td⟩ := rowsL_at ht
      have hv := h.val (k := R - (k + 1)) hn (by omega) td
      have hl := h.len (by omega) td
      have e : kidsF n (vF n cs) (R - (k + 1)) t = (List.range (q t).length).map fun d => vF n cs (R - (k + 1)) (t ++ [d]) := by rw [hl]; rfl
      rw [e, dot_range, hl] at hv
      rw [List.map_map]
      have e2 : ((List.range n).map ((fun t => chF q t * vF n cs (R - (k + 1)) t) ∘ fun d => t ++ [d])) = (List.range n).map fun d => chF q t * ((q t).getD d 0 * vF n cs (R - (k + 1)) (t ++ [d])) := by
        refine List.map_congr_left fun d _ => ?_
        show chF q (t ++ [d]) * _ = _
        rw [chF_snoc, Rat.mul_assoc]
      rw [e2, sum_mul, hv, show R - (k + 1) + 1 = R - k by omega]
      grind
    have e2 : sumQ ((begL n (k + 1)).map fun t => chF q t * (1 - maxQ (q t))) = sumQ ((begL n k).map fun t => chF q t * (1 - maxQ (q t))) + sumQ ((rowsL n k).map fun t => chF q t * (1 - maxQ (q t))) := by
      rw [begL, List.map_append, sum_app]
    rw [e1, sum_add, ih, e2]
    grind
theorem zip_rows {n R : Nat} {cs : List Rat} (hl : cs.length = n ^ R) (f : List Nat → Rat → Rat) : ((rowsL n R).zip cs).map (fun z => f z.1 z.2) = (rowsL n R).map fun t => f t (cellF n cs t) := by
  apply List.ext_getElem?
  intro i
  rw [List.getElem?_map, List.getElem?_map]
  by_cases hi : i < n ^ R
  · have h1 := List.getElem?_eq_getElem (l := rowsL n R) (i := i) (by rw [rowsL_len]; exact hi)
    have h2 := List.getElem?_eq_getElem (l := cs) (i := i) (by omega)
    have hz : ((rowsL n R).zip cs)[i]? = some (_, _) := List.getElem?_zip_eq_some.mpr ⟨h1, h2⟩
    rw [hz, h1]
    show some (f _ _) = some (f _ _)
    have e : cs[i] = cellF n cs ((rowsL n R)[i]'(by rw [rowsL_len]; exact hi)) := by
      rw [← rows_cell (cs := cs) h1, List.getD_eq_getElem?_getD, h2]
      rfl
    rw [e]
  · rw [List.getElem?_eq_none (l := rowsL n R) (by rw [rowsL_len]; omega), List.getElem?_eq_none (by rw [List.length_zip, rowsL_len]; omega)]
    rfl
theorem worthL_val {n R : Nat} {cs : List Rat} (hn : 0 < n) (hl : cs.length = n ^ R) : worthL n R (shF n (breakP n R cs).sh) cs = vF n cs R [] := by
  unfold worthL
  rw [wLess_sum, wPlus_sum, zip_rows hl fun t y => chF (shF n (breakP n R cs).sh) t * y]
  have h := level_sum (brk_q n R cs) hn R (Nat.le_refl _)
  rw [Nat.sub_self] at h
  have e : sumQ ((rowsL n R).map fun t => chF (shF n (breakP n R cs).sh) t * cellF n cs t) = sumQ ((rowsL n R).map fun t => chF (shF n (breakP n R cs).sh) t * vF n cs 0 t) := rfl
  rw [e, h]
  grind
/-! ### the program's table and the law's -/
theorem stP_same {n : Nat} {hs ks : List Pln} (h : ∀ t d, partsL n hs t d = partsL n ks t d) : ∀ (r pre : List Nat) (s : Stt), stP n hs pre r s = stP n ks pre r s
  | [], _, _ => rfl
  | d :: r, pre, s => by
    show stP n hs (pre ++ [d]) r _ = stP n ks (pre ++ [d]) r _
    rw [h, stP_same h r]
theorem stF_plans {n R : Nat} (hs : List (List (List Rat))) (L : Nat) (t : List Nat) : stF n (hs.map fun sh => (⟨n, R, sh⟩ : Pln)) L t = stF n (plnL n hs) L t := by
  unfold stF
  rw [List.length_map, plnL_len]
  refine stP_same (fun t d => ?_) _ _ _
  rw [partsL_pln]
  unfold partsL
  rw [List.map_map]
  rfl
theorem swC_law {n R : Nat} (hs : List (List (List Rat))) (L : Nat) : swC n R (hs.map fun sh => (⟨n, R, sh⟩ : Pln)) L = lawC n R hs L := by
  unfold swC lawC
  refine List.map_congr_left fun t _ => ?_
  rw [stF_plans]
theorem lawC_len {n R : Nat} {hs : List (List (List Rat))} {L : Nat} : (lawC n R hs L).length = n ^ R := by
  unfold lawC
  rw [List.length_map, rowsL_len]
end Nb
set_option Elab.async false
set_option linter.all false
set_option maxRecDepth 100000
set_option maxHeartbeats 2000000
namespace Nb
/-! ### bounds -/
structure Hyp (n R : Nat) (hs : List (List (List Rat))) (L : Nat) : Prop where
  sp : Shape n R
  h0 : 1 ≤ hs.length
  h5 : hs.length ≤ 5
  l8 : L ≤ 8
  g : ∀ sh ∈ hs, PlsOk n R sh
def D8 : Nat := D0 * 60 ^ 8
def D9 : Nat := D0 * 60 ^ 9
theorem d0_pos : 0 < D0 := by decide
theorem d8_pos : 0 < D8 := by decide
theorem d9_pos : 0 < D9 := by decide
theorem La.to {D E b : Nat} {x : Rat} (h : La D b x) (hE : 0 < E) (hd : D ∣ E) : La E b x := by
  obtain ⟨c, rfl⟩ := hd
  exact h.up (Nat.pos_of_mul_pos_left hE)
theorem pow_dvd60 {k m : Nat} (h : k ≤ m) : D0 * 60 ^ k ∣ D0 * 60 ^ m := Nat.mul_dvd_mul_left _ (Nat.pow_dvd_pow _ h)
theorem La.to9 {k b : Nat} {x : Rat} (h : La (D0 * 60 ^ k) b x) (hk : k ≤ 9) : La D9 b x := h.to d9_pos (pow_dvd60 hk)
theorem La.p9 {k b : Nat} {x : Rat} (h : La (60 ^ k) b x) (hk : k ≤ 9) : La D9 b x := h.to d9_pos (Nat.dvd_trans (Nat.pow_dvd_pow _ hk) (Nat.dvd_mul_left _ _))
theorem La.bh9 {b : Nat} {x : Rat} (h : La D9 b x) (hb : b ≤ 2 ^ 100) : Bh x := h.bh (Nat.lt_of_lt_of_le (show D9 < 2 ^ 100 by decide) (Nat.pow_le_pow_right (by decide) (by decide))) hb
theorem getD_la {D b : Nat} {xs : List Rat} (hD : 0 < D) (h : ∀ x ∈ xs, La D b x) (d : Nat) : La D b (xs.getD d 0) := by
  rw [List.getD_eq_getElem?_getD]
  cases e : xs[d]? with
  | none => exact La.zero hD b
  | some x => exact h x (List.mem_of_getElem? e)
theorem mis_la {n R D b : Nat} {p : List Nat → List Rat} (hD : 0 < D) (h : ∀ t, Dig n t → t.length < R → ∀ x ∈ p t, La D b x) : ∀ (m : Nat) (t : List Nat), t.length = m → m ≤ R → Dig n t → La D ((1 + b) * m) (mis p t)
  | 0, t, e, _, _ => by
    rw [List.length_eq_zero_iff.mp e, mis_nil]
    exact La.zero hD _
  | m + 1, t, e, hm, hd => by
    rcases snoc_cases t with z | ⟨u, d, z⟩
    · rw [z] at e; cases e
    subst z
    have hu : u.length = m := by rw [List.length_append] at e; simpa using e
    obtain ⟨h1, h2⟩ := hd.snoc
    rw [mis_snoc]
    have ih := mis_la hD h m u hu (by omega) h1
    have hx := (La.one hD).sub (getD_la hD (h u h1 (by omega)) d)
    have e2 : (1 + b) * (m + 1) = (1 + b) * m + (1 + b) := Nat.mul_succ _ _
    rw [e2]
    exact ih.add hx
theorem pls_at {n R : Nat} {sh : List (List Rat)} (h : PlsOk n R sh) {t : List Nat} (ht : t.length < R) (hd : Dig n t) : GoodW n (shF n sh t) := by
  have hb : bidx n t < sh.length := by rw [h.1]; exact begL_lt ht hd
  refine h.2 _ ?_
  unfold shF
  rw [List.getD_eq_getElem?_getD, List.getElem?_eq_getElem hb]
  exact List.getElem_mem hb
theorem la_mis {D b n R : Nat} {sh : List (List Rat)} (hD : 0 < D) (h9 : D ∣ D9) (hb : b ≤ 2 ^ 60) (sp : Shape n R) (l : sh.length = (begL n R).length) (h : ∀ t, Dig n t → t.length < R → (shF n sh t).length = n ∧ ∀ x ∈ shF n sh t, La D b x) : MisH n R sh := by
  have h8 := sp.R8
  refine ⟨sp, l, fun t hd ht => ⟨(h t hd ht).1, fun x hx => ?_⟩, fun t hd ht => ?_⟩
  · have hx := (h t hd ht).2 x hx
    exact ⟨(hx.to d9_pos h9).bh9 (Nat.le_trans hb (by decide)), (((La.one hD).sub hx).to d9_pos h9).bh9 (Nat.le_trans (Nat.add_le_add_left hb 1) (by decide))⟩
  · refine ((mis_la hD (fun t hd ht => (h t hd ht).2) _ t rfl ht hd).to d9_pos h9).bh9 ?_
    have : (1 + b) * t.length ≤ (1 + 2 ^ 60) * 8 := Nat.mul_le_mul (by omega) (by omega)
    exact Nat.le_trans this (by decide)
theorem Hyp.mis {n R L : Nat} {hs : List (List (List Rat))} (h : Hyp n R hs L) {sh : List (List Rat)} (hm : sh ∈ hs) : MisH n R sh :=
  la_mis (D := D0) (b := 1) d0_pos (Nat.dvd_mul_right _ _) (by decide) h.sp (h.g sh hm).1 fun t hd ht => ⟨(pls_at (h.g sh hm) ht hd).len, (pls_at (h.g sh hm) ht hd).la⟩
/-! states -/
theorem turned_all {p : Rat → Prop} {s : Stt} {m L : Nat} (hm : 0 < m) (q : Sq L m s) (h : ∀ row ∈ s, ∀ x ∈ row, p x) : ∀ row ∈ turnedL s, ∀ x ∈ row, p x := by
  intro row hr x hx
  unfold turnedL at hr
  obtain ⟨k, hk, e⟩ := List.mem_map.mp hr
  have hk : k < s.length := List.mem_range.mp hk
  rw [← e] at hx
  by_cases z : k = 0
  · rw [if_pos z] at hx
    exact h _ (getD_mem (by omega)) x hx
  · rw [if_neg z] at hx
    obtain ⟨v, hv, e2⟩ := List.mem_map.mp hx
    have b1 := h _ (getD_mem hk) v hv
    have hk1 : k - 1 < s.length := by omega
    have hne : s.getD (k - 1) [] ≠ [] := List.length_pos_iff.mp (by rw [q.2 _ (getD_mem hk1)]; exact hm)
    have b2 := h _ (getD_mem hk1) _ (min_in hne)
    rw [← e2]
    rcases List.mem_cons.mp (min_in (xs := [v, minQ (s.getD (k - 1) [])]) (by simp)) with e3 | e3
    · rw [e3]; exact b1
    · rw [List.mem_singleton.mp e3]; exact b2
theorem grown_mem {s : Stt} {ps row : List Rat} {x : Rat} (hr : row ∈ grownL s ps) (hx : x ∈ row) : ∃ r ∈ s, ∃ a ∈ r, ∃ b ∈ ps, x = a + b := by
  unfold grownL at hr
  obtain ⟨r, h1, e⟩ := List.mem_map.mp hr
  rw [← e] at hx
  obtain ⟨⟨a, b⟩, h2, e2⟩ := List.mem_map.mp hx
  exact ⟨r, h1, a, (List.of_mem_zip h2).1, b, (List.of_mem_zip h2).2, e2.symm⟩
theorem Hyp.st {n R L : Nat} {hs : List (List (List Rat))} (h : Hyp n R hs L) : ∀ (m : Nat) (t : List Nat), t.length = m → m ≤ R → Dig n t → ∀ row ∈ stF n (plnL n hs) L t, ∀ x ∈ row, La D0 (2 * m) x
  | 0, t, e, _, _ => by
    rw [List.length_eq_zero_iff.mp e]
    intro row hr x hx
    have hr : row ∈ startL (plnL n hs).length L := hr
    unfold startL at hr
    obtain ⟨_, _, e⟩ := List.mem_map.mp hr
    rw [← e] at hx
    obtain ⟨_, _, e⟩ := List.mem_map.mp hx
    rw [← e]
    exact La.zero d0_pos _
  | m + 1, t, e, hm, hd => by
    rcases snoc_cases t with z | ⟨u, d, z⟩
    · rw [z] at e; cases e
    subst z
    have hu : u.length = m := by rw [List.length_append] at e; simpa using e
    obtain ⟨h1, h2⟩ := hd.snoc
    have ih := Hyp.st h m u hu (by omega) h1
    intro row hr x hx
    rw [stF_snoc] at hr
    obtain ⟨r, hr1, a, ha, b, hb, ex⟩ := grown_mem hr hx
    have pm : 0 < (plnL n hs).length := by rw [plnL_len]; exact h.h0
    have la := turned_all pm (sq_stF n (plnL n hs) L u) ih r hr1 a ha
    rw [partsL_pln] at hb
    obtain ⟨sh, hsh, eb⟩ := List.mem_map.mp hb
    have gw := pls_at (h.g sh hsh) (by omega) h1
    have lb := (La.one d0_pos).sub (getD_la d0_pos gw.la d)
    rw [ex, ← eb]
    exact la.add lb
theorem Hyp.cell {n R L : Nat} {hs : List (List (List Rat))} (h : Hyp n R hs L) : ∀ y ∈ lawC n R hs L, La D0 16 y := fun y hy => by
  have h8 := h.sp.R8
  unfold lawC at hy
  obtain ⟨t, ht, e⟩ := List.mem_map.mp hy
  obtain ⟨tl, td⟩ := rowsL_at ht
  obtain ⟨s1, s2⟩ := sq_stF n (plnL n hs) L t
  have hm : (stF n (plnL n hs) L t).getD L [] ∈ stF n (plnL n hs) L t := getD_mem (by omega)
  have hne : (stF n (plnL n hs) L t).getD L [] ≠ [] := List.length_pos_iff.mp (by rw [s2 _ hm, plnL_len]; exact h.h0)
  rw [← e]
  exact (h.st R t tl (Nat.le_refl _) td _ hm _ (min_in hne)).mono (by omega)
theorem Hyp.swh {n R L : Nat} {hs : List (List (List Rat))} (h : Hyp n R hs L) : SwH n R hs L := by
  have h8 := h.sp.R8
  refine ⟨h.sp, h.h0, h.h5, h.l8, fun sh hm => h.mis hm, fun t hd ht row hr x hx => ?_⟩
  exact d0_bh (h.st _ t rfl ht hd row hr x hx) (by have : (16 : Nat) ≤ 2 ^ 100 := by decide
                                                   omega)
def plnR (n R : Nat) (hs : List (List (List Rat))) : List Pln := hs.map fun sh => ⟨n, R, sh⟩
theorem plnR_len {n R : Nat} {hs : List (List (List Rat))} : (plnR n R hs).length = hs.length := List.length_map _
theorem Hyp.swo {n R L : Nat} {hs : List (List (List Rat))} (h : Hyp n R hs L) : SwOk n R (plnR n R hs) L := by
  have hsw := h.swh
  have at_ : ∀ p ∈ plnR n R hs, ∃ sh ∈ hs, p = ⟨n, R, sh⟩ := fun p hp => by
    obtain ⟨sh, h1, e⟩ := List.mem_map.mp hp
    exact ⟨sh, h1, e.symm⟩
  refine ⟨h.sp, by rw [plnR_len]; exact h.h0, by rw [plnR_len]; exact h.h5, h.l8, fun p hp => ?_, fun p hp => ?_, fun p hp t hd ht => ?_, fun t hd ht row hr x hx => ?_⟩
  · obtain ⟨sh, _, rfl⟩ := at_ p hp
    exact ⟨rfl, rfl⟩
  · obtain ⟨sh, h1, rfl⟩ := at_ p hp
    exact (h.g sh h1).1
  · obtain ⟨sh, h1, rfl⟩ := at_ p hp
    obtain ⟨l1, l2⟩ := (h.mis h1).s t hd ht
    exact ⟨l1, fun x hx => ⟨(l2 x hx).1.bq, (l2 x hx).2.bq⟩⟩
  · have e : stF n (plnR n R hs) L t = stF n (plnL n hs) L t := stF_plans hs L t
    rw [e] at hr
    exact (hsw.st t hd ht row hr x hx).bq
/-! the fold -/
structure CelOk (n R : Nat) (cs : List Rat) : Prop where
  sp : Shape n R
  l : cs.length = n ^ R
  la : ∀ y ∈ cs, La D0 16 y
theorem Hyp.cel {n R L : Nat} {hs : List (List (List Rat))} (h : Hyp n R hs L) : CelOk n R (lawC n R hs L) := ⟨h.sp, lawC_len, h.cell⟩
section
variable {n R : Nat} {cs : List Rat}
theorem CelOk.v (h : CelOk n R cs) : ∀ (k : Nat) (t : List Nat), La (D0 * 60 ^ k) (17 * 6 ^ k) (vF n cs k t)
  | 0, t => by
    show La (D0 * 60 ^ 0) (17 * 6 ^ 0) (cellF n cs t)
    rw [Nat.pow_zero, Nat.mul_one, Nat.mul_one]
    exact (getD_la d0_pos h.la _).mono (by decide)
  | k + 1, t => by
    rw [vF_succ]
    have hk : 0 < D0 * 60 ^ k := Nat.mul_pos d0_pos (Nat.pow_pos (by decide))
    have h1 := hgt_la (xs := kidsF n (vF n cs) k t) (kids_ne h.sp.1) (by rw [kid_len]; exact h.sp.2.1) (fun y hy => by
      obtain ⟨d, _, e⟩ := List.mem_map.mp hy
      rw [← e]
      exact CelOk.v h k (t ++ [d])) hk
    have h2 := h1.sub (La.one (Nat.mul_pos hk (show 0 < 60 by decide)))
    rw [Nat.pow_succ, ← Nat.mul_assoc]
    refine h2.mono ?_
    have : 0 < 6 ^ k := Nat.pow_pos (by decide)
    rw [Nat.pow_succ]
    omega
theorem p6 {k : Nat} (h : k ≤ 8) : 17 * 6 ^ k ≤ 2 ^ 36 := Nat.le_trans (Nat.mul_le_mul_left 17 (Nat.pow_le_pow_right (by decide) h)) (by decide)
theorem CelOk.v9 (h : CelOk n R cs) {k : Nat} (hk : k ≤ 8) (t : List Nat) : La D9 (2 ^ 36) (vF n cs k t) := ((h.v k t).to9 (by omega)).mono (p6 hk)
theorem CelOk.kid9 (h : CelOk n R cs) {k : Nat} (hk : k ≤ 8) {t : List Nat} : ∀ x ∈ kidsF n (vF n cs) k t, La (D0 * 60 ^ k) (2 ^ 36) x := fun x hx => by
  obtain ⟨d, _, e⟩ := List.mem_map.mp hx
  rw [← e]
  exact (h.v k _).mono (p6 hk)
theorem CelOk.flo (h : CelOk n R cs) {k : Nat} (hk : k ≤ 8) (t : List Nat) : FloorOk (kidsF n (vF n cs) k t) := by
  refine ⟨by rw [kid_len]; exact h.sp.1, by rw [kid_len]; exact h.sp.2.1, D0 * 60 ^ k, ?_, Nat.mul_pos d0_pos (Nat.pow_pos (by decide)), fun x hx => (h.kid9 hk x hx).mono (Nat.pow_le_pow_right (by decide) (by decide))⟩
  exact Nat.lt_of_le_of_lt (Nat.mul_le_mul_left D0 (Nat.pow_le_pow_right (by decide) hk)) (Nat.lt_of_lt_of_le (show D0 * 60 ^ 8 < 2 ^ 100 by decide) (Nat.pow_le_pow_right (by decide) (by decide)))
theorem CelOk.bh (h : CelOk n R cs) : ∀ y ∈ cs, Bh y := fun y hy => d0_bh (h.la y hy) (by decide)
theorem CelOk.vb (h : CelOk n R cs) {k : Nat} (hk : k ≤ 8) (t : List Nat) : Bh (vF n cs k t) := (h.v9 hk t).bh9 (by decide)
theorem CelOk.fold (h : CelOk n R cs) : FoldOk n R cs := by
  have h8 := h.sp.R8
  exact ⟨h.sp, h.l, fun j t _ hl => h.flo (by omega) t, fun j t _ hl => (h.vb (by omega) t).bq⟩
/-! the chooser -/
theorem floors_len : (floorsL n R cs).length = (begL n R).length := List.length_map _
theorem CelOk.keep_la (h : CelOk n R cs) {t : List Nat} (hd : Dig n t) (ht : t.length < R) : (shF n (keepP n R cs).sh t).length = n ∧ ∀ x ∈ shF n (keepP n R cs).sh t, La D9 (2 ^ 40) x := by
  have h8 := h.sp.R8
  have e : shF n (keepP n R cs).sh t = pourQ (kidsF n (vF n cs) (R - (t.length + 1)) t) := shF_floor ht hd
  have hk : R - (t.length + 1) ≤ 8 := by omega
  have ne : kidsF n (vF n cs) (R - (t.length + 1)) t ≠ [] := kids_ne h.sp.1
  rw [e]
  refine ⟨by unfold pourQ; rw [List.length_map, kid_len], fun x hx => ?_⟩
  obtain ⟨y, hy, e2⟩ := List.mem_map.mp hx
  have hk0 : 0 < D0 * 60 ^ (R - (t.length + 1)) := Nat.mul_pos d0_pos (Nat.pow_pos (by decide))
  have hh : La (D0 * 60 ^ (R - (t.length + 1) + 1)) (1 + 2 ^ 36 * 5) (hgt (kidsF n (vF n cs) (R - (t.length + 1)) t)) := by
    rw [Nat.pow_succ, ← Nat.mul_assoc]
    exact hgt_la ne (by rw [kid_len]; exact h.sp.2.1) (h.kid9 hk) hk0
  have hh9 := hh.to9 (by omega)
  have hy9 := (h.kid9 hk y hy).to9 (by omega)
  rw [← e2]
  by_cases z : y < hgt (kidsF n (vF n cs) (R - (t.length + 1)) t)
  · rw [if_pos z]
    exact (hh9.sub hy9).mono (by decide)
  · rw [if_neg z]
    exact La.zero d9_pos _
theorem CelOk.keep_mis (h : CelOk n R cs) : MisH n R (keepP n R cs).sh :=
  la_mis (D := D9) (b := 2 ^ 40) d9_pos (Nat.dvd_refl _) (by decide) h.sp (by show ((floorsL n R cs).map pourQ).length = _; rw [List.length_map, floors_len]) fun t hd ht => h.keep_la hd ht
theorem CelOk.keep_misla (h : CelOk n R cs) {t : List Nat} (hd : Dig n t) (ht : t.length ≤ R) : La D9 (2 ^ 44) (mis (shF n (keepP n R cs).sh) t) := by
  have h8 := h.sp.R8
  refine (mis_la d9_pos (fun t hd ht => (h.keep_la hd ht).2) _ t rfl ht hd).mono ?_
  have : (1 + 2 ^ 40) * t.length ≤ (1 + 2 ^ 40) * 8 := Nat.mul_le_mul_left _ (by omega)
  exact Nat.le_trans this (by decide)
theorem sums_bh {u : List Rat} {b : Nat} (h5 : u.length ≤ 5) (h : ∀ x ∈ u, La D9 b x) (hb : b ≤ 2 ^ 60) : (∀ x ∈ u, Bh x) ∧ ∀ i, Bh (sumQ (u.take i)) := by
  refine ⟨fun x hx => (h x hx).bh9 (Nat.le_trans hb (by decide)), fun i => (sum_take_la d9_pos h i).bh9 ?_⟩
  have : b * u.length ≤ 2 ^ 60 * 5 := Nat.mul_le_mul hb h5
  exact Nat.le_trans this (by decide)
theorem CelOk.keep_sha (h : CelOk n R cs) : ShaOk n R (keepP n R cs) := by
  have h8 := h.sp.R8
  refine ⟨rfl, rfl, h.sp, by show ((floorsL n R cs).map pourQ).length = _; rw [List.length_map, floors_len], fun u hu => ?_⟩
  obtain ⟨fl, hfl, e⟩ := List.mem_map.mp (show u ∈ (floorsL n R cs).map pourQ from hu)
  obtain ⟨t, ht, e2⟩ := List.mem_map.mp (show fl ∈ (begL n R).map _ from hfl)
  obtain ⟨tl, td⟩ := begL_at ht
  have e3 : shF n (keepP n R cs).sh t = u := by rw [← e, ← e2]; exact shF_floor tl td
  obtain ⟨l1, l2⟩ := h.keep_la td tl
  rw [e3] at l1 l2
  have pg := pour_good (h.flo (k := R - (t.length + 1)) (by omega) t)
  rw [kid_len] at pg
  have e4 : pourQ (kidsF n (vF n cs) (R - (t.length + 1)) t) = u := by rw [← e, ← e2]
  rw [e4] at pg
  exact ⟨pg, sums_bh (by rw [l1]; exact h.sp.2.1) l2 (by decide)⟩
/-! the breaker -/
theorem CelOk.brk_la (h : CelOk n R cs) {t : List Nat} (hd : Dig n t) (ht : t.length < R) : (shF n (breakP n R cs).sh t).length = n ∧ (∀ x ∈ shF n (breakP n R cs).sh t, La 60 1 x) ∧ shF n (breakP n R cs).sh t ≠ [] := by
  have h8 := h.sp.R8
  have e : shF n (breakP n R cs).sh t = evenQ (kidsF n (vF n cs) (R - (t.length + 1)) t) := shF_floor ht hd
  have fo := h.flo (k := R - (t.length + 1)) (by omega) t
  have h0 := reach_pos fo.ne
  have h5 := Nat.le_trans (reach_le _) fo.l
  have hl : (evenQ (kidsF n (vF n cs) (R - (t.length + 1)) t)).length = n := by unfold evenQ; rw [List.length_map, kid_len]
  rw [e]
  refine ⟨hl, fun x hx => ?_, List.length_pos_iff.mp (by rw [hl]; exact h.sp.1)⟩
  obtain ⟨y, hy, e2⟩ := List.mem_map.mp hx
  rw [← e2]
  by_cases z : y ≤ hgt (kidsF n (vF n cs) (R - (t.length + 1)) t)
  · rw [if_pos z]
    exact (la60 ((La.one (D := 1) (by decide)).div h0) h0 h5 : La (1 * 60) 1 _)
  · rw [if_neg z]
    exact La.zero (by decide) _
theorem d60 : 60 ∣ D9 := ⟨D0 * 60 ^ 8, by decide⟩
theorem CelOk.brk_mis (h : CelOk n R cs) : MisH n R (breakP n R cs).sh :=
  la_mis (D := 60) (b := 1) (by decide) d60 (by decide) h.sp (by show ((floorsL n R cs).map evenQ).length = _; rw [List.length_map, floors_len]) fun t hd ht => ⟨(h.brk_la hd ht).1, (h.brk_la hd ht).2.1⟩
theorem CelOk.brk_sha (h : CelOk n R cs) : ShaOk n R (breakP n R cs) := by
  have h8 := h.sp.R8
  refine ⟨rfl, rfl, h.sp, by show ((floorsL n R cs).map evenQ).length = _; rw [List.length_map, floors_len], fun u hu => ?_⟩
  obtain ⟨fl, hfl, e⟩ := List.mem_map.mp (show u ∈ (floorsL n R cs).map evenQ from hu)
  obtain ⟨t, ht, e2⟩ := List.mem_map.mp (show fl ∈ (begL n R).map _ from hfl)
  obtain ⟨tl, td⟩ := begL_at ht
  have e3 : shF n (breakP n R cs).sh t = u := by rw [← e, ← e2]; exact shF_floor tl td
  obtain ⟨l1, l2, _⟩ := h.brk_la td tl
  rw [e3] at l1 l2
  have pg := even_good (h.flo (k := R - (t.length + 1)) (by omega) t)
  rw [kid_len] at pg
  have e4 : evenQ (kidsF n (vF n cs) (R - (t.length + 1)) t) = u := by rw [← e, ← e2]
  rw [e4] at pg
  exact ⟨pg, sums_bh (b := 1) (by rw [l1]; exact h.sp.2.1) (fun x hx => (l2 x hx).to d9_pos d60) (by decide)⟩
theorem CelOk.max_la (h : CelOk n R cs) {t : List Nat} (hd : Dig n t) (ht : t.length < R) : La 60 1 (maxQ (shF n (breakP n R cs).sh t)) ∧ La 60 2 (1 - maxQ (shF n (breakP n R cs).sh t)) := by
  obtain ⟨_, l2, l3⟩ := h.brk_la hd ht
  have := l2 _ (max_in l3)
  exact ⟨this, (La.one (by decide)).sub this⟩
theorem CelOk.ch_la (h : CelOk n R cs) : ∀ (m : Nat) (t : List Nat), t.length = m → m ≤ R → Dig n t → La (60 ^ m) 1 (chF (shF n (breakP n R cs).sh) t)
  | 0, t, e, _, _ => by
    rw [List.length_eq_zero_iff.mp e]
    exact La.one (by decide)
  | m + 1, t, e, hm, hd => by
    rcases snoc_cases t with z | ⟨u, d, z⟩
    · rw [z] at e; cases e
    subst z
    have hu : u.length = m := by rw [List.length_append] at e; simpa using e
    obtain ⟨h1, h2⟩ := hd.snoc
    rw [chF_snoc, Nat.pow_succ]
    exact (CelOk.ch_la h m u hu (by omega) h1).mul (getD_la (by decide) (h.brk_la h1 (by omega)).2.1 d)
theorem La.sumMap {α : Type} {D b : Nat} (hD : 0 < D) (f : α → Rat) {l : List α} (h : ∀ x ∈ l, La D b (f x)) : La D (b * l.length) (sumQ (l.map f)) := by
  have := La.sum (b := b) hD (xs := l.map f) fun y hy => by
    obtain ⟨x, hx, e⟩ := List.mem_map.mp hy
    rw [← e]
    exact h x hx
  rw [List.length_map] at this
  exact this
theorem CelOk.cc_la (h : CelOk n R cs) {z : List Nat × Rat} (hz : z ∈ (rowsL n R).zip cs) : La D9 16 (chF (shF n (breakP n R cs).sh) z.1 * z.2) := by
  have h8 := h.sp.R8
  obtain ⟨h1, h2⟩ := List.of_mem_zip (a := z.1) (b := z.2) hz
  obtain ⟨tl, td⟩ := rowsL_at h1
  have hc := (h.ch_la R z.1 tl (Nat.le_refl _) td).mul (h.la z.2 h2)
  have e : 60 ^ R * D0 = D0 * 60 ^ R := Nat.mul_comm _ _
  rw [e] at hc
  exact hc.to9 (by omega)
theorem CelOk.cm_la (h : CelOk n R cs) {t : List Nat} (hd : Dig n t) (ht : t.length < R) : La D9 2 (chF (shF n (breakP n R cs).sh) t * (1 - maxQ (shF n (breakP n R cs).sh t))) := by
  have h8 := h.sp.R8
  have hc := (h.ch_la _ t rfl (by omega) hd).mul (h.max_la hd ht).2
  rw [← Nat.pow_succ] at hc
  exact hc.p9 (by omega)
theorem CelOk.wor (h : CelOk n R cs) : WorH n R (breakP n R cs).sh cs := by
  have h8 := h.sp.R8
  have hr := h.sp.rows (Nat.le_refl _)
  have hb := h.sp.begs (Nat.le_refl _)
  have hp : ∀ zs : List (List Nat × Rat), (∀ z ∈ zs, z ∈ (rowsL n R).zip cs) → zs.length ≤ 256 → La D9 4096 (wPlus (shF n (breakP n R cs).sh) zs) := fun zs hz hl => by
    rw [wPlus_sum]
    exact (La.sumMap d9_pos _ fun z hm => h.cc_la (hz z hm)).mono (by omega)
  have hzl : ((rowsL n R).zip cs).length ≤ 256 := by
    rw [List.length_zip]
    exact Nat.le_trans (Nat.min_le_left _ _) hr
  refine ⟨h.brk_mis, h.l, h.bh, fun t hd ht => ((h.ch_la _ t rfl ht hd).p9 (by omega)).bh9 (by decide), fun z hz => (h.cc_la hz).bh9 (by decide), fun i => (hp _ (fun z hz => List.mem_of_mem_take hz) (by rw [List.length_take]; omega)).bh9 (by decide), fun t hd ht => ?_, fun i => ?_⟩
  · obtain ⟨m1, m2⟩ := h.max_la hd ht
    exact ⟨(m1.to d9_pos d60).bh9 (by decide), (m2.to d9_pos d60).bh9 (by decide), (h.cm_la hd ht).bh9 (by decide)⟩
  · rw [wLess_sum]
    refine ((hp _ (fun z hz => hz) hzl).sub (La.sumMap (b := 2) d9_pos _ (l := (begL n R).take i) fun t ht => ?_)).bh9 ?_
    · obtain ⟨tl, td⟩ := begL_at (List.mem_of_mem_take ht)
      exact h.cm_la td tl
    · have hl : ((begL n R).take i).length ≤ 256 * R := by rw [List.length_take]; omega
      have : (2048 : Nat) * 2 + 4096 ≤ 2 ^ 100 := by decide
      omega
/-- the law's own showing -/
theorem CelOk.shn (h : CelOk n R cs) : ShnOk n R cs (-vF n cs R []) (keepP n R cs) (breakP n R cs) := by
  have h8 := h.sp.R8
  refine ⟨h.keep_sha, h.brk_sha, h.keep_mis, h.wor, fun y hy => ?_, ?_, (far_max h.sp.1 h.l).symm, ?_⟩
  · unfold farL at hy
    obtain ⟨i, hi, e⟩ := List.mem_map.mp hy
    rw [← e]
    have hm : ∀ x ∈ (rowsL n R).map (mis (shF n (keepP n R cs).sh)), La D9 (2 ^ 44) x := fun x hx => by
      obtain ⟨t, ht, e2⟩ := List.mem_map.mp hx
      obtain ⟨tl, td⟩ := rowsL_at ht
      rw [← e2]
      exact h.keep_misla td (Nat.le_of_eq tl)
    exact ((getD_la d9_pos hm i).sub (getD_la d9_pos (fun x hx => (h.la x hx).to d9_pos (Nat.dvd_mul_right _ _)) i)).bh9 (by decide)
  · exact ((h.v9 h8 []).neg).bh9 (by decide)
  · rw [worthL_val h.sp.1 h.l]
    grind
/-! the paper -/
theorem MisH.ok {sh : List (List Rat)} (h : MisH n R sh) : MisOk n R (shF n sh) := ⟨fun t hd ht => (h.m t hd ht).bq, fun t hd ht => ⟨(h.s t hd ht).1, fun x hx => ⟨((h.s t hd ht).2 x hx).1.bq, ((h.s t hd ht).2 x hx).2.bq⟩⟩⟩
theorem CelOk.slack (h : CelOk n R cs) : SlackOk (keepP n R cs) ⟨n, R, cs⟩ := by
  refine ⟨h.sp, rfl, rfl, h.l, h.keep_mis.ok, fun y hy => (h.bh y hy).bq, fun y hy => ?_⟩
  unfold slackC at hy
  obtain ⟨z, hz, e⟩ := List.mem_map.mp hy
  obtain ⟨h1, h2⟩ := List.of_mem_zip (a := z.1) (b := z.2) hz
  obtain ⟨t, ht, e2⟩ := List.mem_map.mp h2
  obtain ⟨tl, td⟩ := rowsL_at ht
  rw [← e, ← e2]
  exact ((((h.la _ h1).to d9_pos (Nat.dvd_mul_right _ _)).sub (h.keep_misla td (Nat.le_of_eq tl))).bh9 (by decide)).bq
theorem dot_take_la {D b c : Nat} (hD : 0 < D) (h1 : (1 : Nat) ≤ c) : ∀ (i : Nat) (zs : List (Rat × Rat)), (∀ z ∈ zs, La D b (z.1 * z.2)) → zs.length ≤ c → La D (b * c) ((zs.take i).foldl (fun a p => a + p.1 * p.2) 0) := fun i zs h hl => by
  have e : (zs.take i).foldl (fun a p => a + p.1 * p.2) (0 : Rat) = sumQ ((zs.take i).map fun p => p.1 * p.2) := by
    unfold sumQ
    rw [List.foldl_map]
  rw [e]
  exact (La.sumMap hD _ fun z hz => h z (List.mem_of_mem_take hz)).mono (Nat.mul_le_mul_left _ (by rw [List.length_take]; omega))
theorem CelOk.dot (h : CelOk n R cs) {F : Nat → List Nat → Rat} {D b k : Nat} {t : List Nat} (hD : 0 < D) (hF : ∀ d, d < n → La D b (F k (t ++ [d]))) (hd : Dig n t) (ht : t.length < R) : (shF n (breakP n R cs).sh t).length = (kidsF n F k t).length ∧ (∀ p ∈ (shF n (breakP n R cs).sh t).zip (kidsF n F k t), La 60 1 p.1 ∧ La D b p.2 ∧ La (D * 60) b (p.1 * p.2)) ∧
    (∀ i, La (D * 60) (b * 5) ((((shF n (breakP n R cs).sh t).zip (kidsF n F k t)).take i).foldl (fun a p => a + p.1 * p.2) 0)) ∧ La (D * 60) (b * 5) (dotQ (shF n (breakP n R cs).sh t) (kidsF n F k t)) := by
  obtain ⟨l1, l2, _⟩ := h.brk_la hd ht
  have pr : ∀ p ∈ (shF n (breakP n R cs).sh t).zip (kidsF n F k t), La 60 1 p.1 ∧ La D b p.2 ∧ La (D * 60) b (p.1 * p.2) := fun p hp => by
    obtain ⟨h1, h2⟩ := List.of_mem_zip (a := p.1) (b := p.2) hp
    obtain ⟨d, hdn, e⟩ := List.mem_map.mp h2
    have b2 : La D b p.2 := by rw [← e]; exact hF _ (List.mem_range.mp hdn)
    have m := (l2 _ h1).mul b2
    rw [Nat.mul_comm 60 D, Nat.one_mul] at m
    exact ⟨l2 _ h1, b2, m⟩
  have hl : ((shF n (breakP n R cs).sh t).zip (kidsF n F k t)).length ≤ 5 := by
    rw [List.length_zip, l1]
    exact Nat.le_trans (Nat.min_le_left _ _) h.sp.2.1
  have sums := fun i => dot_take_la (b := b) (c := 5) (Nat.mul_pos hD (show 0 < 60 by decide)) (by decide) i _ (fun z hz => (pr z hz).2.2) hl
  refine ⟨by rw [l1, kid_len], pr, sums, ?_⟩
  have := sums ((shF n (breakP n R cs).sh t).zip (kidsF n F k t)).length
  rw [List.take_length] at this
  exact this
theorem CelOk.mnc (h : CelOk n R cs) : ∀ (k : Nat) (t : List Nat), t.length + k = R → Dig n t → La (D0 * 60 ^ k) (16 * 5 ^ k) (mnF n (shF n (breakP n R cs).sh) (cellF n cs) k t)
  | 0, t, _, _ => by
    show La (D0 * 60 ^ 0) (16 * 5 ^ 0) (cellF n cs t)
    rw [Nat.pow_zero, Nat.mul_one, Nat.mul_one]
    exact getD_la d0_pos h.la _
  | k + 1, t, hl, hd => by
    have := (h.dot (F := mnF n (shF n (breakP n R cs).sh) (cellF n cs)) (k := k) (t := t) (Nat.mul_pos d0_pos (Nat.pow_pos (by decide))) (fun d hdn => CelOk.mnc h k (t ++ [d]) (by rw [List.length_append]; simp; omega) (hd.app hdn)) hd (by omega)).2.2.2
    rw [Nat.pow_succ, Nat.pow_succ, ← Nat.mul_assoc, ← Nat.mul_assoc]
    exact this
theorem CelOk.lmc (h : CelOk n R cs) : ∀ (k : Nat) (t : List Nat), t.length + k = R → Dig n t → La (60 ^ k) (2 * 6 ^ k) (lmF n (shF n (breakP n R cs).sh) k t)
  | 0, t, _, _ => La.zero (by decide) _
  | k + 1, t, hl, hd => by
    have h1 := (h.dot (F := lmF n (shF n (breakP n R cs).sh)) (k := k) (t := t) (Nat.pow_pos (by decide)) (fun d hdn => CelOk.lmc h k (t ++ [d]) (by rw [List.length_append]; simp; omega) (hd.app hdn)) hd (by omega)).2.2.2
    have h2 := (h.max_la hd (by omega)).2.to (E := 60 ^ k * 60) (Nat.mul_pos (Nat.pow_pos (by decide)) (by decide)) (Nat.dvd_mul_left _ _)
    have h3 := h2.add h1
    rw [Nat.pow_succ]
    refine La.mono h3 ?_
    have : 0 < 6 ^ k := Nat.pow_pos (by decide)
    rw [Nat.pow_succ]
    omega
theorem bq_of {D b : Nat} {x : Rat} (h : La D b x) (hd : D ∣ D9) (hb : b ≤ 2 ^ 100) : Bq x := ((h.to d9_pos hd).bh9 hb).bq
theorem dvd9 {k : Nat} (h : k ≤ 9) : D0 * 60 ^ k ∣ D9 := pow_dvd60 h
theorem dvp9 {k : Nat} (h : k ≤ 9) : 60 ^ k ∣ D9 := Nat.dvd_trans (Nat.pow_dvd_pow _ h) (Nat.dvd_mul_left _ _)
theorem p5 {k : Nat} (h : k ≤ 8) : 16 * 5 ^ k * 5 ≤ 2 ^ 100 := Nat.le_trans (Nat.mul_le_mul_right 5 (Nat.mul_le_mul_left 16 (Nat.pow_le_pow_right (by decide) h))) (by decide)
theorem p6' {k : Nat} (h : k ≤ 8) : 2 * 6 ^ k * 5 ≤ 2 ^ 100 := Nat.le_trans (Nat.mul_le_mul_right 5 (Nat.mul_le_mul_left 2 (Nat.pow_le_pow_right (by decide) h))) (by decide)
theorem CelOk.mean {F : Nat → List Nat → Rat} {E c : Nat} (h : CelOk n R cs) (hE : 0 < E) (hv : ∀ (k : Nat) (t : List Nat), t.length + k = R → Dig n t → La (E * 60 ^ k) (16 * c ^ k) (F k t)) (h5 : c ≤ 6) (hd9 : ∀ k, k ≤ 9 → E * 60 ^ k ∣ D9) : MeanOk n R (shF n (breakP n R cs).sh) F ∧ ∀ t, Dig n t → ∀ k, t.length + (k + 1) = R → Bq (dotQ (shF n (breakP n R cs).sh t) (kidsF n F k t)) := by
  have h8 := h.sp.R8
  have pc : ∀ k, k ≤ 8 → 16 * c ^ k * 5 ≤ 2 ^ 100 := fun k hk => by
    have h1 : c ^ k ≤ 6 ^ k := Nat.pow_le_pow_left h5 k
    have h2 : 6 ^ k ≤ 6 ^ 8 := Nat.pow_le_pow_right (by decide) hk
    have h3 : 16 * 6 ^ 8 * 5 ≤ 2 ^ 100 := by decide
    have h4 : 16 * c ^ k * 5 ≤ 16 * 6 ^ 8 * 5 := Nat.mul_le_mul_right 5 (Nat.mul_le_mul_left 16 (Nat.le_trans h1 h2))
    exact Nat.le_trans h4 h3
  have key := fun (k : Nat) (t : List Nat) (hd : Dig n t) (hl : t.length + (k + 1) = R) => h.dot (F := F) (k := k) (t := t) (Nat.mul_pos hE (Nat.pow_pos (show 0 < 60 by decide))) (fun d hdn => hv k (t ++ [d]) (by rw [List.length_append]; simp; omega) (hd.app hdn)) hd (by omega)
  have ds : ∀ k, E * 60 ^ k * 60 = E * 60 ^ (k + 1) := fun k => by rw [Nat.pow_succ, Nat.mul_assoc]
  refine ⟨⟨fun k t hd hl => bq_of (hv k t hl hd) (hd9 k (by omega)) ?_, fun k t hd hl => ?_, fun t hd ht x hx => bq_of ((h.brk_la hd ht).2.1 x hx) d60 (by decide)⟩, fun t hd k hl => ?_⟩
  · have := pc k (by omega)
    omega
  · obtain ⟨a1, a2, a3, a4⟩ := key k t hd hl
    have n5 := h.sp.2.1
    refine ⟨a1, by rw [a1, kid_len]; omega, fun i => bq_of (a3 i) (by rw [ds]; exact hd9 _ (by omega)) (pc k (by omega)), fun p hp => ?_⟩
    obtain ⟨b1, b2, b3⟩ := a2 p hp
    have pk := pc k (by omega)
    exact ⟨bq_of b1 d60 (by decide), bq_of b2 (hd9 k (by omega)) (by omega), bq_of b3 (by rw [ds]; exact hd9 _ (by omega)) (by omega)⟩
  · obtain ⟨a1, a2, a3, a4⟩ := key k t hd hl
    exact bq_of a4 (by rw [ds]; exact hd9 _ (by omega)) (pc k (by omega))
theorem CelOk.worth (h : CelOk n R cs) : WorthOk (breakP n R cs) ⟨n, R, cs⟩ := by
  have h8 := h.sp.R8
  have m1 := h.mean (F := mnF n (shF n (breakP n R cs).sh) (cellF n cs)) (c := 5) d0_pos (fun k t hl hd => h.mnc k t hl hd) (by decide) fun k hk => dvd9 hk
  have m2 := h.mean (F := lmF n (shF n (breakP n R cs).sh)) (E := 1) (c := 6) (by decide) (fun k t hl hd => by
    rw [Nat.one_mul]
    refine (h.lmc k t hl hd).mono ?_
    omega) (by decide) fun k hk => by rw [Nat.one_mul]; exact dvp9 hk
  refine ⟨h.sp, rfl, rfl, h.l, m1.1, m2.1, fun t hd ht => ?_⟩
  obtain ⟨x1, x2⟩ := h.max_la hd ht
  exact ⟨(h.brk_la hd ht).1, bq_of x1 d60 (by decide), bq_of x2 d60 (by decide), fun k hl => m2.2 t hd k hl⟩
/-- numbers beside the fold -/
theorem near_bh {x : Rat} (h : La D9 (2 ^ 36) x) (m : Nat) (hm : m = 10 ^ 9 ∨ m = 10 ^ 25) : Bh ((1 : Rat) / (m : Rat)) ∧ Bh (x + 1 / (m : Rat)) ∧ Bh (x - 1 / (m : Rat)) := by
  have m0 : 0 < m := by rcases hm with e | e <;> rw [e] <;> decide
  have mb : m < 2 ^ 90 := by rcases hm with e | e <;> rw [e] <;> decide
  have h1 : La (D9 * m) 1 (1 / (m : Rat)) := (La.one d9_pos).div m0
  have h2 : La (D9 * m) (2 ^ 36) x := h.up m0
  have hb : D9 * m < 2 ^ 1700 := Nat.lt_of_lt_of_le (Nat.mul_lt_mul_of_lt_of_lt (show D9 < 2 ^ 100 by decide) mb) (by rw [← Nat.pow_add]; exact Nat.pow_le_pow_right (by decide) (by decide))
  exact ⟨h1.bh hb (by decide), (h2.add h1).bh hb (by decide), (h2.sub h1).bh hb (by decide)⟩
end
/-! what the program is asked -/
section
variable {n R L : Nat} {hs : List (List (List Rat))}
theorem hd_plnR (h : 1 ≤ hs.length) : (hdP (plnR n R hs)).n = n ∧ (hdP (plnR n R hs)).R = R := by
  cases hs with
  | nil => cases h
  | cons a t => exact ⟨rfl, rfl⟩
theorem Hyp.swT_eq {a : Int} (h : Hyp n R hs (limL a R)) : swT (plnR n R hs) a = ⟨n, R, lawC n R hs (limL a R)⟩ := by
  unfold swT
  obtain ⟨e1, e2⟩ := hd_plnR (n := n) (R := R) h.h0
  rw [e1, e2]
  congr 1
  exact swC_law hs _
theorem Hyp.ask {a : Int} (a0 : 0 ≤ a) (a8 : a ≤ 8) (h : Hyp n R hs (limL a R)) : AskOk (plnR n R hs) a := by
  obtain ⟨e1, e2⟩ := hd_plnR (n := n) (R := R) h.h0
  refine ⟨a0, a8, ?_, ?_⟩
  · rw [e1, e2]
    exact h.swo
  · rw [h.swT_eq]
    exact h.cel.fold
end
end Nb
set_option Elab.async false
set_option linter.all false
set_option maxRecDepth 100000
set_option maxHeartbeats 4000000
set_option pp.maxSteps 60
namespace Nb
open PySem L2
open PyProof.Rows (envOfC)
/-! ### two plans that are equal -/
def SamePl (K : PySem.W.Frag) : Addr → Addr → Hp → Prop := fun a b H => ∃ (O : List Addr) (x : Pln), Dom O H ∧ qPln K (wo H O) (.ref a) x ∧ qPln K (wo H O) (.ref b) x
section
variable {P : Program} {w : World} {K : PySem.W.Frag} {mg : PySem.Str → Option Value} {base : Heap}
theorem op_eqP {X : Cx} {k : Nat} (T : Ctx P w K mg base) (hr : Room k X.A) (hj : 1 ≤ k := by decide) (hP : X.prog = P := by rfl) (hw : X.w = w := by rfl) (hK : X.K = K := by rfl) (hM : X.mg = mg := by rfl) (hB : X.base = base := by rfl) : OpR X (compareOp .Eq) (rEqG (DIns (He.ga K "Plan") (SamePl K))) := by
  subst hP hw hK hM hB
  obtain ⟨g, fd, h1, h2, hb, F⟩ := (ok_Plan___eq__ T).ex
  have F2 : FnOk X.prog X.w X.K X.mg X.base CX0 1 g fd ["self", "other"] (spEq (SamePl X.K)) := F.imp fun vs H Q E ⟨a, b, e, ⟨O, x, d, ha, hb⟩, q⟩ => ⟨O, (x, x, ()), d, ⟨_, _, e, ha, _, [], rfl, hb, rfl⟩, rfl, fun v H' s hv => by
    rw [show v = .bl true from hv]
    exact q H' s⟩
  exact op_eqG (rcG_ins (E := E0) F2 h1 h2 hb pass0) (hr.mono hj)
end
section
variable {α β γ : Type} {a : Addr} {O : List Addr} {σ : St} {G H : Hp} {ta tb tc te : TE} {K : PySem.W.Frag} {x : Pln}
theorem tv_eqP (h : Tv O ta σ G (qPln K) x) (g : Tv O tb σ G (qPln K) x) : Tv O (tOp (rEqG (DIns (He.ga K "Plan") (SamePl K))) ta tb) σ G qB true := fun H w Q k =>
  h H w _ fun v H1 s1 h1 => g H1 (w.same s1) _ fun u H2 s2 h2 => by
    have h1' := Mo.mo (same_wo (O := O) s2) h1
    obtain ⟨p, dx, fs, ep, e1⟩ := pln_ins _ _ _ h1'
    obtain ⟨q, dy, gs, eq, e2⟩ := pln_ins _ _ _ h2
    subst ep eq
    exact ⟨⟨p, q, dx, dy, fs, gs, rfl, rfl, wo_le _ _ e1, wo_le _ _ e2, O, x, ((w.same s1).same s2).dm, h1', h2⟩, fun H' s3 => k _ _ ((s1.trans s2).trans s3) rfl⟩
theorem tn_tup3 {r : Rl α} {q : Rl β} {p : Rl γ} [Mo r] [Mo q] [Mo p] {Y : α → Prop} {Z : β → Prop} {W : γ → Prop} (h : Tn a O ta σ G r Y) (g : Tn a O tb σ G q Z) (l : Tn a O tc σ G p W) : Tn a O (tTup (tCons ta (tCons tb (tCons tc tNil)))) σ G (qP3 K r q p) fun x => Y x.1 ∧ Z x.2.1 ∧ W x.2.2 := fun H n w st Q k =>
  h H n w st _ fun v H1 y s1 st1 hy hv => g H1 n (w.sb s1 st1.ne) st1 _ fun u H2 z s2 st2 hz hu => l H2 n ((w.sb s1 st1.ne).sb s2 st2.ne) st2 _ fun t H3 c s3 st3 hc ht => by
    have w3 := ((w.sb s1 st1.ne).sb s2 st2.ne).sb s3 st3.ne
    refine ⟨by show 3 ≤ sizeLine; rw [sizeLine_eq]; omega, fun b hb => ?_⟩
    have n2 := same_new (o := HO.tup [v, u, t]) hb
    exact k _ _ (y, z, c) (((s1.trans s2).trans s3).trans (Sb.of n2)) (st3.on n2) ⟨hy, hz, hc⟩ ⟨v, u, t, ⟨b, rfl, SqT.of (wo_new w3.dm hb)⟩, Mo.mo (same_wo n2) (Mo.mo (sb_wo s3) (Mo.mo (sb_wo s2) hv)), Mo.mo (same_wo n2) (Mo.mo (sb_wo s3) hu), Mo.mo (same_wo n2) ht⟩
theorem tnt_notB {Y : Bool → Prop} (h : Tn a O te σ G qB Y) : Tnt a O (tNot (tB te)) σ G fun b => ∃ c, Y c ∧ b = !c := fun H n w st Q k => h H n w st _ fun v H1 c s1 st1 hc hv => ⟨c, hv, k _ _ s1 st1 ⟨c, hc, rfl⟩⟩
end
theorem vp_eq {V W x : Rat} (h : W = V) : (!decide (cmpQ V x = -1) && !decide (cmpQ W x = 1)) = decide (x = V) := by
  subst h
  by_cases e : x = W
  · subst e
    have h1 : ¬ cmpQ x x = -1 := fun z => by have := cmp_m1.mp z; grind
    have h2 : ¬ cmpQ x x = 1 := fun z => by have := cmp_p1.mp z; grind
    simp [h1, h2]
  · by_cases g : W < x
    · have h1 : cmpQ W x = -1 := cmp_m1.mpr g
      simp [h1, e]
    · have h2 : cmpQ W x = 1 := cmp_p1.mpr (by grind)
      simp [h2, e]
theorem sq_wo {K : PySem.W.Frag} {H : Hp} {l p : Addr} {xs : List V} {ps : Array Value} (h : SqL K H l xs) (hp : H p = some (.tbl ps)) : SqL K (wo H [p]) l xs := by
  rcases h with (h | ⟨o, h⟩) | h
  · refine .inl (.inl ?_)
    rw [wo_out (fun z => ?_)]
    · exact h
    · rw [List.mem_singleton.mp z, hp] at h
      cases h
  · refine .inl (.inr ⟨o, ?_⟩)
    rw [wo_out (fun z => ?_)]
    · exact h
    · rw [List.mem_singleton.mp z, hp] at h
      cases h
  · exact .inr h
theorem acc_ints {G : Hp} : ∀ ns : List Int, Paired (qI G) (ns.map V.int) ns
  | [] => .nil
  | n :: ns => .cons rfl (acc_ints ns)
theorem near_qQ {K : PySem.W.Frag} {G : Hp} {v : V} {m : Nat} (hm : m = 10 ^ 9 ∨ m = 10 ^ 25) (h : qP K qI qN G v (1, m)) : qQ K G v (1 / (m : Rat)) := by
  obtain ⟨a, b, hv, e1, e2⟩ := h
  have e : (1 : Rat) / (m : Rat) = mkRat 1 m := by rw [Rat.mkRat_eq_div]; rfl
  have e1 : a = .int 1 := e1
  have e2 : b = .int (m : Int) := e2
  subst e1 e2
  show qTv K G v _
  rw [e]
  have n1 : (mkRat 1 m).num = 1 := by
    rw [Rat.num_mkRat]
    rcases hm with rfl | rfl <;> decide
  have n2 : (mkRat 1 m).den = m := by
    rw [Rat.den_mkRat]
    rcases hm with rfl | rfl <;> decide
  rw [n1, n2]
  exact hv
theorem eqv_dec {K : PySem.W.Frag} (x y : Rat) : PyData.eqv (.tuple [.int x.num, .int (x.den : Int)]) (.tuple [.int y.num, .int (y.den : Int)]) = decide (x = y) := by
  by_cases e : x = y
  · rw [eqv_Q e, decide_eq_true e]
  · rw [decide_eq_false e]
    simp only [PyData.eqv, PyData.eqvAll, Bool.and_true]
    by_cases h1 : x.num = y.num
    · have h2 : ¬ (x.den : Int) = (y.den : Int) := fun z => e (Rat.ext h1 (by omega))
      simp [h1]
      omega
    · simp [h1]
/-- the promise of the law -/
def spLaw (K : PySem.W.Frag) (Pt : Addr) : Sp := fun vs H Q _ => ∃ (l : Addr) (ns : List Int), vs = [.ref l] ∧ SqL K H l (ns.map V.int) ∧ ns.length ≤ 63 ∧ H Pt = some (.tbl #[]) ∧ ∀ H', Q (.bl true) H'
section
variable {P : Program} {w : World} {K : PySem.W.Frag} {mg : PySem.Str → Option Value} {base : Heap}
theorem sc_law : FnScope n_law ["_law_script"] (defScope s_law) := ⟨rfl, rfl, rfl, by decide +kernel, rfl, by decide +kernel, by decide +kernel⟩
theorem fn_law (T : Ctx P w K mg base) {Pt : Addr} (hD : Pro P w K mg base "_law_doors" ["_law_store_here", "_law_width", "_law_rounds_here", "_law_plans_here"] 13 (spDoor K Pt)) {f : Addr} {fd : FuncData} (F : FunD K "law" "law" (defArgs s_law) (defBody s_law) (defScope s_law) [] [] f fd) :
    FnOk P w K mg base CX0 14 f fd ["_law_script"] (spLaw K Pt) := by
  refine F.ok sc_law (fun vs H Q E h => ?_) (fun cdv A outer s H vs Q E hr h => ⟨_, PSs.nox (pss_cons (ps_set (i := 1) sc_law.nd rfl (Or.inl rfl) (pe_cl (ok__law_store T) hr (pa_cons (pv 0) pa_nil)))
      (pss_cons (ps_set (i := 2) sc_law.nd rfl (Or.inl rfl) (pe_cl (ok__law_shape T) hr (pa_cons (pv 1) (pa_cons pe_int pa_nil))))
      (pss_cons (ps_set (i := 3) sc_law.nd rfl (Or.inl rfl) (pe_ix (ixT (K := K) rfl) (pv 2) pe_int (fun _ _ => rfl)))
      (pss_cons (ps_set (i := 4) sc_law.nd rfl (Or.inl rfl) (pe_ix (ixT (K := K) rfl) (pv 2) pe_int (fun _ _ => rfl)))
      (pss_cons (ps_set (i := 5) sc_law.nd rfl (Or.inl rfl) (pe_cl (ok__law_helper_list T) hr (pa_cons (pv 1) (pa_cons (pv 3) (pa_cons (pv 4) (pa_cons pe_int pa_nil))))))
      (pss_cons (ps_set (i := 6) sc_law.nd rfl (Or.inl rfl) (pe_cl (ok__law_plans T) hr (pa_cons (pv 1) (pa_cons (pv 3) (pa_cons (pv 4) (pa_cons (pv 5) pa_nil))))))
      (pss_cons (ps_set (i := 7) sc_law.nd rfl (Or.inl rfl) (pe_cl (ok__law_edge T) hr (pa_cons (pv 1) (pa_cons pe_int pa_nil))))
      (pss_cons (ps_set (i := 8) sc_law.nd rfl (Or.inl rfl) (pe_cl (ok__law_switched T) hr (pa_cons (pv 3) (pa_cons (pv 4) (pa_cons (pv 5) (pa_cons (pv 7) pa_nil))))))
      (pss_cons (ps_set (i := 9) sc_law.nd rfl (Or.inl rfl) (pe_clK (ok_switch_distance T) hr (pa_cons (pv 6) pa_nil) (pk_cons (pv 7) pk_nil)))
      (pss_cons (ps_set (i := 10) sc_law.nd rfl (Or.inl rfl) (pe_clK (ok_switch_chooser T) hr (pa_cons (c_tuple (K := K) rfl T.n_tuple (pa_cons (pv 6) pa_nil)) pa_nil) (pk_cons (pv 7) pk_nil)))
      (pss_cons (ps_set (i := 11) sc_law.nd rfl (Or.inl rfl) (pe_clK (ok_switch_foe T) hr (pa_cons (pv 6) pa_nil) (pk_cons (pv 7) pk_nil)))
      (pss_cons (ps_if (pt_not (pt_val (pe_cl (ok__law_shown T) hr (pa_cons (pv 3) (pa_cons (pv 4) (pa_cons (pv 8) (pa_cons (pv 9) (pa_cons (pv 10) (pa_cons (pv 11) pa_nil))))))))) (pss_one (ps_ret pe_bl)) pss_nil)
      (pss_cons (ps_set (i := 12) sc_law.nd rfl (Or.inl rfl) (pe_mkr (ok_Table___init__ T) hr (pa_cons (pv 3) (pa_cons (pv 4) (pa_cons (pe_cl (ok__law_dressed T) hr (pa_cons (pv 1) (pa_cons (pv 8) pa_nil))) pa_nil)))))
      (pss_cons (ps_if (PW.pt (pw_or (pt_not (pt_cmpR (op_eqP T hr) (pv 10) (pe_cl (ok_wide_keeper T) hr (pa_cons (pv 12) pa_nil)) (nomark _))) (pw_or1 (pt_not (pt_cmpR (op_eqP T hr) (pv 11) (pe_cl (ok_wide_breaker T) hr (pa_cons (pv 12) pa_nil)) (nomark _)))))) (pss_one (ps_ret pe_bl)) pss_nil)
      (pss_cons (ps_set (i := 13) sc_law.nd rfl (Or.inl rfl) (pe_cl (ok__law_minus T) hr (pa_cons (pe_tup (pa_cons pe_int (pa_cons pe_int pa_nil))) (pa_cons (pv 9) pa_nil))))
      (pss_cons (ps_set (i := 14) sc_law.nd rfl (Or.inl rfl) (pe_tup (pa_cons pe_int (pa_cons (pe_ix (ixL (K := K) rfl) (pe_lst (pa_cons (pe_op op_pow pe_int pe_int) (pa_cons (pe_op op_pow pe_int pe_int) pa_nil))) (pe_cl (ok__law_take T) hr (pa_cons (pv 1) (pa_cons pe_int pa_nil))) (fun _ _ => rfl)) pa_nil))))
      (pss_cons (ps_for PassesOwn.never rfl (piL (K := K) rfl (pe_lst (pa_cons (pv 13) (pa_cons (pe_cl (ok__law_plus T) hr (pa_cons (pv 13) (pa_cons (pv 14) pa_nil))) (pa_cons (pe_cl (ok__law_minus T) hr (pa_cons (pv 13) (pa_cons (pv 14) pa_nil))) pa_nil))))) (pg_name (i := 15) sc_law.nd rfl (Or.inl rfl)) (pss_one (ps_if (pt_not (pt_val (pe_cl (ok__law_alike T) hr (pa_cons (pe_cl (ok_is_value_paper T) hr (pa_cons (pv 12) (pa_cons (pe_tup (pa_cons (pe_cl (ok__law_dress T) hr (pa_cons (pv 1) (pa_cons (pv 15) pa_nil))) (pa_cons (pv 10) (pa_cons (pv 11) pa_nil)))) pa_nil))) (pa_cons (pe_cmpR (eqD (K := K) rfl (Room.units hr)) (pv 15) (pv 13) (nomark _)) pa_nil))))) (pss_one (ps_ret pe_bl)) pss_nil)))
      (pss_cons (ps_if (PW.pt (pw_and (pt_cmpR op_eq (pv 7) pe_int (nomark _)) (pw_and1 (pt_not (PW.pt (pw_and (pt_cmpR (op_eqP T hr) (pe_clD (od_switch_chooser T) hr (pa_cons (pv 6) pa_nil)) (pv 10) (nomark _)) (pw_and1 (pt_cmpR (op_eqP T hr) (pe_clD (od_switch_foe T) hr (pa_cons (c_tuple (K := K) rfl T.n_tuple (pa_cons (pv 6) pa_nil)) pa_nil)) (pv 11) (nomark _))))))))) (pss_one (ps_ret pe_bl)) pss_nil)
      (pss_one (ps_ret (pe_cl hD hr (pa_cons (pv 1) (pa_cons (pv 3) (pa_cons (pv 4) (pa_cons (pv 6) pa_nil))))))))))))))))))))))))), ?_⟩)
  · obtain ⟨l, ns, rfl, _⟩ := h
    rfl
  obtain ⟨l, ns, rfl, hs, hn, hP, hQ⟩ := h
  have wd : Wd [Pt] (wo H [Pt]) H := Wd.here fun b hb => by
    rw [List.mem_singleton.mp hb, hP]
    simp
  have hl : Has (qL K qI) (wo H [Pt]) (.ref l) ns := ⟨ns.map V.int, ⟨l, rfl, sq_wo hs hP⟩, acc_ints ns⟩
  refine st_asg wd (tv_call (ta_c (tv_v rfl hl) ta_n) hn) fun v1 G1 H1 g1 w1 s1 h1 => ?_
  obtain ⟨a, rfl, st1⟩ := sto_of h1.h w1.to hn
  have hP1 : H1 Pt = some (.tbl #[]) := s1 _ _ hP
  have na : a ≠ Pt := fun z => by
    obtain ⟨_, _, _, _, _, _, ea, _⟩ := st1
    rw [z, hP1] at ea
    cases ea
  have nb : a ∉ [Pt] := fun z => na (List.mem_singleton.mp z)
  have T1 : LamX.Tabs [(Pt, qDoor)] H1 := fun p hp => by
    rw [List.mem_singleton.mp hp]
    exact LamX.TabS.nil hP1
  have wa : Wd [a, Pt] (wo H1 [a, Pt]) H1 := Wd.here (dom_tab st1 T1)
  refine st_asgN (r := qP K qN qN) (Y := ShpOk) nb wa st1 (tn_callS (pr := fun x : Int × Unit => x.1 = 16) (F := fun _ p => ShpOk p) (x := (16, ())) rfl (ta_c tv_i ta_n) rfl) fun v2 G2 H2 nR g2 w2 s2 st2 hp2 h2 => ?_
  obtain ⟨n, R⟩ := nR
  obtain ⟨sp, h16⟩ := hp2
  have T2 := tabs_sb st1 T1 s2
  refine st_asg w2 (tv_p0 (tv_v rfl h2)) fun v3 G3 H3 g3 w3 s3 h3 => ?_
  refine st_asg w3 (tv_p1 (tv_v rfl (h2.mo g3))) fun v4 G4 H4 g4 w4 s4 h4 => ?_
  have h3 : Has qN G4 v3 n := h3.mo g4
  have h4 : Has qN G4 v4 R := h4
  have s24 := s3.trans s4
  have st4 := st2.on s24
  have T4 := T2.ext s24
  refine st_asgN (r := qL K (qL K (qL K (qQ K)))) nb w4 st4 (tn_callS (pr := fun x : Nat × Nat × Int × Unit => Shape x.1 x.2.1 ∧ x.2.2.1 = 5) (F := fun x (hs : List (List (List Rat))) => (1 ≤ hs.length ∧ hs.length ≤ 5) ∧ ∀ sh ∈ hs, PlsOk x.1 x.2.1 sh) (x := (n, R, 5, ())) rfl (ta_c (tv_v rfl h3) (ta_c (tv_v rfl h4) (ta_c tv_i ta_n))) ⟨sp, rfl⟩) fun v5 G5 H5 hs5 g5 w5 s5 st5 hy5 h5 => ?_
  obtain ⟨⟨l1, l5⟩, hg⟩ := hy5
  have T5 := tabs_sb st4 T4 s5
  have h35 := h3.mo g5
  have h45 := h4.mo g5
  refine st_asgN (r := qL K (qPln K)) nb w5 st5 (tn_callS (pr := fun x : Nat × Nat × List (List (List Rat)) × Unit => Shape x.1 x.2.1 ∧ x.2.2.1.length < 10000 ∧ ∀ sh ∈ x.2.2.1, PlsOk x.1 x.2.1 sh) (F := fun x (ps : List Pln) => ps = x.2.2.1.map fun sh => ⟨x.1, x.2.1, sh⟩) (x := (n, R, hs5, ())) rfl (ta_c (tv_v rfl h35) (ta_c (tv_v rfl h45) (ta_c (tv_v rfl h5) ta_n))) ⟨sp, by show hs5.length < 10000; omega, hg⟩) fun v6 G6 H6 ps g6 w6 s6 st6 hy6 h6 => ?_
  have hy6 : ps = plnR n R hs5 := hy6
  subst hy6
  have T6 := tabs_sb st5 T5 s6
  have h36 := h35.mo g6
  have h46 := h45.mo g6
  have h56 := h5.mo g6
  refine st_asgN nb w6 st6 (tn_callS (pr := fun x : Int × Unit => x.1 < 1073741824) (F := fun x (y : Nat) => (y : Int) < max 1 x.1) (x := (9, ())) rfl (ta_c tv_i ta_n) (show (9 : Int) < 1073741824 by decide)) fun v7 G7 H7 y g7 w7 s7 st7 hy7 h7 => ?_
  have hy7 : (y : Int) < max 1 9 := hy7
  have h7 : Has qN G7 v7 y := h7
  have T7 := tabs_sb st6 T6 s7
  have h37 := h36.mo g7
  have h47 := h46.mo g7
  have h57 := h56.mo g7
  have h67 := h6.mo g7
  have hyp : Hyp n R hs5 (limL (y : Int) R) := ⟨sp, l1, l5, by unfold limL; omega, hg⟩
  have hcel := hyp.cel
  have hask : AskOk (plnR n R hs5) (y : Int) := hyp.ask (by omega) (by omega)
  have hsw := hyp.swT_eq
  have hpow : n ^ R ≤ 256 := pow_small sp (Nat.le_refl R)
  generalize ecs : lawC n R hs5 (limL (y : Int) R) = cs at hcel hsw
  refine st_asg (r := qL K (qQ K)) (x := lawC n R hs5 (limL (y : Int) R)) w7 (tv_call (ta_c (tv_v rfl h37) (ta_c (tv_v rfl h47) (ta_c (tv_v rfl h57) (ta_c (tv_v rfl h7.nI) ta_n)))) ⟨by show (0 : Int) ≤ (y : Int); omega, hyp.swh⟩) fun v8 G8 H8 g8 w8 s8 h8 => ?_
  rw [ecs] at h8
  have hA : Has (qSq K (qPln K)) G8 v6 (plnR n R hs5) := ⟨.inl (h67.mo g8).h⟩
  refine st_asg (r := qQ K) (x := -vF n cs R []) w8 (Tv.eq (tv_clK (tv_v rfl hA) (tv_v rfl (h7.mo g8).nI) hask) (by show -vF (swT (plnR n R hs5) (y : Int)).n (swT (plnR n R hs5) (y : Int)).cs (swT (plnR n R hs5) (y : Int)).R [] = _; rw [hsw])) fun v9 G9 H9 g9 w9 s9 h9 => ?_
  have h69 := (h67.mo g8).mo g9
  have h79 := (h7.mo g8).mo g9
  refine st_asg (r := qPln K) (x := keepP n R cs) w9 (Tv.eq (tv_clK ((tv_tupL (tv_v rfl h69)).sub fun _ _ z => (.inr z : qSq K (qPln K) _ _ _)) (tv_v rfl h79.nI) hask) (by show keepP (swT (plnR n R hs5) (y : Int)).n (swT (plnR n R hs5) (y : Int)).R (swT (plnR n R hs5) (y : Int)).cs = _; rw [hsw])) fun v10 G10 H10 g10 w10 s10 h10 => ?_
  have hA : Has (qSq K (qPln K)) G10 v6 (plnR n R hs5) := ⟨.inl (h69.mo g10).h⟩
  refine st_asg (r := qPln K) (x := breakP n R cs) w10 (Tv.eq (tv_clK (tv_v rfl hA) (tv_v rfl (h79.mo g10).nI) hask) (by show breakP (swT (plnR n R hs5) (y : Int)).n (swT (plnR n R hs5) (y : Int)).R (swT (plnR n R hs5) (y : Int)).cs = _; rw [hsw])) fun v11 G11 H11 g11 w11 s11 h11 => ?_
  have g711 := ((g8.trans g9).trans g10).trans g11
  have g811 := (g9.trans g10).trans g11
  have g911 := g10.trans g11
  have s711 := (((s8.trans s9).trans s10).trans s11)
  have st11 := st7.on s711
  have T11 := T7.ext s711
  have k3 := h37.mo g711
  have k4 := h47.mo g711
  have k6 := h67.mo g711
  have k7 := h7.mo g711
  have k8 := h8.mo g811
  have k9 := h9.mo g911
  have k10 := h10.mo g11
  have k11 := h11
  refine st_if w11 (tt_not (b := true) (tt_b (tv_call (ta_c (tv_v rfl k3) (ta_c (tv_v rfl k4) (ta_c (tv_v rfl k8) (ta_c (tv_v rfl k9) (ta_c (tv_v rfl k10) (ta_c (tv_v rfl k11) ta_n)))))) hcel.shn))) (fun z => nomatch z) fun _ H12 s12 w12 => ?_
  refine st_asgN (r := qTab K) (Y := fun t => t = (⟨n, R, cs⟩ : Tab)) nb w12 (st11.on s12) (Tn.mono (tn_make (Y := fun x => x.1 = n ∧ x.2.1 = R ∧ x.2.2.1 = cs ∧ True) (tan_c (Y := fun x => x = n) (tn_of (tv_v rfl k3) rfl) (tan_c (Y := fun x => x = R) (tn_of (tv_v rfl k4) rfl) (tan_c (Y := fun x => x = cs) (tn_callS (pr := fun x : List Rat × Unit => x.1.length < 10000 ∧ ∀ y ∈ x.1, Bq y) (F := fun x (y : List Rat) => y = x.1) (x := (cs, ())) rfl (ta_c (tv_v rfl k8) ta_n) ⟨by show cs.length < 10000; rw [hcel.l]; omega, fun y hy => (hcel.bh y hy).bq⟩) (tan_of (Y := fun _ : Unit => True) ta_n trivial)))) ?_) ?_) fun v12 G13 H13 tb g13 w13 s13 st13 hy13 h12 => ?_
  · rintro ⟨x1, x2, x3, _⟩ ⟨e1, e2, e3, _⟩
    have e1 : x1 = n := e1
    have e2 : x2 = R := e2
    have e3 : x3 = cs := e3
    subst e1 e2 e3
    exact ⟨sp, hcel.l⟩
  · rintro t ⟨⟨x1, x2, x3, _⟩, ⟨e1, e2, e3, _⟩, e⟩
    have e1 : x1 = n := e1
    have e2 : x2 = R := e2
    have e3 : x3 = cs := e3
    subst e1 e2 e3
    exact e
  subst hy13
  have T13 := tabs_sb (st11.on s12) (T11.ext s12) s13
  have m3 := k3.mo g13
  have m4 := k4.mo g13
  have m6 := k6.mo g13
  have m7 := k7.mo g13
  have m9 := k9.mo g13
  have m10 := k10.mo g13
  have m11 := k11.mo g13
  refine st_if w13 (tt_or (a := false) (tt_not (b := true) (tt_op (tv_eqP (x := keepP n R cs) (tv_v rfl m10) (Tv.eq (tv_call (ta_c (tv_v rfl h12) ta_n) hcel.fold) rfl)))) fun _ => tt_not (b := true) (tt_op (tv_eqP (x := breakP n R cs) (tv_v rfl m11) (Tv.eq (tv_call (ta_c (tv_v rfl h12) ta_n) hcel.fold) rfl)))) (fun z => nomatch z) fun _ H14 s14 w14 => ?_
  have hV : Bh (vF n cs R []) := hcel.vb sp.R8 []
  have hNV : Bh (-vF n cs R []) := ((hcel.v9 sp.R8 []).neg).bh9 (by decide)
  refine st_asg (r := qQ K) (x := vF n cs R []) w14 (Tv.eq (tv_call (ta_c (tv_q K (x := 0) rfl rfl) (ta_c (tv_v rfl m9) ta_n)) ⟨bh_zero, hNV⟩) (by show 0 - -vF n cs R [] = _; grind)) fun v13 G15 H15 g15 w15 s15 h13 => ?_
  have st15 := (st13.on s14).on s15
  have T15 := (T13.ext s14).ext s15
  refine st_asgN (r := qQ K) (Y := fun x => ∃ m : Nat, (m = 10 ^ 9 ∨ m = 10 ^ 25) ∧ x = 1 / (m : Rat)) nb w15 st15 (Tn.sub (r := qP K qI qN) (q := qQ K) (Y := fun p => p.1 = 1 ∧ (p.2 = 10 ^ 9 ∨ p.2 = 10 ^ 25)) (tn_pair (K := K) (Y := fun i => i = 1) (Z := fun m => m = 10 ^ 9 ∨ m = 10 ^ 25) (tn_of tv_i rfl) (tn_ixL (K := K) (r := qN) (xs := [10 ^ 9, 10 ^ 25]) (Z := fun i => i < 2) (tv_lstE (n := 2) (ta_e (tv_IN (n := 10 ^ 9) (tv_opI (g := fun i j => i ^ j.toNat) tv_i tv_i ⟨by decide, by decide, by decide⟩) (by decide)) (ta_e (tv_IN (n := 10 ^ 25) (tv_opI (g := fun i j => i ^ j.toNat) tv_i tv_i ⟨by decide, by decide, by decide⟩) (by decide)) ta_e0)) (by decide))
    ((tn_callS (pr := fun x : Int × Unit => x.1 < 1073741824) (F := fun x (y : Nat) => (y : Int) < max 1 x.1) (x := (2, ())) rfl (ta_c tv_i ta_n) (show (2 : Int) < 1073741824 by decide)).mono fun z hz => by have hz : (z : Int) < max 1 2 := hz; omega) ?_)) (fun p => 1 / (p.2 : Rat)) ?_ ?_) fun v14 G16 H16 nr g16 w16 s16 st16 hy16 h14 => ?_
  · intro i hi
    have : i = 0 ∨ i = 1 := by omega
    rcases this with rfl | rfl
    · exact ⟨_, rfl, .inl rfl⟩
    · exact ⟨_, rfl, .inr rfl⟩
  · rintro G' v' ⟨i, m⟩ ⟨hi, hm⟩ hv
    have hi : i = 1 := hi
    subst hi
    exact near_qQ hm hv
  · rintro ⟨i, m⟩ ⟨hi, hm⟩
    exact ⟨m, hm, rfl⟩
  obtain ⟨m, hm, rfl⟩ := hy16
  obtain ⟨b1, b2, b3⟩ := near_bh (hcel.v9 sp.R8 []) m hm
  have T16 := tabs_sb st15 T15 s16
  have n12 := (h12.mo g15).mo g16
  have n13 := h13.mo g16
  have n10 := (m10.mo g15).mo g16
  have n11 := (m11.mo g15).mo g16
  have n6 := (m6.mo g15).mo g16
  have n7 := (m7.mo g15).mo g16
  have n3 := (m3.mo g15).mo g16
  have n4 := (m4.mo g15).mo g16
  have hmem : ∀ x ∈ ([vF n cs R [], vF n cs R [] + 1 / (m : Rat), vF n cs R [] - 1 / (m : Rat)] : List Rat), Bh x := fun x hx => by
    simp only [List.mem_cons, List.not_mem_nil, or_false] at hx
    rcases hx with rfl | rfl | rfl
    · exact hV
    · exact b2
    · exact b3
  have hsl := hcel.slack
  have hwo := hcel.worth
  have e1 : minQ (slackC (keepP n R cs) cs) = vF n cs R [] := slack_min sp.1 hcel.l
  have e2 : worthQ (breakP n R cs) cs = vF n cs R [] := worth_val sp.1
  refine st_forS w16 (it_list (K := K) (xs := [vF n cs R [], vF n cs R [] + 1 / (m : Rat), vF n cs R [] - 1 / (m : Rat)]) (tv_lstE (n := 3) (ta_e (tv_v rfl n13) (ta_e (Tv.eq (tv_call (ta_c (tv_v rfl n13) (ta_c (tv_v rfl h14) ta_n)) ⟨hV, b1⟩) rfl) (ta_e (Tv.eq (tv_call (ta_c (tv_v rfl n13) (ta_c (tv_v rfl h14) ta_n)) ⟨hV, b1⟩) rfl) ta_e0))) (by decide))) tg1
    (fun i σ G' H' => ∃ o, σ = [some (.ref l), some (.ref a), some v2, some v3, some v4, some v5, some v6, some v7, some v8, some v9, some v10, some v11, some v12, some v13, some v14, o] ∧ Sto H' a ∧ LamX.Tabs [(Pt, qDoor)] H')
    (fun G' H' g s w => ⟨none, rfl, st16.on s, T16.ext s⟩) ?_ ?_
  · rintro i x σ1 G17 H17 G18 H18 σ2 hx ⟨o, rfl, st17, T17⟩ g17 g18 s18 w18 ⟨vx, rfl, hvx⟩ N hN
    have st18 := st17.on s18
    have T18 := T17.ext s18
    have gg := g17.trans g18
    have bx := hmem x (List.mem_of_getElem? hx)
    have q13 := n13.mo gg
    refine st_ifNE nb w18 st18 (tnt_notB (Y := fun c => c = true) (Tn.mono (tn_callP (f := fun _ : PyData × PyData × Unit => true) (Y := fun p => p.1 = .bool (decide (x = vF n cs R [])) ∧ p.2.1 = .bool (decide (x = vF n cs R [])) ∧ True)
      (tan_c (r := qDp K) (Y := fun d => d = .bool (decide (x = vF n cs R []))) (Tn.sub (r := qB) (q := qDp K) (Y := fun b => b = decide (x = vF n cs R []))
          (Tn.mono (tn_callP (Y := fun p => p.1 = (⟨n, R, cs⟩ : Tab) ∧ (p.2.1.1 = x ∧ p.2.1.2.1 = keepP n R cs ∧ p.2.1.2.2 = breakP n R cs) ∧ True) (tan_c (Y := fun t => t = (⟨n, R, cs⟩ : Tab)) (tn_of (tv_v rfl (n12.mo gg)) rfl) (tan_c (Y := fun p : Rat × Pln × Pln => p.1 = x ∧ p.2.1 = keepP n R cs ∧ p.2.2 = breakP n R cs) (tn_tup3 (Y := fun z => z = x) (Z := fun z => z = keepP n R cs) (W := fun z => z = breakP n R cs) (tn_callS (pr := fun x : Rat × Unit => Bq x.1) (F := fun x (y : Rat) => y = x.1) (x := (x, ())) rfl (ta_c (tv_v rfl hvx) ta_n) bx.bq) (tn_of (tv_v rfl (n10.mo gg)) rfl) (tn_of (tv_v rfl (n11.mo gg)) rfl)) (tan_of (Y := fun _ : Unit => True) ta_n trivial))) ?_) ?_)
          (fun b => PyData.bool b) (fun G v b _ hv => by rw [show v = .bl b from hv]; exact .bl b) (fun b hb => by rw [hb]))
        (tan_c (r := qDp K) (Y := fun d => d = .bool (decide (x = vF n cs R []))) (tn_of (tv_Dp (tv_eqD (K := K) (b := decide (x = vF n cs R [])) (tv_v rfl hvx) (tv_v rfl q13) (shaped_of shQ (by decide) _) (shaped_of shQ (by decide) _) (eqv_dec (K := K) _ _))) rfl) (tan_of (Y := fun _ : Unit => True) ta_n trivial))) ?_) ?_))
      (fun hB => ?_) (fun _ H19 s19 w19 st19 => hN _ G18 H19 (Same.refl _) w19 ⟨some vx, rfl, st19, tabs_sb st18 T18 s19⟩)
    · rintro ⟨t, ⟨z, c, d⟩, _⟩ ⟨f1, ⟨f2, f3, f4⟩, _⟩
      have f1 : t = (⟨n, R, cs⟩ : Tab) := f1
      have f2 : z = x := f2
      have f3 : c = keepP n R cs := f3
      have f4 : d = breakP n R cs := f4
      subst f1 f2 f3 f4
      refine ⟨hsl, hwo, ?_, ?_, bx.bq⟩
      · show Bq (minQ (slackC (keepP n R cs) cs))
        rw [e1]; exact hV.bq
      · show Bq (worthQ (breakP n R cs) cs)
        rw [e2]; exact hV.bq
    · rintro b ⟨⟨t, ⟨z, c, d⟩, _⟩, ⟨f1, ⟨f2, f3, f4⟩, _⟩, hb⟩
      have f1 : t = (⟨n, R, cs⟩ : Tab) := f1
      have f2 : z = x := f2
      have f3 : c = keepP n R cs := f3
      have f4 : d = breakP n R cs := f4
      subst f1 f2 f3 f4
      rw [hb]
      show (!decide (cmpQ (minQ (slackC (keepP n R cs) cs)) z = -1) && !decide (cmpQ (worthQ (breakP n R cs) cs) z = 1)) = _
      rw [e1]
      exact vp_eq e2
    · rintro ⟨d1, d2, _⟩ ⟨f1, f2, _⟩
      have f1 : d1 = .bool (decide (x = vF n cs R [])) := f1
      have f2 : d2 = .bool (decide (x = vF n cs R [])) := f2
      subst f1 f2
      exact ⟨rfl, trivial⟩
    · rintro b ⟨_, _, hb⟩
      exact hb
    · obtain ⟨c, hc, e⟩ := hB
      rw [hc] at e
      cases e
  · rintro σ' G19 H19 g19 w19 ⟨o, rfl, st19, T19⟩
    have hA : Has (qSq K (qPln K)) G19 v6 (plnR n R hs5) := ⟨.inl (n6.mo g19).h⟩
    refine st_if (b := decide ((y : Int) = 1) && !(true && true)) w19 (tt_and (tt_eqI (tv_v rfl (n7.mo g19).nI) tv_i) fun h => ?_) (fun z => ?_) fun _ H20 s20 w20 => ?_
    · have hy1 : (y : Int) = 1 := of_decide_eq_true h
      have ha1 : AskOk (plnR n R hs5) 1 := hy1 ▸ hask
      have hs1 : swT (plnR n R hs5) 1 = ⟨n, R, cs⟩ := hy1 ▸ hsw
      refine tt_not (b := true && true) (tt_and (tt_op (tv_eqP (x := keepP n R cs) (Tv.eq (tv_callD (r2 := qI) (b := 1) (tv_v rfl hA) (fun G => rfl) ha1) ?_) (tv_v rfl (n10.mo g19)))) fun _ => tt_op (tv_eqP (x := breakP n R cs) (Tv.eq (tv_callD (r2 := qI) (b := 1) ((tv_tupL (tv_v rfl (n6.mo g19))).sub fun _ _ z => (.inr z : qSq K (qPln K) _ _ _)) (fun G => rfl) ha1) ?_) (tv_v rfl (n11.mo g19))))
      · show keepP (swT (plnR n R hs5) 1).n (swT (plnR n R hs5) 1).R (swT (plnR n R hs5) 1).cs = _
        rw [hs1]
      · show breakP (swT (plnR n R hs5) 1).n (swT (plnR n R hs5) 1).R (swT (plnR n R hs5) 1).cs = _
        rw [hs1]
    · simp at z
    · have hps : ∀ p ∈ plnR n R hs5, p.n = n ∧ p.R = R := fun p hp => by
        obtain ⟨sh, _, e⟩ := List.mem_map.mp hp
        rw [← e]
        exact ⟨rfl, rfl⟩
      exact ⟨_, rfl, _, rfl, _, rfl, _, rfl, a, v3, v4, v6, n, R, plnR n R hs5, rfl, na, st19.on s20, T19.ext s20 _ List.mem_cons_self, Mo.mo w20.le (n3.mo g19).h, Mo.mo w20.le (n4.mo g19).h, Mo.mo w20.le (n6.mo g19).h, sp, ⟨by rw [plnR_len]; exact l1, by rw [plnR_len]; exact l5⟩, hps, hQ⟩
end
end Nb
set_option maxHeartbeats 4000000
namespace Nb
open PySem L2
open PyProof.Rows (envOfC)
section
variable {P : Program} {w : World} {K : PySem.W.Frag} {mg : PySem.Str → Option Value} {base h : Heap}
theorem ctx_of (X : K.In h) (G : h.Ns mainGlobals mg) (c : He.SaysD fas fns K) (e : ExOk K) (cp : pfn K = prs.map PrD.val ∧ (prs.all fun d => propB K d) = true) : Ctx P w K mg base where
  d_is_integer_value := ⟨_, c.def_ 0, He.glo_ok X G (x := "is_integer_value") (c.fact 0)⟩
  d_parts_of := ⟨_, c.def_ 1, He.glo_ok X G (x := "parts_of") (c.fact 1)⟩
  d_common_divisor := ⟨_, c.def_ 2, He.glo_ok X G (x := "common_divisor") (c.fact 2)⟩
  d_fraction := ⟨_, c.def_ 3, He.glo_ok X G (x := "fraction") (c.fact 3)⟩
  d_sum_of_two := ⟨_, c.def_ 4, He.glo_ok X G (x := "sum_of_two") (c.fact 4)⟩
  d_product_of_two := ⟨_, c.def_ 5, He.glo_ok X G (x := "product_of_two") (c.fact 5)⟩
  d_opposite := ⟨_, c.def_ 6, He.glo_ok X G (x := "opposite") (c.fact 6)⟩
  d_order_of := ⟨_, c.def_ 7, He.glo_ok X G (x := "order_of") (c.fact 7)⟩
  d_add := ⟨_, c.def_ 8, He.glo_ok X G (x := "add") (c.fact 8)⟩
  d_sub := ⟨_, c.def_ 9, He.glo_ok X G (x := "sub") (c.fact 9)⟩
  d_div := ⟨_, c.def_ 10, He.glo_ok X G (x := "div") (c.fact 10)⟩
  d_negate := ⟨_, c.def_ 11, He.glo_ok X G (x := "negate") (c.fact 11)⟩
  d_compare := ⟨_, c.def_ 12, He.glo_ok X G (x := "compare") (c.fact 12)⟩
  d_total := ⟨_, c.def_ 13, He.glo_ok X G (x := "total") (c.fact 13)⟩
  d_check_some := ⟨_, c.def_ 14, He.glo_ok X G (x := "check_some") (c.fact 14)⟩
  d_farthest_value := ⟨_, c.def_ 15, He.glo_ok X G (x := "farthest_value") (c.fact 15)⟩
  d_least := ⟨_, c.def_ 16, He.glo_ok X G (x := "least") (c.fact 16)⟩
  d_greatest := ⟨_, c.def_ 17, He.glo_ok X G (x := "greatest") (c.fact 17)⟩
  d_dot := ⟨_, c.def_ 18, He.glo_ok X G (x := "dot") (c.fact 18)⟩
  d_check_count_rows := ⟨_, c.def_ 19, He.glo_ok X G (x := "check_count_rows") (c.fact 19)⟩
  d_check_shape_rows := ⟨_, c.def_ 20, He.glo_ok X G (x := "check_shape_rows") (c.fact 20)⟩
  d_count_texts := ⟨_, c.def_ 21, He.glo_ok X G (x := "count_texts") (c.fact 21)⟩
  d_next_texts := ⟨_, c.def_ 22, He.glo_ok X G (x := "next_texts") (c.fact 22)⟩
  d_most_rounds := ⟨_, c.def_ 23, He.glo_ok X G (x := "most_rounds") (c.fact 23)⟩
  d_letters := ⟨_, c.def_ 24, He.glo_ok X G (x := "letters") (c.fact 24)⟩
  d_rows_of := ⟨_, c.def_ 25, He.glo_ok X G (x := "rows_of") (c.fact 25)⟩
  d_beginnings_of := ⟨_, c.def_ 26, He.glo_ok X G (x := "beginnings_of") (c.fact 26)⟩
  d_check_count_aid_stakes := ⟨_, c.def_ 27, He.glo_ok X G (x := "check_count_aid_stakes") (c.fact 27)⟩
  d_same_shape_aid_stakes := ⟨_, c.def_ 28, He.glo_ok X G (x := "same_shape_aid_stakes") (c.fact 28)⟩
  d_check_shapes_aid_stakes := ⟨_, c.def_ 29, He.glo_ok X G (x := "check_shapes_aid_stakes") (c.fact 29)⟩
  d_check_group := ⟨_, c.def_ 30, He.glo_ok X G (x := "check_group") (c.fact 30)⟩
  d_check_same_shape := ⟨_, c.def_ 31, He.glo_ok X G (x := "check_same_shape") (c.fact 31)⟩
  d_check_size := ⟨_, c.def_ 32, He.glo_ok X G (x := "check_size") (c.fact 32)⟩
  d_check_shapes_plans := ⟨_, c.def_ 33, He.glo_ok X G (x := "check_shapes_plans") (c.fact 33)⟩
  d_share_parts := ⟨_, c.def_ 34, He.glo_ok X G (x := "share_parts") (c.fact 34)⟩
  d_is_sharing := ⟨_, c.def_ 35, He.glo_ok X G (x := "is_sharing") (c.fact 35)⟩
  d_sharing_at := ⟨_, c.def_ 36, He.glo_ok X G (x := "sharing_at") (c.fact 36)⟩
  d_inner_of := ⟨_, c.def_ 37, He.glo_ok X G (x := "inner_of") (c.fact 37)⟩
  d_row_table := ⟨_, c.def_ 38, He.glo_ok X G (x := "row_table") (c.fact 38)⟩
  d_misses_table := ⟨_, c.def_ 39, He.glo_ok X G (x := "misses_table") (c.fact 39)⟩
  d_mean_under := ⟨_, c.def_ 40, He.glo_ok X G (x := "mean_under") (c.fact 40)⟩
  d_least_misses := ⟨_, c.def_ 41, He.glo_ok X G (x := "least_misses") (c.fact 41)⟩
  d_same_shape_papers := ⟨_, c.def_ 42, He.glo_ok X G (x := "same_shape_papers") (c.fact 42)⟩
  d_check_shape_papers := ⟨_, c.def_ 43, He.glo_ok X G (x := "check_shape_papers") (c.fact 43)⟩
  d_slack_table := ⟨_, c.def_ 44, He.glo_ok X G (x := "slack_table") (c.fact 44)⟩
  d_least_slack := ⟨_, c.def_ 45, He.glo_ok X G (x := "least_slack") (c.fact 45)⟩
  d_worth := ⟨_, c.def_ 46, He.glo_ok X G (x := "worth") (c.fact 46)⟩
  d_is_value_paper := ⟨_, c.def_ 47, He.glo_ok X G (x := "is_value_paper") (c.fact 47)⟩
  d_height := ⟨_, c.def_ 48, He.glo_ok X G (x := "height") (c.fact 48)⟩
  d_poured := ⟨_, c.def_ 49, He.glo_ok X G (x := "poured") (c.fact 49)⟩
  d_reached_places := ⟨_, c.def_ 50, He.glo_ok X G (x := "reached_places") (c.fact 50)⟩
  d_even_chances := ⟨_, c.def_ 51, He.glo_ok X G (x := "even_chances") (c.fact 51)⟩
  d_cut := ⟨_, c.def_ 52, He.glo_ok X G (x := "cut") (c.fact 52)⟩
  d_fold_layers := ⟨_, c.def_ 53, He.glo_ok X G (x := "fold_layers") (c.fact 53)⟩
  d_floors_of := ⟨_, c.def_ 54, He.glo_ok X G (x := "floors_of") (c.fact 54)⟩
  d_wide_fold := ⟨_, c.def_ 55, He.glo_ok X G (x := "wide_fold") (c.fact 55)⟩
  d_wide_keeper := ⟨_, c.def_ 56, He.glo_ok X G (x := "wide_keeper") (c.fact 56)⟩
  d_wide_breaker := ⟨_, c.def_ 57, He.glo_ok X G (x := "wide_breaker") (c.fact 57)⟩
  d_useful := ⟨_, c.def_ 58, He.glo_ok X G (x := "useful") (c.fact 58)⟩
  d_turned := ⟨_, c.def_ 59, He.glo_ok X G (x := "turned") (c.fact 59)⟩
  d_grown := ⟨_, c.def_ 60, He.glo_ok X G (x := "grown") (c.fact 60)⟩
  d_start_state := ⟨_, c.def_ 61, He.glo_ok X G (x := "start_state") (c.fact 61)⟩
  d_switch_table := ⟨_, c.def_ 62, He.glo_ok X G (x := "switch_table") (c.fact 62)⟩
  d_switch_distance := ⟨_, c.def_ 63, He.glo_ok X G (x := "switch_distance") (c.fact 63)⟩
  d_switch_chooser := ⟨_, c.def_ 64, He.glo_ok X G (x := "switch_chooser") (c.fact 64)⟩
  d_switch_foe := ⟨_, c.def_ 65, He.glo_ok X G (x := "switch_foe") (c.fact 65)⟩
  d__law_store := ⟨_, c.def_ 66, He.glo_ok X G (x := "_law_store") (c.fact 66)⟩
  d__law_mixed := ⟨_, c.def_ 67, He.glo_ok X G (x := "_law_mixed") (c.fact 67)⟩
  d__law_take := ⟨_, c.def_ 68, He.glo_ok X G (x := "_law_take") (c.fact 68)⟩
  d__law_edge := ⟨_, c.def_ 69, He.glo_ok X G (x := "_law_edge") (c.fact 69)⟩
  d__law_power := ⟨_, c.def_ 70, He.glo_ok X G (x := "_law_power") (c.fact 70)⟩
  d__law_gcd := ⟨_, c.def_ 71, He.glo_ok X G (x := "_law_gcd") (c.fact 71)⟩
  d__law_low := ⟨_, c.def_ 72, He.glo_ok X G (x := "_law_low") (c.fact 72)⟩
  d__law_plus := ⟨_, c.def_ 73, He.glo_ok X G (x := "_law_plus") (c.fact 73)⟩
  d__law_minus := ⟨_, c.def_ 74, He.glo_ok X G (x := "_law_minus") (c.fact 74)⟩
  d__law_times := ⟨_, c.def_ 75, He.glo_ok X G (x := "_law_times") (c.fact 75)⟩
  d__law_below := ⟨_, c.def_ 76, He.glo_ok X G (x := "_law_below") (c.fact 76)⟩
  d__law_sum := ⟨_, c.def_ 77, He.glo_ok X G (x := "_law_sum") (c.fact 77)⟩
  d__law_lowest := ⟨_, c.def_ 78, He.glo_ok X G (x := "_law_lowest") (c.fact 78)⟩
  d__law_highest := ⟨_, c.def_ 79, He.glo_ok X G (x := "_law_highest") (c.fact 79)⟩
  d__law_dress := ⟨_, c.def_ 80, He.glo_ok X G (x := "_law_dress") (c.fact 80)⟩
  d__law_dressed := ⟨_, c.def_ 81, He.glo_ok X G (x := "_law_dressed") (c.fact 81)⟩
  d__law_bad_count := ⟨_, c.def_ 82, He.glo_ok X G (x := "_law_bad_count") (c.fact 82)⟩
  d__law_alike := ⟨_, c.def_ 83, He.glo_ok X G (x := "_law_alike") (c.fact 83)⟩
  d__law_most := ⟨_, c.def_ 84, He.glo_ok X G (x := "_law_most") (c.fact 84)⟩
  d__law_shape := ⟨_, c.def_ 85, He.glo_ok X G (x := "_law_shape") (c.fact 85)⟩
  d__law_rounds := ⟨_, c.def_ 86, He.glo_ok X G (x := "_law_rounds") (c.fact 86)⟩
  d__law_index := ⟨_, c.def_ 87, He.glo_ok X G (x := "_law_index") (c.fact 87)⟩
  d__law_misses_on := ⟨_, c.def_ 88, He.glo_ok X G (x := "_law_misses_on") (c.fact 88)⟩
  d__law_weights := ⟨_, c.def_ 89, He.glo_ok X G (x := "_law_weights") (c.fact 89)⟩
  d__law_plan_shares := ⟨_, c.def_ 90, He.glo_ok X G (x := "_law_plan_shares") (c.fact 90)⟩
  d__law_plan := ⟨_, c.def_ 91, He.glo_ok X G (x := "_law_plan") (c.fact 91)⟩
  d__law_row_of := ⟨_, c.def_ 92, He.glo_ok X G (x := "_law_row_of") (c.fact 92)⟩
  d__law_rows := ⟨_, c.def_ 93, He.glo_ok X G (x := "_law_rows") (c.fact 93)⟩
  d__law_begins := ⟨_, c.def_ 94, He.glo_ok X G (x := "_law_begins") (c.fact 94)⟩
  d__law_cells_of := ⟨_, c.def_ 95, He.glo_ok X G (x := "_law_cells_of") (c.fact 95)⟩
  d__law_new_plan := ⟨_, c.def_ 96, He.glo_ok X G (x := "_law_new_plan") (c.fact 96)⟩
  d__law_unlike := ⟨_, c.def_ 97, He.glo_ok X G (x := "_law_unlike") (c.fact 97)⟩
  d__law_bad_lists := ⟨_, c.def_ 98, He.glo_ok X G (x := "_law_bad_lists") (c.fact 98)⟩
  d__law_helper_list := ⟨_, c.def_ 99, He.glo_ok X G (x := "_law_helper_list") (c.fact 99)⟩
  d__law_plans := ⟨_, c.def_ 100, He.glo_ok X G (x := "_law_plans") (c.fact 100)⟩
  d__law_least_row := ⟨_, c.def_ 101, He.glo_ok X G (x := "_law_least_row") (c.fact 101)⟩
  d__law_switched := ⟨_, c.def_ 102, He.glo_ok X G (x := "_law_switched") (c.fact 102)⟩
  d__law_shares_of := ⟨_, c.def_ 103, He.glo_ok X G (x := "_law_shares_of") (c.fact 103)⟩
  d__law_chance_of := ⟨_, c.def_ 104, He.glo_ok X G (x := "_law_chance_of") (c.fact 104)⟩
  d__law_worth_of := ⟨_, c.def_ 105, He.glo_ok X G (x := "_law_worth_of") (c.fact 105)⟩
  d__law_fails := ⟨_, c.def_ 106, He.glo_ok X G (x := "_law_fails") (c.fact 106)⟩
  d__law_shown := ⟨_, c.def_ 107, He.glo_ok X G (x := "_law_shown") (c.fact 107)⟩
  d__law_doors := ⟨_, c.def_ 108, He.glo_ok X G (x := "_law_doors") (c.fact 108)⟩
  d_law := ⟨_, c.def_ 109, He.glo_ok X G (x := "law") (c.fact 109)⟩
  cl_Table := He.cls_ok (x := "Table") (c.fact 138)
  na_Table := fun f hf => by
    simp only [List.mem_cons, List.not_mem_nil, or_false] at hf
    rcases hf with rfl | rfl | rfl
    · exact He.noat_ok (x := "Table") (f := "own_width") (c.fact 140)
    · exact He.noat_ok (x := "Table") (f := "own_rounds") (c.fact 141)
    · exact He.noat_ok (x := "Table") (f := "own_cells") (c.fact 142)
  cl_Plan := He.cls_ok (x := "Plan") (c.fact 143)
  na_Plan := fun f hf => by
    simp only [List.mem_cons, List.not_mem_nil, or_false] at hf
    rcases hf with rfl | rfl | rfl | rfl
    · exact He.noat_ok (x := "Plan") (f := "held_width") (c.fact 145)
    · exact He.noat_ok (x := "Plan") (f := "held_rounds") (c.fact 146)
    · exact He.noat_ok (x := "Plan") (f := "held_shares") (c.fact 147)
    · exact He.noat_ok (x := "Plan") (f := "held_places") (c.fact 148)
  m_Table___init__ := ⟨let ⟨fd, F⟩ := c.def_ 110 (d := ⟨("Table", some "__init__"), "__init__", "Table.__init__", defArgs s_Table___init__, defBody s_Table___init__, defScope s_Table___init__, [], []⟩); ⟨_, fd, He.mkr_ok (x := "Table") (c.fact 139), F⟩⟩
  m_Table_width := pr_ok cp 0 (d := ⟨"Table", "width", "Table.width", s_Table_width⟩) (by rfl)
  m_Table_rounds := pr_ok cp 1 (d := ⟨"Table", "rounds", "Table.rounds", s_Table_rounds⟩) (by rfl)
  m_Table_cells := pr_ok cp 2 (d := ⟨"Table", "cells", "Table.cells", s_Table_cells⟩) (by rfl)
  m_Table___sub__ := ⟨let ⟨fd, F⟩ := c.def_ 111 (d := ⟨("Table", some "__sub__"), "__sub__", "Table.__sub__", defArgs s_Table___sub__, defBody s_Table___sub__, defScope s_Table___sub__, [], []⟩); ⟨_, fd, e.s1, e.s2, e.s3, F⟩⟩
  m_Plan___init__ := ⟨let ⟨fd, F⟩ := c.def_ 112 (d := ⟨("Plan", some "__init__"), "__init__", "Plan.__init__", defArgs s_Plan___init__, defBody s_Plan___init__, defScope s_Plan___init__, [], []⟩); ⟨_, fd, He.mkr_ok (x := "Plan") (c.fact 144), F⟩⟩
  m_Plan_width := pr_ok cp 3 (d := ⟨"Plan", "width", "Plan.width", s_Plan_width⟩) (by rfl)
  m_Plan_rounds := pr_ok cp 4 (d := ⟨"Plan", "rounds", "Plan.rounds", s_Plan_rounds⟩) (by rfl)
  m_Plan_shares := pr_ok cp 5 (d := ⟨"Plan", "shares", "Plan.shares", s_Plan_shares⟩) (by rfl)
  m_Plan___call__ := ⟨let ⟨fd, F⟩ := c.def_ 113 (d := ⟨("Plan", some "__call__"), "__call__", "Plan.__call__", defArgs s_Plan___call__, defBody s_Plan___call__, defScope s_Plan___call__, [], []⟩); ⟨_, fd, ⟨e.c1, e.c2, e.c3⟩, F⟩⟩
  m_Plan___eq__ := ⟨let ⟨fd, F⟩ := c.def_ 114 (d := ⟨("Plan", some "__eq__"), "__eq__", "Plan.__eq__", defArgs s_Plan___eq__, defBody s_Plan___eq__, defScope s_Plan___eq__, [], []⟩); ⟨_, fd, e.e1, e.e2, F⟩⟩
  isi_Plan := ⟨e.i1, e.i2, e.i3, e.i4, e.i5⟩
  n_isinstance := He.free_ok X G (x := "isinstance") (c.fact 118)
  n_int := He.free_ok X G (x := "int") (c.fact 119)
  n_bool := He.free_ok X G (x := "bool") (c.fact 120)
  n_str := He.free_ok X G (x := "str") (c.fact 121)
  n_list := He.free_ok X G (x := "list") (c.fact 122)
  n_tuple := He.free_ok X G (x := "tuple") (c.fact 123)
  n_len := He.free_ok X G (x := "len") (c.fact 124)
  n_range := He.free_ok X G (x := "range") (c.fact 125)
  n_zip := He.free_ok X G (x := "zip") (c.fact 126)
  n_enumerate := He.free_ok X G (x := "enumerate") (c.fact 127)
  n_reversed := He.free_ok X G (x := "reversed") (c.fact 128)
  n_sum := He.free_ok X G (x := "sum") (c.fact 129)
  n_min := He.free_ok X G (x := "min") (c.fact 130)
  n_max := He.free_ok X G (x := "max") (c.fact 131)
  n_abs := He.free_ok X G (x := "abs") (c.fact 132)
  n_all := He.free_ok X G (x := "all") (c.fact 133)
  c_WIDEST := He.int_ok X G (x := "WIDEST") (c.fact 134)
  c_MOST_HELPERS := He.int_ok X G (x := "MOST_HELPERS") (c.fact 135)
  c_MOST_SWITCHES := He.int_ok X G (x := "MOST_SWITCHES") (c.fact 136)
  c_OUTCOMES := He.str_ok X G (x := "OUTCOMES") (c.fact 137)
  g_MOST_ROUNDS := He.glo_ok X G (x := "MOST_ROUNDS") (c.fact 110)
  g_WHOLE_SHARE := He.glo_ok X G (x := "WHOLE_SHARE") (c.fact 111)
  g_NOTHING := He.glo_ok X G (x := "NOTHING") (c.fact 112)
  g_Table := He.glo_ok X G (x := "Table") (c.fact 113)
  g_Plan := He.glo_ok X G (x := "Plan") (c.fact 114)
  g_BadCount := He.glo_ok X G (x := "BadCount") (c.fact 115)
  g_NoHelper := He.glo_ok X G (x := "NoHelper") (c.fact 116)
  g_Mismatch := He.glo_ok X G (x := "Mismatch") (c.fact 117)
  t_MOST_ROUNDS := e.t1
  t_WHOLE_SHARE := e.t2
  t_NOTHING := e.t3
theorem ctxE_of (c : He.SaysD fas fns K) (e : ExOk K) : CtxE K where
  oB := e.o
  iB := let ⟨fd, F⟩ := c.def_ 115 (d := ⟨("BadCount", some "__init__"), "__init__", "BadCount.__init__", defArgs s_BadCount___init__, defBody s_BadCount___init__, defScope s_BadCount___init__, [], []⟩); ⟨_, fd, e.b1, e.b2, F⟩
  nB := fun f hf => by
    simp only [List.mem_cons, List.not_mem_nil, or_false] at hf
    rcases hf with rfl | rfl | rfl
    · exact He.noat_ok (x := "BadCount") (f := "found") (c.fact 149)
    · exact He.noat_ok (x := "BadCount") (f := "low") (c.fact 150)
    · exact He.noat_ok (x := "BadCount") (f := "high") (c.fact 151)
  xB := e.x
  xN := (He.exc_ok (x := "NoHelper") (c.fact 152)).1
  kN := (He.exc_ok (x := "NoHelper") (c.fact 152)).2.1
  bN := (He.exc_ok (x := "NoHelper") (c.fact 152)).2.2.1
  tN := (He.exc_ok (x := "NoHelper") (c.fact 152)).2.2.2
  xM := (He.exc_ok (x := "Mismatch") (c.fact 153)).1
  kM := (He.exc_ok (x := "Mismatch") (c.fact 153)).2.1
  bM := (He.exc_ok (x := "Mismatch") (c.fact 153)).2.2.1
  tM := (He.exc_ok (x := "Mismatch") (c.fact 153)).2.2.2
  eBB := He.exm_ok (x := "BadCount") (y := "BadCount") (b := true) (c.fact 154)
  eNB := He.exm_ok (x := "NoHelper") (y := "BadCount") (b := false) (c.fact 155)
  eNN := He.exm_ok (x := "NoHelper") (y := "NoHelper") (b := true) (c.fact 156)
  eMB := He.exm_ok (x := "Mismatch") (y := "BadCount") (b := false) (c.fact 157)
  eMN := He.exm_ok (x := "Mismatch") (y := "NoHelper") (b := false) (c.fact 158)
  eMM := He.exm_ok (x := "Mismatch") (y := "Mismatch") (b := true) (c.fact 159)
end
end Nb
set_option Elab.async false
set_option linter.all false
set_option maxRecDepth 100000
set_option maxHeartbeats 4000000
namespace Nb
open PySem L2
open PyProof.Rows (envOfC)
abbrev rwL : PySem.W.OpenLaw := PySem.Challenge.rw_notbehind_k69_whole_switch_distance_show
theorem room14 : Room 14 PySem.callerA := ⟨rfl, by decide +kernel, by decide +kernel⟩
theorem law_at {w : World} {mg : PySem.Str → Option Value} {fa : Addr} {h : Heap} {K : PySem.W.Frag} (X : K.In h) (c : SaysQ h K) (G : h.Ns mainGlobals mg) (hm : mg "law" = some (.ref fa)) : LamX.LawAtS rwL w K CX0 14 63 "_law_script" mg fa h := by
  obtain ⟨m1, m2⟩ := He.ba (show ((exL K).all id && prs.all fun d => propB K d) = true from c.ex)
  have e := ex_ok m1
  have cD := c.d
  have TE : CtxE K := ctxE_of cD e
  obtain ⟨fd, F⟩ := cD.def_ 109 (d := ⟨("law", none), "law", "law", defArgs s_law, defBody s_law, defScope s_law, [], []⟩)
  obtain ⟨fdD, FD⟩ := cD.def_ 108 (d := ⟨("_law_doors", none), "_law_doors", "_law_doors", defArgs s__law_doors, defBody s__law_doors, defScope s__law_doors, [], []⟩)
  have hg := He.glo_ok X G (x := "law") (cD.fact 109)
  have ef : fa = He.ga K "law" := by
    rw [hm] at hg
    exact Value.ref.inj (Option.some.inj hg)
  have hgD := He.glo_ok X G (x := "_law_doors") (cD.fact 108)
  subst ef
  refine ⟨fd, [He.cT K ("_law_doors", none)], spLaw K (He.cT K ("_law_doors", none)).2, ?_, ?_, ?_, ?_, ?_, ?_⟩
  · intro p hp
    rw [List.mem_singleton.mp hp]
    exact c.emp
  · intro p hp
    rw [List.mem_singleton.mp hp]
    exact c.out
  · intro p hp
    rw [List.mem_singleton.mp hp]
    exact PySem.W.codeHd_of_K X c.hd
  · intro s u
    obtain ⟨_, _, _, _, _, _, _, _, _, _, rfl, _, _, ⟨_, rfl⟩ | ⟨filled, _⟩, _⟩ := F.ex
    · exact BindsTo.of_eq rfl
    · exact absurd rfl filled
  · intro H a ns hl _ hT hS
    exact ⟨a, ns, rfl, hS, hl, hT _ List.mem_cons_self, fun _ => rfl⟩
  · intro base KB GB hTB
    have T : Ctx rwL.prog w K mg base := ctx_of X G cD e ⟨c.p, m2⟩
    have TB := hTB _ List.mem_cons_self
    have FD0 := FD
    obtain ⟨_, _, dV, kV, doc, pm, an, cdv, ct, _, rfl, lk, hcd, _, _⟩ := FD.ex
    obtain ⟨cc, rfl⟩ := He.codeIn_ref hcd
    have ec : He.codeOf K ("_law_doors", none) = cc := He.codeOf_eq lk rfl
    have TB : LamX.TabB base mg cc (He.cT K ("_law_doors", none)).2 := by
      have e1 : (He.cT K ("_law_doors", none)).1 = cc := ec
      rw [← e1]
      exact TB
    have hDoor : Pro rwL.prog w K mg base "_law_doors" ["_law_store_here", "_law_width", "_law_rounds_here", "_law_plans_here"] 13 (spDoor K (He.cT K ("_law_doors", none)).2) :=
      ⟨_, _, hgD, FD0.kp, FD0.bindsN (fun _ _ _ _ _ _ us hl => match us, hl with | [_, _, _, _], _ => rfl), fn_doors T TE TB lk hcd⟩
    exact fn_law T hDoor F
theorem law_walk {q : Program} {loose : List PySem.Str} {XP : (PySem.Str → Option Value) → Heap → Prop} : PySem.W.WalkO q loose XP hookQ.says rwL.row.toRowW (HandSHeadRun.topDef rwL.row.prog 151) [] (fun f vs => PySem.call f vs) :=
  LamX.walk_ofTsE (l := rwL) (n := 63) (k := 14) (CX := fun _ => CX0) (x := "_law_script") rfl (by decide) rfl room14 (fun w mg fa h ⟨K, X, c⟩ G hm => ⟨K, X, law_at X c G hm⟩) (fun _ _ _ _ _ h => h.elim)
end Nb
set_option Elab.async false
set_option linter.all false
set_option maxRecDepth 100000
set_option maxHeartbeats 0
open PySem PySem.W PySem.Calls PyProof.Rows
theorem PySem.Challenge.cw_notbehind_k69_whole_switch_distance_show_holds : PySem.Challenge.rw_notbehind_k69_whole_switch_distance_show.Holds := by
  w_on; o_law
  refine HandSHeadRun.head_any (r := OpenLaw.row PySem.Challenge.rw_notbehind_k69_whole_switch_distance_show) (q := Nb.qv) (H := Nb.hookQ) (ob := fun s => Nb.obQ (HandSHeadRun.getT s)) (M := 8000) (loose := Nb.names) (d := HandSHeadRun.topDef (OpenLaw.row PySem.Challenge.rw_notbehind_k69_whole_switch_distance_show).prog 151) (kwd := []) (fun _ => Nb.obQ_eq) (by kernel_rfl) (fun s => by kernel_rfl) Nb.head_run (by kernel_rfl) (by kernel_rfl) (by kernel_rfl) (by rfl) (by first | assumption | decide +kernel) (by decide +kernel) ⟨rfl, rfl, rfl, rfl, rfl, by decide +kernel⟩ ?hw ?hc
  case hw => w_witness2
  case hc => exact Nb.law_walk
