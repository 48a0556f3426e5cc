import PyProof.Rows.All
import Wide.All
import OpenK.AllK
import Wide.FinOn
import KE.KIntText
import HandS.ForMost
import HandS.Rev
import HandS.RevRange
import HandS.IsInst
import HandS.Walk
import HandS.SortKw
import KE.DatumOrd
import KE.DataEq
import PyProof.Rows.RegStrFacts
import HandS.Defaults
import HandS.ForDict
import HandS.WordsDict
import HandS.Exc
import HandS.Style
import HandS.NoneIn
import PySem.Challenge.RW_kindfill_k23_whole_forms_by_any_steps
set_option Elab.async false
set_option linter.all false
set_option maxRecDepth 100000
set_option maxHeartbeats 4000000
namespace K23
open PySem (Str)

/-! ### kinds, terms without names -/
inductive Kd where
  | mark (m : Str)
  | one
  | to (a b : Kd)
  | both (a b : Kd)
  deriving DecidableEq

inductive Tm where
  | var (i : Nat)
  | free (x : Str)
  | unit
  | lam (k : Kd) (t : Tm)
  | app (t u : Tm)
  | pair (t u : Tm)
  | fst (t : Tm)
  | snd (t : Tm)
  deriving DecidableEq

def upr (r : Nat → Nat) : Nat → Nat
  | 0 => 0
  | i + 1 => r i + 1
def ren : (Nat → Nat) → Tm → Tm
  | r, .var i => .var (r i)
  | _, .free x => .free x
  | _, .unit => .unit
  | r, .lam k t => .lam k (ren (upr r) t)
  | r, .app t u => .app (ren r t) (ren r u)
  | r, .pair t u => .pair (ren r t) (ren r u)
  | r, .fst t => .fst (ren r t)
  | r, .snd t => .snd (ren r t)
def shift (t : Tm) : Tm := ren Nat.succ t
def ups (s : Nat → Tm) : Nat → Tm
  | 0 => .var 0
  | i + 1 => shift (s i)
def sub : (Nat → Tm) → Tm → Tm
  | s, .var i => s i
  | _, .free x => .free x
  | _, .unit => .unit
  | s, .lam k t => .lam k (sub (ups s) t)
  | s, .app t u => .app (sub s t) (sub s u)
  | s, .pair t u => .pair (sub s t) (sub s u)
  | s, .fst t => .fst (sub s t)
  | s, .snd t => .snd (sub s t)
def inst (a : Tm) : Nat → Tm
  | 0 => a
  | i + 1 => .var i

theorem ren_ext : ∀ (t : Tm) {r q : Nat → Nat}, (∀ i, r i = q i) → ren r t = ren q t
  | .var i, _, _, h => by simp [ren, h]
  | .free _, _, _, _ => rfl
  | .unit, _, _, _ => rfl
  | .lam k t, r, q, h => by
    simp only [ren]
    rw [ren_ext t (r := upr r) (q := upr q) (fun i => by cases i <;> simp [upr, h])]
  | .app t u, r, q, h => by simp only [ren]; rw [ren_ext t h, ren_ext u h]
  | .pair t u, r, q, h => by simp only [ren]; rw [ren_ext t h, ren_ext u h]
  | .fst t, r, q, h => by simp only [ren]; rw [ren_ext t h]
  | .snd t, r, q, h => by simp only [ren]; rw [ren_ext t h]
theorem sub_ext : ∀ (t : Tm) {r q : Nat → Tm}, (∀ i, r i = q i) → sub r t = sub q t
  | .var i, _, _, h => by simp [sub, h]
  | .free _, _, _, _ => rfl
  | .unit, _, _, _ => rfl
  | .lam k t, r, q, h => by
    simp only [sub]
    rw [sub_ext t (r := ups r) (q := ups q) (fun i => by cases i <;> simp [ups, h])]
  | .app t u, r, q, h => by simp only [sub]; rw [sub_ext t h, sub_ext u h]
  | .pair t u, r, q, h => by simp only [sub]; rw [sub_ext t h, sub_ext u h]
  | .fst t, r, q, h => by simp only [sub]; rw [sub_ext t h]
  | .snd t, r, q, h => by simp only [sub]; rw [sub_ext t h]
theorem ren_ren : ∀ (t : Tm) (r q : Nat → Nat), ren r (ren q t) = ren (fun i => r (q i)) t
  | .var i, _, _ => rfl
  | .free _, _, _ => rfl
  | .unit, _, _ => rfl
  | .lam k t, r, q => by
    simp only [ren]
    exact congrArg (Tm.lam k) ((ren_ren t _ _).trans (ren_ext t (fun i => by cases i <;> rfl)))
  | .app t u, r, q => by simp only [ren]; rw [ren_ren t, ren_ren u]
  | .pair t u, r, q => by simp only [ren]; rw [ren_ren t, ren_ren u]
  | .fst t, r, q => by simp only [ren]; rw [ren_ren t]
  | .snd t, r, q => by simp only [ren]; rw [ren_ren t]
theorem sub_ren : ∀ (t : Tm) (s : Nat → Tm) (r : Nat → Nat), sub s (ren r t) = sub (fun i => s (r i)) t
  | .var i, _, _ => rfl
  | .free _, _, _ => rfl
  | .unit, _, _ => rfl
  | .lam k t, s, r => by
    simp only [ren, sub]
    exact congrArg (Tm.lam k) ((sub_ren t _ _).trans (sub_ext t (fun i => by cases i <;> rfl)))
  | .app t u, s, r => by simp only [ren, sub]; rw [sub_ren t, sub_ren u]
  | .pair t u, s, r => by simp only [ren, sub]; rw [sub_ren t, sub_ren u]
  | .fst t, s, r => by simp only [ren, sub]; rw [sub_ren t]
  | .snd t, s, r => by simp only [ren, sub]; rw [sub_ren t]
theorem ren_sub : ∀ (t : Tm) (r : Nat → Nat) (s : Nat → Tm), ren r (sub s t) = sub (fun i => ren r (s i)) t
  | .var i, _, _ => rfl
  | .free _, _, _ => rfl
  | .unit, _, _ => rfl
  | .lam k t, r, s => by
    simp only [ren, sub]
    exact congrArg (Tm.lam k) ((ren_sub t _ _).trans (sub_ext t (fun i => by
      cases i with
      | zero => rfl
      | succ i => simp only [ups, shift]; rw [ren_ren, ren_ren]; exact ren_ext _ fun j => rfl)))
  | .app t u, r, s => by simp only [ren, sub]; rw [ren_sub t, ren_sub u]
  | .pair t u, r, s => by simp only [ren, sub]; rw [ren_sub t, ren_sub u]
  | .fst t, r, s => by simp only [ren, sub]; rw [ren_sub t]
  | .snd t, r, s => by simp only [ren, sub]; rw [ren_sub t]
theorem sub_sub : ∀ (t : Tm) (s q : Nat → Tm), sub s (sub q t) = sub (fun i => sub s (q i)) t
  | .var i, _, _ => rfl
  | .free _, _, _ => rfl
  | .unit, _, _ => rfl
  | .lam k t, s, q => by
    simp only [sub]
    exact congrArg (Tm.lam k) ((sub_sub t _ _).trans (sub_ext t (fun i => by
      cases i with
      | zero => rfl
      | succ i => simp only [ups, shift]; rw [sub_ren, ren_sub]; exact sub_ext _ fun j => rfl)))
  | .app t u, s, q => by simp only [sub]; rw [sub_sub t, sub_sub u]
  | .pair t u, s, q => by simp only [sub]; rw [sub_sub t, sub_sub u]
  | .fst t, s, q => by simp only [sub]; rw [sub_sub t]
  | .snd t, s, q => by simp only [sub]; rw [sub_sub t]
theorem sub_var : ∀ (t : Tm), sub .var t = t
  | .var i => rfl
  | .free _ => rfl
  | .unit => rfl
  | .lam k t => by
    simp only [sub]
    rw [sub_ext t (q := .var) (fun i => by cases i <;> rfl), sub_var t]
  | .app t u => by simp only [sub]; rw [sub_var t, sub_var u]
  | .pair t u => by simp only [sub]; rw [sub_var t, sub_var u]
  | .fst t => by simp only [sub]; rw [sub_var t]
  | .snd t => by simp only [sub]; rw [sub_var t]
theorem sub_inst (b a : Tm) (s : Nat → Tm) : sub s (sub (inst a) b) = sub (inst (sub s a)) (sub (ups s) b) := by
  rw [sub_sub, sub_sub]
  refine sub_ext b fun i => ?_
  cases i with
  | zero => rfl
  | succ i =>
    show s i = sub _ (shift (s i))
    rw [shift, sub_ren]
    exact (sub_var (s i)).symm
theorem ren_inst (b a : Tm) (r : Nat → Nat) : ren r (sub (inst a) b) = sub (inst (ren r a)) (ren (upr r) b) := by
  rw [ren_sub, sub_ren]
  refine sub_ext b fun i => ?_
  cases i with
  | zero => rfl
  | succ i => rfl

/-! ### steps -/
inductive Step : Tm → Tm → Prop
  | beta (k : Kd) (b a : Tm) : Step (.app (.lam k b) a) (sub (inst a) b)
  | p1 (a b : Tm) : Step (.fst (.pair a b)) a
  | p2 (a b : Tm) : Step (.snd (.pair a b)) b
  | lam (k : Kd) {t t' : Tm} : Step t t' → Step (.lam k t) (.lam k t')
  | appL {t t' : Tm} (u : Tm) : Step t t' → Step (.app t u) (.app t' u)
  | appR (t : Tm) {u u' : Tm} : Step u u' → Step (.app t u) (.app t u')
  | pairL {t t' : Tm} (u : Tm) : Step t t' → Step (.pair t u) (.pair t' u)
  | pairR (t : Tm) {u u' : Tm} : Step u u' → Step (.pair t u) (.pair t u')
  | fst {t t' : Tm} : Step t t' → Step (.fst t) (.fst t')
  | snd {t t' : Tm} : Step t t' → Step (.snd t) (.snd t')
inductive Par : Tm → Tm → Prop
  | var (i : Nat) : Par (.var i) (.var i)
  | free (x : Str) : Par (.free x) (.free x)
  | unit : Par .unit .unit
  | lam (k : Kd) {t t' : Tm} : Par t t' → Par (.lam k t) (.lam k t')
  | app {t t' u u' : Tm} : Par t t' → Par u u' → Par (.app t u) (.app t' u')
  | pair {t t' u u' : Tm} : Par t t' → Par u u' → Par (.pair t u) (.pair t' u')
  | fst {t t' : Tm} : Par t t' → Par (.fst t) (.fst t')
  | snd {t t' : Tm} : Par t t' → Par (.snd t) (.snd t')
  | beta (k : Kd) {b b' a a' : Tm} : Par b b' → Par a a' → Par (.app (.lam k b) a) (sub (inst a') b')
  | p1 (b : Tm) {a a' : Tm} : Par a a' → Par (.fst (.pair a b)) a'
  | p2 (a : Tm) {b b' : Tm} : Par b b' → Par (.snd (.pair a b)) b'
theorem Par.rfl' : ∀ t : Tm, Par t t
  | .var i => .var i
  | .free x => .free x
  | .unit => .unit
  | .lam k t => .lam k (rfl' t)
  | .app t u => .app (rfl' t) (rfl' u)
  | .pair t u => .pair (rfl' t) (rfl' u)
  | .fst t => .fst (rfl' t)
  | .snd t => .snd (rfl' t)
theorem Step.par {t u : Tm} (h : Step t u) : Par t u := by
  induction h with
  | beta k b a => exact .beta k (Par.rfl' b) (Par.rfl' a)
  | p1 a b => exact .p1 b (Par.rfl' a)
  | p2 a b => exact .p2 a (Par.rfl' b)
  | lam k _ ih => exact .lam k ih
  | appL u _ ih => exact .app ih (Par.rfl' u)
  | appR t _ ih => exact .app (Par.rfl' t) ih
  | pairL u _ ih => exact .pair ih (Par.rfl' u)
  | pairR t _ ih => exact .pair (Par.rfl' t) ih
  | fst _ ih => exact .fst ih
  | snd _ ih => exact .snd ih
theorem Par.ren {t u : Tm} (h : Par t u) : ∀ r : Nat → Nat, Par (ren r t) (ren r u) := by
  induction h with
  | var i => intro r; exact .var _
  | free x => intro r; exact .free x
  | unit => intro r; exact .unit
  | lam k _ ih => intro r; exact .lam k (ih _)
  | app _ _ ih1 ih2 => intro r; exact .app (ih1 r) (ih2 r)
  | pair _ _ ih1 ih2 => intro r; exact .pair (ih1 r) (ih2 r)
  | fst _ ih => intro r; exact .fst (ih r)
  | snd _ ih => intro r; exact .snd (ih r)
  | beta k _ _ ih1 ih2 => intro r; rw [ren_inst]; exact .beta k (ih1 _) (ih2 r)
  | p1 b _ ih => intro r; exact .p1 _ (ih r)
  | p2 b _ ih => intro r; exact .p2 _ (ih r)
theorem Par.sub {t u : Tm} (h : Par t u) : ∀ s q : Nat → Tm, (∀ i, Par (s i) (q i)) → Par (sub s t) (sub q u) := by
  have up : ∀ s q : Nat → Tm, (∀ i, Par (s i) (q i)) → ∀ i, Par (ups s i) (ups q i) := fun s q h i => by
    cases i with
    | zero => exact .var 0
    | succ i => exact (h i).ren _
  induction h with
  | var i => intro s q hs; exact hs i
  | free x => intro s q hs; exact .free x
  | unit => intro s q hs; exact .unit
  | lam k _ ih => intro s q hs; exact .lam k (ih _ _ (up s q hs))
  | app _ _ ih1 ih2 => intro s q hs; exact .app (ih1 s q hs) (ih2 s q hs)
  | pair _ _ ih1 ih2 => intro s q hs; exact .pair (ih1 s q hs) (ih2 s q hs)
  | fst _ ih => intro s q hs; exact .fst (ih s q hs)
  | snd _ ih => intro s q hs; exact .snd (ih s q hs)
  | beta k _ _ ih1 ih2 => intro s q hs; rw [sub_inst]; exact .beta k (ih1 _ _ (up s q hs)) (ih2 s q hs)
  | p1 b _ ih => intro s q hs; exact .p1 _ (ih s q hs)
  | p2 b _ ih => intro s q hs; exact .p2 _ (ih s q hs)
theorem Par.inst {b b' a a' : Tm} (h : Par b b') (g : Par a a') : Par (K23.sub (K23.inst a) b) (K23.sub (K23.inst a') b') :=
  h.sub _ _ fun i => by
    cases i with
    | zero => exact g
    | succ i => exact .var i
/-- all steps that can be done now, at once -/
def dev : Tm → Tm
  | .var i => .var i
  | .free x => .free x
  | .unit => .unit
  | .lam k t => .lam k (dev t)
  | .app (.lam _ b) a => sub (inst (dev a)) (dev b)
  | .app t u => .app (dev t) (dev u)
  | .pair t u => .pair (dev t) (dev u)
  | .fst (.pair a _) => dev a
  | .fst t => .fst (dev t)
  | .snd (.pair _ b) => dev b
  | .snd t => .snd (dev t)
theorem Par.tri {t u : Tm} (h : Par t u) : Par u (dev t) := by
  induction h with
  | var i => exact .var i
  | free x => exact .free x
  | unit => exact .unit
  | lam k _ ih => exact .lam k ih
  | @app t t' u u' ht hu ih1 ih2 =>
    cases t with
    | lam k b =>
      cases ht with
      | lam _ hb =>
        cases ih1 with
        | lam _ hb' => exact .beta k hb' ih2
    | var i => exact .app ih1 ih2
    | free x => exact .app ih1 ih2
    | unit => exact .app ih1 ih2
    | app a b => exact .app ih1 ih2
    | pair a b => exact .app ih1 ih2
    | fst a => exact .app ih1 ih2
    | snd a => exact .app ih1 ih2
  | pair _ _ ih1 ih2 => exact .pair ih1 ih2
  | @fst t t' ht ih =>
    cases t with
    | pair a b =>
      cases ht with
      | pair h1 h2 =>
        cases ih with
        | pair g1 g2 => exact .p1 _ g1
    | var i => exact .fst ih
    | free x => exact .fst ih
    | unit => exact .fst ih
    | app a b => exact .fst ih
    | lam a b => exact .fst ih
    | fst a => exact .fst ih
    | snd a => exact .fst ih
  | @snd t t' ht ih =>
    cases t with
    | pair a b =>
      cases ht with
      | pair h1 h2 =>
        cases ih with
        | pair g1 g2 => exact .p2 _ g2
    | var i => exact .snd ih
    | free x => exact .snd ih
    | unit => exact .snd ih
    | app a b => exact .snd ih
    | lam a b => exact .snd ih
    | fst a => exact .snd ih
    | snd a => exact .snd ih
  | beta k _ _ ih1 ih2 => exact ih1.inst ih2
  | p1 b _ ih => exact ih
  | p2 b _ ih => exact ih

/-- so many in a row -/
inductive Many (R : Tm → Tm → Prop) : Nat → Tm → Tm → Prop
  | nil (t : Tm) : Many R 0 t t
  | snoc {n : Nat} {t u v : Tm} : Many R n t u → R u v → Many R (n + 1) t v
def Star (R : Tm → Tm → Prop) (t u : Tm) : Prop := ∃ n, Many R n t u
theorem Star.refl {R : Tm → Tm → Prop} (t : Tm) : Star R t t := ⟨0, .nil t⟩
theorem Star.snoc {R : Tm → Tm → Prop} {t u v : Tm} (h : Star R t u) (g : R u v) : Star R t v := let ⟨n, h⟩ := h; ⟨n + 1, h.snoc g⟩
theorem Star.one {R : Tm → Tm → Prop} {t u : Tm} (g : R t u) : Star R t u := (Star.refl t).snoc g
theorem Star.trans {R : Tm → Tm → Prop} {t u v : Tm} (h : Star R t u) (g : Star R u v) : Star R t v := by
  obtain ⟨n, g⟩ := g
  induction g with
  | nil => exact h
  | snoc _ r ih => exact (ih h).snoc r
theorem Many.cons {R : Tm → Tm → Prop} {n : Nat} {t u v : Tm} (r : R t u) (h : Many R n u v) : Many R (n + 1) t v := by
  induction h with
  | nil => exact (Many.nil t).snoc r
  | snoc _ q ih => exact (ih r).snoc q
theorem Star.cons {R : Tm → Tm → Prop} {t u v : Tm} (r : R t u) (h : Star R u v) : Star R t v := let ⟨_, h⟩ := h; ⟨_, h.cons r⟩
theorem Star.map {R S : Tm → Tm → Prop} {f : Tm → Tm} (hf : ∀ a b, R a b → S (f a) (f b)) {t u : Tm} (h : Star R t u) : Star S (f t) (f u) := by
  obtain ⟨n, h⟩ := h
  induction h with
  | nil => exact Star.refl _
  | snoc _ r ih => exact ih.snoc (hf _ _ r)
theorem Par.star {t u : Tm} (h : Par t u) : Star Step t u := by
  induction h with
  | var i => exact Star.refl _
  | free x => exact Star.refl _
  | unit => exact Star.refl _
  | lam k _ ih => exact ih.map (fun _ _ r => .lam k r)
  | app _ _ ih1 ih2 => exact (ih1.map (f := fun z => Tm.app z _) (fun _ _ r => .appL _ r)).trans (ih2.map (f := fun z => Tm.app _ z) (fun _ _ r => .appR _ r))
  | pair _ _ ih1 ih2 => exact (ih1.map (f := fun z => Tm.pair z _) (fun _ _ r => .pairL _ r)).trans (ih2.map (f := fun z => Tm.pair _ z) (fun _ _ r => .pairR _ r))
  | fst _ ih => exact ih.map (fun _ _ r => .fst r)
  | snd _ ih => exact ih.map (fun _ _ r => .snd r)
  | beta k _ _ ih1 ih2 =>
    exact ((ih1.map (f := fun z => Tm.app (.lam k z) _) (fun _ _ r => .appL _ (.lam k r))).trans (ih2.map (f := fun z => Tm.app _ z) (fun _ _ r => .appR _ r))).snoc (.beta k _ _)
  | p1 b _ ih => exact (Star.one (Step.p1 _ b)).trans ih
  | p2 b _ ih => exact (Star.one (Step.p2 b _)).trans ih
theorem strip {t u v : Tm} (h : Par t u) (g : Star Par t v) : ∃ z, Star Par u z ∧ Par v z := by
  obtain ⟨n, g⟩ := g
  induction g with
  | nil => exact ⟨u, Star.refl _, h⟩
  | snoc _ r ih =>
    obtain ⟨z, h1, h2⟩ := ih h
    exact ⟨_, h1.snoc h2.tri, r.tri⟩
theorem meetPar {t u v : Tm} (h : Star Par t u) (g : Star Par t v) : ∃ z, Star Par u z ∧ Star Par v z := by
  obtain ⟨n, h⟩ := h
  induction h with
  | nil => exact ⟨v, g, Star.refl _⟩
  | snoc _ r ih =>
    obtain ⟨z, h1, h2⟩ := ih g
    obtain ⟨y, g1, g2⟩ := strip r h1
    exact ⟨y, g1, h2.snoc g2⟩
theorem Star.toPar {t u : Tm} (h : Star Step t u) : Star Par t u := h.map (f := id) fun _ _ r => r.par
theorem Star.ofPar {t u : Tm} (h : Star Par t u) : Star Step t u := by
  obtain ⟨n, h⟩ := h
  induction h with
  | nil => exact Star.refl _
  | snoc _ r ih => exact ih.trans r.star
theorem meet {t u v : Tm} (h : Star Step t u) (g : Star Step t v) : ∃ z, Star Step u z ∧ Star Step v z :=
  let ⟨z, a, b⟩ := meetPar h.toPar g.toPar
  ⟨z, a.ofPar, b.ofPar⟩
def Nf (t : Tm) : Prop := ∀ u, ¬ Step t u
theorem Nf.star {t u : Tm} (n : Nf t) (h : Star Step t u) : u = t := by
  obtain ⟨k, h⟩ := h
  induction h with
  | nil => rfl
  | snoc _ r ih => rw [ih n] at r; exact absurd r (n _)
/-- one end -/
theorem one_end {t u v : Tm} (h : Star Step t u) (g : Star Step t v) (nu : Nf u) (nv : Nf v) : u = v := by
  obtain ⟨z, a, b⟩ := meet h g
  rw [← nu.star a, ← nv.star b]
end K23

namespace K23
open PySem (Str)

def leaves : Kd → Nat
  | .mark _ => 1
  | .one => 1
  | .to a b => leaves a + leaves b
  | .both a b => leaves a + leaves b
theorem leaves_pos : ∀ k : Kd, 1 ≤ leaves k
  | .mark _ => Nat.le_refl _
  | .one => Nat.le_refl _
  | .to a b => Nat.le_trans (leaves_pos a) (Nat.le_add_right _ _)
  | .both a b => Nat.le_trans (leaves_pos a) (Nat.le_add_right _ _)

/-! ### kinds of terms -/
section
variable (E : Str → Option Kd)
inductive Ty : List Kd → Tm → Kd → Prop
  | var {G : List Kd} {i : Nat} {K : Kd} : G[i]? = some K → Ty G (.var i) K
  | free {G : List Kd} {x : Str} {K : Kd} : E x = some K → Ty G (.free x) K
  | unit {G : List Kd} : Ty G .unit .one
  | lam {G : List Kd} {A B : Kd} {t : Tm} : Ty (A :: G) t B → Ty G (.lam A t) (.to A B)
  | app {G : List Kd} {A B : Kd} {t u : Tm} : Ty G t (.to A B) → Ty G u A → Ty G (.app t u) B
  | pair {G : List Kd} {A B : Kd} {t u : Tm} : Ty G t A → Ty G u B → Ty G (.pair t u) (.both A B)
  | fst {G : List Kd} {A B : Kd} {t : Tm} : Ty G t (.both A B) → Ty G (.fst t) A
  | snd {G : List Kd} {A B : Kd} {t : Tm} : Ty G t (.both A B) → Ty G (.snd t) B
end
section
variable {E : Str → Option Kd}
theorem Ty.ren {G : List Kd} {t : Tm} {K : Kd} (h : Ty E G t K) : ∀ {D : List Kd} {r : Nat → Nat}, (∀ i A, G[i]? = some A → D[r i]? = some A) → Ty E D (ren r t) K := by
  induction h with
  | var h => intro D r hr; exact .var (hr _ _ h)
  | free h => intro D r hr; exact .free h
  | unit => intro D r hr; exact .unit
  | lam _ ih =>
    intro D r hr
    refine .lam (ih fun i A h => ?_)
    cases i with
    | zero => simpa [upr] using h
    | succ i => simpa [upr] using hr i A (by simpa using h)
  | app _ _ ih1 ih2 => intro D r hr; exact .app (ih1 hr) (ih2 hr)
  | pair _ _ ih1 ih2 => intro D r hr; exact .pair (ih1 hr) (ih2 hr)
  | fst _ ih => intro D r hr; exact .fst (ih hr)
  | snd _ ih => intro D r hr; exact .snd (ih hr)
theorem Ty.shift {G : List Kd} {t : Tm} {K A : Kd} (h : Ty E G t K) : Ty E (A :: G) (shift t) K := h.ren fun i B e => by simpa using e
theorem Ty.sub {G : List Kd} {t : Tm} {K : Kd} (h : Ty E G t K) : ∀ {D : List Kd} {s : Nat → Tm}, (∀ i A, G[i]? = some A → Ty E D (s i) A) → Ty E D (sub s t) K := by
  induction h with
  | var h => intro D s hs; exact hs _ _ h
  | free h => intro D s hs; exact .free h
  | unit => intro D s hs; exact .unit
  | lam _ ih =>
    intro D s hs
    refine .lam (ih fun i A h => ?_)
    cases i with
    | zero => exact .var (by simpa using h)
    | succ i => exact (hs i A (by simpa using h)).shift
  | app _ _ ih1 ih2 => intro D s hs; exact .app (ih1 hs) (ih2 hs)
  | pair _ _ ih1 ih2 => intro D s hs; exact .pair (ih1 hs) (ih2 hs)
  | fst _ ih => intro D s hs; exact .fst (ih hs)
  | snd _ ih => intro D s hs; exact .snd (ih hs)
theorem Ty.inst {G : List Kd} {b a : Tm} {A B : Kd} (h : Ty E (A :: G) b B) (g : Ty E G a A) : Ty E G (K23.sub (K23.inst a) b) B :=
  h.sub fun i C e => by
    cases i with
    | zero =>
      obtain rfl : A = C := by simpa using e
      exact g
    | succ i => exact .var (by simpa using e)
/-- a step keeps the kind -/
theorem Ty.step {t u : Tm} (s : Step t u) : ∀ {G : List Kd} {K : Kd}, Ty E G t K → Ty E G u K := by
  induction s with
  | beta k b a =>
    intro G K h
    cases h with
    | app h1 h2 =>
      cases h1 with
      | lam h1 => exact h1.inst h2
  | p1 a b =>
    intro G K h
    cases h with
    | fst h =>
      cases h with
      | pair h1 h2 => exact h1
  | p2 a b =>
    intro G K h
    cases h with
    | snd h =>
      cases h with
      | pair h1 h2 => exact h2
  | lam k _ ih => intro G K h; cases h with | lam h => exact .lam (ih h)
  | appL u _ ih => intro G K h; cases h with | app h g => exact .app (ih h) g
  | appR u _ ih => intro G K h; cases h with | app h g => exact .app h (ih g)
  | pairL u _ ih => intro G K h; cases h with | pair h g => exact .pair (ih h) g
  | pairR u _ ih => intro G K h; cases h with | pair h g => exact .pair h (ih g)
  | fst _ ih => intro G K h; cases h with | fst h => exact .fst (ih h)
  | snd _ ih => intro G K h; cases h with | snd h => exact .snd (ih h)
theorem Ty.star {t u : Tm} (s : Star Step t u) {G : List Kd} {K : Kd} (h : Ty E G t K) : Ty E G u K := by
  obtain ⟨n, s⟩ := s
  induction s with
  | nil => exact h
  | snoc _ r ih => exact (ih h).step r
end

/-! ### weights -/
def pq (x : Str) : Bool := x == Str.ofString "p" || x == Str.ofString "q"
def cns (v : Nat) (r : Nat → Nat) : Nat → Nat
  | 0 => v
  | k + 1 => r k
structure Alg where
  op : Nat → Nat → Nat
  n : Nat
  i : Nat
  e : Nat
  d : Nat
  mono : ∀ {a a' b b' : Nat}, a ≤ a' → b ≤ b' → op a b ≤ op a' b'
  dl : ∀ {a a' b : Nat}, a + d ≤ a' → op a b + d ≤ op a' b
  dr : ∀ {a b b' : Nat}, b + d ≤ b' → op a b + d ≤ op a b'
  le : ∀ {a b : Nat}, a ≤ op a b
  re : ∀ {a b : Nat}, b ≤ op a b
  add : ∀ {a b : Nat}, op a b ≤ a + b
  hd : d ≤ e
  hn : 5 * i ≤ n
/-- the weight: r of the names that are taken outside, v of the name that the term takes at its top -/
def Alg.W (A : Alg) : (Nat → Nat) → Nat → Tm → Nat
  | r, _, .var k => r k
  | _, _, .free x => if pq x = true then A.i else A.n
  | _, _, .unit => A.i
  | r, v, .lam _ b => A.i + A.W (cns v r) A.n b
  | r, _, .app f a => A.e + A.op (A.W r (max A.n (A.W r A.n a)) f) (A.W r A.n a)
  | r, _, .pair a b => A.i + A.op (A.W r A.n a) (A.W r A.n b)
  | r, _, .fst a => A.e + A.W r A.n a
  | r, _, .snd a => A.e + A.W r A.n a
section
variable {A : Alg}
theorem W_mono : ∀ (t : Tm) {r q : Nat → Nat} {v w : Nat}, (∀ k, r k ≤ q k) → v ≤ w → A.W r v t ≤ A.W q w t
  | .var k, _, _, _, _, h, _ => h k
  | .free x, _, _, _, _, _, _ => Nat.le_refl _
  | .unit, _, _, _, _, _, _ => Nat.le_refl _
  | .lam k b, r, q, v, w, h, hv => by
    refine Nat.add_le_add_left (W_mono b (fun k => ?_) (Nat.le_refl _)) _
    cases k with
    | zero => exact hv
    | succ k => exact h k
  | .app f a, r, q, v, w, h, hv => by
    have ha := W_mono a (v := A.n) (w := A.n) h (Nat.le_refl _)
    exact Nat.add_le_add_left (A.mono (W_mono f h (by omega)) ha) _
  | .pair a b, r, q, v, w, h, hv => Nat.add_le_add_left (A.mono (W_mono a h (Nat.le_refl _)) (W_mono b h (Nat.le_refl _))) _
  | .fst a, r, q, v, w, h, hv => Nat.add_le_add_left (W_mono a h (Nat.le_refl _)) _
  | .snd a, r, q, v, w, h, hv => Nat.add_le_add_left (W_mono a h (Nat.le_refl _)) _
theorem W_ext (t : Tm) {r q : Nat → Nat} {v : Nat} (h : ∀ k, r k = q k) : A.W r v t = A.W q v t :=
  congrArg (fun z => A.W z v t) (funext h)
theorem W_ren : ∀ (t : Tm) (f : Nat → Nat) (r : Nat → Nat) (v : Nat), A.W r v (ren f t) = A.W (fun k => r (f k)) v t
  | .var k, _, _, _ => rfl
  | .free x, _, _, _ => rfl
  | .unit, _, _, _ => rfl
  | .lam k b, f, r, v => by
    simp only [ren, Alg.W]
    exact congrArg (A.i + ·) ((W_ren b _ _ _).trans (W_ext b (fun k => by cases k <;> rfl)))
  | .app g a, f, r, v => by simp only [ren, Alg.W]; rw [W_ren g, W_ren a]
  | .pair a b, f, r, v => by simp only [ren, Alg.W]; rw [W_ren a, W_ren b]
  | .fst a, f, r, v => by simp only [ren, Alg.W]; rw [W_ren a]
  | .snd a, f, r, v => by simp only [ren, Alg.W]; rw [W_ren a]
end

/-! ### constant terms -/
inductive Cn : Kd → Tm → Prop
  | unit : Cn .one .unit
  | name {m x : Str} : pq x = true → Cn (.mark m) (.free x)
  | pair {A B : Kd} {a b : Tm} : Cn A a → Cn B b → Cn (.both A B) (.pair a b)
  | lam {A B : Kd} {b : Tm} : Cn B b → Cn (.to A B) (.lam A b)
theorem Cn.sub {K : Kd} {t : Tm} (h : Cn K t) : ∀ s : Nat → Tm, sub s t = t := by
  induction h with
  | unit => intro s; rfl
  | name _ => intro s; rfl
  | pair _ _ ih1 ih2 => intro s; simp only [K23.sub]; rw [ih1, ih2]
  | lam _ ih => intro s; simp only [K23.sub]; rw [ih]
theorem Cn.ren {K : Kd} {t : Tm} (h : Cn K t) : ∀ r : Nat → Nat, ren r t = t := by
  induction h with
  | unit => intro s; rfl
  | name _ => intro s; rfl
  | pair _ _ ih1 ih2 => intro s; simp only [K23.ren]; rw [ih1, ih2]
  | lam _ ih => intro s; simp only [K23.ren]; rw [ih]
theorem Cn.nf {K : Kd} {t : Tm} (h : Cn K t) : Nf t := by
  induction h with
  | unit => intro u s; cases s
  | name _ => intro u s; cases s
  | pair _ _ ih1 ih2 =>
    intro u s
    cases s with
    | pairL _ s => exact ih1 _ s
    | pairR _ s => exact ih2 _ s
  | lam _ ih =>
    intro u s
    cases s with
    | lam _ s => exact ih _ s
theorem Cn.W {A : Alg} {K : Kd} {t : Tm} (h : Cn K t) : ∀ (r : Nat → Nat) (v : Nat), A.W r v t + A.i ≤ 2 * (leaves K * A.i) := by
  induction h with
  | unit => intro r v; simp only [Alg.W, leaves]; omega
  | name h => intro r v; simp only [Alg.W, leaves, h, if_true]; omega
  | @pair B C a b _ _ ih1 ih2 =>
    intro r v
    simp only [Alg.W, leaves, Nat.add_mul]
    have h1 := ih1 r A.n
    have h2 := ih2 r A.n
    have h3 := A.add (a := A.W r A.n a) (b := A.W r A.n b)
    omega
  | @lam B C b _ ih =>
    intro r v
    simp only [Alg.W, leaves, Nat.add_mul]
    have h1 := ih (cns v r) A.n
    have h2 : A.i ≤ leaves B * A.i := Nat.le_mul_of_pos_left _ (leaves_pos B)
    omega
theorem Cn.W3 {A : Alg} {K : Kd} {t : Tm} (h : Cn K t) (h3 : leaves K ≤ 3) (r : Nat → Nat) (v : Nat) : A.W r v t ≤ A.n := by
  have h1 := h.W (A := A) r v
  have h2 : leaves K * A.i ≤ 3 * A.i := Nat.mul_le_mul_right _ h3
  have h4 := A.hn
  omega

/-! ### terms in which what is given is constant -/
inductive S1 : Tm → Prop
  | var (i : Nat) : S1 (.var i)
  | free (x : Str) : S1 (.free x)
  | unit : S1 .unit
  | lam (k : Kd) {b : Tm} : S1 b → S1 (.lam k b)
  | app {K : Kd} {f a : Tm} : S1 f → Cn K a → leaves K ≤ 3 → S1 (.app f a)
  | pair {a b : Tm} : S1 a → S1 b → S1 (.pair a b)
  | fst {a : Tm} : S1 a → S1 (.fst a)
  | snd {a : Tm} : S1 a → S1 (.snd a)
theorem Cn.s1 {K : Kd} {t : Tm} (h : Cn K t) : S1 t := by
  induction h with
  | unit => exact .unit
  | name _ => exact .free _
  | pair _ _ ih1 ih2 => exact .pair ih1 ih2
  | lam _ ih => exact .lam _ ih
theorem S1.ren {t : Tm} (h : S1 t) : ∀ r : Nat → Nat, S1 (ren r t) := by
  induction h with
  | var i => intro r; exact .var _
  | free x => intro r; exact .free _
  | unit => intro r; exact .unit
  | lam k _ ih => intro r; exact .lam k (ih _)
  | app _ hc h3 ih => intro r; exact .app (ih r) (by rw [hc.ren]; exact hc) h3
  | pair _ _ ih1 ih2 => intro r; exact .pair (ih1 r) (ih2 r)
  | fst _ ih => intro r; exact .fst (ih r)
  | snd _ ih => intro r; exact .snd (ih r)
theorem S1.sub {t : Tm} (h : S1 t) : ∀ s : Nat → Tm, (∀ i, S1 (s i)) → S1 (sub s t) := by
  induction h with
  | var i => intro s hs; exact hs i
  | free x => intro s hs; exact .free _
  | unit => intro s hs; exact .unit
  | lam k _ ih =>
    intro s hs
    refine .lam k (ih _ fun i => ?_)
    cases i with
    | zero => exact .var 0
    | succ i => exact (hs i).ren _
  | app _ hc h3 ih => intro s hs; exact .app (ih s hs) (by rw [hc.sub]; exact hc) h3
  | pair _ _ ih1 ih2 => intro s hs; exact .pair (ih1 s hs) (ih2 s hs)
  | fst _ ih => intro s hs; exact .fst (ih s hs)
  | snd _ ih => intro s hs; exact .snd (ih s hs)
theorem S1.inst {b a : Tm} (h : S1 b) (g : S1 a) : S1 (K23.sub (K23.inst a) b) := h.sub _ fun i => by
  cases i with
  | zero => exact g
  | succ i => exact .var i
section
variable {A : Alg}
theorem W_app_cn {K : Kd} {f a : Tm} {r : Nat → Nat} {v : Nat} (h : Cn K a) (h3 : leaves K ≤ 3) : A.W r v (.app f a) = A.e + A.op (A.W r A.n f) (A.W r A.n a) := by
  have h1 : max A.n (A.W r A.n a) = A.n := Nat.max_eq_left (h.W3 h3 r A.n)
  simp only [Alg.W]
  rw [h1]
theorem S1.Wsub {t : Tm} (h : S1 t) : ∀ (s : Nat → Tm) (r : Nat → Nat), A.W r A.n (K23.sub s t) = A.W (fun k => A.W r A.n (s k)) A.n t := by
  induction h with
  | var i => intro s r; rfl
  | free x => intro s r; rfl
  | unit => intro s r; rfl
  | lam k _ ih =>
    intro s r
    simp only [K23.sub, Alg.W]
    rw [ih]
    refine congrArg (A.i + ·) (W_ext _ fun k => ?_)
    cases k with
    | zero => rfl
    | succ k =>
      show A.W (cns A.n r) A.n (shift (s k)) = A.W r A.n (s k)
      rw [shift, W_ren]
      rfl
  | app _ hc h3 ih =>
    intro s r
    simp only [K23.sub]
    rw [hc.sub, W_app_cn hc h3, W_app_cn hc h3, ih]
    have : ∀ r q : Nat → Nat, A.W r A.n _ = A.W q A.n _ := fun r q => by
      have h1 := hc.sub (fun _ => .unit)
      have e1 : ∀ (K : Kd) (t : Tm), Cn K t → ∀ (r q : Nat → Nat) (v : Nat), A.W r v t = A.W q v t := fun K t h => by
        induction h with
        | unit => intro r q v; rfl
        | name _ => intro r q v; rfl
        | pair _ _ ih1 ih2 => intro r q v; simp only [Alg.W]; rw [ih1 r q, ih2 r q]
        | lam _ ih => intro r q v; simp only [Alg.W]; rw [ih]
      exact e1 _ _ hc r q A.n
    rw [this r (fun k => A.W r A.n (s k))]
  | pair _ _ ih1 ih2 => intro s r; simp only [K23.sub, Alg.W]; rw [ih1, ih2]
  | fst _ ih => intro s r; simp only [K23.sub, Alg.W]; rw [ih]
  | snd _ ih => intro s r; simp only [K23.sub, Alg.W]; rw [ih]
theorem S1.Winst {b a : Tm} (h : S1 b) {r : Nat → Nat} {v : Nat} (ha : A.W r A.n a ≤ v) : A.W r A.n (K23.sub (K23.inst a) b) ≤ A.W (cns v r) A.n b := by
  rw [h.Wsub]
  refine W_mono b (fun k => ?_) (Nat.le_refl _)
  cases k with
  | zero => exact ha
  | succ k => exact Nat.le_refl _
/-- a step in such a term -/
theorem S1.step {t : Tm} (h : S1 t) : ∀ {u : Tm}, Step t u → S1 u ∧ ∀ (A : Alg) (r : Nat → Nat), A.W r A.n u + A.d ≤ A.W r A.n t := by
  induction h with
  | var i => intro u s; cases s
  | free x => intro u s; cases s
  | unit => intro u s; cases s
  | lam k _ ih =>
    intro u s
    cases s with
    | lam _ s =>
      obtain ⟨h1, h2⟩ := ih s
      refine ⟨.lam k h1, fun A r => ?_⟩
      have := h2 A (cns A.n r)
      simp only [Alg.W]
      omega
  | @app K f a hf hc h3 ih =>
    intro u s
    cases s with
    | beta k b _ =>
      cases hf with
      | lam _ hb =>
        refine ⟨hb.inst hc.s1, fun A r => ?_⟩
        have h1 := hb.Winst (A := A) (r := r) (hc.W3 h3 r A.n)
        rw [W_app_cn hc h3]
        have h2 := A.le (a := A.W r A.n (.lam k b)) (b := A.W r A.n a)
        have h4 := A.hd
        simp only [Alg.W] at h2 ⊢
        omega
    | appL _ s =>
      obtain ⟨h1, h2⟩ := ih s
      refine ⟨.app h1 hc h3, fun A r => ?_⟩
      rw [W_app_cn hc h3, W_app_cn hc h3]
      have := A.dl (b := A.W r A.n a) (h2 A r)
      omega
    | appR _ s => exact absurd s (hc.nf _)
  | @pair a b ha hb ih1 ih2 =>
    intro u s
    cases s with
    | pairL _ s =>
      obtain ⟨h1, h2⟩ := ih1 s
      refine ⟨.pair h1 hb, fun A r => ?_⟩
      simp only [Alg.W]
      have := A.dl (b := A.W r A.n b) (h2 A r)
      omega
    | pairR _ s =>
      obtain ⟨h1, h2⟩ := ih2 s
      refine ⟨.pair ha h1, fun A r => ?_⟩
      simp only [Alg.W]
      have := A.dr (a := A.W r A.n a) (h2 A r)
      omega
  | fst ha ih =>
    intro u s
    cases s with
    | p1 a b =>
      cases ha with
      | pair h1 h2 =>
        refine ⟨h1, fun A r => ?_⟩
        have := A.le (a := A.W r A.n u) (b := A.W r A.n b)
        have h4 := A.hd
        simp only [Alg.W]
        omega
    | fst s =>
      obtain ⟨h1, h2⟩ := ih s
      refine ⟨.fst h1, fun A r => ?_⟩
      have := h2 A r
      simp only [Alg.W]
      omega
  | snd ha ih =>
    intro u s
    cases s with
    | p2 a b =>
      cases ha with
      | pair h1 h2 =>
        refine ⟨h2, fun A r => ?_⟩
        have := A.re (a := A.W r A.n a) (b := A.W r A.n u)
        have h4 := A.hd
        simp only [Alg.W]
        omega
    | snd s =>
      obtain ⟨h1, h2⟩ := ih s
      refine ⟨.snd h1, fun A r => ?_⟩
      have := h2 A r
      simp only [Alg.W]
      omega
end

/-! ### names gone along, given such terms -/
inductive Rg : Tm → Prop
  | var (i : Nat) : Rg (.var i)
  | free (x : Str) : Rg (.free x)
  | app {f a : Tm} : Rg f → S1 a → Rg (.app f a)
  | fst {a : Tm} : Rg a → Rg (.fst a)
  | snd {a : Tm} : Rg a → Rg (.snd a)
theorem Rg.Wv {A : Alg} {t : Tm} (h : Rg t) (r : Nat → Nat) (v w : Nat) : A.W r v t = A.W r w t := by
  cases h <;> rfl
theorem Rg.step {t : Tm} (h : Rg t) : ∀ {u : Tm}, Step t u → Rg u ∧ ∀ (A : Alg) (r : Nat → Nat), A.W r A.n u + A.d ≤ A.W r A.n t := by
  induction h with
  | var i => intro u s; cases s
  | free x => intro u s; cases s
  | @app f a hf ha ih =>
    intro u s
    cases s with
    | beta k b _ => cases hf
    | appL _ s =>
      obtain ⟨h1, h2⟩ := ih s
      refine ⟨.app h1 ha, fun A r => ?_⟩
      simp only [Alg.W]
      rw [h1.Wv r _ A.n, hf.Wv r _ A.n]
      have := A.dl (b := A.W r A.n a) (h2 A r)
      omega
    | appR _ s =>
      obtain ⟨h1, h2⟩ := ha.step s
      refine ⟨.app hf h1, fun A r => ?_⟩
      simp only [Alg.W]
      rw [hf.Wv r _ A.n, hf.Wv r (max A.n (A.W r A.n a)) A.n]
      have := A.dr (a := A.W r A.n f) (h2 A r)
      omega
  | fst ha ih =>
    intro u s
    cases s with
    | p1 a b => cases ha
    | fst s =>
      obtain ⟨h1, h2⟩ := ih s
      refine ⟨.fst h1, fun A r => ?_⟩
      have := h2 A r
      simp only [Alg.W]
      omega
  | snd ha ih =>
    intro u s
    cases s with
    | p2 a b => cases ha
    | snd s =>
      obtain ⟨h1, h2⟩ := ih s
      refine ⟨.snd h1, fun A r => ?_⟩
      have := h2 A r
      simp only [Alg.W]
      omega
/-- such a term, or a step that is to be done upon two of them -/
inductive Lf : Tm → Prop
  | s1 {t : Tm} : S1 t → Lf t
  | rdx (k : Kd) {b a : Tm} : S1 b → S1 a → Lf (.app (.lam k b) a)
theorem Lf.step {t : Tm} (h : Lf t) {u : Tm} (s : Step t u) : Lf u ∧ ∀ (A : Alg) (r : Nat → Nat), A.W r A.n u + A.d ≤ A.W r A.n t := by
  cases h with
  | s1 h =>
    obtain ⟨h1, h2⟩ := h.step s
    exact ⟨.s1 h1, h2⟩
  | rdx k hb ha =>
    rename_i b a
    cases s with
    | beta _ _ _ =>
      refine ⟨.s1 (hb.inst ha), fun A r => ?_⟩
      have h1 := hb.Winst (A := A) (r := r) (a := a) (v := max A.n (A.W r A.n a)) (by omega)
      have h2 := A.le (a := A.i + A.W (cns (max A.n (A.W r A.n a)) r) A.n b) (b := A.W r A.n a)
      have h4 := A.hd
      simp only [Alg.W]
      omega
    | appL _ s =>
      cases s with
      | @lam _ _ b' s =>
        obtain ⟨h1, h2⟩ := hb.step s
        refine ⟨.rdx k h1 ha, fun A r => ?_⟩
        simp only [Alg.W]
        have h5 := h2 A (cns (max A.n (A.W r A.n a)) r)
        have := A.dl (b := A.W r A.n a) (show A.i + A.W (cns (max A.n (A.W r A.n a)) r) A.n b' + A.d ≤ A.i + A.W (cns (max A.n (A.W r A.n a)) r) A.n b by omega)
        omega
    | appR _ s =>
      obtain ⟨h1, h2⟩ := ha.step s
      refine ⟨.rdx k hb h1, fun A r => ?_⟩
      simp only [Alg.W]
      have h5 := h2 A r
      rename_i a'
      have h6 : A.W (cns (max A.n (A.W r A.n a')) r) A.n b ≤ A.W (cns (max A.n (A.W r A.n a)) r) A.n b := W_mono b (fun k => by
        cases k with
        | zero => show max A.n (A.W r A.n a') ≤ max A.n (A.W r A.n a); omega
        | succ k => exact Nat.le_refl _) (Nat.le_refl _)
      have h7 := A.dr (a := A.i + A.W (cns (max A.n (A.W r A.n a')) r) A.n b) h5
      have h8 := A.mono (Nat.add_le_add_left h6 A.i) (Nat.le_refl (A.W r A.n a))
      omega

/-! ### three weights -/
def Ae : Alg where
  op := (· + ·)
  n := 0
  i := 0
  e := 1
  d := 1
  mono := fun h g => Nat.add_le_add h g
  dl := fun h => by omega
  dr := fun h => by omega
  le := Nat.le_add_right _ _
  re := Nat.le_add_left _ _
  add := Nat.le_refl _
  hd := Nat.le_refl _
  hn := Nat.le_refl _
def Aw : Alg where
  op := (· + ·)
  n := 20
  i := 1
  e := 1
  d := 0
  mono := fun h g => Nat.add_le_add h g
  dl := fun h => by omega
  dr := fun h => by omega
  le := Nat.le_add_right _ _
  re := Nat.le_add_left _ _
  add := Nat.le_refl _
  hd := by decide
  hn := by decide
def Ad : Alg where
  op := max
  n := 20
  i := 1
  e := 1
  d := 0
  mono := fun h g => by omega
  dl := fun h => by omega
  dr := fun h => by omega
  le := by intros; omega
  re := by intros; omega
  add := by intros; omega
  hd := by decide
  hn := by decide
def Alg.W0 (A : Alg) (t : Tm) : Nat := A.W (fun _ => A.n) A.n t
theorem cns_const (n : Nat) : cns n (fun _ => n) = fun _ => n := funext fun k => by cases k <;> rfl
inductive S2 : Kd → Tm → Prop
  | lf {K : Kd} {t : Tm} : Lf t → Ae.W0 t ≤ 22 * leaves K → Aw.W0 t ≤ 200 * leaves K → Ad.W0 t ≤ 60 → S2 K t
  | rg {K : Kd} {t : Tm} : Rg t → Ae.W0 t ≤ 22 * leaves K → Aw.W0 t ≤ 116 → Ad.W0 t ≤ 60 → S2 K t
  | pair {A B : Kd} {a b : Tm} : S2 A a → S2 B b → S2 (.both A B) (.pair a b)
  | lam {A B : Kd} {b : Tm} : S2 B b → S2 (.to A B) (.lam A b)
theorem S2.step {K : Kd} {t : Tm} (h : S2 K t) : ∀ {u : Tm}, Step t u → S2 K u ∧ Ae.W0 u + 1 ≤ Ae.W0 t := by
  induction h with
  | lf h h1 h2 h3 =>
    intro u s
    obtain ⟨g, q⟩ := h.step s
    have q1 := q Ae (fun _ => Ae.n)
    have q2 := q Aw (fun _ => Aw.n)
    have q3 := q Ad (fun _ => Ad.n)
    have e1 : Ae.d = 1 := rfl
    have e2 : Aw.d = 0 := rfl
    have e3 : Ad.d = 0 := rfl
    unfold Alg.W0 at *
    exact ⟨.lf g (by unfold Alg.W0; omega) (by unfold Alg.W0; omega) (by unfold Alg.W0; omega), by omega⟩
  | rg h h1 h2 h3 =>
    intro u s
    obtain ⟨g, q⟩ := h.step s
    have q1 := q Ae (fun _ => Ae.n)
    have q2 := q Aw (fun _ => Aw.n)
    have q3 := q Ad (fun _ => Ad.n)
    have e1 : Ae.d = 1 := rfl
    have e2 : Aw.d = 0 := rfl
    have e3 : Ad.d = 0 := rfl
    unfold Alg.W0 at *
    exact ⟨.rg g (by unfold Alg.W0; omega) (by unfold Alg.W0; omega) (by unfold Alg.W0; omega), by omega⟩
  | @pair A B a b ha hb ih1 ih2 =>
    intro u s
    cases s with
    | pairL _ s =>
      obtain ⟨g, q⟩ := ih1 s
      refine ⟨.pair g hb, ?_⟩
      unfold Alg.W0 at *
      show 0 + (Ae.W _ _ _ + Ae.W _ _ _) + 1 ≤ 0 + (Ae.W _ _ _ + Ae.W _ _ _)
      omega
    | pairR _ s =>
      obtain ⟨g, q⟩ := ih2 s
      refine ⟨.pair ha g, ?_⟩
      unfold Alg.W0 at *
      show 0 + (Ae.W _ _ _ + Ae.W _ _ _) + 1 ≤ 0 + (Ae.W _ _ _ + Ae.W _ _ _)
      omega
  | lam hb ih =>
    intro u s
    cases s with
    | lam _ s =>
      obtain ⟨g, q⟩ := ih s
      refine ⟨.lam g, ?_⟩
      unfold Alg.W0 at *
      show 0 + Ae.W (cns Ae.n _) Ae.n _ + 1 ≤ 0 + Ae.W (cns Ae.n _) Ae.n _
      rw [cns_const]
      omega
theorem S2.steps {K : Kd} {t : Tm} (h : S2 K t) : Ae.W0 t ≤ 22 * leaves K := by
  induction h with
  | lf _ h _ _ => exact h
  | rg _ h _ _ => exact h
  | pair _ _ ih1 ih2 =>
    unfold Alg.W0 at *
    show 0 + (Ae.W _ _ _ + Ae.W _ _ _) ≤ 22 * (_ + _)
    omega
  | lam _ ih =>
    unfold Alg.W0 at *
    show 0 + Ae.W (cns Ae.n _) Ae.n _ ≤ 22 * (_ + _)
    rw [cns_const]
    omega
/-- parts, depth -/
def parts : Tm → Nat
  | .var _ => 1
  | .free _ => 1
  | .unit => 1
  | .lam _ b => 1 + parts b
  | .app f a => 1 + (parts f + parts a)
  | .pair f a => 1 + (parts f + parts a)
  | .fst a => 1 + parts a
  | .snd a => 1 + parts a
def dp : Tm → Nat
  | .var _ => 0
  | .free _ => 0
  | .unit => 0
  | .lam _ b => 1 + dp b
  | .app f a => 1 + max (dp f) (dp a)
  | .pair f a => 1 + max (dp f) (dp a)
  | .fst a => 1 + dp a
  | .snd a => 1 + dp a
theorem parts_pos : ∀ t : Tm, 1 ≤ parts t := fun t => by cases t <;> simp only [parts] <;> omega
theorem dp_parts : ∀ t : Tm, dp t + 1 ≤ parts t
  | .var _ => Nat.le_refl _
  | .free _ => Nat.le_refl _
  | .unit => Nat.le_refl _
  | .lam _ b => by have := dp_parts b; simp only [dp, parts]; omega
  | .app f a => by have := dp_parts f; have := dp_parts a; simp only [dp, parts]; omega
  | .pair f a => by have := dp_parts f; have := dp_parts a; simp only [dp, parts]; omega
  | .fst a => by have := dp_parts a; simp only [dp, parts]; omega
  | .snd a => by have := dp_parts a; simp only [dp, parts]; omega
theorem parts_W : ∀ (t : Tm) (r : Nat → Nat) (v : Nat), (∀ k, 1 ≤ r k) → 1 ≤ v → parts t ≤ Aw.W r v t
  | .var k, r, v, h, _ => h k
  | .free x, r, v, h, _ => by simp only [parts, Alg.W]; split <;> decide
  | .unit, r, v, h, _ => Nat.le_refl _
  | .lam _ b, r, v, h, hv => by
    have := parts_W b (cns v r) 20 (fun k => by cases k with | zero => exact hv | succ k => exact h k) (by decide)
    show 1 + parts b ≤ 1 + Aw.W (cns v r) 20 b
    omega
  | .app f a, r, v, h, hv => by
    have h1 := parts_W a r 20 h (by decide)
    have h2 := parts_W f r (max 20 (Aw.W r 20 a)) h (by omega)
    show 1 + (parts f + parts a) ≤ 1 + (Aw.W r (max 20 (Aw.W r 20 a)) f + Aw.W r 20 a)
    omega
  | .pair a b, r, v, h, hv => by
    have h1 := parts_W a r 20 h (by decide)
    have h2 := parts_W b r 20 h (by decide)
    show 1 + (parts a + parts b) ≤ 1 + (Aw.W r 20 a + Aw.W r 20 b)
    omega
  | .fst a, r, v, h, hv => by
    have h1 := parts_W a r 20 h (by decide)
    show 1 + parts a ≤ 1 + Aw.W r 20 a
    omega
  | .snd a, r, v, h, hv => by
    have h1 := parts_W a r 20 h (by decide)
    show 1 + parts a ≤ 1 + Aw.W r 20 a
    omega
theorem dp_W : ∀ (t : Tm) (r : Nat → Nat) (v : Nat), dp t ≤ Ad.W r v t
  | .var k, r, v => Nat.zero_le _
  | .free x, r, v => Nat.zero_le _
  | .unit, r, v => Nat.zero_le _
  | .lam _ b, r, v => Nat.add_le_add_left (dp_W b (cns v r) 20) 1
  | .app f a, r, v => by
    have h1 := dp_W a r 20
    have h2 := dp_W f r (max 20 (Ad.W r 20 a))
    show 1 + max (dp f) (dp a) ≤ 1 + max (Ad.W r (max 20 (Ad.W r 20 a)) f) (Ad.W r 20 a)
    omega
  | .pair a b, r, v => by
    have h1 := dp_W a r 20
    have h2 := dp_W b r 20
    show 1 + max (dp a) (dp b) ≤ 1 + max (Ad.W r 20 a) (Ad.W r 20 b)
    omega
  | .fst a, r, v => Nat.add_le_add_left (dp_W a r 20) 1
  | .snd a, r, v => Nat.add_le_add_left (dp_W a r 20) 1
theorem S2.parts {K : Kd} {t : Tm} (h : S2 K t) : parts t + 1 ≤ 201 * leaves K := by
  induction h with
  | @lf K t _ _ h _ =>
    have h1 := parts_W t (fun _ => 20) 20 (fun _ => by decide) (by decide)
    have h2 := leaves_pos K
    have h3 : Aw.W (fun _ => 20) 20 t ≤ 200 * leaves K := h
    omega
  | @rg K t _ _ h _ =>
    have h1 := parts_W t (fun _ => 20) 20 (fun _ => by decide) (by decide)
    have h2 := leaves_pos K
    have h3 : Aw.W (fun _ => 20) 20 t ≤ 116 := h
    omega
  | pair _ _ ih1 ih2 => simp only [K23.parts, leaves]; omega
  | @lam A B b _ ih => have := leaves_pos A; simp only [K23.parts, leaves]; omega
theorem S2.dp {K : Kd} {t : Tm} (h : S2 K t) : dp t ≤ 60 + leaves K := by
  induction h with
  | @lf K t _ _ _ h =>
    have h1 := dp_W t (fun _ => 20) 20
    have h3 : Ad.W (fun _ => 20) 20 t ≤ 60 := h
    omega
  | @rg K t _ _ _ h =>
    have h1 := dp_W t (fun _ => 20) 20
    have h3 : Ad.W (fun _ => 20) 20 t ≤ 60 := h
    omega
  | @pair A B a b _ _ ih1 ih2 =>
    have := leaves_pos A
    have := leaves_pos B
    simp only [K23.dp, leaves]; omega
  | @lam A B b _ ih => have := leaves_pos A; simp only [K23.dp, leaves]; omega
end K23

namespace K23
open PySem (Str)

/-! ### what is drawn -/
section
variable (E : Str → Option Kd)
/-- a name gone along; c: the leaves that were used up -/
inductive Us (P : Kd → Tm → Prop) (G : List Kd) : Nat → Kd → Tm → Prop
  | var {i : Nat} {K : Kd} : G[i]? = some K → leaves K ≤ 4 → Us P G 0 K (.var i)
  | free {x : Str} {K : Kd} : E x = some K → leaves K ≤ 4 → Us P G 0 K (.free x)
  | app {c : Nat} {A B : Kd} {f a : Tm} : Us P G c (.to A B) f → P A a → Us P G (c + leaves A) B (.app f a)
  | fst {c : Nat} {A B : Kd} {f : Tm} : Us P G c (.both A B) f → Us P G (c + leaves B) A (.fst f)
  | snd {c : Nat} {A B : Kd} {f : Tm} : Us P G c (.both A B) f → Us P G (c + leaves A) B (.snd f)
inductive Dr (up : Prop) (P : List Kd → Kd → Tm → Prop) : List Kd → Kd → Tm → Prop
  | red {G : List Kd} {K g : Kd} {b a : Tm} : P (K :: G) g b → P G K a → leaves K ≤ 3 → Dr up P G g (.app (.lam K b) a)
  | p1 {G : List Kd} {K g : Kd} {a b : Tm} : P G g a → P G K b → leaves K ≤ 2 → Dr up P G g (.fst (.pair a b))
  | p2 {G : List Kd} {K g : Kd} {a b : Tm} : P G g a → P G K b → leaves K ≤ 2 → Dr up P G g (.snd (.pair b a))
  | used {G : List Kd} {c : Nat} {g : Kd} {t : Tm} : up → Us E (P G) G c g t → Dr up P G g t
  | one {G : List Kd} : Dr up P G .one .unit
  | mark {G : List Kd} {m x : Str} : pq x = true → E x = some (.mark m) → Dr up P G (.mark m) (.free x)
  | pair {G : List Kd} {A B : Kd} {a b : Tm} : Dr up P G A a → Dr up P G B b → Dr up P G (.both A B) (.pair a b)
  | lam {G : List Kd} {A B : Kd} {b : Tm} : Dr up P (A :: G) B b → Dr up P G (.to A B) (.lam A b)
/-- drawn with so much room -/
def Dn : Nat → List Kd → Kd → Tm → Prop
  | 0 => Dr E False (fun _ _ _ => False)
  | r + 1 => Dr E True (Dn r)
end
section
variable {E : Str → Option Kd}
theorem Us.mono {P Q : Kd → Tm → Prop} {G : List Kd} (hPQ : ∀ K t, P K t → Q K t) {c : Nat} {K : Kd} {t : Tm} (h : Us E P G c K t) : Us E Q G c K t := by
  induction h with
  | var h h4 => exact .var h h4
  | free h h4 => exact .free h h4
  | app _ ha ih => exact .app ih (hPQ _ _ ha)
  | fst _ ih => exact .fst ih
  | snd _ ih => exact .snd ih
theorem Dr.mono {u v : Prop} {P Q : List Kd → Kd → Tm → Prop} (huv : u → v) (hPQ : ∀ G K t, P G K t → Q G K t) {G : List Kd} {K : Kd} {t : Tm} (h : Dr E u P G K t) : Dr E v Q G K t := by
  induction h with
  | red hb ha h3 => exact .red (hPQ _ _ _ hb) (hPQ _ _ _ ha) h3
  | p1 hb ha h3 => exact .p1 (hPQ _ _ _ hb) (hPQ _ _ _ ha) h3
  | p2 hb ha h3 => exact .p2 (hPQ _ _ _ hb) (hPQ _ _ _ ha) h3
  | used h0 h => exact .used (huv h0) (h.mono fun K t => hPQ _ K t)
  | one => exact .one
  | mark h0 h => exact .mark h0 h
  | pair _ _ ih1 ih2 => exact .pair ih1 ih2
  | lam _ ih => exact .lam ih
theorem Dn.up : ∀ {r : Nat} {G : List Kd} {K : Kd} {t : Tm}, Dn E r G K t → Dn E (r + 1) G K t
  | 0, _, _, _, h => Dr.mono (fun z => z.elim) (fun _ _ _ z => z.elim) h
  | _ + 1, _, _, _, h => Dr.mono id (fun _ _ _ z => Dn.up z) h
theorem Us.c4 {P : Kd → Tm → Prop} {G : List Kd} {c : Nat} {K : Kd} {t : Tm} (h : Us E P G c K t) : c + leaves K ≤ 4 := by
  induction h with
  | var _ h4 => omega
  | free _ h4 => omega
  | app _ _ ih => simp only [leaves] at ih; omega
  | fst _ ih => simp only [leaves] at ih; omega
  | snd _ ih => simp only [leaves] at ih; omega
theorem Us.ty {P : Kd → Tm → Prop} {G : List Kd} (hP : ∀ K t, P K t → Ty E G t K) {c : Nat} {K : Kd} {t : Tm} (h : Us E P G c K t) : Ty E G t K := by
  induction h with
  | var h _ => exact .var h
  | free h _ => exact .free h
  | app _ ha ih => exact .app ih (hP _ _ ha)
  | fst _ ih => exact .fst ih
  | snd _ ih => exact .snd ih
theorem Dr.ty {u : Prop} {P : List Kd → Kd → Tm → Prop} (hP : ∀ G K t, P G K t → Ty E G t K) {G : List Kd} {K : Kd} {t : Tm} (h : Dr E u P G K t) : Ty E G t K := by
  induction h with
  | red hb ha _ => exact .app (.lam (hP _ _ _ hb)) (hP _ _ _ ha)
  | p1 ha hb _ => exact .fst (.pair (hP _ _ _ ha) (hP _ _ _ hb))
  | p2 ha hb _ => exact .snd (.pair (hP _ _ _ hb) (hP _ _ _ ha))
  | used _ h => exact h.ty fun K t => hP _ K t
  | one => exact .unit
  | mark _ h => exact .free h
  | pair _ _ ih1 ih2 => exact .pair ih1 ih2
  | lam _ ih => exact .lam ih
theorem Dn.ty : ∀ {r : Nat} {G : List Kd} {K : Kd} {t : Tm}, Dn E r G K t → Ty E G t K
  | 0, _, _, _, h => Dr.ty (fun _ _ _ z => z.elim) h
  | _ + 1, _, _, _, h => Dr.ty (fun _ _ _ z => Dn.ty z) h
theorem D0.cn {G : List Kd} {K : Kd} {t : Tm} (h : Dn E 0 G K t) : Cn K t := by
  replace h : Dr E False (fun _ _ _ => False) G K t := h
  induction h with
  | red hb _ _ => exact hb.elim
  | p1 ha _ _ => exact ha.elim
  | p2 ha _ _ => exact ha.elim
  | used h _ => exact h.elim
  | one => exact .unit
  | mark h _ => exact .name h
  | pair _ _ ih1 ih2 => exact .pair ih1 ih2
  | lam _ ih => exact .lam ih
theorem Us.s1 {G : List Kd} {c : Nat} {K : Kd} {t : Tm} (h : Us E (Dn E 0 G) G c K t) : S1 t := by
  induction h with
  | var _ _ => exact .var _
  | free _ _ => exact .free _
  | @app c A B f a h ha ih =>
    have h4 := h.c4
    have := leaves_pos B
    simp only [leaves] at h4
    exact .app ih (D0.cn ha) (by omega)
  | fst _ ih => exact .fst ih
  | snd _ ih => exact .snd ih
theorem D1.s1 {G : List Kd} {K : Kd} {t : Tm} (h : Dn E 1 G K t) : S1 t := by
  replace h : Dr E True (Dn E 0) G K t := h
  induction h with
  | red hb ha h3 => exact .app (.lam _ (D0.cn hb).s1) (D0.cn ha) h3
  | p1 ha hb _ => exact .fst (.pair (D0.cn ha).s1 (D0.cn hb).s1)
  | p2 ha hb _ => exact .snd (.pair (D0.cn hb).s1 (D0.cn ha).s1)
  | used _ h => exact h.s1
  | one => exact .unit
  | mark h _ => exact .free _
  | pair _ _ ih1 ih2 => exact .pair ih1 ih2
  | lam _ ih => exact .lam _ ih
theorem Us.rg {G : List Kd} {c : Nat} {K : Kd} {t : Tm} (h : Us E (Dn E 1 G) G c K t) : Rg t := by
  induction h with
  | var _ _ => exact .var _
  | free _ _ => exact .free _
  | app h ha ih => exact .app ih (D1.s1 ha)
  | fst _ ih => exact .fst ih
  | snd _ ih => exact .snd ih
theorem W_free_le {A : Alg} {x : Str} {r : Nat → Nat} {v : Nat} : A.W r v (.free x) ≤ A.n := by
  have := A.hn
  simp only [Alg.W]
  split <;> omega
/-- weights of names gone along, given constant terms -/
theorem Us.W0' {A : Alg} {G : List Kd} {c : Nat} {K : Kd} {t : Tm} (h : Us E (Dn E 0 G) G c K t) {r : Nat → Nat} {v : Nat} (hr : ∀ k, r k ≤ v) (hv : A.n ≤ v) : A.W r A.n t ≤ v + (A.e + 2 * A.i) * c := by
  induction h with
  | @var i K h _ => exact Nat.le_trans (hr i) (Nat.le_add_right _ _)
  | free _ _ => exact Nat.le_trans W_free_le (Nat.le_trans hv (Nat.le_add_right _ _))
  | @app c B C f a h ha ih =>
    have h4 := h.c4
    have h5 := leaves_pos C
    simp only [leaves] at h4
    have hc := D0.cn ha
    rw [W_app_cn hc (by omega)]
    have h6 := hc.W (A := A) r A.n
    have h7 := A.add (a := A.W r A.n f) (b := A.W r A.n a)
    rw [Nat.mul_add]
    have h8 : (A.e + 2 * A.i) * leaves B = leaves B * A.e + 2 * (leaves B * A.i) := by
      rw [Nat.add_mul, Nat.mul_comm A.e, Nat.mul_assoc, Nat.mul_comm A.i]
    have h9 : A.e ≤ leaves B * A.e := Nat.le_mul_of_pos_left _ (leaves_pos B)
    omega
  | @fst c B C f h ih =>
    simp only [Alg.W]
    rw [Nat.mul_add]
    have h9 : A.e + 2 * A.i ≤ (A.e + 2 * A.i) * leaves C := Nat.le_mul_of_pos_right _ (leaves_pos C)
    omega
  | @snd c B C f h ih =>
    simp only [Alg.W]
    rw [Nat.mul_add]
    have h9 : A.e + 2 * A.i ≤ (A.e + 2 * A.i) * leaves B := Nat.le_mul_of_pos_right _ (leaves_pos B)
    omega
theorem Us.W3 {A : Alg} {G : List Kd} {c : Nat} {K : Kd} {t : Tm} (h : Us E (Dn E 0 G) G c K t) {r : Nat → Nat} {v : Nat} (hr : ∀ k, r k ≤ v) (hv : A.n ≤ v) : A.W r A.n t ≤ v + (A.e + 2 * A.i) * 3 := by
  have h4 := h.c4
  have h5 := leaves_pos K
  exact Nat.le_trans (h.W0' hr hv) (Nat.add_le_add_left (Nat.mul_le_mul_left _ (by omega)) _)
/-- weights of what is drawn with room 1 -/
theorem D1.W {A : Alg} {G : List Kd} {K : Kd} {t : Tm} (h : Dn E 1 G K t) : ∀ {r : Nat → Nat} {v X : Nat}, (∀ k, r k ≤ v) → A.n ≤ v → v + 3 * A.e + 7 * A.i ≤ X → A.e + 8 * A.i ≤ X → A.W r A.n t + A.i ≤ leaves K * X := by
  replace h : Dr E True (Dn E 0) G K t := h
  have big : ∀ (K : Kd) (X y : Nat), y ≤ X → y ≤ leaves K * X := fun K X y h => Nat.le_trans h (Nat.le_mul_of_pos_left _ (leaves_pos K))
  induction h with
  | @red G K g b a hb ha h3 =>
    intro r v X hr hv h1 h2
    have hc := D0.cn ha
    rw [W_app_cn hc h3]
    have h5 := (D0.cn hb).W (A := A) (cns A.n r) A.n
    have h6 := hc.W (A := A) r A.n
    have h7 := A.add (a := A.W r A.n (.lam K b)) (b := A.W r A.n a)
    have h8 : leaves g * (A.e + 8 * A.i) ≤ leaves g * X := Nat.mul_le_mul_left _ h2
    rw [Nat.mul_add, Nat.mul_left_comm] at h8
    have h9 : A.e ≤ leaves g * A.e := Nat.le_mul_of_pos_left _ (leaves_pos g)
    have h10 : A.i ≤ leaves g * A.i := Nat.le_mul_of_pos_left _ (leaves_pos g)
    have h11 : leaves K * A.i ≤ 3 * A.i := Nat.mul_le_mul_right _ h3
    simp only [Alg.W] at h7 ⊢
    omega
  | @p1 G K g a b ha hb h2' =>
    intro r v X hr hv h1 h2
    have h5 := (D0.cn ha).W (A := A) r A.n
    have h6 := (D0.cn hb).W (A := A) r A.n
    have h7 := A.add (a := A.W r A.n a) (b := A.W r A.n b)
    have h8 : leaves g * (A.e + 8 * A.i) ≤ leaves g * X := Nat.mul_le_mul_left _ h2
    rw [Nat.mul_add, Nat.mul_left_comm] at h8
    have h9 : A.e ≤ leaves g * A.e := Nat.le_mul_of_pos_left _ (leaves_pos g)
    have h10 : A.i ≤ leaves g * A.i := Nat.le_mul_of_pos_left _ (leaves_pos g)
    have h11 : leaves K * A.i ≤ 2 * A.i := Nat.mul_le_mul_right _ h2'
    simp only [Alg.W]
    omega
  | @p2 G K g a b ha hb h2' =>
    intro r v X hr hv h1 h2
    have h5 := (D0.cn ha).W (A := A) r A.n
    have h6 := (D0.cn hb).W (A := A) r A.n
    have h7 := A.add (a := A.W r A.n b) (b := A.W r A.n a)
    have h8 : leaves g * (A.e + 8 * A.i) ≤ leaves g * X := Nat.mul_le_mul_left _ h2
    rw [Nat.mul_add, Nat.mul_left_comm] at h8
    have h9 : A.e ≤ leaves g * A.e := Nat.le_mul_of_pos_left _ (leaves_pos g)
    have h10 : A.i ≤ leaves g * A.i := Nat.le_mul_of_pos_left _ (leaves_pos g)
    have h11 : leaves K * A.i ≤ 2 * A.i := Nat.mul_le_mul_right _ h2'
    simp only [Alg.W]
    omega
  | @used G c g t _ h =>
    intro r v X hr hv h1 h2
    have h5 := h.W3 (A := A) hr hv
    exact big g X _ (by omega)
  | one =>
    intro r v X hr hv h1 h2
    refine big .one X _ ?_
    simp only [Alg.W]
    omega
  | @mark G m x h _ =>
    intro r v X hr hv h1 h2
    refine big (.mark m) X _ ?_
    simp only [Alg.W, h, if_true]
    omega
  | @pair G B C a b _ _ ih1 ih2 =>
    intro r v X hr hv h1 h2
    have h5 := ih1 hr hv h1 h2
    have h6 := ih2 hr hv h1 h2
    have h7 := A.add (a := A.W r A.n a) (b := A.W r A.n b)
    simp only [Alg.W, leaves, Nat.add_mul]
    omega
  | @lam G B C b _ ih =>
    intro r v X hr hv h1 h2
    have h5 := ih (r := cns A.n r) (v := v) (X := X) (fun k => by cases k with | zero => exact hv | succ k => exact hr k) hv h1 h2
    have h6 : X ≤ leaves B * X := Nat.le_mul_of_pos_left _ (leaves_pos B)
    simp only [Alg.W, leaves, Nat.add_mul]
    omega
theorem Cn.Wd {K : Kd} {t : Tm} (h : Cn K t) (r : Nat → Nat) (v : Nat) : Ad.W r v t + 1 ≤ 2 * leaves K := by
  have := h.W (A := Ad) r v
  have e : Ad.i = 1 := rfl
  rw [e] at this
  omega
theorem D1.Wd {G : List Kd} {K : Kd} {t : Tm} (h : Dn E 1 G K t) : ∀ {r : Nat → Nat} {v : Nat}, leaves K ≤ 4 → (∀ k, r k ≤ v) → 20 ≤ v → Ad.W r 20 t ≤ v + 11 + leaves K := by
  replace h : Dr E True (Dn E 0) G K t := h
  induction h with
  | @red G K g b a hb ha h3 =>
    intro r v h4 hr hv
    have hc := D0.cn ha
    have h5 := (D0.cn hb).Wd (cns 20 r) 20
    have h6 := hc.Wd r 20
    have e := W_app_cn (A := Ad) (f := .lam K b) (r := r) (v := 20) hc h3
    have e1 : Ad.W r 20 (.app (.lam K b) a) = 1 + max (1 + Ad.W (cns 20 r) 20 b) (Ad.W r 20 a) := e
    rw [e1]
    omega
  | @p1 G K g a b ha hb h2' =>
    intro r v h4 hr hv
    have h5 := (D0.cn ha).Wd r 20
    have h6 := (D0.cn hb).Wd r 20
    show 1 + (1 + max (Ad.W r 20 a) (Ad.W r 20 b)) ≤ _
    omega
  | @p2 G K g a b ha hb h2' =>
    intro r v h4 hr hv
    have h5 := (D0.cn ha).Wd r 20
    have h6 := (D0.cn hb).Wd r 20
    show 1 + (1 + max (Ad.W r 20 b) (Ad.W r 20 a)) ≤ _
    omega
  | @used G c g t _ h =>
    intro r v h4 hr hv
    have h5 : Ad.W r 20 t ≤ v + (1 + 2 * 1) * 3 := h.W3 (A := Ad) hr hv
    omega
  | one =>
    intro r v h4 hr hv
    show 1 ≤ _
    omega
  | @mark G m x h _ =>
    intro r v h4 hr hv
    have : Ad.W r 20 (.free x) ≤ 20 := W_free_le
    omega
  | @pair G B C a b _ _ ih1 ih2 =>
    intro r v h4 hr hv
    have p1 := leaves_pos B
    have p2 := leaves_pos C
    simp only [leaves] at h4 ⊢
    have h5 := ih1 (by omega) hr hv
    have h6 := ih2 (by omega) hr hv
    show 1 + max (Ad.W r 20 a) (Ad.W r 20 b) ≤ _
    omega
  | @lam G B C b _ ih =>
    intro r v h4 hr hv
    have p1 := leaves_pos B
    simp only [leaves] at h4 ⊢
    have h5 := ih (r := cns 20 r) (v := v) (by omega) (fun k => by cases k with | zero => exact hv | succ k => exact hr k) hv
    show 1 + Ad.W (cns 20 r) 20 b ≤ _
    omega
/-- .. with room 2, names gone along -/
theorem Us.W1 {A : Alg} {X : Nat} {G : List Kd} (hX : A.n + 3 * A.e + 7 * A.i ≤ X) (hX2 : A.e + 8 * A.i ≤ X) {c : Nat} {K : Kd} {t : Tm} (h : Us E (Dn E 1 G) G c K t) : A.W (fun _ => A.n) A.n t ≤ A.n + c * (A.e + X) := by
  induction h with
  | @var i K h _ => exact Nat.le_add_right _ _
  | free _ _ => exact Nat.le_trans W_free_le (Nat.le_add_right _ _)
  | @app c B C f a h ha ih =>
    have h5 := D1.W (A := A) ha (r := fun _ => A.n) (v := A.n) (X := X) (fun _ => Nat.le_refl _) (Nat.le_refl _) hX hX2
    have h7 := A.add (a := A.W (fun _ => A.n) A.n f) (b := A.W (fun _ => A.n) A.n a)
    have h8 := h.rg.Wv (A := A) (fun _ => A.n) (max A.n (A.W (fun _ => A.n) A.n a)) A.n
    have h9 : A.e ≤ leaves B * A.e := Nat.le_mul_of_pos_left _ (leaves_pos B)
    rw [Nat.add_mul, Nat.mul_add (leaves B)]
    simp only [Alg.W]
    rw [h8]
    omega
  | @fst c B C f h ih =>
    have h9 : A.e + X ≤ leaves C * (A.e + X) := Nat.le_mul_of_pos_left _ (leaves_pos C)
    rw [Nat.add_mul]
    simp only [Alg.W]
    omega
  | @snd c B C f h ih =>
    have h9 : A.e + X ≤ leaves B * (A.e + X) := Nat.le_mul_of_pos_left _ (leaves_pos B)
    rw [Nat.add_mul]
    simp only [Alg.W]
    omega
theorem Us.W1d {G : List Kd} {c : Nat} {K : Kd} {t : Tm} (h : Us E (Dn E 1 G) G c K t) : Ad.W (fun _ => 20) 20 t ≤ 40 + c := by
  induction h with
  | @var i K h _ => show 20 ≤ _; omega
  | free _ _ => exact Nat.le_trans (W_free_le (A := Ad)) (show 20 ≤ _ by omega)
  | @app c B C f a h ha ih =>
    have h4 := h.c4
    have p1 := leaves_pos C
    have p2 := leaves_pos B
    simp only [leaves] at h4
    have h5 := D1.Wd ha (r := fun _ => 20) (v := 20) (by omega) (fun _ => Nat.le_refl _) (Nat.le_refl _)
    have h8 := h.rg.Wv (A := Ad) (fun _ => 20) (max 20 (Ad.W (fun _ => 20) 20 a)) 20
    show 1 + max (Ad.W (fun _ => 20) (max 20 (Ad.W (fun _ => 20) 20 a)) f) (Ad.W (fun _ => 20) 20 a) ≤ _
    rw [h8]
    omega
  | @fst c B C f h ih =>
    have p2 := leaves_pos C
    show 1 + Ad.W (fun _ => 20) 20 f ≤ _
    omega
  | @snd c B C f h ih =>
    have p2 := leaves_pos B
    show 1 + Ad.W (fun _ => 20) 20 f ≤ _
    omega
theorem D2.s2 {G : List Kd} {K : Kd} {t : Tm} (h : Dn E 2 G K t) (h4 : leaves K ≤ 4) : S2 K t := by
  replace h : Dr E True (Dn E 1) G K t := h
  have kk : ∀ n : Nat, ∀ k : Nat, (fun _ : Nat => n) k ≤ n := fun n k => Nat.le_refl _
  induction h with
  | @red G K g b a hb ha h3 =>
    have p := leaves_pos g
    refine .lf (.rdx K (D1.s1 hb) (D1.s1 ha)) ?_ ?_ ?_
    · have h5 : Ae.W (fun _ => 0) 0 a + 0 ≤ leaves K * 3 := D1.W (A := Ae) ha (v := 0) (X := 3) (kk 0) (by decide) (by decide) (by decide)
      have h6 : Ae.W (cns (max 0 (Ae.W (fun _ => 0) 0 a)) (fun _ => 0)) 0 b + 0 ≤ leaves g * 12 := D1.W (A := Ae) hb (v := 9) (X := 12) (fun k => by
        cases k with
        | zero => show max 0 (Ae.W (fun _ => 0) 0 a) ≤ 9; omega
        | succ k => exact Nat.zero_le _) (by decide) (by decide) (by decide)
      show 1 + (0 + Ae.W (cns (max 0 (Ae.W (fun _ => 0) 0 a)) (fun _ => 0)) 0 b + Ae.W (fun _ => 0) 0 a) ≤ _
      omega
    · have h5 : Aw.W (fun _ => 20) 20 a + 1 ≤ leaves K * 31 := D1.W (A := Aw) ha (v := 20) (X := 31) (kk 20) (by decide) (by decide) (by decide)
      have h6 : Aw.W (cns (max 20 (Aw.W (fun _ => 20) 20 a)) (fun _ => 20)) 20 b + 1 ≤ leaves g * 103 := D1.W (A := Aw) hb (v := 92) (X := 103) (fun k => by
        cases k with
        | zero => show max 20 (Aw.W (fun _ => 20) 20 a) ≤ 92; omega
        | succ k => show 20 ≤ 92; omega) (by decide) (by decide) (by decide)
      show 1 + (1 + Aw.W (cns (max 20 (Aw.W (fun _ => 20) 20 a)) (fun _ => 20)) 20 b + Aw.W (fun _ => 20) 20 a) ≤ _
      omega
    · have h5 := D1.Wd ha (r := fun _ => 20) (v := 20) (by omega) (kk 20) (Nat.le_refl _)
      have h6 := D1.Wd hb (r := cns (max 20 (Ad.W (fun _ => 20) 20 a)) (fun _ => 20)) (v := 34) h4 (fun k => by
        cases k with
        | zero => show max 20 (Ad.W (fun _ => 20) 20 a) ≤ 34; omega
        | succ k => show 20 ≤ 34; omega) (by decide)
      show 1 + max (1 + Ad.W (cns (max 20 (Ad.W (fun _ => 20) 20 a)) (fun _ => 20)) 20 b) (Ad.W (fun _ => 20) 20 a) ≤ _
      omega
  | @p1 G K g a b ha hb h2 =>
    have p := leaves_pos g
    refine .lf (.s1 (.fst (.pair (D1.s1 ha) (D1.s1 hb)))) ?_ ?_ ?_
    · have h5 : Ae.W (fun _ => 0) 0 a + 0 ≤ leaves g * 3 := D1.W (A := Ae) ha (v := 0) (X := 3) (kk 0) (by decide) (by decide) (by decide)
      have h6 : Ae.W (fun _ => 0) 0 b + 0 ≤ leaves K * 3 := D1.W (A := Ae) hb (v := 0) (X := 3) (kk 0) (by decide) (by decide) (by decide)
      show 1 + (0 + (Ae.W (fun _ => 0) 0 a + Ae.W (fun _ => 0) 0 b)) ≤ _
      omega
    · have h5 : Aw.W (fun _ => 20) 20 a + 1 ≤ leaves g * 31 := D1.W (A := Aw) ha (v := 20) (X := 31) (kk 20) (by decide) (by decide) (by decide)
      have h6 : Aw.W (fun _ => 20) 20 b + 1 ≤ leaves K * 31 := D1.W (A := Aw) hb (v := 20) (X := 31) (kk 20) (by decide) (by decide) (by decide)
      show 1 + (1 + (Aw.W (fun _ => 20) 20 a + Aw.W (fun _ => 20) 20 b)) ≤ _
      omega
    · have h5 := D1.Wd ha (r := fun _ => 20) (v := 20) h4 (kk 20) (Nat.le_refl _)
      have h6 := D1.Wd hb (r := fun _ => 20) (v := 20) (by omega) (kk 20) (Nat.le_refl _)
      show 1 + (1 + max (Ad.W (fun _ => 20) 20 a) (Ad.W (fun _ => 20) 20 b)) ≤ _
      omega
  | @p2 G K g a b ha hb h2 =>
    have p := leaves_pos g
    refine .lf (.s1 (.snd (.pair (D1.s1 hb) (D1.s1 ha)))) ?_ ?_ ?_
    · have h5 : Ae.W (fun _ => 0) 0 a + 0 ≤ leaves g * 3 := D1.W (A := Ae) ha (v := 0) (X := 3) (kk 0) (by decide) (by decide) (by decide)
      have h6 : Ae.W (fun _ => 0) 0 b + 0 ≤ leaves K * 3 := D1.W (A := Ae) hb (v := 0) (X := 3) (kk 0) (by decide) (by decide) (by decide)
      show 1 + (0 + (Ae.W (fun _ => 0) 0 b + Ae.W (fun _ => 0) 0 a)) ≤ _
      omega
    · have h5 : Aw.W (fun _ => 20) 20 a + 1 ≤ leaves g * 31 := D1.W (A := Aw) ha (v := 20) (X := 31) (kk 20) (by decide) (by decide) (by decide)
      have h6 : Aw.W (fun _ => 20) 20 b + 1 ≤ leaves K * 31 := D1.W (A := Aw) hb (v := 20) (X := 31) (kk 20) (by decide) (by decide) (by decide)
      show 1 + (1 + (Aw.W (fun _ => 20) 20 b + Aw.W (fun _ => 20) 20 a)) ≤ _
      omega
    · have h5 := D1.Wd ha (r := fun _ => 20) (v := 20) h4 (kk 20) (Nat.le_refl _)
      have h6 := D1.Wd hb (r := fun _ => 20) (v := 20) (by omega) (kk 20) (Nat.le_refl _)
      show 1 + (1 + max (Ad.W (fun _ => 20) 20 b) (Ad.W (fun _ => 20) 20 a)) ≤ _
      omega
  | @used G c g t _ h =>
    have p := leaves_pos g
    have hc := h.c4
    refine .rg h.rg ?_ ?_ ?_
    · have h5 : Ae.W (fun _ => 0) 0 t ≤ 0 + c * (1 + 3) := h.W1 (A := Ae) (X := 3) (by decide) (by decide)
      show Ae.W (fun _ => 0) 0 t ≤ _
      omega
    · have h5 : Aw.W (fun _ => 20) 20 t ≤ 20 + c * (1 + 31) := h.W1 (A := Aw) (X := 31) (by decide) (by decide)
      show Aw.W (fun _ => 20) 20 t ≤ _
      omega
    · have h5 := h.W1d
      show Ad.W (fun _ => 20) 20 t ≤ _
      omega
  | one => exact .lf (.s1 .unit) (by decide) (by decide) (by decide)
  | @mark G m x h _ =>
    refine .lf (.s1 (.free x)) ?_ ?_ ?_
    · exact Nat.le_trans (W_free_le (A := Ae)) (Nat.zero_le _)
    · exact Nat.le_trans (W_free_le (A := Aw)) (by show 20 ≤ 200 * 1; decide)
    · exact Nat.le_trans (W_free_le (A := Ad)) (by show 20 ≤ 60; decide)
  | @pair G B C a b _ _ ih1 ih2 =>
    have p1 := leaves_pos B
    have p2 := leaves_pos C
    simp only [leaves] at h4
    exact .pair (ih1 (by omega)) (ih2 (by omega))
  | @lam G B C b _ ih =>
    simp only [leaves] at h4
    exact .lam (ih (by omega))
end
end K23

namespace K23
open PySem (Str)

/-! ### made long -/
section
variable (E : Str → Option Kd)
mutual
inductive Mk : List Kd → Kd → Tm → Tm → Prop
  | one {G : List Kd} {t : Tm} : Mk G .one t .unit
  | mark {G : List Kd} {m : Str} {t r : Tm} : Al G t r (.mark m) → Mk G (.mark m) t r
  | both {G : List Kd} {A B : Kd} {t u a b : Tm} : Mk G A t a → Mk G B u b → Mk G (.both A B) (.pair t u) (.pair a b)
  | bothE {G : List Kd} {A B : Kd} {t a b : Tm} : (∀ x y, t ≠ .pair x y) → Mk G A (.fst t) a → Mk G B (.snd t) b → Mk G (.both A B) t (.pair a b)
  | to {G : List Kd} {K A B : Kd} {t r : Tm} : Mk (A :: G) B t r → Mk G (.to A B) (.lam K t) (.lam A r)
  | toE {G : List Kd} {A B : Kd} {t r : Tm} : (∀ k x, t ≠ .lam k x) → Mk (A :: G) B (.app (shift t) (.var 0)) r → Mk G (.to A B) t (.lam A r)
inductive Al : List Kd → Tm → Tm → Kd → Prop
  | var {G : List Kd} {i : Nat} {K : Kd} : G[i]? = some K → Al G (.var i) (.var i) K
  | free {G : List Kd} {x : Str} {K : Kd} : E x = some K → Al G (.free x) (.free x) K
  | app {G : List Kd} {A B : Kd} {t r u v : Tm} : Al G t r (.to A B) → Mk G A u v → Al G (.app t u) (.app r v) B
  | fst {G : List Kd} {A B : Kd} {t r : Tm} : Al G t r (.both A B) → Al G (.fst t) (.fst r) A
  | snd {G : List Kd} {A B : Kd} {t r : Tm} : Al G t r (.both A B) → Al G (.snd t) (.snd r) B
end
end
section
variable {E : Str → Option Kd}
def Ntr : Tm → Prop
  | .var _ => True
  | .free _ => True
  | .app _ _ => True
  | .fst _ => True
  | .snd _ => True
  | _ => False
theorem Ntr.nl {t : Tm} (h : Ntr t) : ∀ k x, t ≠ .lam k x := fun k x e => by subst e; exact h
theorem Ntr.np {t : Tm} (h : Ntr t) : ∀ x y, t ≠ .pair x y := fun k x e => by subst e; exact h
theorem Al.ntr {G : List Kd} {t r : Tm} {K : Kd} (h : Al E G t r K) : Ntr t ∧ Ntr r := by
  cases h <;> exact ⟨trivial, trivial⟩
mutual
theorem Mk.idem : ∀ {G : List Kd} {K : Kd} {t r : Tm}, Mk E G K t r → Mk E G K r r
  | _, _, _, _, .one => .one
  | _, _, _, _, .mark h => .mark (Al.idem h)
  | _, _, _, _, .both h g => .both (Mk.idem h) (Mk.idem g)
  | _, _, _, _, .bothE _ h g => .both (Mk.idem h) (Mk.idem g)
  | _, _, _, _, .to h => .to (Mk.idem h)
  | _, _, _, _, .toE _ h => .to (Mk.idem h)
theorem Al.idem : ∀ {G : List Kd} {t r : Tm} {K : Kd}, Al E G t r K → Al E G r r K
  | _, _, _, _, .var h => .var h
  | _, _, _, _, .free h => .free h
  | _, _, _, _, .app h g => .app (Al.idem h) (Mk.idem g)
  | _, _, _, _, .fst h => .fst (Al.idem h)
  | _, _, _, _, .snd h => .snd (Al.idem h)
end
mutual
theorem Mk.ty : ∀ {G : List Kd} {K : Kd} {t r : Tm}, Mk E G K t r → Ty E G r K
  | _, _, _, _, .one => .unit
  | _, _, _, _, .mark h => Al.ty h
  | _, _, _, _, .both h g => .pair (Mk.ty h) (Mk.ty g)
  | _, _, _, _, .bothE _ h g => .pair (Mk.ty h) (Mk.ty g)
  | _, _, _, _, .to h => .lam (Mk.ty h)
  | _, _, _, _, .toE _ h => .lam (Mk.ty h)
theorem Al.ty : ∀ {G : List Kd} {t r : Tm} {K : Kd}, Al E G t r K → Ty E G r K
  | _, _, _, _, .var h => .var h
  | _, _, _, _, .free h => .free h
  | _, _, _, _, .app h g => .app (Al.ty h) (Mk.ty g)
  | _, _, _, _, .fst h => .fst (Al.ty h)
  | _, _, _, _, .snd h => .snd (Al.ty h)
end
mutual
theorem Mk.nf : ∀ {G : List Kd} {K : Kd} {t r : Tm}, Mk E G K t r → Nf r
  | _, _, _, _, .one => fun u s => by cases s
  | _, _, _, _, .mark h => Al.nf h
  | _, _, _, _, .both h g => fun u s => by
    have h1 := Mk.nf h
    have h2 := Mk.nf g
    cases s with
    | pairL _ s => exact h1 _ s
    | pairR _ s => exact h2 _ s
  | _, _, _, _, .bothE _ h g => fun u s => by
    have h1 := Mk.nf h
    have h2 := Mk.nf g
    cases s with
    | pairL _ s => exact h1 _ s
    | pairR _ s => exact h2 _ s
  | _, _, _, _, .to h => fun u s => by
    have h1 := Mk.nf h
    cases s with
    | lam _ s => exact h1 _ s
  | _, _, _, _, .toE _ h => fun u s => by
    have h1 := Mk.nf h
    cases s with
    | lam _ s => exact h1 _ s
theorem Al.nf : ∀ {G : List Kd} {t r : Tm} {K : Kd}, Al E G t r K → Nf r
  | _, _, _, _, .var h => fun u s => by cases s
  | _, _, _, _, .free h => fun u s => by cases s
  | _, _, _, _, .app h g => fun u s => by
    have h1 := Al.nf h
    have h2 := Mk.nf g
    have h3 := h.ntr.2
    cases s with
    | beta _ _ _ => exact h3
    | appL _ s => exact h1 _ s
    | appR _ s => exact h2 _ s
  | _, _, _, _, .fst h => fun u s => by
    have h1 := Al.nf h
    have h3 := h.ntr.2
    cases s with
    | p1 _ _ => exact h3
    | fst s => exact h1 _ s
  | _, _, _, _, .snd h => fun u s => by
    have h1 := Al.nf h
    have h3 := h.ntr.2
    cases s with
    | p2 _ _ => exact h3
    | snd s => exact h1 _ s
end
theorem ren_shift (f : Nat → Nat) (t : Tm) : ren (upr f) (shift t) = shift (ren f t) := by
  unfold shift
  rw [ren_ren, ren_ren]
  rfl
theorem ren_npair {t : Tm} (h : ∀ x y, t ≠ .pair x y) (f : Nat → Nat) : ∀ x y, ren f t ≠ .pair x y := by
  cases t <;> simp_all [ren]
theorem ren_nlam {t : Tm} (h : ∀ k x, t ≠ .lam k x) (f : Nat → Nat) : ∀ k x, ren f t ≠ .lam k x := by
  cases t <;> simp_all [ren]
theorem up_ok {G D : List Kd} {f : Nat → Nat} {A : Kd} (hf : ∀ i K, G[i]? = some K → D[f i]? = some K) : ∀ i K, (A :: G)[i]? = some K → (A :: D)[upr f i]? = some K := fun i K e => by
  cases i with
  | zero => simpa [upr] using e
  | succ i => simpa [upr] using hf i K (by simpa using e)
mutual
theorem Mk.ren : ∀ {G : List Kd} {K : Kd} {t r : Tm}, Mk E G K t r → ∀ {D : List Kd} {f : Nat → Nat}, (∀ i K, G[i]? = some K → D[f i]? = some K) → Mk E D K (ren f t) (ren f r)
  | _, _, _, _, .one, _, _, _ => .one
  | _, _, _, _, .mark h, _, _, hf => .mark (Al.ren h hf)
  | _, _, _, _, .both h g, _, _, hf => .both (Mk.ren h hf) (Mk.ren g hf)
  | _, _, _, _, .bothE n h g, _, _, hf => .bothE (ren_npair n _) (Mk.ren h hf) (Mk.ren g hf)
  | _, _, _, _, .to h, _, _, hf => .to (Mk.ren h (up_ok hf))
  | _, _, _, _, .toE n h, _, _, hf => .toE (ren_nlam n _) (by
    have q := Mk.ren h (up_ok hf)
    simp only [K23.ren] at q
    rw [ren_shift] at q
    exact q)
theorem Al.ren : ∀ {G : List Kd} {t r : Tm} {K : Kd}, Al E G t r K → ∀ {D : List Kd} {f : Nat → Nat}, (∀ i K, G[i]? = some K → D[f i]? = some K) → Al E D (ren f t) (ren f r) K
  | _, _, _, _, .var h, _, _, hf => .var (hf _ _ h)
  | _, _, _, _, .free h, _, _, hf => .free h
  | _, _, _, _, .app h g, _, _, hf => .app (Al.ren h hf) (Mk.ren g hf)
  | _, _, _, _, .fst h, _, _, hf => .fst (Al.ren h hf)
  | _, _, _, _, .snd h, _, _, hf => .snd (Al.ren h hf)
end
theorem parts_ren : ∀ (t : Tm) (f : Nat → Nat), parts (ren f t) = parts t
  | .var _, _ => rfl
  | .free _, _ => rfl
  | .unit, _ => rfl
  | .lam _ b, f => by simp only [ren, parts]; rw [parts_ren b]
  | .app a b, f => by simp only [ren, parts]; rw [parts_ren a, parts_ren b]
  | .pair a b, f => by simp only [ren, parts]; rw [parts_ren a, parts_ren b]
  | .fst b, f => by simp only [ren, parts]; rw [parts_ren b]
  | .snd b, f => by simp only [ren, parts]; rw [parts_ren b]
theorem dp_ren : ∀ (t : Tm) (f : Nat → Nat), dp (ren f t) = dp t
  | .var _, _ => rfl
  | .free _, _ => rfl
  | .unit, _ => rfl
  | .lam _ b, f => by simp only [ren, dp]; rw [dp_ren b]
  | .app a b, f => by simp only [ren, dp]; rw [dp_ren a, dp_ren b]
  | .pair a b, f => by simp only [ren, dp]; rw [dp_ren a, dp_ren b]
  | .fst b, f => by simp only [ren, dp]; rw [dp_ren b]
  | .snd b, f => by simp only [ren, dp]; rw [dp_ren b]

/-- a name gone along, made long by its kind of at most four leaves -/
theorem Al.make : ∀ (K : Kd), leaves K ≤ 4 → ∀ {G : List Kd} {t r : Tm}, Al E G t r K → ∃ q, Mk E G K t q ∧ parts q + 1 ≤ leaves K * parts r + leaves K * leaves K ∧ dp q + 1 ≤ dp r + leaves K * leaves K
  | .one, _, G, t, r, h => ⟨.unit, .one, by have := parts_pos r; simp only [parts, leaves]; omega, by simp only [dp, leaves]; omega⟩
  | .mark m, _, G, t, r, h => ⟨r, .mark h, by simp only [leaves]; omega, by simp only [leaves]; omega⟩
  | .both A B, h4, G, t, r, h => by
    have a1 := leaves_pos A
    have b1 := leaves_pos B
    simp only [leaves] at h4 ⊢
    obtain ⟨qa, ha, pa, da⟩ := Al.make A (by omega) (.fst h)
    obtain ⟨qb, hb, pb, db⟩ := Al.make B (by omega) (.snd h)
    refine ⟨.pair qa qb, .bothE h.ntr.1.np ha hb, ?_⟩
    simp only [parts, dp] at *
    have ea : leaves A = 1 ∨ leaves A = 2 ∨ leaves A = 3 := by omega
    have eb : leaves B = 1 ∨ leaves B = 2 ∨ leaves B = 3 := by omega
    rcases ea with ea | ea | ea <;> rcases eb with eb | eb | eb <;> rw [ea] at h4 pa da <;> rw [eb] at h4 pb db <;> rw [ea, eb] <;> first | omega | (constructor <;> omega)
  | .to A B, h4, G, t, r, h => by
    have a1 := leaves_pos A
    have b1 := leaves_pos B
    have r1 := parts_pos r
    simp only [leaves] at h4 ⊢
    have hv : Al E (A :: G) (.var 0) (.var 0) A := .var rfl
    obtain ⟨qa, ha, pa, da⟩ := Al.make A (by omega) hv
    have hs : Al E (A :: G) (shift t) (shift r) (.to A B) := h.ren fun i K e => by simpa using e
    obtain ⟨qb, hb, pb, db⟩ := Al.make B (by omega) (.app hs ha)
    refine ⟨.lam A qb, .toE h.ntr.1.nl hb, ?_⟩
    unfold shift at pb db
    simp only [parts, dp, parts_ren, dp_ren] at *
    have ea : leaves A = 1 ∨ leaves A = 2 ∨ leaves A = 3 := by omega
    have eb : leaves B = 1 ∨ leaves B = 2 ∨ leaves B = 3 := by omega
    rcases ea with ea | ea | ea <;> rcases eb with eb | eb | eb <;> rw [ea] at h4 pa da <;> rw [eb] at h4 pb db <;> rw [ea, eb] <;> first | omega | (constructor <;> omega)
/-- constant terms are long -/
theorem Cn.mk {K : Kd} {t : Tm} (h : Cn K t) : ∀ {G : List Kd}, Ty E G t K → Mk E G K t t := by
  induction h with
  | unit => intro G _; exact .one
  | name _ =>
    intro G y
    cases y with
    | free e => exact .mark (.free e)
  | pair _ _ ih1 ih2 =>
    intro G y
    cases y with
    | pair y1 y2 => exact .both (ih1 y1) (ih2 y2)
  | lam _ ih =>
    intro G y
    cases y with
    | lam y => exact .to (ih y)
theorem Cn.parts {K : Kd} {t : Tm} (h : Cn K t) : K23.parts t + 1 ≤ 2 * leaves K := by
  induction h with
  | unit => simp only [K23.parts, leaves]; omega
  | name _ => simp only [K23.parts, leaves]; omega
  | pair _ _ ih1 ih2 => simp only [K23.parts, leaves]; omega
  | @lam A B b _ ih => have := leaves_pos A; simp only [K23.parts, leaves]; omega
/-- all kinds that are known have at most four leaves, the names p and q are of marks -/
structure Sm (E : Str → Option Kd) (G : List Kd) : Prop where
  g : ∀ (i : Nat) (K : Kd), G[i]? = some K → leaves K ≤ 4
  e : ∀ (x : Str) (K : Kd), E x = some K → leaves K ≤ 4
  pq : ∀ (x : Str) (K : Kd), E x = some K → K23.pq x = true → ∃ m, K = .mark m
theorem Sm.cons {G : List Kd} {A : Kd} (h : Sm E G) (hA : leaves A ≤ 4) : Sm E (A :: G) :=
  ⟨fun i K e => by
    cases i with
    | zero =>
      obtain rfl : A = K := by simpa using e
      exact hA
    | succ i => exact h.g i K (by simpa using e), h.e, h.pq⟩
theorem Nf.appL {f a : Tm} (h : Nf (.app f a)) : Nf f := fun u s => h _ (.appL _ s)
theorem Nf.appR {f a : Tm} (h : Nf (.app f a)) : Nf a := fun u s => h _ (.appR _ s)
theorem Nf.fst {f : Tm} (h : Nf (.fst f)) : Nf f := fun u s => h _ (.fst s)
theorem Nf.snd {f : Tm} (h : Nf (.snd f)) : Nf f := fun u s => h _ (.snd s)
theorem Nf.lam {k : Kd} {f : Tm} (h : Nf (.lam k f)) : Nf f := fun u s => h _ (.lam k s)
theorem Nf.pairL {f a : Tm} (h : Nf (.pair f a)) : Nf f := fun u s => h _ (.pairL _ s)
theorem Nf.pairR {f a : Tm} (h : Nf (.pair f a)) : Nf a := fun u s => h _ (.pairR _ s)
/-- in a plain term of a function's kind that is given something stands a name gone along -/
theorem Nf.ntr_app {G : List Kd} {f a : Tm} {A B : Kd} (h : Nf (.app f a)) (y : Ty E G f (.to A B)) : Ntr f := by
  cases y with
  | lam _ => exact absurd (.beta _ _ _) (h _)
  | _ => trivial
theorem Nf.ntr_fst {G : List Kd} {f : Tm} {A B : Kd} (h : Nf (.fst f)) (y : Ty E G f (.both A B)) : Ntr f := by
  cases y with
  | pair _ _ => exact absurd (.p1 _ _) (h _)
  | _ => trivial
theorem Nf.ntr_snd {G : List Kd} {f : Tm} {A B : Kd} (h : Nf (.snd f)) (y : Ty E G f (.both A B)) : Ntr f := by
  cases y with
  | pair _ _ => exact absurd (.p2 _ _) (h _)
  | _ => trivial
/-- a name gone along, given constant terms -/
theorem S1.along {t : Tm} (h : S1 t) : ∀ {G : List Kd} {K : Kd}, Sm E G → Ty E G t K → Nf t → Ntr t →
    ∃ r, Al E G t r K ∧ parts r + 2 * leaves K ≤ 9 ∧ ((∃ x, t = .free x ∧ r = .free x ∧ ∃ m, K = .mark m) ∨ ∀ (A : Alg) (r : Nat → Nat), (∀ k, A.n ≤ r k) → A.n ≤ A.W r A.n t) := by
  induction h with
  | var i =>
    intro G K sm y nf _
    cases y with
    | var e => exact ⟨.var i, .var e, by have := sm.g _ _ e; simp only [parts]; omega, .inr fun A r hr => hr i⟩
  | free x =>
    intro G K sm y nf _
    cases y with
    | free e =>
      refine ⟨.free x, .free e, by have := sm.e _ _ e; simp only [parts]; omega, ?_⟩
      by_cases hx : pq x = true
      · exact .inl ⟨x, rfl, rfl, sm.pq _ _ e hx⟩
      · exact .inr fun A r hr => by simp only [Alg.W, hx]; simp
  | unit => intro G K sm y nf n; exact n.elim
  | lam k _ ih => intro G K sm y nf n; exact n.elim
  | @app C f a hf hc h3 ih =>
    intro G K sm y nf _
    cases y with
    | @app _ A B _ _ y1 y2 =>
      obtain ⟨r, h1, h2, h5⟩ := ih sm y1 nf.appL (nf.ntr_app y1)
      have eA : ∀ {C : Kd} {a : Tm}, Cn C a → ∀ {G : List Kd} {A : Kd}, Ty E G a A → (∀ x K, E x = some K → pq x = true → ∃ m, K = .mark m) → Cn A a := by
        intro C a hc
        induction hc with
        | unit => intro G A y _; cases y; exact .unit
        | name hx => intro G A y hp; cases y with | free e => obtain ⟨m, rfl⟩ := hp _ _ e hx; exact .name hx
        | pair _ _ ih1 ih2 => intro G A y hp; cases y with | pair y1 y2 => exact .pair (ih1 y1 hp) (ih2 y2 hp)
        | lam _ ih => intro G A y hp; cases y with | lam y => exact .lam (ih y hp)
      have hcA := eA hc y2 sm.pq
      have h6 := hcA.parts
      refine ⟨.app r a, .app h1 (hcA.mk y2), by simp only [parts, leaves] at *; omega, .inr fun A' r' hr => ?_⟩
      rcases h5 with ⟨x, _, _, m, e⟩ | h5
      · cases e
      · rw [W_app_cn hc h3]
        have h7 := h5 A' r' hr
        have h8 := A'.le (a := A'.W r' A'.n f) (b := A'.W r' A'.n a)
        omega
  | pair _ _ ih1 ih2 => intro G K sm y nf n; exact n.elim
  | fst _ ih =>
    intro G K sm y nf _
    cases y with
    | @fst _ A B _ y =>
      obtain ⟨r, h1, h2, h5⟩ := ih sm y nf.fst (nf.ntr_fst y)
      have := leaves_pos B
      refine ⟨.fst r, .fst h1, by simp only [parts, leaves] at *; omega, .inr fun A' r' hr => ?_⟩
      rcases h5 with ⟨x, _, _, m, e⟩ | h5
      · cases e
      · have h7 := h5 A' r' hr
        simp only [Alg.W]
        omega
  | snd _ ih =>
    intro G K sm y nf _
    cases y with
    | @snd _ A B _ y =>
      obtain ⟨r, h1, h2, h5⟩ := ih sm y nf.snd (nf.ntr_snd y)
      have := leaves_pos A
      refine ⟨.snd r, .snd h1, by simp only [parts, leaves] at *; omega, .inr fun A' r' hr => ?_⟩
      rcases h5 with ⟨x, _, _, m, e⟩ | h5
      · cases e
      · have h7 := h5 A' r' hr
        simp only [Alg.W]
        omega
theorem S1.ntr_make {t : Tm} (h : S1 t) {G : List Kd} {K : Kd} (sm : Sm E G) (y : Ty E G t K) (nf : Nf t) (n : Ntr t) (h4 : leaves K ≤ 4) :
    ∃ q, Mk E G K t q ∧ parts q ≤ Aw.W0 t ∧ dp q ≤ Ad.W0 t := by
  obtain ⟨r, h1, h2, h5⟩ := h.along sm y nf n
  rcases h5 with ⟨x, rfl, rfl, m, rfl⟩ | h5
  · refine ⟨.free x, .mark h1, ?_, Nat.zero_le _⟩
    show 1 ≤ if pq x = true then 1 else 20
    split <;> decide
  · obtain ⟨q, g1, g2, g3⟩ := h1.make K h4
    have a1 := leaves_pos K
    have w1 : 20 ≤ Aw.W0 t := h5 Aw (fun _ => 20) fun _ => Nat.le_refl _
    have w2 : 20 ≤ Ad.W0 t := h5 Ad (fun _ => 20) fun _ => Nat.le_refl _
    have d1 := dp_parts q
    have bound : parts q ≤ 20 := by
      have ea : leaves K = 1 ∨ leaves K = 2 ∨ leaves K = 3 ∨ leaves K = 4 := by omega
      rcases ea with ea | ea | ea | ea <;> rw [ea] at g2 h2 <;> omega
    exact ⟨q, g1, by omega, by omega⟩
theorem S1.make {t : Tm} (h : S1 t) : ∀ {G : List Kd} {K : Kd}, Sm E G → Ty E G t K → Nf t → leaves K ≤ 4 → ∃ q, Mk E G K t q ∧ parts q ≤ Aw.W0 t ∧ dp q ≤ Ad.W0 t := by
  induction h with
  | var i => intro G K sm y nf h4; exact S1.ntr_make (.var i) sm y nf trivial h4
  | free x => intro G K sm y nf h4; exact S1.ntr_make (.free x) sm y nf trivial h4
  | unit =>
    intro G K sm y nf h4
    cases y
    exact ⟨.unit, .one, Nat.le_refl _, Nat.zero_le _⟩
  | @lam k b hb ih =>
    intro G K sm y nf h4
    cases y with
    | @lam _ _ B _ y =>
      have a1 := leaves_pos k
      have b1 := leaves_pos B
      simp only [leaves] at h4
      obtain ⟨q, g1, g2, g3⟩ := ih (sm.cons (by omega)) y nf.lam (by omega)
      refine ⟨.lam k q, .to g1, ?_, ?_⟩
      · show 1 + parts q ≤ 1 + Aw.W (cns 20 fun _ => 20) 20 b
        rw [cns_const]
        exact Nat.add_le_add_left g2 1
      · show 1 + dp q ≤ 1 + Ad.W (cns 20 fun _ => 20) 20 b
        rw [cns_const]
        exact Nat.add_le_add_left g3 1
  | app hf hc h3 ih => intro G K sm y nf h4; exact S1.ntr_make (.app hf hc h3) sm y nf trivial h4
  | @pair a b ha hb ih1 ih2 =>
    intro G K sm y nf h4
    cases y with
    | @pair _ A B _ _ y1 y2 =>
      have a1 := leaves_pos A
      have b1 := leaves_pos B
      simp only [leaves] at h4
      obtain ⟨q, g1, g2, g3⟩ := ih1 sm y1 nf.pairL (by omega)
      obtain ⟨q', g1', g2', g3'⟩ := ih2 sm y2 nf.pairR (by omega)
      unfold Alg.W0 at *
      refine ⟨.pair q q', .both g1 g1', ?_, ?_⟩
      · show 1 + (parts q + parts q') ≤ 1 + (Aw.W _ _ a + Aw.W _ _ b)
        omega
      · show 1 + max (dp q) (dp q') ≤ 1 + max (Ad.W _ _ a) (Ad.W _ _ b)
        omega
  | fst ha ih => intro G K sm y nf h4; exact S1.ntr_make (.fst ha) sm y nf trivial h4
  | snd ha ih => intro G K sm y nf h4; exact S1.ntr_make (.snd ha) sm y nf trivial h4
/-- a name gone along, given such terms -/
theorem Rg.along {t : Tm} (h : Rg t) : ∀ {G : List Kd} {K : Kd}, Sm E G → Ty E G t K → Nf t → ∃ r, Al E G t r K ∧ leaves K ≤ 4 ∧ parts r ≤ Aw.W0 t ∧ dp r ≤ Ad.W0 t := by
  induction h with
  | var i =>
    intro G K sm y nf
    cases y with
    | var e => exact ⟨.var i, .var e, sm.g _ _ e, by show 1 ≤ 20; decide, Nat.zero_le _⟩
  | free x =>
    intro G K sm y nf
    cases y with
    | free e => exact ⟨.free x, .free e, sm.e _ _ e, by show 1 ≤ if pq x = true then 1 else 20; split <;> decide, Nat.zero_le _⟩
  | @app f a hf ha ih =>
    intro G K sm y nf
    cases y with
    | @app _ A B _ _ y1 y2 =>
      obtain ⟨r, h1, h2, h5, h6⟩ := ih sm y1 nf.appL
      have a1 := leaves_pos A
      have b1 := leaves_pos K
      simp only [leaves] at h2
      obtain ⟨q, g1, g2, g3⟩ := ha.make sm y2 nf.appR (by omega)
      unfold Alg.W0 at *
      refine ⟨.app r q, .app h1 g1, by omega, ?_, ?_⟩
      · have e := hf.Wv (A := Aw) (fun _ => 20) (max 20 (Aw.W (fun _ => 20) 20 a)) 20
        show 1 + (parts r + parts q) ≤ 1 + (Aw.W (fun _ => 20) (max 20 (Aw.W (fun _ => 20) 20 a)) f + Aw.W (fun _ => 20) 20 a)
        rw [e]
        exact Nat.add_le_add_left (Nat.add_le_add h5 g2) 1
      · have e := hf.Wv (A := Ad) (fun _ => 20) (max 20 (Ad.W (fun _ => 20) 20 a)) 20
        show 1 + max (dp r) (dp q) ≤ 1 + max (Ad.W (fun _ => 20) (max 20 (Ad.W (fun _ => 20) 20 a)) f) (Ad.W (fun _ => 20) 20 a)
        rw [e]
        have h6' : dp r ≤ Ad.W (fun _ => 20) 20 f := h6
        have g3' : dp q ≤ Ad.W (fun _ => 20) 20 a := g3
        omega
  | @fst f _ ih =>
    intro G K sm y nf
    cases y with
    | @fst _ A B _ y =>
      obtain ⟨r, h1, h2, h5, h6⟩ := ih sm y nf.fst
      have b1 := leaves_pos B
      simp only [leaves] at h2
      exact ⟨.fst r, .fst h1, by omega, Nat.add_le_add_left h5 1, Nat.add_le_add_left h6 1⟩
  | @snd f _ ih =>
    intro G K sm y nf
    cases y with
    | @snd _ A B _ y =>
      obtain ⟨r, h1, h2, h5, h6⟩ := ih sm y nf.snd
      have b1 := leaves_pos A
      simp only [leaves] at h2
      exact ⟨.snd r, .snd h1, by omega, Nat.add_le_add_left h5 1, Nat.add_le_add_left h6 1⟩
/-- the long form, and how great it is -/
theorem S2.make {K : Kd} {t : Tm} (h : S2 K t) : ∀ {G : List Kd}, Sm E G → Ty E G t K → Nf t → leaves K ≤ 4 → ∃ q, Mk E G K t q ∧ K23.parts q + 1 ≤ 201 * leaves K ∧ K23.dp q ≤ 76 + leaves K := by
  induction h with
  | @lf K t h _ h2 h3 =>
    intro G sm y nf h4
    have a1 := leaves_pos K
    cases h with
    | s1 h =>
      obtain ⟨q, g1, g2, g3⟩ := h.make sm y nf h4
      exact ⟨q, g1, by omega, by omega⟩
    | rdx k _ _ => exact absurd (.beta _ _ _) (nf _)
  | @rg K t h _ h2 h3 =>
    intro G sm y nf h4
    have a1 := leaves_pos K
    obtain ⟨r, h1, h5, h6, h7⟩ := h.along sm y nf
    obtain ⟨q, g1, g2, g3⟩ := h1.make K h4
    refine ⟨q, g1, ?_, ?_⟩
    · have ea : leaves K = 1 ∨ leaves K = 2 ∨ leaves K = 3 ∨ leaves K = 4 := by omega
      rcases ea with ea | ea | ea | ea <;> rw [ea] at g2 ⊢ <;> omega
    · have ea : leaves K = 1 ∨ leaves K = 2 ∨ leaves K = 3 ∨ leaves K = 4 := by omega
      rcases ea with ea | ea | ea | ea <;> rw [ea] at g3 ⊢ <;> omega
  | @pair A B a b _ _ ih1 ih2 =>
    intro G sm y nf h4
    have a1 := leaves_pos A
    have b1 := leaves_pos B
    simp only [leaves] at h4 ⊢
    cases y with
    | pair y1 y2 =>
      obtain ⟨q, g1, g2, g3⟩ := ih1 sm y1 nf.pairL (by omega)
      obtain ⟨q', g1', g2', g3'⟩ := ih2 sm y2 nf.pairR (by omega)
      exact ⟨.pair q q', .both g1 g1', by simp only [K23.parts]; omega, by simp only [K23.dp]; omega⟩
  | @lam A B b _ ih =>
    intro G sm y nf h4
    have a1 := leaves_pos A
    have b1 := leaves_pos B
    simp only [leaves] at h4 ⊢
    cases y with
    | lam y =>
      obtain ⟨q, g1, g2, g3⟩ := ih (sm.cons (by omega)) y nf.lam (by omega)
      exact ⟨.lam A q, .to g1, by simp only [K23.parts]; omega, by simp only [K23.dp]; omega⟩
end
end K23

namespace K23
open PySem (Str)
def xn (k : Nat) : Str := Str.ofString "x" ++ Str.ofString (toString ((k : Nat) : Int))
def en (k : Nat) : Str := Str.ofString "e" ++ Str.ofString (toString ((k : Nat) : Int))
theorem num_inj {j k : Nat} (h : Str.ofString (toString ((j : Nat) : Int)) = Str.ofString (toString ((k : Nat) : Int))) : j = k := by
  have e := congrArg (fun z => PySem.NumText.digitsVal z.cps.toList) h
  simp only [PySem.W.KIN.signs_num, PySem.W.KIN.val_back] at e
  exact e
theorem cps_add (a b : Str) : (a ++ b).cps.toList = a.cps.toList ++ b.cps.toList := by
  show (a.cps ++ b.cps).toList = _
  simp
theorem cps_ext {a b : Str} (h : a.cps.toList = b.cps.toList) : a = b := by
  cases a; cases b; simp at h; simp [h]
theorem cps_x : (Str.ofString "x").cps.toList = [120] := by decide +kernel
theorem cps_e : (Str.ofString "e").cps.toList = [101] := by decide +kernel
theorem xn_cps (k : Nat) : (xn k).cps.toList = 120 :: (Str.ofString (toString ((k : Nat) : Int))).cps.toList := by
  unfold xn; rw [cps_add, cps_x]; rfl
theorem en_cps (k : Nat) : (en k).cps.toList = 101 :: (Str.ofString (toString ((k : Nat) : Int))).cps.toList := by
  unfold en; rw [cps_add, cps_e]; rfl
theorem xn_inj {j k : Nat} (h : xn j = xn k) : j = k := by
  have e := congrArg (fun z => z.cps.toList) h
  simp only [xn_cps, List.cons.injEq, true_and] at e
  exact num_inj (cps_ext e)
theorem en_inj {j k : Nat} (h : en j = en k) : j = k := by
  have e := congrArg (fun z => z.cps.toList) h
  simp only [en_cps, List.cons.injEq, true_and] at e
  exact num_inj (cps_ext e)
theorem xn_en (j k : Nat) : xn j ≠ en k := fun h => by
  have e := congrArg (fun z => z.cps.toList) h
  simp only [xn_cps, en_cps, List.cons.injEq] at e
  exact absurd e.1 (by decide)
end K23

namespace K23
open PySem (Str)

/-! ### programs with names -/
inductive Pg where
  | name (x : Str)
  | take (x : Str) (k : Kd) (p : Pg)
  | give (p q : Pg)
  | pair (p q : Pg)
  | first (p : Pg)
  | second (p : Pg)
  | thing
  deriving DecidableEq
def inner : Pg → List Pg
  | .name _ => []
  | .take _ _ p => [p]
  | .give p q => [p, q]
  | .pair p q => [p, q]
  | .first p => [p]
  | .second p => [p]
  | .thing => []
def partsP : Pg → Nat
  | .name _ => 1
  | .take _ _ p => 1 + partsP p
  | .give p q => 1 + (partsP p + partsP q)
  | .pair p q => 1 + (partsP p + partsP q)
  | .first p => 1 + partsP p
  | .second p => 1 + partsP p
  | .thing => 1
def deepP : Pg → Nat
  | .name _ => 0
  | .take _ _ p => 1 + deepP p
  | .give p q => 1 + max (deepP p) (deepP q)
  | .pair p q => 1 + max (deepP p) (deepP q)
  | .first p => 1 + deepP p
  | .second p => 1 + deepP p
  | .thing => 0
theorem partsP_pos : ∀ p : Pg, 1 ≤ partsP p := fun p => by cases p <;> simp only [partsP] <;> omega
def ix : List Str → Str → Option Nat
  | [], _ => none
  | y :: l, x => if y = x then some 0 else (ix l x).map (· + 1)
/-- without names; sc: the names that are taken, the innermost first -/
def db : List Str → Pg → Tm
  | sc, .name x => match ix sc x with
    | some i => .var i
    | none => .free x
  | sc, .take x k p => .lam k (db (x :: sc) p)
  | sc, .give p q => .app (db sc p) (db sc q)
  | sc, .pair p q => .pair (db sc p) (db sc q)
  | sc, .first p => .fst (db sc p)
  | sc, .second p => .snd (db sc p)
  | _, .thing => .unit
/-- with names, n takes round it -/
def nm : Nat → Tm → Pg
  | n, .var i => .name (xn (n - 1 - i))
  | _, .free x => .name x
  | n, .lam k t => .take (xn n) k (nm (n + 1) t)
  | n, .app t u => .give (nm n t) (nm n u)
  | n, .pair t u => .pair (nm n t) (nm n u)
  | n, .fst t => .first (nm n t)
  | n, .snd t => .second (nm n t)
  | _, .unit => .thing
theorem partsP_nm : ∀ (t : Tm) (n : Nat), partsP (nm n t) = parts t
  | .var _, _ => rfl
  | .free _, _ => rfl
  | .unit, _ => rfl
  | .lam _ t, n => by simp only [nm, partsP, parts]; rw [partsP_nm t]
  | .app t u, n => by simp only [nm, partsP, parts]; rw [partsP_nm t, partsP_nm u]
  | .pair t u, n => by simp only [nm, partsP, parts]; rw [partsP_nm t, partsP_nm u]
  | .fst t, n => by simp only [nm, partsP, parts]; rw [partsP_nm t]
  | .snd t, n => by simp only [nm, partsP, parts]; rw [partsP_nm t]
theorem deepP_nm : ∀ (t : Tm) (n : Nat), deepP (nm n t) = dp t
  | .var _, _ => rfl
  | .free _, _ => rfl
  | .unit, _ => rfl
  | .lam _ t, n => by simp only [nm, deepP, dp]; rw [deepP_nm t]
  | .app t u, n => by simp only [nm, deepP, dp]; rw [deepP_nm t, deepP_nm u]
  | .pair t u, n => by simp only [nm, deepP, dp]; rw [deepP_nm t, deepP_nm u]
  | .fst t, n => by simp only [nm, deepP, dp]; rw [deepP_nm t]
  | .snd t, n => by simp only [nm, deepP, dp]; rw [deepP_nm t]
theorem partsP_db : ∀ (p : Pg) (sc : List Str), parts (db sc p) = partsP p
  | .name x, sc => by simp only [db]; split <;> rfl
  | .take x k p, sc => by simp only [db, partsP, parts]; rw [partsP_db p]
  | .give p q, sc => by simp only [db, partsP, parts]; rw [partsP_db p, partsP_db q]
  | .pair p q, sc => by simp only [db, partsP, parts]; rw [partsP_db p, partsP_db q]
  | .first p, sc => by simp only [db, partsP, parts]; rw [partsP_db p]
  | .second p, sc => by simp only [db, partsP, parts]; rw [partsP_db p]
  | .thing, sc => rfl
theorem deepP_db : ∀ (p : Pg) (sc : List Str), dp (db sc p) = deepP p
  | .name x, sc => by simp only [db]; split <;> rfl
  | .take x k p, sc => by simp only [db, deepP, dp]; rw [deepP_db p]
  | .give p q, sc => by simp only [db, deepP, dp]; rw [deepP_db p, deepP_db q]
  | .pair p q, sc => by simp only [db, deepP, dp]; rw [deepP_db p, deepP_db q]
  | .first p, sc => by simp only [db, deepP, dp]; rw [deepP_db p]
  | .second p, sc => by simp only [db, deepP, dp]; rw [deepP_db p]
  | .thing, sc => rfl

/-! ### which names are free -/
/-- given names are none of those that takes get -/
structure Nx (E : Str → Option Kd) : Prop where
  x : ∀ k, E (xn k) = none
  e : ∀ k, E (en k) = none
section
variable {E : Str → Option Kd}
def Wf (E : Str → Option Kd) : Nat → Tm → Prop
  | n, .var i => i < n
  | _, .free x => E x ≠ none
  | _, .unit => True
  | n, .lam _ t => Wf E (n + 1) t
  | n, .app t u => Wf E n t ∧ Wf E n u
  | n, .pair t u => Wf E n t ∧ Wf E n u
  | n, .fst t => Wf E n t
  | n, .snd t => Wf E n t
theorem Ty.wf {G : List Kd} {t : Tm} {K : Kd} (h : Ty E G t K) : Wf E G.length t := by
  induction h with
  | var h => exact (List.getElem?_eq_some_iff.mp h).1
  | free h => show E _ ≠ none; rw [h]; exact fun z => nomatch z
  | unit => trivial
  | lam _ ih => exact ih
  | app _ _ ih1 ih2 => exact ⟨ih1, ih2⟩
  | pair _ _ ih1 ih2 => exact ⟨ih1, ih2⟩
  | fst _ ih => exact ih
  | snd _ ih => exact ih
theorem ix_cons_ne {y x : Str} {l : List Str} (h : y ≠ x) : ix (y :: l) x = (ix l x).map (· + 1) := by
  simp only [ix]; rw [if_neg h]
theorem ix_cons_self {x : Str} {l : List Str} : ix (x :: l) x = some 0 := by
  simp [ix]
theorem db_name_some {sc : List Str} {x : Str} {i : Nat} (h : ix sc x = some i) : db sc (.name x) = .var i := by
  simp only [db, h]
theorem db_name_none {sc : List Str} {x : Str} (h : ix sc x = none) : db sc (.name x) = .free x := by
  simp only [db, h]
theorem Nx.ne (N : Nx E) {x : Str} (h : E x ≠ none) (k : Nat) : xn k ≠ x := fun e => h (by rw [← e]; exact N.x k)
theorem Nx.nee (N : Nx E) {x : Str} (h : E x ≠ none) (k : Nat) : en k ≠ x := fun e => h (by rw [← e]; exact N.e k)
theorem db_nm (N : Nx E) : ∀ (t : Tm) (n : Nat) (sc : List Str) (r : Nat → Nat), Wf E n t → (∀ i, i < n → ix sc (xn (n - 1 - i)) = some (r i)) → (∀ x, E x ≠ none → ix sc x = none) → db sc (nm n t) = ren r t
  | .var i, n, sc, r, w, h, g => db_name_some (h i w)
  | .free x, n, sc, r, w, h, g => db_name_none (g x w)
  | .unit, n, sc, r, w, h, g => rfl
  | .lam k t, n, sc, r, w, h, g => by
    simp only [nm, db, ren]
    refine congrArg (Tm.lam k) (db_nm N t (n + 1) (xn n :: sc) (upr r) w (fun i hi => ?_) fun x hx => ?_)
    · cases i with
      | zero => exact ix_cons_self
      | succ i =>
        have e : n + 1 - 1 - (i + 1) = n - 1 - i := by omega
        rw [e, ix_cons_ne (fun q => by have := xn_inj q; omega), h i (by omega)]
        rfl
    · rw [ix_cons_ne (N.ne hx n), g x hx]
      rfl
  | .app t u, n, sc, r, w, h, g => by simp only [nm, db, ren]; rw [db_nm N t n sc r w.1 h g, db_nm N u n sc r w.2 h g]
  | .pair t u, n, sc, r, w, h, g => by simp only [nm, db, ren]; rw [db_nm N t n sc r w.1 h g, db_nm N u n sc r w.2 h g]
  | .fst t, n, sc, r, w, h, g => by simp only [nm, db, ren]; rw [db_nm N t n sc r w h g]
  | .snd t, n, sc, r, w, h, g => by simp only [nm, db, ren]; rw [db_nm N t n sc r w h g]
def scn : Nat → List Str
  | 0 => []
  | n + 1 => xn n :: scn n
theorem scn_length : ∀ n, (scn n).length = n
  | 0 => rfl
  | n + 1 => by show (scn n).length + 1 = n + 1; rw [scn_length n]
theorem ix_scn : ∀ (n i : Nat), i < n → ix (scn n) (xn (n - 1 - i)) = some i
  | n + 1, 0, _ => ix_cons_self
  | n + 1, i + 1, h => by
    have e : n + 1 - 1 - (i + 1) = n - 1 - i := by omega
    rw [e]
    show ix (xn n :: scn n) _ = _
    rw [ix_cons_ne (fun q => by have := xn_inj q; omega), ix_scn n i (by omega)]
    rfl
theorem ix_scn_none (N : Nx E) {x : Str} (h : E x ≠ none) : ∀ n : Nat, ix (scn n) x = none
  | 0 => rfl
  | n + 1 => by
    show ix (xn n :: scn n) _ = _
    rw [ix_cons_ne (N.ne h n), ix_scn_none N h n]
    rfl
theorem ren_id : ∀ t : Tm, ren (fun i => i) t = t
  | .var i => rfl
  | .free _ => rfl
  | .unit => rfl
  | .lam k t => by
    simp only [ren]
    exact congrArg (Tm.lam k) ((ren_ext t (fun i => by cases i <;> rfl)).trans (ren_id t))
  | .app t u => by simp only [ren]; rw [ren_id t, ren_id u]
  | .pair t u => by simp only [ren]; rw [ren_id t, ren_id u]
  | .fst t => by simp only [ren]; rw [ren_id t]
  | .snd t => by simp only [ren]; rw [ren_id t]
theorem db_scn (N : Nx E) {n : Nat} {t : Tm} (w : Wf E n t) : db (scn n) (nm n t) = t := by
  rw [db_nm N t n (scn n) (fun i => i) w (fun i hi => ix_scn n i hi) fun x hx => ix_scn_none N hx n]
  exact ren_id t
theorem db_nm0 (N : Nx E) {t : Tm} (w : Wf E 0 t) : db [] (nm 0 t) = t := db_scn N w

/-! ### parts at places -/
def canP : Pg → Bool
  | .give (.take _ _ _) _ => true
  | .first (.pair _ _) => true
  | .second (.pair _ _) => true
  | _ => false
def pls : Pg → List (List Nat)
  | .name _ => []
  | .take _ _ p => (pls p).map (0 :: ·)
  | .give p q => (if canP (.give p q) = true then [[]] else []) ++ ((pls p).map (0 :: ·) ++ (pls q).map (1 :: ·))
  | .pair p q => (pls p).map (0 :: ·) ++ (pls q).map (1 :: ·)
  | .first p => (if canP (.first p) = true then [[]] else []) ++ (pls p).map (0 :: ·)
  | .second p => (if canP (.second p) = true then [[]] else []) ++ (pls p).map (0 :: ·)
  | .thing => []
def canT : Tm → Bool
  | .app (.lam _ _) _ => true
  | .fst (.pair _ _) => true
  | .snd (.pair _ _) => true
  | _ => false
def plsT : Tm → List (List Nat)
  | .var _ => []
  | .free _ => []
  | .unit => []
  | .lam _ p => (plsT p).map (0 :: ·)
  | .app p q => (if canT (.app p q) = true then [[]] else []) ++ ((plsT p).map (0 :: ·) ++ (plsT q).map (1 :: ·))
  | .pair p q => (plsT p).map (0 :: ·) ++ (plsT q).map (1 :: ·)
  | .fst p => (if canT (.fst p) = true then [[]] else []) ++ (plsT p).map (0 :: ·)
  | .snd p => (if canT (.snd p) = true then [[]] else []) ++ (plsT p).map (0 :: ·)
theorem canT_db (p : Pg) (sc : List Str) : canT (db sc p) = canP p := by
  cases p with
  | name x => simp only [db]; split <;> rfl
  | give p q =>
    cases p with
    | name x => simp only [db]; split <;> rfl
    | _ => rfl
  | first p =>
    cases p with
    | name x => simp only [db]; split <;> rfl
    | _ => rfl
  | second p =>
    cases p with
    | name x => simp only [db]; split <;> rfl
    | _ => rfl
  | _ => rfl
theorem canP_nm (t : Tm) (n : Nat) : canP (nm n t) = canT t := by
  cases t with
  | app p q => cases p <;> rfl
  | fst p => cases p <;> rfl
  | snd p => cases p <;> rfl
  | _ => rfl
theorem plsT_db : ∀ (p : Pg) (sc : List Str), plsT (db sc p) = pls p
  | .name x, sc => by simp only [db]; split <;> rfl
  | .take x k p, sc => by simp only [db, pls, plsT]; rw [plsT_db p]
  | .give p q, sc => by
    have e := canT_db (.give p q) sc
    simp only [db] at e
    simp only [db, pls, plsT]; rw [plsT_db p, plsT_db q, e]
  | .pair p q, sc => by simp only [db, pls, plsT]; rw [plsT_db p, plsT_db q]
  | .first p, sc => by
    have e := canT_db (.first p) sc
    simp only [db] at e
    simp only [db, pls, plsT]; rw [plsT_db p, e]
  | .second p, sc => by
    have e := canT_db (.second p) sc
    simp only [db] at e
    simp only [db, pls, plsT]; rw [plsT_db p, e]
  | .thing, sc => rfl
theorem pls_nm : ∀ (t : Tm) (n : Nat), pls (nm n t) = plsT t
  | .var _, _ => rfl
  | .free _, _ => rfl
  | .unit, _ => rfl
  | .lam _ t, n => by simp only [nm, pls, plsT]; rw [pls_nm t]
  | .app t u, n => by
    have e := canP_nm (.app t u) n
    simp only [nm] at e
    simp only [nm, pls, plsT]; rw [pls_nm t, pls_nm u, e]
  | .pair t u, n => by simp only [nm, pls, plsT]; rw [pls_nm t, pls_nm u]
  | .fst t, n => by
    have e := canP_nm (.fst t) n
    simp only [nm] at e
    simp only [nm, pls, plsT]; rw [pls_nm t, e]
  | .snd t, n => by
    have e := canP_nm (.snd t) n
    simp only [nm] at e
    simp only [nm, pls, plsT]; rw [pls_nm t, e]
theorem Step.pls {t u : Tm} (s : Step t u) : plsT t ≠ [] := by
  induction s with
  | beta k b a => exact fun z => nomatch z
  | p1 a b => exact fun z => nomatch z
  | p2 a b => exact fun z => nomatch z
  | lam k _ ih => simpa [plsT] using ih
  | appL u _ ih => intro z; simp only [plsT, List.append_eq_nil_iff, List.map_eq_nil_iff] at z; exact ih z.2.1
  | appR u _ ih => intro z; simp only [plsT, List.append_eq_nil_iff, List.map_eq_nil_iff] at z; exact ih z.2.2
  | pairL u _ ih => intro z; simp only [plsT, List.append_eq_nil_iff, List.map_eq_nil_iff] at z; exact ih z.1
  | pairR u _ ih => intro z; simp only [plsT, List.append_eq_nil_iff, List.map_eq_nil_iff] at z; exact ih z.2
  | fst _ ih => intro z; simp only [plsT, List.append_eq_nil_iff, List.map_eq_nil_iff] at z; exact ih z.2
  | snd _ ih => intro z; simp only [plsT, List.append_eq_nil_iff, List.map_eq_nil_iff] at z; exact ih z.2
def atP : Pg → List Nat → Option Pg
  | p, [] => some p
  | p, k :: l => match (inner p)[k]? with
    | some q => atP q l
    | none => none
def setP : Pg → List Pg → Pg
  | .name x, _ => .name x
  | .take x k p, l => .take x k (l.getD 0 p)
  | .give p q, l => .give (l.getD 0 p) (l.getD 1 q)
  | .pair p q, l => .pair (l.getD 0 p) (l.getD 1 q)
  | .first p, l => .first (l.getD 0 p)
  | .second p, l => .second (l.getD 0 p)
  | .thing, _ => .thing
def withP : Pg → List Nat → Pg → Pg
  | _, [], r => r
  | p, k :: l, r => match (inner p)[k]? with
    | some q => setP p ((inner p).set k (withP q l r))
    | none => p
def wg (x : Str) (a : Pg) : Pg → Pg
  | .name y => if y = x then a else .name y
  | .take y k p => .take y k (wg x a p)
  | .give p q => .give (wg x a p) (wg x a q)
  | .pair p q => .pair (wg x a p) (wg x a q)
  | .first p => .first (wg x a p)
  | .second p => .second (wg x a p)
  | .thing => .thing
def cnt (x : Str) : Pg → Nat
  | .name y => if y = x then 1 else 0
  | .take y k p => cnt x p
  | .give p q => cnt x p + cnt x q
  | .pair p q => cnt x p + cnt x q
  | .first p => cnt x p
  | .second p => cnt x p
  | .thing => 0
def comes : Pg → Pg
  | .give (.take x _ b) a => wg x a b
  | .first (.pair a _) => a
  | .second (.pair _ b) => b
  | p => p
theorem parts_wg (x : Str) (a : Pg) : ∀ p : Pg, ((partsP (wg x a p) : Nat) : Int) = (partsP p : Int) + (cnt x p : Int) * ((partsP a : Int) - 1)
  | .name y => by
    simp only [wg, cnt]
    split
    · simp only [partsP]; omega
    · simp only [partsP]; omega
  | .take y k p => by
    have h := parts_wg x a p
    simp only [wg, cnt, partsP]; omega
  | .give p q => by
    have h := parts_wg x a p
    have g := parts_wg x a q
    simp only [wg, cnt, partsP, Int.natCast_add, Int.add_mul] at *; omega
  | .pair p q => by
    have h := parts_wg x a p
    have g := parts_wg x a q
    simp only [wg, cnt, partsP, Int.natCast_add, Int.add_mul] at *; omega
  | .first p => by
    have h := parts_wg x a p
    simp only [wg, cnt, partsP]; omega
  | .second p => by
    have h := parts_wg x a p
    simp only [wg, cnt, partsP]; omega
  | .thing => by simp only [wg, cnt, partsP]; omega
theorem parts_with : ∀ (l : List Nat) (p q r : Pg), atP p l = some q → partsP (withP p l r) + partsP q = partsP p + partsP r
  | [], p, q, r, h => by
    simp only [atP, Option.some.injEq] at h
    subst h
    simp only [withP]; omega
  | k :: l, p, q, r, h => by
    simp only [atP] at h
    simp only [withP]
    cases e : (inner p)[k]? with
    | none => rw [e] at h; cases h
    | some z =>
      rw [e] at h
      have ih := parts_with l z q r h
      simp only
      cases p with
      | name x => simp [inner] at e
      | thing => simp [inner] at e
      | take x K p =>
        cases k with
        | zero => simp [inner] at e; subst e; simp only [setP, inner, List.set_cons_zero, List.getD_cons_zero, partsP]; omega
        | succ k => simp [inner] at e
      | first p =>
        cases k with
        | zero => simp [inner] at e; subst e; simp only [setP, inner, List.set_cons_zero, List.getD_cons_zero, partsP]; omega
        | succ k => simp [inner] at e
      | second p =>
        cases k with
        | zero => simp [inner] at e; subst e; simp only [setP, inner, List.set_cons_zero, List.getD_cons_zero, partsP]; omega
        | succ k => simp [inner] at e
      | give p1 p2 =>
        match k, e with
        | 0, e => simp [inner] at e; subst e; simp [setP, inner, partsP]; omega
        | 1, e => simp [inner] at e; subst e; simp [setP, inner, partsP]; omega
        | k + 2, e => simp [inner] at e
      | pair p1 p2 =>
        match k, e with
        | 0, e => simp [inner] at e; subst e; simp [setP, inner, partsP]; omega
        | 1, e => simp [inner] at e; subst e; simp [setP, inner, partsP]; omega
        | k + 2, e => simp [inner] at e
/-- what is given for a name, without names -/
theorem db_wg (N : Nx E) {m : Nat} {a : Tm} (wa : Wf E m a) : ∀ (b : Tm) (n : Nat) (sc : List Str) (s : Nat → Tm), m < n → Wf E n b →
    (∀ i, i < n → n - 1 - i ≠ m → ∃ j, ix sc (xn (n - 1 - i)) = some j ∧ s i = .var j) → (∀ i, i < n → n - 1 - i = m → s i = db sc (nm m a)) → (∀ x, E x ≠ none → ix sc x = none) →
    (∀ i, i < m → ∃ j, ix sc (xn i) = some j) → db sc (wg (xn m) (nm m a) (nm n b)) = sub s b
  | .var i, n, sc, s, hm, w, h1, h2, h3, h4 => by
    simp only [nm, wg, sub]
    by_cases e : n - 1 - i = m
    · rw [e, if_pos rfl, h2 i w e]
    · rw [if_neg (fun q => e (xn_inj q))]
      obtain ⟨j, e1, e2⟩ := h1 i w e
      rw [db_name_some e1, e2]
  | .free x, n, sc, s, hm, w, h1, h2, h3, h4 => by
    simp only [nm, wg, sub]
    rw [if_neg (fun q => N.ne w m q.symm), db_name_none (h3 x w)]
  | .unit, n, sc, s, hm, w, h1, h2, h3, h4 => rfl
  | .lam k b, n, sc, s, hm, w, h1, h2, h3, h4 => by
    simp only [nm, wg, sub, db]
    refine congrArg (Tm.lam k) (db_wg N wa b (n + 1) (xn n :: sc) (ups s) (by omega) w (fun i hi e => ?_) (fun i hi e => ?_) (fun x hx => ?_) fun i hi => ?_)
    · cases i with
      | zero => exact ⟨0, ix_cons_self, rfl⟩
      | succ i =>
        have e' : n + 1 - 1 - (i + 1) = n - 1 - i := by omega
        rw [e'] at e ⊢
        obtain ⟨j, e1, e2⟩ := h1 i (by omega) e
        refine ⟨j + 1, ?_, ?_⟩
        · rw [ix_cons_ne (fun q => by have := xn_inj q; omega), e1]; rfl
        · show shift (s i) = _
          rw [e2]; rfl
    · cases i with
      | zero => omega
      | succ i =>
        show shift (s i) = _
        rw [h2 i (by omega) (by omega)]
        have he : ∀ i, i < m → ∃ j, ix sc (xn (m - 1 - i)) = some j := fun i hi => h4 _ (by omega)
        have pick : ∀ i, ∃ j, i < m → ix sc (xn (m - 1 - i)) = some j := fun i => by
          by_cases hi : i < m
          · obtain ⟨j, hj⟩ := he i hi; exact ⟨j, fun _ => hj⟩
          · exact ⟨0, fun z => absurd z hi⟩
        let r : Nat → Nat := fun i => Classical.choose (pick i)
        have hr : ∀ i, i < m → ix sc (xn (m - 1 - i)) = some (r i) := fun i => Classical.choose_spec (pick i)
        rw [db_nm N a m sc r wa hr h3, db_nm N a m (xn n :: sc) (fun i => r i + 1) wa (fun i hi => by
          rw [ix_cons_ne (fun q => by have := xn_inj q; omega), hr i hi]; rfl) (fun x hx => by rw [ix_cons_ne (N.ne hx n), h3 x hx]; rfl)]
        unfold shift
        rw [ren_ren]
    · rw [ix_cons_ne (N.ne hx n), h3 x hx]; rfl
    · obtain ⟨j, e1⟩ := h4 i hi
      exact ⟨j + 1, by rw [ix_cons_ne (fun q => by have := xn_inj q; omega), e1]; rfl⟩
  | .app b c, n, sc, s, hm, w, h1, h2, h3, h4 => by simp only [nm, wg, sub, db]; rw [db_wg N wa b n sc s hm w.1 h1 h2 h3 h4, db_wg N wa c n sc s hm w.2 h1 h2 h3 h4]
  | .pair b c, n, sc, s, hm, w, h1, h2, h3, h4 => by simp only [nm, wg, sub, db]; rw [db_wg N wa b n sc s hm w.1 h1 h2 h3 h4, db_wg N wa c n sc s hm w.2 h1 h2 h3 h4]
  | .fst b, n, sc, s, hm, w, h1, h2, h3, h4 => by simp only [nm, wg, sub, db]; rw [db_wg N wa b n sc s hm w h1 h2 h3 h4]
  | .snd b, n, sc, s, hm, w, h1, h2, h3, h4 => by simp only [nm, wg, sub, db]; rw [db_wg N wa b n sc s hm w h1 h2 h3 h4]
theorem ix_scn_lt : ∀ (n i : Nat), i < n → ∃ j, ix (scn n) (xn i) = some j := fun n i h => by
  have e : n - 1 - (n - 1 - i) = i := by omega
  have q := ix_scn n (n - 1 - i) (by omega)
  rw [e] at q
  exact ⟨_, q⟩
theorem db_beta (N : Nx E) {n : Nat} {a b : Tm} (wa : Wf E n a) (wb : Wf E (n + 1) b) : db (scn n) (wg (xn n) (nm n a) (nm (n + 1) b)) = sub (inst a) b := by
  refine db_wg N wa b (n + 1) (scn n) (inst a) (by omega) wb (fun i hi e => ?_) (fun i hi e => ?_) (fun x hx => ix_scn_none N hx n) fun i hi => ix_scn_lt n i hi
  · cases i with
    | zero => omega
    | succ i =>
      have e' : n + 1 - 1 - (i + 1) = n - 1 - i := by omega
      rw [e']
      exact ⟨i, ix_scn n i (by omega), rfl⟩
  · have e0 : i = 0 := by omega
    subst e0
    exact (db_scn N wa).symm
/-- a step at a place -/
theorem step_at (N : Nx E) : ∀ (t : Tm) (n : Nat), Wf E n t → ∀ l ∈ plsT t, ∃ q u, atP (nm n t) l = some q ∧ canP q = true ∧ Step t u ∧ db (scn n) (withP (nm n t) l (comes q)) = u
  | .var _, n, w, l, h => nomatch h
  | .free _, n, w, l, h => nomatch h
  | .unit, n, w, l, h => nomatch h
  | .lam k t, n, w, l, h => by
    simp only [plsT, List.mem_map] at h
    obtain ⟨l', h', rfl⟩ := h
    obtain ⟨q, u, h1, h2, h3, h4⟩ := step_at N t (n + 1) w l' h'
    refine ⟨q, .lam k u, ?_, h2, .lam k h3, ?_⟩
    · simp only [nm, atP, inner]; exact h1
    · simp only [nm, withP, inner, List.getElem?_cons_zero, List.set_cons_zero, setP, List.getD_cons_zero, db]
      exact congrArg (Tm.lam k) h4
  | .app t v, n, w, l, h => by
    simp only [plsT, List.mem_append, List.mem_map] at h
    rcases h with h | ⟨l', h', rfl⟩ | ⟨l', h', rfl⟩
    · split at h
      · rename_i hc
        simp only [List.mem_singleton] at h
        subst h
        cases t with
        | lam k b => exact ⟨_, _, rfl, rfl, .beta k b v, db_beta N w.2 w.1⟩
        | _ => cases hc
      · cases h
    · obtain ⟨q, u, h1, h2, h3, h4⟩ := step_at N t n w.1 l' h'
      refine ⟨q, .app u v, ?_, h2, .appL v h3, ?_⟩
      · simp only [nm, atP, inner]; exact h1
      · simp only [nm, withP, inner, List.getElem?_cons_zero, List.set_cons_zero, setP, List.getD_cons_zero, List.getD_cons_succ, db]
        rw [h4, db_scn N w.2]
    · obtain ⟨q, u, h1, h2, h3, h4⟩ := step_at N v n w.2 l' h'
      refine ⟨q, .app t u, ?_, h2, .appR t h3, ?_⟩
      · simp only [nm, atP, inner]; exact h1
      · simp only [nm, withP, inner, List.getElem?_cons_zero, List.getElem?_cons_succ, List.set_cons_zero, List.set_cons_succ, setP, List.getD_cons_zero, List.getD_cons_succ, db]
        rw [h4, db_scn N w.1]
  | .pair t v, n, w, l, h => by
    simp only [plsT, List.mem_append, List.mem_map] at h
    rcases h with ⟨l', h', rfl⟩ | ⟨l', h', rfl⟩
    · obtain ⟨q, u, h1, h2, h3, h4⟩ := step_at N t n w.1 l' h'
      refine ⟨q, .pair u v, ?_, h2, .pairL v h3, ?_⟩
      · simp only [nm, atP, inner]; exact h1
      · simp only [nm, withP, inner, List.getElem?_cons_zero, List.set_cons_zero, setP, List.getD_cons_zero, List.getD_cons_succ, db]
        rw [h4, db_scn N w.2]
    · obtain ⟨q, u, h1, h2, h3, h4⟩ := step_at N v n w.2 l' h'
      refine ⟨q, .pair t u, ?_, h2, .pairR t h3, ?_⟩
      · simp only [nm, atP, inner]; exact h1
      · simp only [nm, withP, inner, List.getElem?_cons_zero, List.getElem?_cons_succ, List.set_cons_zero, List.set_cons_succ, setP, List.getD_cons_zero, List.getD_cons_succ, db]
        rw [h4, db_scn N w.1]
  | .fst t, n, w, l, h => by
    simp only [plsT, List.mem_append, List.mem_map] at h
    rcases h with h | ⟨l', h', rfl⟩
    · split at h
      · rename_i hc
        simp only [List.mem_singleton] at h
        subst h
        cases t with
        | pair a b => exact ⟨_, _, rfl, rfl, .p1 a b, db_scn N w.1⟩
        | _ => cases hc
      · cases h
    · obtain ⟨q, u, h1, h2, h3, h4⟩ := step_at N t n w l' h'
      refine ⟨q, .fst u, ?_, h2, .fst h3, ?_⟩
      · simp only [nm, atP, inner]; exact h1
      · simp only [nm, withP, inner, List.getElem?_cons_zero, List.set_cons_zero, setP, List.getD_cons_zero, db]
        rw [h4]
  | .snd t, n, w, l, h => by
    simp only [plsT, List.mem_append, List.mem_map] at h
    rcases h with h | ⟨l', h', rfl⟩
    · split at h
      · rename_i hc
        simp only [List.mem_singleton] at h
        subst h
        cases t with
        | pair a b => exact ⟨_, _, rfl, rfl, .p2 a b, db_scn N w.2⟩
        | _ => cases hc
      · cases h
    · obtain ⟨q, u, h1, h2, h3, h4⟩ := step_at N t n w l' h'
      refine ⟨q, .snd u, ?_, h2, .snd h3, ?_⟩
      · simp only [nm, atP, inner]; exact h1
      · simp only [nm, withP, inner, List.getElem?_cons_zero, List.set_cons_zero, setP, List.getD_cons_zero, db]
        rw [h4]
theorem nf_pls (N : Nx E) {t : Tm} (w : Wf E 0 t) : Nf t ↔ plsT t = [] := by
  constructor
  · intro h
    cases e : plsT t with
    | nil => rfl
    | cons l r =>
      obtain ⟨_, u, _, _, s, _⟩ := step_at N t 0 w l (by rw [e]; exact List.mem_cons_self)
      exact absurd s (h u)
  · intro h u s
    exact s.pls h
end
end K23

namespace K23
open PySem (Str)

/-- the first pair's kind -/
def lk : List (Str × Kd) → Str → Option Kd
  | [], _ => none
  | (y, k) :: l, x => if y = x then some k else lk l x
def rowE (row : List (Str × Kd)) : Str → Option Kd := fun x => lk row.reverse x
def kas (row sc : List (Str × Kd)) (x : Str) : Option Kd := match lk sc x with
  | some k => some k
  | none => rowE row x
theorem lk_append : ∀ (a b : List (Str × Kd)) (x : Str), lk (a ++ b) x = match lk a x with | some k => some k | none => lk b x
  | [], b, x => rfl
  | (y, k) :: a, b, x => by
    simp only [List.cons_append, lk]
    split
    · rfl
    · exact lk_append a b x
/-- by the whole list, in Python's order -/
theorem kas_eq (row sc : List (Str × Kd)) (x : Str) : kas row sc x = lk (row ++ sc.reverse).reverse x := by
  rw [List.reverse_append, List.reverse_reverse, lk_append]
  rfl
theorem ix_lk_some : ∀ {sc : List (Str × Kd)} {x : Str} {i : Nat}, ix (sc.map (·.1)) x = some i → ∃ k, lk sc x = some k ∧ (sc.map (·.2))[i]? = some k
  | (y, k) :: sc, x, i, h => by
    simp only [List.map_cons, ix] at h
    simp only [lk]
    split at h
    · cases h
      rename_i e
      rw [if_pos e]
      exact ⟨k, rfl, rfl⟩
    · rename_i e
      rw [if_neg e]
      cases q : ix (sc.map (·.1)) x with
      | none => rw [q] at h; cases h
      | some j =>
        rw [q] at h
        cases h
        obtain ⟨k', h1, h2⟩ := ix_lk_some q
        exact ⟨k', h1, by simpa using h2⟩
theorem ix_lk_none : ∀ {sc : List (Str × Kd)} {x : Str}, ix (sc.map (·.1)) x = none → lk sc x = none
  | [], x, h => rfl
  | (y, k) :: sc, x, h => by
    simp only [List.map_cons, ix] at h
    simp only [lk]
    split at h
    · cases h
    · rename_i e
      rw [if_neg e]
      cases q : ix (sc.map (·.1)) x with
      | none => exact ix_lk_none q
      | some j => rw [q] at h; cases h
/-- a name's kind -/
theorem kas_ty {row sc : List (Str × Kd)} {x : Str} {K : Kd} (h : Ty (rowE row) (sc.map (·.2)) (db (sc.map (·.1)) (.name x)) K) : kas row sc x = some K := by
  unfold kas
  cases q : ix (sc.map (·.1)) x with
  | none =>
    rw [db_name_none q] at h
    rw [ix_lk_none q]
    cases h with
    | free e => exact e
  | some i =>
    rw [db_name_some q] at h
    obtain ⟨k, h1, h2⟩ := ix_lk_some q
    rw [h1]
    cases h with
    | var e => rw [e] at h2; exact h2.symm

/-! ### made long, with names -/
section
variable (row : List (Str × Kd))
mutual
inductive MkN : List (Str × Kd) → Kd → Pg → Pg → Prop
  | one {sc : List (Str × Kd)} {p : Pg} : MkN sc .one p .thing
  | mark {sc : List (Str × Kd)} {m : Str} {p r : Pg} : AlN sc p r (.mark m) → MkN sc (.mark m) p r
  | both {sc : List (Str × Kd)} {A B : Kd} {p q a b : Pg} : MkN sc A p a → MkN sc B q b → MkN sc (.both A B) (.pair p q) (.pair a b)
  | bothE {sc : List (Str × Kd)} {A B : Kd} {p a b : Pg} : (∀ x y, p ≠ .pair x y) → MkN sc A (.first p) a → MkN sc B (.second p) b → MkN sc (.both A B) p (.pair a b)
  | to {sc : List (Str × Kd)} {x : Str} {K A B : Kd} {p r : Pg} : MkN ((x, A) :: sc) B p r → MkN sc (.to A B) (.take x K p) (.take x A r)
  | toE {sc : List (Str × Kd)} {A B : Kd} {p r : Pg} : (∀ x k y, p ≠ .take x k y) → MkN ((en (row.length + sc.length), A) :: sc) B (.give p (.name (en (row.length + sc.length)))) r →
      MkN sc (.to A B) p (.take (en (row.length + sc.length)) A r)
inductive AlN : List (Str × Kd) → Pg → Pg → Kd → Prop
  | name {sc : List (Str × Kd)} {x : Str} {K : Kd} : kas row sc x = some K → AlN sc (.name x) (.name x) K
  | give {sc : List (Str × Kd)} {A B : Kd} {p r q v : Pg} : AlN sc p r (.to A B) → MkN sc A q v → AlN sc (.give p q) (.give r v) B
  | first {sc : List (Str × Kd)} {A B : Kd} {p r : Pg} : AlN sc p r (.both A B) → AlN sc (.first p) (.first r) A
  | second {sc : List (Str × Kd)} {A B : Kd} {p r : Pg} : AlN sc p r (.both A B) → AlN sc (.second p) (.second r) B
end
end
/-- no name of the form e and a number from n on -/
def NoE (n : Nat) : Pg → Prop
  | .name x => ∀ k, n ≤ k → x ≠ en k
  | .take _ _ p => NoE n p
  | .give p q => NoE n p ∧ NoE n q
  | .pair p q => NoE n p ∧ NoE n q
  | .first p => NoE n p
  | .second p => NoE n p
  | .thing => True
theorem NoE.up : ∀ {p : Pg} {n m : Nat}, NoE n p → n ≤ m → NoE m p
  | .name x, n, m, h, l => fun k hk => h k (Nat.le_trans l hk)
  | .take _ _ p, n, m, h, l => NoE.up (p := p) h l
  | .give p q, n, m, h, l => ⟨NoE.up h.1 l, NoE.up h.2 l⟩
  | .pair p q, n, m, h, l => ⟨NoE.up h.1 l, NoE.up h.2 l⟩
  | .first p, n, m, h, l => NoE.up (p := p) h l
  | .second p, n, m, h, l => NoE.up (p := p) h l
  | .thing, n, m, h, l => trivial
def lift1 (n : Nat) (i : Nat) : Nat := if i < n then i else i + 1
theorem ix_skip {e : Str} : ∀ (ys sc : List Str) {x : Str}, x ≠ e → ix (ys ++ e :: sc) x = (ix (ys ++ sc) x).map (lift1 ys.length)
  | [], sc, x, h => by
    simp only [List.nil_append]
    rw [ix_cons_ne (Ne.symm h)]
    cases ix sc x with
    | none => rfl
    | some i => simp [lift1]
  | y :: ys, sc, x, h => by
    by_cases q : y = x
    · subst q
      simp [ix_cons_self, lift1]
    · simp only [List.cons_append]
      rw [ix_cons_ne q, ix_cons_ne q, ix_skip ys sc h]
      cases ix (ys ++ sc) x with
      | none => rfl
      | some i =>
        simp only [Option.map_some, List.length_cons, lift1]
        by_cases hi : i < ys.length
        · rw [if_pos hi, if_pos (by omega)]
        · rw [if_neg hi, if_neg (by omega)]
theorem db_skip (n : Nat) : ∀ (p : Pg) (ys sc : List Str), NoE n p → db (ys ++ en n :: sc) p = ren (lift1 ys.length) (db (ys ++ sc) p)
  | .name x, ys, sc, h => by
    have e := ix_skip ys sc (h n (Nat.le_refl _))
    cases q : ix (ys ++ sc) x with
    | none =>
      rw [q] at e
      rw [db_name_none q, db_name_none e]
      rfl
    | some i =>
      rw [q] at e
      rw [db_name_some q, db_name_some e]
      rfl
  | .take x k p, ys, sc, h => by
    simp only [db, ren]
    have q := db_skip n p (x :: ys) sc h
    simp only [List.cons_append] at q
    rw [q]
    refine congrArg (Tm.lam k) (ren_ext _ fun i => ?_)
    cases i with
    | zero => simp [lift1, upr]
    | succ i =>
      simp only [lift1, upr, List.length_cons]
      by_cases hi : i < ys.length
      · rw [if_pos hi, if_pos (by omega)]
      · rw [if_neg hi, if_neg (by omega)]
  | .give p q, ys, sc, h => by simp only [db, ren]; rw [db_skip n p ys sc h.1, db_skip n q ys sc h.2]
  | .pair p q, ys, sc, h => by simp only [db, ren]; rw [db_skip n p ys sc h.1, db_skip n q ys sc h.2]
  | .first p, ys, sc, h => by simp only [db, ren]; rw [db_skip n p ys sc h]
  | .second p, ys, sc, h => by simp only [db, ren]; rw [db_skip n p ys sc h]
  | .thing, ys, sc, h => rfl
theorem db_shift {n : Nat} {p : Pg} {sc : List Str} (h : NoE n p) : db (en n :: sc) p = shift (db sc p) := by
  have q := db_skip n p [] sc h
  simp only [List.nil_append] at q
  rw [q]
  exact ren_ext _ fun i => by simp [lift1]
theorem db_pair {sc : List Str} {p : Pg} {t u : Tm} (h : db sc p = .pair t u) : ∃ a b, p = .pair a b ∧ db sc a = t ∧ db sc b = u := by
  cases p with
  | pair a b => simp only [db, Tm.pair.injEq] at h; exact ⟨a, b, rfl, h.1, h.2⟩
  | name x => simp only [db] at h; split at h <;> cases h
  | _ => simp only [db] at h; cases h
theorem db_lam {sc : List Str} {p : Pg} {k : Kd} {t : Tm} (h : db sc p = .lam k t) : ∃ x b, p = .take x k b ∧ db (x :: sc) b = t := by
  cases p with
  | take x k' b =>
    simp only [db, Tm.lam.injEq] at h
    obtain ⟨rfl, h⟩ := h
    exact ⟨x, b, rfl, h⟩
  | name x => simp only [db] at h; split at h <;> cases h
  | _ => simp only [db] at h; cases h
theorem db_app {sc : List Str} {p : Pg} {t u : Tm} (h : db sc p = .app t u) : ∃ a b, p = .give a b ∧ db sc a = t ∧ db sc b = u := by
  cases p with
  | give a b => simp only [db, Tm.app.injEq] at h; exact ⟨a, b, rfl, h.1, h.2⟩
  | name x => simp only [db] at h; split at h <;> cases h
  | _ => simp only [db] at h; cases h
theorem db_fst {sc : List Str} {p : Pg} {t : Tm} (h : db sc p = .fst t) : ∃ a, p = .first a ∧ db sc a = t := by
  cases p with
  | first a => simp only [db, Tm.fst.injEq] at h; exact ⟨a, rfl, h⟩
  | name x => simp only [db] at h; split at h <;> cases h
  | _ => simp only [db] at h; cases h
theorem db_snd {sc : List Str} {p : Pg} {t : Tm} (h : db sc p = .snd t) : ∃ a, p = .second a ∧ db sc a = t := by
  cases p with
  | second a => simp only [db, Tm.snd.injEq] at h; exact ⟨a, rfl, h⟩
  | name x => simp only [db] at h; split at h <;> cases h
  | _ => simp only [db] at h; cases h
section
variable {row : List (Str × Kd)}
theorem kas_var {sc : List (Str × Kd)} {p : Pg} {i : Nat} {K : Kd} (h : db (sc.map (·.1)) p = .var i) (g : (sc.map (·.2))[i]? = some K) : ∃ x, p = .name x ∧ kas row sc x = some K := by
  cases p with
  | name x =>
    refine ⟨x, rfl, kas_ty (row := row) ?_⟩
    rw [h]
    exact .var g
  | _ => simp only [db] at h; cases h
theorem kas_free {sc : List (Str × Kd)} {p : Pg} {x : Str} {K : Kd} (h : db (sc.map (·.1)) p = .free x) (g : rowE row x = some K) : p = .name x ∧ kas row sc x = some K := by
  cases p with
  | name y =>
    have e : y = x := by
      simp only [db] at h
      split at h
      · cases h
      · cases h; rfl
    subst e
    refine ⟨rfl, kas_ty (row := row) ?_⟩
    rw [h]
    exact .free g
  | _ => simp only [db] at h; cases h
mutual
theorem Mk.named : ∀ {G : List Kd} {K : Kd} {t r : Tm}, Mk (rowE row) G K t r → ∀ (sc : List (Str × Kd)) (p : Pg), sc.map (·.2) = G → db (sc.map (·.1)) p = t → NoE (row.length + sc.length) p →
    ∃ q, MkN row sc K p q ∧ db (sc.map (·.1)) q = r
  | _, _, _, _, .one, sc, p, hG, hp, hn => ⟨.thing, .one, rfl⟩
  | _, _, _, _, .mark h, sc, p, hG, hp, hn => let ⟨q, h1, h2⟩ := Al.named h sc p hG hp hn; ⟨q, .mark h1, h2⟩
  | _, _, _, _, .both h g, sc, p, hG, hp, hn => by
    obtain ⟨a, b, rfl, ha, hb⟩ := db_pair hp
    obtain ⟨q, h1, h2⟩ := Mk.named h sc a hG ha hn.1
    obtain ⟨q', g1, g2⟩ := Mk.named g sc b hG hb hn.2
    exact ⟨.pair q q', .both h1 g1, by simp only [db]; rw [h2, g2]⟩
  | _, _, _, _, .bothE n h g, sc, p, hG, hp, hn => by
    obtain ⟨q, h1, h2⟩ := Mk.named h sc (.first p) hG (by simp only [db]; rw [hp]) hn
    obtain ⟨q', g1, g2⟩ := Mk.named g sc (.second p) hG (by simp only [db]; rw [hp]) hn
    refine ⟨.pair q q', .bothE (fun x y e => ?_) h1 g1, by simp only [db]; rw [h2, g2]⟩
    subst e
    exact n _ _ (hp.symm.trans rfl)
  | _, _, _, _, .to h, sc, p, hG, hp, hn => by
    obtain ⟨x, b, rfl, hb⟩ := db_lam hp
    obtain ⟨q, h1, h2⟩ := Mk.named h ((x, _) :: sc) b (by simp only [List.map_cons]; rw [hG]) hb (hn.up (by simp only [List.length_cons]; omega))
    exact ⟨.take x _ q, .to h1, by simp only [db]; exact congrArg (Tm.lam _) h2⟩
  | _, _, _, _, .toE (A := A) n h, sc, p, hG, hp, hn => by
    have e1 : db (((en (row.length + sc.length), A) :: sc).map (·.1)) (.give p (.name (en (row.length + sc.length)))) = .app (shift (db (sc.map (·.1)) p)) (.var 0) := by
      simp only [List.map_cons, db]
      rw [db_shift hn, ix_cons_self]
    obtain ⟨q, h1, h2⟩ := Mk.named h ((en (row.length + sc.length), A) :: sc) (.give p (.name (en (row.length + sc.length)))) (by simp only [List.map_cons]; rw [hG]) (by rw [e1, hp])
      ⟨hn.up (by simp only [List.length_cons]; omega), fun k hk e => by have := en_inj e; simp only [List.length_cons] at hk; omega⟩
    refine ⟨.take (en (row.length + sc.length)) _ q, .toE (fun x k y e => ?_) h1, by simp only [db]; exact congrArg (Tm.lam _) h2⟩
    subst e
    exact n _ _ (hp.symm.trans rfl)
theorem Al.named : ∀ {G : List Kd} {t r : Tm} {K : Kd}, Al (rowE row) G t r K → ∀ (sc : List (Str × Kd)) (p : Pg), sc.map (·.2) = G → db (sc.map (·.1)) p = t → NoE (row.length + sc.length) p →
    ∃ q, AlN row sc p q K ∧ db (sc.map (·.1)) q = r
  | _, _, _, _, .var h, sc, p, hG, hp, hn => by
    subst hG
    obtain ⟨x, rfl, e⟩ := kas_var (row := row) hp h
    exact ⟨.name x, .name e, hp⟩
  | _, _, _, _, .free h, sc, p, hG, hp, hn => by
    obtain ⟨rfl, e⟩ := kas_free (row := row) hp h
    exact ⟨.name _, .name e, hp⟩
  | _, _, _, _, .app h g, sc, p, hG, hp, hn => by
    obtain ⟨a, b, rfl, ha, hb⟩ := db_app hp
    obtain ⟨q, h1, h2⟩ := Al.named h sc a hG ha hn.1
    obtain ⟨q', g1, g2⟩ := Mk.named g sc b hG hb hn.2
    exact ⟨.give q q', .give h1 g1, by simp only [db]; rw [h2, g2]⟩
  | _, _, _, _, .fst h, sc, p, hG, hp, hn => by
    obtain ⟨a, rfl, ha⟩ := db_fst hp
    obtain ⟨q, h1, h2⟩ := Al.named h sc a hG ha hn
    exact ⟨.first q, .first h1, by simp only [db]; rw [h2]⟩
  | _, _, _, _, .snd h, sc, p, hG, hp, hn => by
    obtain ⟨a, rfl, ha⟩ := db_snd hp
    obtain ⟨q, h1, h2⟩ := Al.named h sc a hG ha hn
    exact ⟨.second q, .second h1, by simp only [db]; rw [h2]⟩
end
theorem noE_nm (N : Nx (rowE row)) : ∀ (t : Tm) (n : Nat), Wf (rowE row) n t → NoE 0 (nm n t)
  | .var i, n, w => fun k _ => xn_en _ _
  | .free x, n, w => fun k _ e => N.nee w k e.symm
  | .unit, n, w => trivial
  | .lam _ t, n, w => noE_nm N t (n + 1) w
  | .app t u, n, w => ⟨noE_nm N t n w.1, noE_nm N u n w.2⟩
  | .pair t u, n, w => ⟨noE_nm N t n w.1, noE_nm N u n w.2⟩
  | .fst t, n, w => noE_nm N t n w
  | .snd t, n, w => noE_nm N t n w
/-- names by levels, with kinds -/
def lvs : List Kd → List (Str × Kd)
  | [] => []
  | K :: G => (xn G.length, K) :: lvs G
theorem lvs_len : ∀ G : List Kd, (lvs G).length = G.length
  | [] => rfl
  | K :: G => by show (lvs G).length + 1 = G.length + 1; rw [lvs_len G]
theorem lvs_fst : ∀ G : List Kd, (lvs G).map (·.1) = scn G.length
  | [] => rfl
  | K :: G => by show xn G.length :: (lvs G).map (·.1) = xn G.length :: scn G.length; rw [lvs_fst G]
theorem lvs_snd : ∀ G : List Kd, (lvs G).map (·.2) = G
  | [] => rfl
  | K :: G => by show K :: (lvs G).map (·.2) = K :: G; rw [lvs_snd G]
theorem kas_lvs (N : Nx (rowE row)) {G : List Kd} {t : Tm} {K : Kd} {x : Str} (h : Ty (rowE row) G t K) (e : nm G.length t = .name x) : kas row (lvs G) x = some K := by
  refine kas_ty ?_
  rw [← e, lvs_fst, lvs_snd, db_scn N h.wf]
  exact h
end

/-! ### the whole -/
/-- steps end soon, and nothing gets great -/
structure Fin (t : Tm) : Prop where
  steps : ∀ n u, Many Step n t u → n ≤ 150
  parts : ∀ n u, Many Step n t u → parts u ≤ 1500
  dp : ∀ n u, Many Step n t u → dp u ≤ 80
theorem Fin.step {t u : Tm} (h : Fin t) (s : Step t u) : Fin u :=
  ⟨fun n v m => Nat.le_trans (Nat.le_succ n) (h.steps (n + 1) v (m.cons s)), fun n v m => h.parts (n + 1) v (m.cons s), fun n v m => h.dp (n + 1) v (m.cons s)⟩
theorem Nf.many {t u : Tm} {n : Nat} (h : Nf t) (m : Many Step n t u) : n = 0 ∧ u = t := by
  induction m with
  | nil => exact ⟨rfl, rfl⟩
  | snoc _ r ih =>
    obtain ⟨_, rfl⟩ := ih h
    exact absurd r (h _)
theorem Fin.nf {t : Tm} (h : Nf t) (p : K23.parts t ≤ 1500) (d : K23.dp t ≤ 80) : Fin t := by
  have e : ∀ n u, Many Step n t u → n = 0 ∧ u = t := fun n u m => h.many m
  exact ⟨fun n u m => by rw [(e n u m).1]; exact Nat.zero_le _, fun n u m => by rw [(e n u m).2]; exact p, fun n u m => by rw [(e n u m).2]; exact d⟩
theorem S2.many {K : Kd} {t u : Tm} {n : Nat} (h : S2 K t) (m : Many Step n t u) : S2 K u ∧ Ae.W0 u + n ≤ Ae.W0 t := by
  induction m with
  | nil => exact ⟨h, Nat.le_refl _⟩
  | snoc _ r ih =>
    obtain ⟨h1, h2⟩ := ih h
    obtain ⟨h3, h4⟩ := h1.step r
    exact ⟨h3, by omega⟩
theorem S2.fin {K : Kd} {t : Tm} (h : S2 K t) (h4 : leaves K ≤ 4) : Fin t := by
  refine ⟨fun n u m => ?_, fun n u m => ?_, fun n u m => ?_⟩
  · obtain ⟨_, g⟩ := h.many m
    have := h.steps
    omega
  · obtain ⟨g, _⟩ := h.many m
    have := g.parts
    omega
  · obtain ⟨g, _⟩ := h.many m
    have := g.dp
    omega
/-- such a term has an end -/
theorem Fin.ends {t : Tm} : ∀ (k : Nat), (∀ n u, Many Step n t u → n ≤ k) → ∃ q, Star Step t q ∧ Nf q
  | 0, h => ⟨t, Star.refl t, fun u s => absurd (h 1 u ((Many.nil t).snoc s)) (by decide)⟩
  | k + 1, h => by
    by_cases e : ∃ u, Step t u
    · obtain ⟨u, s⟩ := e
      obtain ⟨q, h1, h2⟩ := Fin.ends (t := u) k fun n v m => by have := h (n + 1) v (m.cons s); omega
      exact ⟨q, Star.cons s h1, h2⟩
    · exact ⟨t, Star.refl t, fun u s => e ⟨u, s⟩⟩
theorem Star.fin {t u : Tm} (s : Star Step t u) (h : Fin t) : Fin u := by
  obtain ⟨n, s⟩ := s
  induction s with
  | nil => exact h
  | snoc _ r ih => exact (ih h).step r
theorem Star.inv {t u q : Tm} (s : Step t u) (h : Star Step t q) (n : Nf q) : Star Step u q := by
  obtain ⟨z, a, b⟩ := meet (Star.one s) h
  rw [← n.star b]
  exact a
/-- what holds of a program that is drawn: its plain end q, its long form r -/
structure Whole (E : Str → Option Kd) (K : Kd) (t q r : Tm) : Prop where
  ty : Ty E [] t K
  fin : Fin t
  star : Star Step t q
  nf : Nf q
  mkd : Mk E [] K q r
  parts : parts r ≤ 1500
  dp : dp r ≤ 80
theorem whole {E : Str → Option Kd} {K : Kd} {t : Tm} (sm : Sm E []) (h : Dn E 2 [] K t) (h4 : leaves K ≤ 4) : ∃ q r, Whole E K t q r := by
  have s2 := D2.s2 h h4
  have fin := s2.fin h4
  obtain ⟨q, h1, h2⟩ := Fin.ends 150 fin.steps
  have hq : S2 K q := by obtain ⟨n, m⟩ := h1; exact (s2.many m).1
  obtain ⟨r, g1, g2, g3⟩ := hq.make sm (h.ty.star h1) h2 h4
  exact ⟨q, r, h.ty, fin, h1, h2, g1, by omega, by omega⟩
section
variable {E : Str → Option Kd} {K : Kd} {t q r u : Tm}
theorem Whole.step (h : Whole E K t q r) (s : Step t u) : Whole E K u q r := ⟨h.ty.step s, h.fin.step s, h.star.inv s h.nf, h.nf, h.mkd, h.parts, h.dp⟩
theorem Whole.plain (h : Whole E K t q r) : Whole E K q q r := ⟨h.ty.star h.star, h.star.fin h.fin, Star.refl _, h.nf, h.mkd, h.parts, h.dp⟩
theorem Whole.long (h : Whole E K t q r) : Whole E K r r r := ⟨h.mkd.ty, Fin.nf h.mkd.nf h.parts h.dp, Star.refl _, h.mkd.nf, h.mkd.idem, h.parts, h.dp⟩
end
end K23

/-! ### readings by what they mean: no term is written ahead -/
namespace KW
open PySem PySem.Spec L2 PyProof.Rows
def wE (X : Cx) (e : Expr) (σ : L2.St) (H : Hp) (Q : VK) : Prop := ∀ (pins : List (Addr × Obj)) (s : Shared), Inv X pins σ H s → wpAny (model X.prog X.w) X.A (eval e X.env) (EP X pins σ Q) X.xe s
def wT (X : Cx) (e : Expr) (σ : L2.St) (H : Hp) (Q : Bool → Hp → Prop) : Prop := ∀ (pins : List (Addr × Obj)) (s : Shared), Inv X pins σ H s → wpAny (model X.prog X.w) X.A (isTrue e X.env (eval e X.env)) (TP X pins σ Q) X.xe s
def wA (X : Cx) (es : List Expr) (σ : L2.St) (H : Hp) (Q : List V → Hp → Prop) : Prop := ∀ (pos : Pos) (pins : List (Addr × Obj)) (s : Shared), Inv X pins σ H s → wpAny (model X.prog X.w) X.A (spliced (backTo pos (starEach es X.env))) (AP X pins σ Q) X.xe s
def w1 (X : Cx) (st : Stmt) (D : Ends) (σ : L2.St) (H : Hp) : Prop := ∀ (pins : List (Addr × Obj)) (s : Shared), Inv X pins σ H s → wpAny (model X.prog X.w) X.A (exec st X.env) (SP X pins D) X.xe s
def wS (X : Cx) (st : List Stmt) (D : Ends) (σ : L2.St) (H : Hp) : Prop := ∀ (pins : List (Addr × Obj)) (s : Shared), Inv X pins σ H s → wpAny (model X.prog X.w) X.A (execs st X.env) (SP X pins D) X.xe s
section
variable {X : Cx} {e a b c : Expr} {es : List Expr} {σ : L2.St} {H : Hp} {Q : VK} {pos : Pos}
theorem pe_w {e : Expr} : PE X e (wE X e) := ⟨fun pins s σ H Q I h => h pins s I⟩
theorem pt_w {e : Expr} : PT X e (wT X e) := ⟨fun pins s σ H Q I h => h pins s I⟩
theorem pa_w {es : List Expr} : PA X es (wA X es) := ⟨fun pos pins s σ H Q I h => h pos pins s I⟩
theorem ps_w {st : Stmt} : PS X st (w1 X st) := ⟨fun pins s σ H D I h => h pins s I⟩
theorem pss_w {st : List Stmt} : PSs X st (wS X st) := ⟨fun pins s σ H D I h => h pins s I⟩
theorem e_mk {te : TE} (h : PE X e te) (q : te σ H Q) : wE X e σ H Q := fun pins s I => h.run pins s σ H Q I q
theorem t_mk {te : TT} {Q : Bool → Hp → Prop} (h : PT X e te) (q : te σ H Q) : wT X e σ H Q := fun pins s I => h.run pins s σ H Q I q
theorem a_mk {ta : TA} {Q : List V → Hp → Prop} (h : PA X es ta) (q : ta σ H Q) : wA X es σ H Q := fun pos pins s I => h.run pos pins s σ H Q I q
theorem s1_mk {st : Stmt} {ts : TS} {D : Ends} (h : PS X st ts) (q : ts D σ H) : w1 X st D σ H := fun pins s I => h.run pins s σ H D I q
theorem s_mk {st : List Stmt} {ts : TS} {D : Ends} (h : PSs X st ts) (q : ts D σ H) : wS X st D σ H := fun pins s I => h.run pins s σ H D I q
theorem wE.imp {Q' : VK} (h : wE X e σ H Q) (f : ∀ v H', Q v H' → Q' v H') : wE X e σ H Q' := fun pins s I => thn (h pins s I) fun u s' ⟨v, H', I', r, q⟩ => ⟨v, H', I', r, f v H' q⟩
/-! names, constants -/
theorem e_var (i : Nat) {x : Str} {v : V} (hs : σ[i]? = some (some v)) (q : Q v H) (hN : X.N[i]? = some x := by rfl) (hv : Vis X.env.scope x := by first | exact Or.inl rfl | exact Or.inr (Or.inl rfl) | exact Or.inr (Or.inr rfl))
    (hd : (x == ("__debug__" : Str)) = false := by decide) (hcd : (x == ("__classdict__" : Str)) = false := by decide) : wE X (.Name x pos) σ H Q := e_mk (pe_var (i := i) hN hv hd hcd) ⟨v, hs, q⟩
theorem e_int {i : Int} {j} (q : Q (.int i) H) : wE X (.Constant (.int i) j pos) σ H Q := e_mk pe_int q
theorem e_str {x : Str} {j} (q : Q (.str x) H) : wE X (.Constant (.str x) j pos) σ H Q := e_mk pe_str q
theorem e_bl {b : Bool} {j} (q : Q (.bl b) H) : wE X (.Constant (.bool b) j pos) σ H Q := e_mk pe_bl q
theorem e_non {j} (q : Q .non H) : wE X (.Constant .none j pos) σ H Q := e_mk pe_non q
theorem e_glob {x : Str} {v : V} {u : Value} (hg : Gl X x) (hm : X.mg x = some u) (r : RelV v u) (q : Q v H) (hd : (x == ("__debug__" : Str)) = false := by decide) : wE X (.Name x pos) σ H Q := e_mk (pe_glob hg hm r hd) q
/-! operators -/
theorem e_op {op : Operator} {r : R2} (ho : OpR X (binaryOp op) r) (h : wE X a σ H fun x H1 => wE X b σ H1 fun y H2 => r x y H2 Q) : wE X (.BinOp a op b pos) σ H Q := e_mk (pe_op ho pe_w pe_w) h
theorem e_cmp {op : CmpOp} {r : R2} (ho : OpR X (compareOp op) r) (hm : behindInMarks op b = false) (h : wE X a σ H fun x H1 => wE X b σ H1 fun y H2 => r x y H2 Q) : wE X (.Compare a [op] [b] pos) σ H Q := e_mk (pe_cmpR ho pe_w pe_w hm) h
theorem t_cmp {op : CmpOp} {r : R2} {Q : Bool → Hp → Prop} (ho : OpR X (compareOp op) r) (hm : behindInMarks op b = false) (h : wE X a σ H fun x H1 => wE X b σ H1 fun y H2 => r x y H2 fun v H3 => ∃ k, v = .bl k ∧ Q k H3) : wT X (.Compare a [op] [b] pos) σ H Q :=
  t_mk (pt_cmpR ho pe_w pe_w hm) h
theorem t_chain {op op' : CmpOp} {r r' : R2} {Q : Bool → Hp → Prop} (ho : OpR X (compareOp op) r) (ho' : OpR X (compareOp op') r')
    (h : wE X a σ H fun x H1 => wE X b σ H1 fun y H2 => r x y H2 fun z H3 => ∃ k, z = .bl k ∧ (if k = true then wE X c σ H3 fun w' H4 => r' y w' H4 fun v H3 => ∃ k, v = .bl k ∧ Q k H3 else ∃ k, V.bl false = .bl k ∧ Q k H3))
    (hm : lastMarks [op, op'] [b, c] = false := by with_unfolding_all rfl) : wT X (.Compare a [op, op'] [b, c] pos) σ H Q := t_mk (pt_chain ho ho' pe_w pe_w pe_w hm) h
theorem t_val {Q : Bool → Hp → Prop} (h : wE X e σ H fun x H1 => ∃ c, x = .bl c ∧ Q c H1) (he : ∀ whole, isTrue e X.env whole = (do let v ← whole; standAt e.pos; holding [v] (truthy v)) := by intro _; rfl) : wT X e σ H Q := t_mk (pt_val pe_w he) h
theorem t_not {Q : Bool → Hp → Prop} (h : wT X a σ H fun c H1 => Q (!c) H1) : wT X (.UnaryOp .Not a pos) σ H Q := t_mk (pt_not pt_w) h
theorem t_and2 {Q : Bool → Hp → Prop} (h : wT X a σ H fun c H1 => if c = true then wT X b σ H1 Q else Q false H1) : wT X (.BoolOp .And [a, b] pos) σ H Q := t_mk (PW.pt (pw_and pt_w (pw_and1 pt_w))) h
theorem t_or2 {Q : Bool → Hp → Prop} (h : wT X a σ H fun c H1 => if c = true then Q true H1 else wT X b σ H1 Q) : wT X (.BoolOp .Or [a, b] pos) σ H Q := t_mk (PW.pt (pw_or pt_w (pw_or1 pt_w))) h
theorem t_or3 {Q : Bool → Hp → Prop} (h : wT X a σ H fun d H1 => if d = true then Q true H1 else wT X b σ H1 fun d H1 => if d = true then Q true H1 else wT X c σ H1 Q) : wT X (.BoolOp .Or [a, b, c] pos) σ H Q := t_mk (PW.pt (pw_or pt_w (pw_or pt_w (pw_or1 pt_w)))) h
theorem e_and2 (h : wE X a σ H fun x H1 => ∃ c, x = .bl c ∧ if c = true then wE X b σ H1 Q else Q (.bl false) H1) : wE X (.BoolOp .And [a, b] pos) σ H Q := e_mk (pe_and pe_w (pe_one pe_w)) h
/-! parts, displays, slices -/
theorem e_ix {r : R2} (hr : IxR X r) (hs : PlainIx b) (h : wE X a σ H fun x H1 => wE X b σ H1 fun y H2 => r x y H2 Q) : wE X (.Subscript a b pos) σ H Q := e_mk (pe_ix hr pe_w pe_w hs) h
theorem a_nil {Q : List V → Hp → Prop} (q : Q [] H) : wA X [] σ H Q := a_mk pa_nil q
theorem a_cons {Q : List V → Hp → Prop} (h : wE X e σ H fun x H1 => wA X es σ H1 fun xs H2 => Q (x :: xs) H2) (hs : starEach (e :: es) X.env = (false, eval e X.env) :: starEach es X.env := by rfl) : wA X (e :: es) σ H Q := a_mk (pa_cons pe_w pa_w hs) h
theorem e_tup {k} (h : wA X es σ H fun xs H1 => xs.length ≤ sizeLine ∧ ∀ p, H1 p = none → Q (.ref p) (upd H1 p (.tup xs))) : wE X (.Tuple es k pos) σ H Q := e_mk (pe_tup pa_w) h
theorem e_lst (h : wA X es σ H fun xs H1 => xs.length ≤ sizeLine ∧ ∀ p, H1 p = none → Q (.ref p) (upd H1 p (.lst xs))) : wE X (.List es pos) σ H Q := e_mk (pe_lst pa_w) h
def wO (X : Cx) (e : Option Expr) (σ : L2.St) (H : Hp) (Q : Option Int → Hp → Prop) : Prop := ∀ (pins : List (Addr × Obj)) (s : Shared), Inv X pins σ H s → wpAny (model X.prog X.w) X.A (evalPart e X.env) (fun u s' => ∃ o H', Inv X pins σ H' s' ∧ IsPart u o ∧ Q o H') X.xe s
theorem po_w {e : Option Expr} : PO X e (wO X e) := ⟨fun pins s σ H Q I h => h pins s I⟩
theorem o_none {Q : Option Int → Hp → Prop} (q : Q none H) : wO X none σ H Q := fun pins s I => po_none.run pins s σ H Q I q
theorem o_some {Q : Option Int → Hp → Prop} (h : wE X e σ H fun x H1 => ∃ i, x = .int i ∧ Q (some i) H1) : wO X (some e) σ H Q := fun pins s I => (po_some pe_w).run pins s σ H Q I h
theorem e_slice {r : V → Option Int → Option Int → Hp → VK → Prop} {lo hi : Option Expr} {p2 : Pos} (hr : SlR X r) (h : wE X e σ H fun x H1 => wO X lo σ H1 fun l H2 => wO X hi σ H2 fun u H3 => r x l u H3 Q) : wE X (.Subscript e (.Slice lo hi none p2) pos) σ H Q :=
  e_mk (pe_slice hr pe_w po_w po_w) h
/-! calls -/
theorem e_call {CX : CXT} {k : Nat} {f : Addr} {fd : FuncData} {ps : List Str} {sp : Sp} {dvs : List V} {ds : List Value} {E : XK} {x : Str} {p : Pos} (F : FnOk X.prog X.w X.K X.mg X.base CX k f fd ps sp) (hr : Room k X.A) (hg : Gl X x) (hm : X.mg x = some (.ref f)) (hk : PySem.W.keepIn X.K (.ref f) = true)
    (hb : Binds X.K fd ps ds) (hd : Vals dvs ds) (hx : Passes CX X E) (h : wA X (e :: es) σ H fun vs H1 => sp (vs ++ dvs) H1 Q E) (hdb : (x == ("__debug__" : Str)) = false := by decide)
    (he : starEach (e :: es) X.env = (false, eval e X.env) :: starEach es X.env := by rfl) (hpl : (backTo pos (starEach es X.env)).any (·.1) = false := by rfl) : wE X (.Call (.Name x p) (e :: es) [] pos) σ H Q := e_mk (pe_call F hr hg hm hk hb hd hx pa_w hdb he hpl) h
theorem e_call0 {CX : CXT} {k : Nat} {f : Addr} {fd : FuncData} {ps : List Str} {sp : Sp} {dvs : List V} {ds : List Value} {E : XK} {x : Str} {p : Pos} (F : FnOk X.prog X.w X.K X.mg X.base CX k f fd ps sp) (hr : Room k X.A) (hg : Gl X x) (hm : X.mg x = some (.ref f)) (hk : PySem.W.keepIn X.K (.ref f) = true)
    (hb : Binds X.K fd ps ds) (hd : Vals dvs ds) (hx : Passes CX X E) (h : sp dvs H Q E) (hdb : (x == ("__debug__" : Str)) = false := by decide) : wE X (.Call (.Name x p) [] [] pos) σ H Q := e_mk (pe_call0 F hr hg hm hk hb hd hx hdb) h
theorem e_callB {id : String} {r : List V → Hp → VK → Prop} {x : Str} {p : Pos} (hc : CallR X (.builtin id) r) (hg : Gl X x) (hm : X.mg x = none) (hv : bootBuiltins x = some (.builtin id)) (h : wA X (e :: es) σ H fun vs H1 => r vs H1 Q) (hn : x ≠ "__name__" := by decide) (hdb : (x == ("__debug__" : Str)) = false := by decide)
    (he : starEach (e :: es) X.env = (false, eval e X.env) :: starEach es X.env := by rfl) (hpl : (backTo pos (starEach es X.env)).any (·.1) = false := by rfl) : wE X (.Call (.Name x p) (e :: es) [] pos) σ H Q := e_mk (pe_callB hc hg hm hv pa_w hn hdb he hpl) h
theorem e_callTy {T : String} {r : List V → Hp → VK → Prop} {x : Str} {p : Pos} (hc : CallR X (.type T) r) (hg : Gl X x) (hm : X.mg x = none) (hv : bootBuiltins x = some (.type T)) (h : wA X (e :: es) σ H fun vs H1 => r vs H1 Q) (hn : x ≠ "__name__" := by decide) (hdb : (x == ("__debug__" : Str)) = false := by decide)
    (he : starEach (e :: es) X.env = (false, eval e X.env) :: starEach es X.env := by rfl) (hpl : (backTo pos (starEach es X.env)).any (·.1) = false := by rfl) : wE X (.Call (.Name x p) (e :: es) [] pos) σ H Q := e_mk (pe_callTy hc hg hm hv pa_w hn hdb he hpl) h
/-! statements -/
variable {st : Stmt} {rest : List Stmt} {D : Ends}
theorem w1.nx {P : L2.St → Hp → Prop} (h : w1 X st { D with nx := P } σ H) (f : ∀ σ' H', P σ' H' → D.nx σ' H') : w1 X st D σ H := fun pins s I => thn (h pins s I) fun fl s' q => by
  cases fl with
  | next => obtain ⟨σ', H', I', q⟩ := q; exact ⟨σ', H', I', f _ _ q⟩
  | brk => exact q
  | cont => exact q
  | ret u => exact q
theorem s_nil (q : D.nx σ H) : wS X [] D σ H := s_mk pss_nil q
theorem s_cons (h : w1 X st { D with nx := wS X rest D } σ H) : wS X (st :: rest) D σ H := s_mk (pss_cons ps_w pss_w) h
/-- a statement, what holds behind it, the rest -/
theorem s_seq (P : L2.St → Hp → Prop) (h : w1 X st { D with nx := P } σ H) (g : ∀ σ' H', P σ' H' → wS X rest D σ' H') : wS X (st :: rest) D σ H := s_cons (w1.nx (P := P) h g)
theorem t_isN {Q : Bool → Hp → Prop} {j} {p1 p2 : Pos} (h : wE X a σ H fun x H1 => Q (decide (x = .non)) H1) : wT X (.Compare a [.Is] [.Constant .none j p1] p2) σ H Q := t_mk (pt_cmp (pc_isN pe_w)) (show wE X a σ H _ from h.imp fun v H1 q => ⟨_, rfl, q⟩)
theorem t_notN {Q : Bool → Hp → Prop} {j} {p1 p2 : Pos} (h : wE X a σ H fun x H1 => Q (!decide (x = .non)) H1) : wT X (.Compare a [.IsNot] [.Constant .none j p1] p2) σ H Q := t_mk (pt_cmp (pc_notN pe_w)) (show wE X a σ H _ from h.imp fun v H1 q => ⟨_, rfl, q⟩)
theorem s_one (h : w1 X st D σ H) : wS X [st] D σ H := s_mk (pss_one ps_w) h
theorem s_if {x y : List Stmt} (h : wT X c σ H fun b H1 => if b = true then wS X x D σ H1 else wS X y D σ H1) : w1 X (.If c x y pos) D σ H := s1_mk (ps_if pt_w pss_w pss_w) h
theorem s_ret (h : wE X e σ H D.rt) : w1 X (.Return (some e) pos) D σ H := s1_mk (ps_ret pe_w) h
theorem s_set (i : Nat) {x : Str} {pos' : Pos} (hN : X.N.Nodup) (h : wE X e σ H fun x H1 => D.nx (σ.set i (some x)) H1) (hi : X.N[i]? = some x := by rfl) (hx : Loc X.env.scope x := by first | exact Or.inl rfl | exact Or.inr rfl) (hs : swapsWith e (some (.Name x pos')) pos.line X.env = pure false := by rfl)
    (hf : X.fn x = true ∨ X.env.scope.names.lookup x = some .local := by first | exact .inl rfl | exact .inr rfl) : w1 X (.Assign [.Name x pos'] e pos) D σ H := s1_mk (ps_set hN hi hx pe_w hs hf) h
theorem s_expr (h : wE X e σ H fun _ H1 => D.nx σ H1) (hs : swapsWith e none pos.line X.env = pure false := by rfl) : w1 X (.Expr e pos) D σ H := s1_mk (ps_expr pe_w hs) h
theorem s_asg {tg : Expr} {g : TG} (hg : PG X tg g) (h : wE X e σ H fun x H1 => g x σ H1 D.nx) (hs : swapsWithSole [tg] e pos.line X.env = pure false := by rfl) (hw : swappedStores [tg] e X.env = pure none := by rfl)
    (h1 : (assignEach [tg] X.env).map (·.2) = [assign tg X.env] := by rfl) : w1 X (.Assign [tg] e pos) D σ H := s1_mk (ps_asg pe_w hg hs hw h1) h
theorem s_while {body : List Stmt} (hp : PassesOwn (model X.prog X.w) X.A X.env X.xe) (h : tWhile (wT X c) (wS X body) D σ H) : w1 X (.While c body [] pos) D σ H := s1_mk (ps_while hp pt_w pss_w) h
theorem s_for {tg iter : Expr} {body : List Stmt} {wi : TI} {g : TG} (hp : PassesOwn (model X.prog X.w) X.A X.env X.xe) (hc : X.calm = true) (hi : PI X tg iter wi) (hg : PG X tg g) (h : tFor wi g (wS X body) D σ H)
    (hs : ∀ x, foldedSetIterable iter X.env x = pure x := by intro _; rfl) : w1 X (.For tg iter body [] pos) D σ H := s1_mk (ps_for hp hc hi hg pss_w hs) h
/-! a comprehension: the element's reading in its own block -/
/-- in whatever block -/
def wB (X : Cx) (scope : Scope) (e : Expr) : TE := fun σ H Q => ∀ (s : Shared) (H0 : Hp) (C : Addr) (cl : List (Str × Addr)) (fp : List Addr), wE (X.blk s H0 scope (compEnvC scope cl C X.env) fp) e σ H Q
def wBT (X : Cx) (scope : Scope) (e : Expr) : TT := fun σ H Q => ∀ (s : Shared) (H0 : Hp) (C : Addr) (cl : List (Str × Addr)) (fp : List Addr), wT (X.blk s H0 scope (compEnvC scope cl C X.env) fp) e σ H Q
theorem e_lc {elt tg iter : Expr} {ifs : List Expr} {scope : Scope} {own : List (Str × Nat)} {wi : TI} {g : TG} {tt : TT} (hc : X.calm = true) (hN : X.N.Nodup) (hi : PI X tg iter wi) (ok : BlkOk X.N X.env.scope scope own)
    (hg : ∀ (s : Shared) (H : Hp) (C : Addr) (cl : List (Str × Addr)) (fp : List Addr), PG (X.blk s H scope (compEnvC scope cl C X.env) fp) tg g) (ht : ∀ (s : Shared) (H : Hp) (C : Addr) (cl : List (Str × Addr)) (fp : List Addr), PTs (X.blk s H scope (compEnvC scope cl C X.env) fp) ifs tt)
    (h : tLc wi g tt (wB X scope elt) (own.map (·.2)) σ H Q) (hs : ∀ x, foldedSetIterable iter X.env x = pure x := by intro _; rfl) : wE X (.ListComp elt [⟨tg, iter, ifs, 0⟩] scope pos) σ H Q :=
  e_mk (pe_lc hc hN hi ok hg ht (fun s H C cl fp => ⟨fun pins s' σ H' Q I q => q s H C cl fp pins s' I⟩) hs) h
/-- name = [..] -/
theorem s_setLc (i : Nat) {y : Str} {py : Pos} {elt tg iter : Expr} {ifs : List Expr} {scope : Scope} {own : List (Str × Nat)} {spos : Pos} {wi : TI} {g : TG} {tt : TT} (hc : X.calm = true) (hN : X.N.Nodup) (hsw : swapsWith (.ListComp elt [⟨tg, iter, ifs, 0⟩] scope pos) (some (.Name y py)) spos.line X.env = pure true) (hi : PI X tg iter wi) (ok : BlkOk X.N X.env.scope scope own)
    (hg : ∀ (s : Shared) (H : Hp) (C : Addr) (cl : List (Str × Addr)) (fp : List Addr), PG (X.blk s H scope (compEnvC scope cl C X.env) fp) tg g) (ht : ∀ (s : Shared) (H : Hp) (C : Addr) (cl : List (Str × Addr)) (fp : List Addr), PTs (X.blk s H scope (compEnvC scope cl C X.env) fp) ifs tt)
    (h : tLc wi g tt (wB X scope elt) (own.map (·.2)) σ H (fun x H1 => D.nx (σ.set i (some x)) H1)) (hy : X.N[i]? = some y := by rfl) (hyl : X.env.scope.names.lookup y = some .local := by rfl) (hs : ∀ x, foldedSetIterable iter X.env x = pure x := by intro _; rfl) : w1 X (.Assign [.Name y py] (.ListComp elt [⟨tg, iter, ifs, 0⟩] scope pos) spos) D σ H :=
  s1_mk (ps_setLc (i := i) hc hN hy hyl hsw hi ok hg ht (fun s H C cl fp => ⟨fun pins s' σ H' Q I q => q s H C cl fp pins s' I⟩) hs) h
end
/-- a def by its body's reading -/
theorem fun_ok {P : Program} {w : World} {K : PySem.W.Frag} {mg : Str → Option Value} {base : Heap} {x qual : Str} {st : Stmt} {f : Addr} {fd : FuncData} {N ps : List Str} {k : Nat} {sp : Sp} (F : L2.Fun K x qual st f fd) (S : FnScope N ps (defScope st)) (len : ∀ vs H Q E, sp vs H Q E → vs.length = ps.length)
    (hbody : ∀ (cdv : Value) (A : Around) (outer : List Env) (s : Shared) (H : Hp) (vs : List V) (Q : VK) (E : XK), Room k (A.deeper (envOfC qual (defScope st) s.heap.objs.size f cdv)) → sp vs H Q E →
      wS (cxOf CX0 P w K mg base N qual (defScope st) f cdv A outer s H E).nox (defBody st) { nx := fun _ H' => Q .non H', rt := Q } (start N vs) H) : FnOk P w K mg base CX0 (k + 1) f fd ps sp :=
  F.ok S len fun cdv A outer s H vs Q E hr h => ⟨_, pss_w, hbody cdv A outer s H vs Q E hr h⟩
end KW

/-! ### kinds and programs as they lie in the heap -/
namespace KW
open PySem PySem.Spec L2 PyProof.Rows
end KW
namespace K23
open PySem
def encK : Kd → PyData
  | .mark m => .tuple [.str "mark", .str m]
  | .one => .tuple [.str "one"]
  | .to a b => .tuple [.str "to", encK a, encK b]
  | .both a b => .tuple [.str "both", encK a, encK b]
def encP : Pg → PyData
  | .name x => .tuple [.str "name", .str x]
  | .take x k p => .tuple [.str "take", .str x, encK k, encP p]
  | .give p q => .tuple [.str "give", encP p, encP q]
  | .pair p q => .tuple [.str "pair", encP p, encP q]
  | .first p => .tuple [.str "first", encP p]
  | .second p => .tuple [.str "second", encP p]
  | .thing => .tuple [.str "thing"]
def wd : Pg → Str
  | .name _ => "name"
  | .take _ _ _ => "take"
  | .give _ _ => "give"
  | .pair _ _ => "pair"
  | .first _ => "first"
  | .second _ => "second"
  | .thing => "thing"
def wk : Kd → Str
  | .mark _ => "mark"
  | .one => "one"
  | .to _ _ => "to"
  | .both _ _ => "both"
theorem plain_encK : ∀ k : Kd, (encK k).plain = true
  | .mark m => rfl
  | .one => rfl
  | .to a b => by simp [encK, PyData.plain, PyData.plainAll, plain_encK a, plain_encK b]
  | .both a b => by simp [encK, PyData.plain, PyData.plainAll, plain_encK a, plain_encK b]
theorem plain_encP : ∀ p : Pg, (encP p).plain = true
  | .name x => rfl
  | .take x k p => by simp [encP, PyData.plain, PyData.plainAll, plain_encK k, plain_encP p]
  | .give p q => by simp [encP, PyData.plain, PyData.plainAll, plain_encP p, plain_encP q]
  | .pair p q => by simp [encP, PyData.plain, PyData.plainAll, plain_encP p, plain_encP q]
  | .first p => by simp [encP, PyData.plain, PyData.plainAll, plain_encP p]
  | .second p => by simp [encP, PyData.plain, PyData.plainAll, plain_encP p]
  | .thing => rfl
theorem w_ne : ("mark" : Str) ≠ "one" ∧ ("mark" : Str) ≠ "to" ∧ ("mark" : Str) ≠ "both" ∧ ("one" : Str) ≠ "to" ∧ ("one" : Str) ≠ "both" ∧ ("to" : Str) ≠ "both" := by decide +kernel
theorem v_ne : ("name" : Str) ≠ "take" ∧ ("name" : Str) ≠ "give" ∧ ("name" : Str) ≠ "pair" ∧ ("name" : Str) ≠ "first" ∧ ("name" : Str) ≠ "second" ∧ ("name" : Str) ≠ "thing" ∧
    ("take" : Str) ≠ "give" ∧ ("take" : Str) ≠ "pair" ∧ ("take" : Str) ≠ "first" ∧ ("take" : Str) ≠ "second" ∧ ("take" : Str) ≠ "thing" ∧
    ("give" : Str) ≠ "pair" ∧ ("give" : Str) ≠ "first" ∧ ("give" : Str) ≠ "second" ∧ ("give" : Str) ≠ "thing" ∧
    ("pair" : Str) ≠ "first" ∧ ("pair" : Str) ≠ "second" ∧ ("pair" : Str) ≠ "thing" ∧ ("first" : Str) ≠ "second" ∧ ("first" : Str) ≠ "thing" ∧ ("second" : Str) ≠ "thing" := by decide +kernel
theorem beqS (x y : Str) : (x == y) = decide (x = y) := rfl
theorem ev_tup (x y : Str) (r q : List PyData) : PyData.eqv (.tuple (.str x :: r)) (.tuple (.str y :: q)) = (decide (x = y) && PyData.eqvAll r q) := rfl
theorem ev_str (x y : Str) : PyData.eqv (.str x) (.str y) = decide (x = y) := rfl
theorem ev_cons (x y : PyData) (r q : List PyData) : PyData.eqvAll (x :: r) (y :: q) = (PyData.eqv x y && PyData.eqvAll r q) := rfl
theorem ev_nil : PyData.eqvAll [] [] = true := rfl
theorem ev_nc (x : PyData) (r : List PyData) : PyData.eqvAll [] (x :: r) = false := rfl
theorem ev_cn (x : PyData) (r : List PyData) : PyData.eqvAll (x :: r) [] = false := rfl
theorem eqv_encK : ∀ a b : Kd, PyData.eqv (encK a) (encK b) = decide (a = b) := by
  intro a
  have w := w_ne
  obtain ⟨w1, w2, w3, w4, w5, w6⟩ := w
  induction a with
  | mark m => intro b; cases b <;> simp [encK, ev_tup, ev_str, ev_cons, ev_nil, ev_nc, ev_cn, w1, w2, w3]
  | one => intro b; cases b <;> simp [encK, ev_tup, ev_str, ev_cons, ev_nil, ev_nc, ev_cn, w1.symm, w4, w5]
  | to a1 a2 ih1 ih2 => intro b; cases b <;> simp [encK, ev_tup, ev_str, ev_cons, ev_nil, ev_nc, ev_cn, w2.symm, w4.symm, w6, ih1, ih2]
  | both a1 a2 ih1 ih2 => intro b; cases b <;> simp [encK, ev_tup, ev_str, ev_cons, ev_nil, ev_nc, ev_cn, w3.symm, w5.symm, w6.symm, ih1, ih2]
theorem eqv_encP : ∀ a b : Pg, PyData.eqv (encP a) (encP b) = decide (a = b) := by
  intro a
  obtain ⟨v1, v2, v3, v4, v5, v6, v7, v8, v9, v10, v11, v12, v13, v14, v15, v16, v17, v18, v19, v20, v21⟩ := v_ne
  induction a with
  | name x => intro b; cases b <;> simp [encP, ev_tup, ev_str, ev_cons, ev_nil, ev_nc, ev_cn, *]
  | take x k p ih => intro b; cases b <;> simp [encP, ev_tup, ev_str, ev_cons, ev_nil, ev_nc, ev_cn, eqv_encK, v1.symm, *]
  | give p q ih1 ih2 => intro b; cases b <;> simp [encP, ev_tup, ev_str, ev_cons, ev_nil, ev_nc, ev_cn, v2.symm, v7.symm, *]
  | pair p q ih1 ih2 => intro b; cases b <;> simp [encP, ev_tup, ev_str, ev_cons, ev_nil, ev_nc, ev_cn, v3.symm, v8.symm, v12.symm, *]
  | first p ih => intro b; cases b <;> simp [encP, ev_tup, ev_str, ev_cons, ev_nil, ev_nc, ev_cn, v4.symm, v9.symm, v13.symm, v16.symm, *]
  | second p ih => intro b; cases b <;> simp [encP, ev_tup, ev_str, ev_cons, ev_nil, ev_nc, ev_cn, v5.symm, v10.symm, v14.symm, v17.symm, v19.symm, *]
  | thing => intro b; cases b <;> simp [encP, ev_tup, ev_str, ev_cons, ev_nil, ev_nc, ev_cn, v6.symm, v11.symm, v15.symm, v18.symm, v20.symm, v21.symm, *]
def deepK : Kd → Nat
  | .mark _ => 0
  | .one => 0
  | .to a b => 1 + max (deepK a) (deepK b)
  | .both a b => 1 + max (deepK a) (deepK b)
theorem deepK_leaves : ∀ k : Kd, deepK k + 1 ≤ leaves k
  | .mark _ => Nat.le_refl _
  | .one => Nat.le_refl _
  | .to a b => by have := deepK_leaves a; have := deepK_leaves b; simp only [deepK, leaves]; omega
  | .both a b => by have := deepK_leaves a; have := deepK_leaves b; simp only [deepK, leaves]; omega
theorem depth_encK : ∀ k : Kd, (encK k).depth = deepK k + 1
  | .mark m => rfl
  | .one => rfl
  | .to a b => by simp only [encK, PyData.depth, PyData.depthAll, deepK, depth_encK a, depth_encK b]; omega
  | .both a b => by simp only [encK, PyData.depth, PyData.depthAll, deepK, depth_encK a, depth_encK b]; omega
end K23
namespace KW
open PySem PySem.Spec L2 PyProof.Rows
open K23 (Kd Pg encK encP)
inductive KAt (K : PySem.W.Frag) (H : Hp) : V → Kd → Prop
  | mark {a : Addr} {m : Str} : SqT K H a [.str "mark", .str m] → KAt K H (.ref a) (.mark m)
  | one {a : Addr} : SqT K H a [.str "one"] → KAt K H (.ref a) .one
  | to {a : Addr} {x y : V} {A B : Kd} : SqT K H a [.str "to", x, y] → KAt K H x A → KAt K H y B → KAt K H (.ref a) (.to A B)
  | both {a : Addr} {x y : V} {A B : Kd} : SqT K H a [.str "both", x, y] → KAt K H x A → KAt K H y B → KAt K H (.ref a) (.both A B)
inductive PAt (K : PySem.W.Frag) (H : Hp) : V → Pg → Prop
  | name {a : Addr} {x : Str} : SqT K H a [.str "name", .str x] → PAt K H (.ref a) (.name x)
  | take {a : Addr} {x : Str} {y z : V} {k : Kd} {p : Pg} : SqT K H a [.str "take", .str x, y, z] → KAt K H y k → PAt K H z p → PAt K H (.ref a) (.take x k p)
  | give {a : Addr} {y z : V} {p q : Pg} : SqT K H a [.str "give", y, z] → PAt K H y p → PAt K H z q → PAt K H (.ref a) (.give p q)
  | pair {a : Addr} {y z : V} {p q : Pg} : SqT K H a [.str "pair", y, z] → PAt K H y p → PAt K H z q → PAt K H (.ref a) (.pair p q)
  | first {a : Addr} {y : V} {p : Pg} : SqT K H a [.str "first", y] → PAt K H y p → PAt K H (.ref a) (.first p)
  | second {a : Addr} {y : V} {p : Pg} : SqT K H a [.str "second", y] → PAt K H y p → PAt K H (.ref a) (.second p)
  | thing {a : Addr} : SqT K H a [.str "thing"] → PAt K H (.ref a) .thing
/-- tuples stand -/
def KeepT (H H' : Hp) : Prop := ∀ a xs, Rd H a (.tup xs) → Rd H' a (.tup xs)
theorem KeepT.refl (H : Hp) : KeepT H H := fun _ _ h => h
theorem KeepT.trans {H H1 H2 : Hp} (a : KeepT H H1) (b : KeepT H1 H2) : KeepT H H2 := fun c xs h => b c xs (a c xs h)
theorem rd_same {H H' : Hp} (h : Same H H') {a : Addr} {u : HO} (q : Rd H a u) : Rd H' a u := by
  rcases q with q | ⟨o, q⟩
  · exact .inl (h _ _ q)
  · exact .inr ⟨o, h _ _ q⟩
theorem keepT_of {H H' : Hp} (h : Same H H') : KeepT H H' := fun a xs q => rd_same h q
/-- all but the object at p is as it was -/
def Exc (p : Addr) (H H' : Hp) : Prop := ∀ b o, H b = some o → b ≠ p → H' b = some o
theorem Exc.refl (p : Addr) (H : Hp) : Exc p H H := fun _ _ h _ => h
theorem Exc.trans {p : Addr} {H H1 H2 : Hp} (a : Exc p H H1) (b : Exc p H1 H2) : Exc p H H2 := fun c o h n => b c o (a c o h n) n
theorem exc_of {p : Addr} {H H' : Hp} (h : Same H H') : Exc p H H' := fun b o q _ => h b o q
theorem Exc.keepT {p : Addr} {H H' : Hp} (h : Exc p H H') (hp : ∀ xs, ¬ Rd H p (.tup xs)) : KeepT H H' := fun a xs q => by
  have ne : a ≠ p := fun e => hp xs (e ▸ q)
  rcases q with q | ⟨o, q⟩
  · exact .inl (h _ _ q ne)
  · exact .inr ⟨o, h _ _ q ne⟩
theorem not_tup_lst {H : Hp} {p : Addr} {ys : List V} (h : H p = some (.lst ys)) : ∀ xs, ¬ Rd H p (.tup xs) := fun xs q => by
  rcases q with q | ⟨o, q⟩ <;> rw [h] at q <;> cases q
theorem not_tup_ins {H : Hp} {p C dx : Addr} {fs : List (Str × V)} (h : H p = some (.ins C dx fs)) : ∀ xs, ¬ Rd H p (.tup xs) := fun xs q => by
  rcases q with q | ⟨o, q⟩ <;> rw [h] at q <;> cases q
section
variable {K : PySem.W.Frag} {H H' : Hp}
theorem sqT_keep {a : Addr} {xs : List V} (h : KeepT H H') (q : SqT K H a xs) : SqT K H' a xs := by
  rcases q with q | q
  · exact .inl (h _ _ q)
  · exact .inr q
theorem KAt.mono {v : V} {k : Kd} (h : KeepT H H') (q : KAt K H v k) : KAt K H' v k := by
  induction q with
  | mark q => exact .mark (sqT_keep h q)
  | one q => exact .one (sqT_keep h q)
  | to q _ _ ih1 ih2 => exact .to (sqT_keep h q) ih1 ih2
  | both q _ _ ih1 ih2 => exact .both (sqT_keep h q) ih1 ih2
theorem PAt.mono {v : V} {p : Pg} (h : KeepT H H') (q : PAt K H v p) : PAt K H' v p := by
  induction q with
  | name q => exact .name (sqT_keep h q)
  | take q k _ ih => exact .take (sqT_keep h q) (k.mono h) ih
  | give q _ _ ih1 ih2 => exact .give (sqT_keep h q) ih1 ih2
  | pair q _ _ ih1 ih2 => exact .pair (sqT_keep h q) ih1 ih2
  | first q _ ih => exact .first (sqT_keep h q) ih
  | second q _ ih => exact .second (sqT_keep h q) ih
  | thing q => exact .thing (sqT_keep h q)
theorem KAt.dp {v : V} {k : Kd} (q : KAt K H v k) : Dp K H v (encK k) := by
  induction q with
  | mark q => exact .tup q (.cons (.str _) (.cons (.str _) .nil))
  | one q => exact .tup q (.cons (.str _) .nil)
  | to q _ _ ih1 ih2 => exact .tup q (.cons (.str _) (.cons ih1 (.cons ih2 .nil)))
  | both q _ _ ih1 ih2 => exact .tup q (.cons (.str _) (.cons ih1 (.cons ih2 .nil)))
theorem PAt.dp {v : V} {p : Pg} (q : PAt K H v p) : Dp K H v (encP p) := by
  induction q with
  | name q => exact .tup q (.cons (.str _) (.cons (.str _) .nil))
  | take q k _ ih => exact .tup q (.cons (.str _) (.cons (.str _) (.cons k.dp (.cons ih .nil))))
  | give q _ _ ih1 ih2 => exact .tup q (.cons (.str _) (.cons ih1 (.cons ih2 .nil)))
  | pair q _ _ ih1 ih2 => exact .tup q (.cons (.str _) (.cons ih1 (.cons ih2 .nil)))
  | first q _ ih => exact .tup q (.cons (.str _) (.cons ih .nil))
  | second q _ ih => exact .tup q (.cons (.str _) (.cons ih .nil))
  | thing q => exact .tup q (.cons (.str _) .nil)
/-- any tuple's beginning -/
theorem PAt.head {v : V} {p : Pg} (q : PAt K H v p) : ∃ (a : Addr) (r : List V), v = .ref a ∧ SqT K H a (.str (K23.wd p) :: r) := by
  cases q <;> exact ⟨_, _, rfl, by assumption⟩
theorem KAt.head {v : V} {k : Kd} (q : KAt K H v k) : ∃ (a : Addr) (r : List V), v = .ref a ∧ SqT K H a (.str (K23.wk k) :: r) := by
  cases q <;> exact ⟨_, _, rfl, by assumption⟩
/-- a name with its kind -/
inductive NAt (K : PySem.W.Frag) (H : Hp) : V → Str × Kd → Prop
  | mk {a : Addr} {x : Str} {y : V} {k : Kd} : SqT K H a [.str x, y] → KAt K H y k → NAt K H (.ref a) (x, k)
theorem NAt.mono {v : V} {p : Str × Kd} (h : KeepT H H') (q : NAt K H v p) : NAt K H' v p := by
  cases q with
  | mk q k => exact .mk (sqT_keep h q) (k.mono h)
theorem paired_mono {α β : Type} {R S : α → β → Prop} {xs : List α} {ys : List β} (h : Paired R xs ys) (f : ∀ a b, R a b → S a b) : Paired S xs ys := Paired.mapP h f
theorem paired_append {α β : Type} {R : α → β → Prop} : ∀ {xs us : List α} {ys vs : List β}, Paired R xs ys → Paired R us vs → Paired R (xs ++ us) (ys ++ vs)
  | _, _, _, _, .nil, s => s
  | _, _, _, _, .cons r t, s => .cons r (paired_append t s)
theorem paired_get {α β : Type} {R : α → β → Prop} : ∀ {xs : List α} {ys : List β} {i : Nat} {x : α}, Paired R xs ys → xs[i]? = some x → ∃ y, ys[i]? = some y ∧ R x y
  | _, _, i, x, .nil, h => by simp at h
  | _, _, 0, x, .cons r t, h => by simp at h; subst h; exact ⟨_, rfl, r⟩
  | _, _, i + 1, x, .cons r t, h => by
    obtain ⟨y, h1, h2⟩ := paired_get (i := i) t (by simpa using h)
    exact ⟨y, by simpa using h1, h2⟩
theorem paired_get' {α β : Type} {R : α → β → Prop} : ∀ {xs : List α} {ys : List β} {i : Nat} {y : β}, Paired R xs ys → ys[i]? = some y → ∃ x, xs[i]? = some x ∧ R x y
  | _, _, i, x, .nil, h => by simp at h
  | _, _, 0, x, .cons r t, h => by simp at h; subst h; exact ⟨_, rfl, r⟩
  | _, _, i + 1, x, .cons r t, h => by
    obtain ⟨y, h1, h2⟩ := paired_get' (i := i) t (by simpa using h)
    exact ⟨y, by simpa using h1, h2⟩
end
/-! ### == of such -/
def rEqP (K : PySem.W.Frag) (n : Nat) : R2 := fun x y H Q => ∃ d e, Dp K H x d ∧ Dp K H y e ∧ d.plain = true ∧ e.plain = true ∧ min d.depth e.depth ≤ n ∧ Q (.bl (PyData.eqv d e)) H
def rNeP (K : PySem.W.Frag) (n : Nat) : R2 := fun x y H Q => ∃ d e, Dp K H x d ∧ Dp K H y e ∧ d.plain = true ∧ e.plain = true ∧ min d.depth e.depth ≤ n ∧ Q (.bl (!PyData.eqv d e)) H
theorem op_eqP {X : Cx} {n : Nat} (hu : X.A.units + n < cLine) : OpR X (compareOp .Eq) (rEqP X.K n) := by
  intro pins s σ H x y v u Q I rx ry h
  obtain ⟨d, e, hd, he, sd, se, hm, q⟩ := h
  obtain ⟨as, r1⟩ := Dp.reads I d x v hd rx
  obtain ⟨bs, r2⟩ := Dp.reads I e y u he ry
  exact PySem.SeqAt.eq_plain r1 r2 sd se (by omega) ⟨.bl _, H, I, rfl, q⟩
theorem op_neP {X : Cx} {n : Nat} (hu : X.A.units + n < cLine) : OpR X (compareOp .NotEq) (rNeP X.K n) := by
  intro pins s σ H x y v u Q I rx ry h
  obtain ⟨d, e, hd, he, sd, se, hm, q⟩ := h
  obtain ⟨as, r1⟩ := Dp.reads I d x v hd rx
  obtain ⟨bs, r2⟩ := Dp.reads I e y u he ry
  exact PySem.SeqAt.ne_plain r1 r2 sd se (by omega) ⟨.bl _, H, I, rfl, q⟩
theorem room200 {k : Nat} {A : Around} (hr : Room k A) : A.units + 200 < cLine := by have := hr.un; omega
/-! ### max(xs, default=0) of whole numbers -/
def mx : List Int → Int
  | [] => 0
  | x :: xs => if mx xs > x ∧ xs ≠ [] then mx xs else x
end KW

namespace KW
open PySem PySem.Spec L2 PyProof.Rows
open K23 (Kd Pg encK encP)
def top (i : Nat) : Stmt := PySem.Challenge.pw_kindfill_k23_whole_forms_by_any_steps.main.body.getD i (.Pass ⟨0, 0, 0, 0⟩)
/-- a def of the text, as the top leaves it -/
structure Def (K : PySem.W.Frag) (mg : Str → Option Value) (x : Str) (st : Stmt) (ps : List Str) (f : Addr) (fd : FuncData) : Prop where
  F : L2.Fun K x x st f fd
  m : mg x = some (.ref f)
  b : Binds K fd ps []
/-- a test whose answer is known -/
theorem if_ne {c : Prop} [Decidable c] {A B : Prop} (h : ¬ c) (q : B) : if decide c = true then A else B := by rw [decide_eq_false h]; exact iteF q
theorem if_eq {c : Prop} [Decidable c] {A B : Prop} (h : c) (q : A) : if decide c = true then A else B := by rw [decide_eq_true h]; exact iteT q
theorem ifn_ne {c : Prop} [Decidable c] {A B : Prop} (h : ¬ c) (q : A) : if (!decide c) = true then A else B := by rw [decide_eq_false h]; exact iteT q
theorem ifn_eq {c : Prop} [Decidable c] {A B : Prop} (h : c) (q : B) : if (!decide c) = true then A else B := by rw [decide_eq_true h]; exact iteF q
theorem ifb_t {b : Bool} {A B : Prop} (h : b = true) (q : A) : if b = true then A else B := by rw [h]; exact iteT q
theorem ifb_f {b : Bool} {A B : Prop} (h : b = false) (q : B) : if b = true then A else B := by rw [h]; exact iteF q
theorem size_le {n : Nat} (h : n ≤ 100000) : n ≤ sizeLine := Nat.le_trans h (by decide)
theorem size_lt {n : Nat} (h : n < 100000) : n < sizeLine := Nat.lt_of_lt_of_le h (by decide)
theorem same_new {H : Hp} {p : Addr} (h : H p = none) (o : HO) : Same H (upd H p o) := fun b u q => by rw [upd_ne (ne_of_none q h)]; exact q
/-- an object that H does not know may change -/
theorem Same.mut {H H' : Hp} {p : Addr} {o : HO} (e : Same H H') (h : H p = none) : Same H (upd H' p o) := fun a u ha => by
  rw [upd_ne (ne_of_none ha h)]
  exact e a u ha
theorem Same.fresh {H H' : Hp} {p : Addr} (e : Same H H') (h : H' p = none) : H p = none := e.free h
section
variable {X : Cx} {σ : L2.St} {H : Hp} {Q : VK}
/-- x[j], x a name of a tuple -/
theorem e_at (i j : Nat) {x : Str} {p : Addr} {xs : List V} {v : V} {p1 p2 p3 : Pos} {k} {jj : Int} (hT : SqT X.K H p xs) (q : Q v H) (hs : σ[i]? = some (some (.ref p)) := by rfl) (hx : xs[j]? = some v := by rfl) (hj : jj = (j : Int) := by rfl) (hN : X.N[i]? = some x := by rfl) (hv : Vis X.env.scope x := by first | exact Or.inl rfl | exact Or.inr (Or.inl rfl) | exact Or.inr (Or.inr rfl))
    (hd : (x == ("__debug__" : Str)) = false := by decide) (hcd : (x == ("__classdict__" : Str)) = false := by decide) : wE X (.Subscript (.Name x p1) (.Constant (.int jj) k p2) p3) σ H Q :=
  e_ix ix_tup (fun _ _ => rfl) (e_var i hs (e_int ⟨p, xs, jj, v, rfl, rfl, hT, by rw [hj]; exact atI_nat hx, q⟩) hN hv hd hcd)
/-- e[j], e a tuple -/
theorem e_atE {e : Expr} (j : Nat) {p2 p3 : Pos} {k} {jj : Int} (h : wE X e σ H fun v H1 => ∃ p xs, v = .ref p ∧ SqT X.K H1 p xs ∧ ∃ y, xs[j]? = some y ∧ Q y H1) (hj : jj = (j : Int) := by rfl) : wE X (.Subscript e (.Constant (.int jj) k p2) p3) σ H Q :=
  e_ix ix_tup (fun _ _ => rfl) (h.imp fun v H1 ⟨p, xs, e, hT, y, hx, q⟩ => e_int ⟨p, xs, jj, y, e, rfl, hT, by rw [hj]; exact atI_nat hx, q⟩)
/-- e[j], e a list -/
theorem e_atL {e : Expr} (j : Nat) {p2 p3 : Pos} {k} {jj : Int} (h : wE X e σ H fun v H1 => ∃ p xs, v = .ref p ∧ SqL X.K H1 p xs ∧ ∃ y, xs[j]? = some y ∧ Q y H1) (hj : jj = (j : Int) := by rfl) : wE X (.Subscript e (.Constant (.int jj) k p2) p3) σ H Q :=
  e_ix ix_list (fun _ _ => rfl) (h.imp fun v H1 ⟨p, xs, e, hT, y, hx, q⟩ => e_int ⟨p, xs, jj, y, e, rfl, hT, by rw [hj]; exact atI_nat hx, q⟩)
/-- x[0] == 'w', x a name of a tuple that begins with a text -/
theorem t_hd {Q : Bool → Hp → Prop} (i : Nat) {x : Str} {p : Addr} {w s : Str} {r : List V} {p1 p2 p3 p4 p5 : Pos} {k k'} (hT : SqT X.K H p (.str w :: r)) (q : Q (decide (w = s)) H) (hs : σ[i]? = some (some (.ref p)) := by rfl) (hN : X.N[i]? = some x := by rfl)
    (hv : Vis X.env.scope x := by first | exact Or.inl rfl | exact Or.inr (Or.inl rfl) | exact Or.inr (Or.inr rfl)) (hd : (x == ("__debug__" : Str)) = false := by decide) (hcd : (x == ("__classdict__" : Str)) = false := by decide) :
    wT X (.Compare (.Subscript (.Name x p1) (.Constant (.int 0) k p2) p3) [.Eq] [.Constant (.str s) k' p4] p5) σ H Q :=
  t_cmp op_eq (nomark _) (e_at i 0 hT (e_str ⟨rfl, _, rfl, by rw [dec_str]; exact q⟩) hs rfl rfl hN hv hd hcd)
variable {D : Ends} {A B : List Stmt}
theorem s_hd_ne (i : Nat) {x : Str} {p : Addr} {w s : Str} {r : List V} {p1 p2 p3 p4 p5 p6 : Pos} {k k'} (hT : SqT X.K H p (.str w :: r)) (q : wS X B D σ H) (hs : σ[i]? = some (some (.ref p)) := by rfl) (hN : X.N[i]? = some x := by rfl)
    (hv : Vis X.env.scope x := by first | exact Or.inl rfl | exact Or.inr (Or.inl rfl) | exact Or.inr (Or.inr rfl)) (hw : ¬ w = s := by decide +kernel) (hd : (x == ("__debug__" : Str)) = false := by decide) (hcd : (x == ("__classdict__" : Str)) = false := by decide) :
    w1 X (.If (.Compare (.Subscript (.Name x p1) (.Constant (.int 0) k p2) p3) [.Eq] [.Constant (.str s) k' p4] p5) A B p6) D σ H :=
  s_if (t_hd i hT (if_ne hw q) hs hN hv hd hcd)
theorem s_hd_eq (i : Nat) {x : Str} {p : Addr} {w s : Str} {r : List V} {p1 p2 p3 p4 p5 p6 : Pos} {k k'} (hT : SqT X.K H p (.str w :: r)) (q : wS X A D σ H) (hs : σ[i]? = some (some (.ref p)) := by rfl) (hN : X.N[i]? = some x := by rfl)
    (hv : Vis X.env.scope x := by first | exact Or.inl rfl | exact Or.inr (Or.inl rfl) | exact Or.inr (Or.inr rfl)) (hw : w = s := by rfl) (hd : (x == ("__debug__" : Str)) = false := by decide) (hcd : (x == ("__classdict__" : Str)) = false := by decide) :
    w1 X (.If (.Compare (.Subscript (.Name x p1) (.Constant (.int 0) k p2) p3) [.Eq] [.Constant (.str s) k' p4] p5) A B p6) D σ H :=
  s_if (t_hd i hT (if_eq hw q) hs hN hv hd hcd)
/-- (a, b, ..) of texts -/
theorem e_txts {es : List Expr} {k} {pos : Pos} (ws : List Str) (hes : wA X es σ H fun xs H1 => xs = ws.map V.str ∧ H1 = H) (hz : ws.length ≤ 100000 := by decide) (q : ∀ p, H p = none → Q (.ref p) (upd H p (.tup (ws.map V.str)))) : wE X (.Tuple es k pos) σ H Q :=
  e_tup fun pos pins s I => thn (hes pos pins s I) fun us s1 ⟨xs, H1, I1, r, e1, e2⟩ => by
    subst e1; subst e2
    exact ⟨_, _, I1, r, by rw [List.length_map]; exact size_le hz, q⟩
theorem flat_txts (ws : List Str) : (ws.map V.str).all flatV = true := by
  induction ws with
  | nil => rfl
  | cons w ws ih => rw [List.map_cons, List.all_cons, ih]; rfl
/-- x[0] in ('a', 'b', ..) -/
theorem t_hd_in {Q : Bool → Hp → Prop} (i : Nat) {x : Str} {p : Addr} {w : Str} {r : List V} {es : List Expr} {p1 p2 p3 p4 p5 : Pos} {k k'} (ws : List Str) (hT : SqT X.K H p (.str w :: r)) (hes : ∀ H', wA X es σ H' fun xs H1 => xs = ws.map V.str ∧ H1 = H')
    (q : ∀ H1, Same H H1 → Q (inV (.str w) (ws.map V.str)) H1) (hz : ws.length ≤ 100000 := by decide) (hs : σ[i]? = some (some (.ref p)) := by rfl) (hm : behindInMarks .In (.Tuple es k' p4) = false := by rfl) (hN : X.N[i]? = some x := by rfl)
    (hv : Vis X.env.scope x := by first | exact Or.inl rfl | exact Or.inr (Or.inl rfl) | exact Or.inr (Or.inr rfl)) (hd : (x == ("__debug__" : Str)) = false := by decide) (hcd : (x == ("__classdict__" : Str)) = false := by decide) :
    wT X (.Compare (.Subscript (.Name x p1) (.Constant (.int 0) k p2) p3) [.In] [.Tuple es k' p4] p5) σ H Q :=
  t_cmp op_in_seq hm (e_at i 0 hT (e_txts ws (hes _) hz fun t ht => ⟨t, _, rfl, .inr (SqT.of upd_same), rfl, flat_txts ws, _, rfl, q _ (same_new ht _)⟩) hs rfl rfl hN hv hd hcd)
theorem a_str {Q : List V → Hp → Prop} {x : Str} {j} {pos : Pos} {es : List Expr} (q : wA X es σ H fun xs H1 => Q (.str x :: xs) H1) : wA X (.Constant (.str x) j pos :: es) σ H Q := a_cons (e_str q)
/-- e == 'w', e a text -/
theorem t_str {e : Expr} {w s : Str} {p4 p5 : Pos} {k} {Q : Bool → Hp → Prop} (h : wE X e σ H fun v H1 => v = .str w ∧ Q (decide (w = s)) H1) : wT X (.Compare e [.Eq] [.Constant (.str s) k p4] p5) σ H Q :=
  t_cmp op_eq (nomark _) (h.imp fun v H1 ⟨e, q⟩ => by
    subst e
    refine e_str ⟨rfl, _, rfl, ?_⟩
    rw [dec_str]
    exact q)
theorem e_str_eq {e : Expr} {w s : Str} {p4 p5 : Pos} {k} (h : wE X e σ H fun v H1 => v = .str w ∧ Q (.bl (decide (w = s))) H1) : wE X (.Compare e [.Eq] [.Constant (.str s) k p4] p5) σ H Q :=
  e_cmp op_eq (nomark _) (h.imp fun v H1 ⟨e, q⟩ => by
    subst e
    refine e_str ⟨rfl, ?_⟩
    rw [dec_str]
    exact q)
theorem t_strN {e : Expr} {w s : Str} {p4 p5 : Pos} {k} {Q : Bool → Hp → Prop} (h : wE X e σ H fun v H1 => v = .str w ∧ Q (!decide (w = s)) H1) : wT X (.Compare e [.NotEq] [.Constant (.str s) k p4] p5) σ H Q :=
  t_cmp op_ne (nomark _) (h.imp fun v H1 ⟨e, q⟩ => by
    subst e
    refine e_str ⟨rfl, _, rfl, ?_⟩
    rw [dec_str]
    exact q)
/-- [elt for x in iter]: elt leaves all as it was; what it makes of the j-th item is R j -/
theorem e_map {elt iter : Expr} {x : Str} {px pos : Pos} {scope : Scope} (i : Nat) (R : Nat → V → Hp → Prop) (hR : ∀ j y H H', R j y H → KeepT H H' → R j y H') (hc : X.calm = true) (hN : X.N.Nodup) (ok : BlkOk X.N X.env.scope scope [(x, i)])
    (hg : ∀ (s : Shared) (H : Hp) (C : Addr) (cl : List (Str × Addr)) (fp : List Addr), PG (X.blk s H scope (compEnvC scope cl C X.env) fp) (.Name x px) (gName i))
    (h : wE X iter σ H fun v H1 => ∃ a xs, v = .ref a ∧ SqL X.K H1 a xs ∧ xs.length ≤ 100000 ∧
      (∀ j y H2, xs[j]? = some y → Same H1 H2 → wB X scope elt ((σ.set i none).set i (some y)) H2 fun z H3 => Same H2 H3 ∧ R j z H3) ∧
      ∀ D acc H2, Same H1 H2 → H1 D = none → H2 D = some (.lst acc) → acc.length = xs.length → (∀ j y, acc[j]? = some y → R j y H2) → Q (.ref D) H2)
    (hs : ∀ x, foldedSetIterable iter X.env x = pure x := by intro _; rfl) : wE X (.ListComp elt [⟨.Name x px, iter, [], 0⟩] scope pos) σ H Q := by
  refine e_lc (own := [(x, i)]) (g := gName i) (tt := tYes) (wi := iList X.K (wE X iter)) hc hN (pi_list pe_w) ok hg (fun _ _ _ _ _ => pts_nil) ?_ hs
  refine h.imp fun v H1 ⟨a, xs, e, hL, hz, body, fin⟩ => ⟨a, e, ⟨xs, hL⟩, fun D hD => ?_⟩
  refine lc_list (K := X.K) (a := a) (xs := xs) (fun n H2 => Same H1 H2 ∧ ∃ acc, H2 D = some (.lst acc) ∧ acc.length = n ∧ ∀ j y, acc[j]? = some y → R j y H2) ⟨same_new hD _, [], upd_same, rfl, fun j y q => by simp at q⟩ (fun n H2 _ ⟨s2, _⟩ => s2.seq hL) (fun n y H2 hy ⟨s2, acc, h2, hn, hr⟩ => ?_) fun H2 ⟨s2, acc, h2, hn, hr⟩ => fin D acc H2 s2 hD h2 hn hr
  have hnl : n < xs.length := (List.getElem?_eq_some_iff.mp hy).1
  refine ⟨?_, ?_⟩
  · show ((σ.set i none).set i (some y)).set i none = σ.set i none
    rw [List.set_set, List.set_set]
  · have key : wB X scope elt ((σ.set i none).set i (some y)) H2 (fun z H4 => ∃ acc, H4 D = some (.lst acc) ∧ acc.length < sizeLine ∧ (Same H1 (upd H4 D (.lst (acc ++ [z]))) ∧ ∃ acc', upd H4 D (.lst (acc ++ [z])) D = some (.lst acc') ∧ acc'.length = n + 1 ∧
        ∀ j y, acc'[j]? = some y → R j y (upd H4 D (.lst (acc ++ [z]))))) := ?_
    · exact key
    refine fun s0 H0 C cl fp => (body n y H2 hy s2 s0 H0 C cl fp).imp fun z H3 ⟨s3, rz⟩ => ?_
    have kp : KeepT H3 (upd H3 D (.lst (acc ++ [z]))) := Exc.keepT (p := D) (fun b o q hb => by rw [upd_ne hb]; exact q) (not_tup_lst (s3 _ _ h2))
    refine ⟨acc, s3 _ _ h2, size_lt (by omega), fun b o q => ?_, acc ++ [z], upd_same, by rw [List.length_append, hn]; rfl, fun j y' q => hR j y' H3 _ ?_ kp⟩
    · rw [upd_ne (ne_of_none q hD)]
      exact s3 _ _ (s2 _ _ q)
    · by_cases hj : j < acc.length
      · rw [List.getElem?_append_left hj] at q
        exact hR j y' H2 H3 (hr j y' q) (keepT_of s3)
      · rw [List.getElem?_append_right (by omega)] at q
        have e0 : j - acc.length = 0 := by
          cases e : j - acc.length with
          | zero => rfl
          | succ m => rw [e] at q; simp at q
        rw [e0] at q
        obtain rfl : z = y' := by simpa using q
        obtain rfl : j = n := by omega
        exact rz
/-- methods of built-in types -/
theorem e_bm {o e : Expr} {es : List Expr} {name : Str} {apos cpos : Pos} {T id : String} {r : V → List V → Hp → VK → Prop} (pa : PlainAttrs T) (slot : Slot T name id) (hty : typeOf (.builtin id) = pure (.type "method_descriptor")) (hm : MtR X id r) (h : wE X o σ H fun x H1 => tyV X.K T x H1 ∧ wA X (e :: es) σ H1 fun xs H2 => r x xs H2 Q)
    (hbase : attributeBase o name X.env (eval o X.env) = eval o X.env := by rfl)
    (hfew : ((backTo cpos (starEach (e :: es) X.env)).all (fun x => !x.1) && (backToKw cpos (keywordEach [] X.env)).all (fun x => x.1.isSome)
      && decide ((e :: es).length + ([] : List Keyword).length + (if ([] : List Keyword).isEmpty then 0 else 1) < 30)) = true := by rfl)
    (hline : (apos.endLine == cpos.line) = true := by rfl) (hs : starEach (e :: es) X.env = (false, eval e X.env) :: starEach es X.env := by rfl) (hplain : (backTo cpos (starEach es X.env)).any (·.1) = false := by rfl) :
    wE X (.Call (.Attribute o name apos) (e :: es) [] cpos) σ H Q := e_mk (pe_bm pa slot hty hm pe_w pa_w hbase hfew hline hs hplain) h
theorem e_bm0 {o : Expr} {name : Str} {apos cpos : Pos} {T id : String} {r : V → List V → Hp → VK → Prop} (pa : PlainAttrs T) (slot : Slot T name id) (hty : typeOf (.builtin id) = pure (.type "method_descriptor")) (hm : MtR X id r) (h : wE X o σ H fun x H1 => tyV X.K T x H1 ∧ r x [] H1 Q)
    (hbase : attributeBase o name X.env (eval o X.env) = eval o X.env := by rfl) (hline : (apos.endLine == cpos.line) = true := by rfl) : wE X (.Call (.Attribute o name apos) [] [] cpos) σ H Q := e_mk (pe_bm0 pa slot hty hm pe_w hbase hline) h
/-- x[0] in ('a', 'b', ..), as a value -/
theorem e_hd_in (i : Nat) {x : Str} {p : Addr} {w : Str} {r : List V} {es : List Expr} {p1 p2 p3 p4 p5 : Pos} {k k'} (ws : List Str) (hT : SqT X.K H p (.str w :: r)) (hes : ∀ H', wA X es σ H' fun xs H1 => xs = ws.map V.str ∧ H1 = H')
    (q : ∀ H1, Same H H1 → Q (.bl (inV (.str w) (ws.map V.str))) H1) (hz : ws.length ≤ 100000 := by decide) (hs : σ[i]? = some (some (.ref p)) := by rfl) (hm : behindInMarks .In (.Tuple es k' p4) = false := by rfl) (hN : X.N[i]? = some x := by rfl)
    (hv : Vis X.env.scope x := by first | exact Or.inl rfl | exact Or.inr (Or.inl rfl) | exact Or.inr (Or.inr rfl)) (hd : (x == ("__debug__" : Str)) = false := by decide) (hcd : (x == ("__classdict__" : Str)) = false := by decide) :
    wE X (.Compare (.Subscript (.Name x p1) (.Constant (.int 0) k p2) p3) [.In] [.Tuple es k' p4] p5) σ H Q :=
  e_cmp op_in_seq hm (e_at i 0 hT (e_txts ws (hes _) hz fun t ht => ⟨t, _, rfl, .inr (SqT.of upd_same), rfl, flat_txts ws, q _ (same_new ht _)⟩) hs rfl rfl hN hv hd hcd)
/-- a comprehension over anything that is walked; what is made of the i-th is R i -/
theorem lc_map {J : It} {n : Nat} {G : Hp → Prop} {Y : Nat → Hp → V → Hp → Prop} (w : Walk J n G Y) {g : TG} {te : TE} {vs : List Nat} {σ : L2.St} {H1 : Hp} {Q : Addr → Hp → Prop} (R : Nat → V → Hp → Prop) (hR : ∀ j y H H', R j y H → KeepT H H' → R j y H') (hz : n ≤ 100000) (hG : ∀ H2, Same H1 H2 → G H2)
    (hs : ∀ i x H2 H3, i < n → Same H1 H2 → Y i H2 x H3 → ∀ Post : VK, (∀ z H4, Same H2 H4 → R i z H4 → Post z H4) → g x (wipe σ vs) H3 fun σ2 H4 => wipe σ2 vs = wipe σ vs ∧ te σ2 H4 Post)
    (fin : ∀ D acc H2, Same H1 H2 → H1 D = none → H2 D = some (.lst acc) → acc.length = n → (∀ j y, acc[j]? = some y → R j y H2) → Q D H2) :
    ∀ D, H1 D = none → ∃ W : Nat → Nat → Hp → Prop, (∃ m, W 0 m (upd H1 D (.lst []))) ∧ ∀ i m H, W i m H →
      (J.stop i H ∧ Q D H) ∨ (J.go i H ∧ ∃ Nx : Hp → Prop, (∀ H', Nx H' → ∃ m', m' < m ∧ W (i + 1) m' H') ∧ ∀ x H', J.yld i H x H' → g x (wipe σ vs) H' fun σ2 H2 => wipe σ2 vs = wipe σ vs ∧ tYes σ2 H2 fun b H3 =>
        if b = true then te σ2 H3 fun y H4 => ∃ acc, H4 D = some (.lst acc) ∧ acc.length < sizeLine ∧ Nx (upd H4 D (.lst (acc ++ [y]))) else Nx H3) := by
  intro D hD
  refine lc_it w (fun n H2 => Same H1 H2 ∧ ∃ acc, H2 D = some (.lst acc) ∧ acc.length = n ∧ ∀ j y, acc[j]? = some y → R j y H2) ⟨same_new hD _, [], upd_same, rfl, fun j y q => by simp at q⟩ (fun _ H2 _ ⟨s2, _⟩ => hG H2 s2) (fun i x H2 H3 hi ⟨s2, acc, h2, hn, hr⟩ hy => ?_) fun H2 ⟨s2, acc, h2, hn, hr⟩ => fin D acc H2 s2 hD h2 hn hr
  refine hs i x H2 H3 hi s2 hy (fun z H4 => ∃ acc, H4 D = some (.lst acc) ∧ acc.length < sizeLine ∧ (Same H1 (upd H4 D (.lst (acc ++ [z]))) ∧ ∃ acc', upd H4 D (.lst (acc ++ [z])) D = some (.lst acc') ∧ acc'.length = i + 1 ∧
        ∀ j y, acc'[j]? = some y → R j y (upd H4 D (.lst (acc ++ [z]))))) fun z H4 s3 rz => ?_
  have kp : KeepT H4 (upd H4 D (.lst (acc ++ [z]))) := Exc.keepT (p := D) (fun b o q hb => by rw [upd_ne hb]; exact q) (not_tup_lst (s3 _ _ h2))
  refine ⟨acc, s3 _ _ h2, size_lt (by omega), fun b o q => ?_, acc ++ [z], upd_same, by rw [List.length_append, hn]; rfl, fun j y' q => hR j y' H4 _ ?_ kp⟩
  · rw [upd_ne (ne_of_none q hD)]
    exact s3 _ _ (s2 _ _ q)
  · by_cases hj : j < acc.length
    · rw [List.getElem?_append_left hj] at q
      exact hR j y' H2 H4 (hr j y' q) (keepT_of s3)
    · rw [List.getElem?_append_right (by omega)] at q
      have e0 : j - acc.length = 0 := by
        cases e : j - acc.length with
        | zero => rfl
        | succ m => rw [e] at q; simp at q
      rw [e0] at q
      obtain rfl : z = y' := by simpa using q
      obtain rfl : j = i := by omega
      exact rz
/-- max(xs, default=d) of whole numbers -/
def mxd (d : Int) : List Int → Int
  | [] => d
  | x :: xs => PySem.W.maxOf x xs
def rMaxDf (K : PySem.W.Frag) : List V → List V → Hp → VK → Prop := fun vs zs H Q => ∃ (a : Addr) (ns : List Int) (d : Int), vs = [.ref a] ∧ zs = [.int d] ∧ SqL K H a (ns.map V.int) ∧ Q (.int (mxd d ns)) H
theorem reads_ints {h : Heap} : ∀ {ns : List Int} {us : List Value}, Vals (ns.map V.int) us → ReadsAll h us (ns.map PySem.W.Datum.toD) []
  | [], _, .nil => .nil
  | n :: ns, _, .cons r t => by
    obtain ⟨tk, rfl⟩ := r
    exact ReadsAll.cons (as := []) (bs := []) (Reads.int n tk) (reads_ints t)
theorem cr_maxDf (hc : X.calm = true) (hu : X.A.units + 1 < cLine) : CallRK X (.builtin "max") [Str.ofString "default"] (rMaxDf X.K) := by
  intro pins s σ H vs zs us ws Q I r rz h
  obtain ⟨a, ns, d, rfl, rfl, hs, q⟩ := h
  obtain rfl := Vals.ref1 r
  obtain ⟨w1, rfl, e1⟩ := vals1 rz
  obtain ⟨its, rv, hl, hz⟩ := I.list hs
  refine PySem.W.max_list_datum_default (α := Int) (xs := ns) (I.ok.hd hc) hl.isList ⟨[], by simpa using reads_ints rv⟩ (by show X.A.units + 1 + 0 < cLine; omega) (fun e h' tk kp => ?_) fun y ys i v h' tk e hi hv kp => ?_
  · subst e
    exact ⟨.int d, H, I.kept (t' := tk) kp, e1, q⟩
  · subst e
    obtain ⟨as, hr⟩ := hv
    have q' : Q (.int (PySem.W.maxOf y ys)) H := q
    generalize PySem.W.maxOf y ys = m at hr q'
    cases hr with
    | int _ t => exact ⟨.int m, H, I.kept (t' := tk) kp, ⟨t, rfl⟩, q'⟩
theorem e_callBK {id : String} {ks : List Str} {r : List V → List V → Hp → VK → Prop} {x : Str} {p pos : Pos} {e : Expr} {es : List Expr} {kws : List Keyword} {tk : TA} (hc : CallRK X (.builtin id) ks r) (hg : Gl X x) (hm : X.mg x = none) (hv : bootBuiltins x = some (.builtin id)) (hk : PK X kws tk)
    (h : wA X (e :: es) σ H fun vs H1 => tk σ H1 fun zs H2 => r vs zs H2 Q) (hn : x ≠ "__name__" := by decide) (hdb : (x == ("__debug__" : Str)) = false := by decide)
    (he : backTo pos (starEach (e :: es) X.env) = (false, eval e X.env) :: backTo pos (starEach es X.env) := by rfl) (hpl : (backTo pos (starEach (e :: es) X.env)).any (·.1) = false := by rfl)
    (hall : (backToKw pos (keywordEach kws X.env)).all (·.1.isSome) = true := by rfl) (hnone : (backToKw pos (keywordEach kws X.env)).any (·.1.isNone) = false := by rfl) (hks : (backToKw pos (keywordEach kws X.env)).filterMap (·.1) = ks := by rfl) :
    wE X (.Call (.Name x p) (e :: es) kws pos) σ H Q := e_mk (pe_callBK hc hg hm hv pa_w hk hn hdb he hpl hall hnone hks) h
end
end KW

namespace KW
open PySem PySem.Spec L2 PyProof.Rows
open K23 (Kd Pg encK encP)
abbrev sInner : Stmt := top 8
abbrev sParts : Stmt := top 9
abbrev sDeep : Stmt := top 10
abbrev sPartAt : Stmt := top 11
abbrev sWithInner : Stmt := top 12
abbrev sWithPart : Stmt := top 13
theorem cut1 (x : V) (r : List V) : cutV (x :: r) (some 1) none = r := by
  unfold cutV
  have e1 : HT.sIx (x :: r).length 0 (some 1) = 1 := by
    have := HT.sIx_nat (x :: r).length 0 1
    simp only [List.length_cons] at *
    rw [show ((1 : Nat) : Int) = 1 from rfl] at this
    rw [this]; omega
  rw [e1, HT.sIx_none]
  simp
theorem cut1_not (x : V) (r : List V) : ¬ (HT.sIx (x :: r).length 0 (some 1) = 0 ∧ HT.sIx (x :: r).length (x :: r).length none = (x :: r).length) := by
  have := HT.sIx_nat (x :: r).length 0 1
  rw [show ((1 : Nat) : Int) = 1 from rfl] at this
  rw [this]
  simp only [List.length_cons]
  omega
/-- one or two parts, or none -/
theorem inner_le (p : Pg) : (K23.inner p).length ≤ 2 := by cases p <;> simp [K23.inner]
def spInner (K : PySem.W.Frag) : Sp := fun vs H Q _ => ∃ v p, vs = [v] ∧ PAt K H v p ∧ ∀ r xs H', Same H H' → H r = none → H' r = some (.lst xs) → Paired (PAt K H') xs (K23.inner p) → Q (.ref r) H'
theorem scInner : FnScope ["program"] ["program"] (defScope sInner) := ⟨rfl, rfl, rfl, by decide +kernel, rfl, by decide +kernel, by decide +kernel⟩
section
variable {P : Program} {w : World} {K : PySem.W.Frag} {mg : Str → Option Value} {base : Heap}
theorem ok_inner {f : Addr} {fd : FuncData} (D : Def K mg "inner" sInner ["program"] f fd) (ml : mg "list" = none) : FnOk P w K mg base CX0 1 f fd ["program"] (spInner K) := by
  refine fun_ok D.F scInner (fun vs H Q E h => ?_) (fun cdv A outer s H vs Q E hr h => ?_)
  · obtain ⟨v, p, rfl, _⟩ := h; rfl
  obtain ⟨v, p, rfl, hp, k⟩ := h
  have fin : ∀ r (ys : List V) (ps : List Pg), H r = none → Paired (PAt K H) ys ps → Paired (PAt K (upd H r (.lst ys))) ys ps := fun r ys ps hr' hq => paired_mono hq fun a b q => q.mono (keepT_of (same_new hr' _))
  cases hp with
  | take hT hk hq =>
    refine s_cons (s_hd_eq 0 hT ?_)
    refine s_one (s_ret (e_lst (a_cons (e_at 0 3 hT (a_nil ⟨size_le (by show 1 ≤ 100000; decide), fun r hr => ?_⟩)))))
    exact k r _ _ (same_new hr _) hr upd_same (fin r _ _ hr (.cons hq .nil))
  | name hT =>
    refine s_cons (s_hd_ne 0 hT (s_nil ?_))
    refine s_cons (s_if (t_hd_in 0 ["give", "pair", "first", "second"] hT (fun H' => a_str (a_str (a_str (a_str (a_nil ⟨rfl, rfl⟩))))) fun H1 s1 => ifb_f (by decide +kernel) (s_nil ?_)))
    refine s_one (s_ret (e_lst (a_nil ⟨size_le (by show 0 ≤ 100000; decide), fun r hr => ?_⟩)))
    exact k r _ _ (s1.trans (same_new hr _)) (s1.free hr) upd_same .nil
  | thing hT =>
    refine s_cons (s_hd_ne 0 hT (s_nil ?_))
    refine s_cons (s_if (t_hd_in 0 ["give", "pair", "first", "second"] hT (fun H' => a_str (a_str (a_str (a_str (a_nil ⟨rfl, rfl⟩))))) fun H1 s1 => ifb_f (by decide +kernel) (s_nil ?_)))
    refine s_one (s_ret (e_lst (a_nil ⟨size_le (by show 0 ≤ 100000; decide), fun r hr => ?_⟩)))
    exact k r _ _ (s1.trans (same_new hr _)) (s1.free hr) upd_same .nil
  | @give a y z p q hT h1 h2 | @pair a y z p q hT h1 h2 =>
    refine s_cons (s_hd_ne 0 hT (s_nil ?_))
    refine s_cons (s_if (t_hd_in 0 ["give", "pair", "first", "second"] hT (fun H' => a_str (a_str (a_str (a_str (a_nil ⟨rfl, rfl⟩))))) fun H1 s1 => ifb_t (by decide +kernel) ?_))
    refine s_one (s_ret (e_callTy call_list_of rfl ml (by decide +kernel) (a_cons (e_slice sl_tup (e_var 0 rfl (o_some (e_int ⟨1, rfl, o_none ⟨_, _, rfl, sqT_keep (keepT_of s1) hT, cut1_not _ _, fun t ht => ?_⟩⟩)))))))
    rw [cut1]
    refine a_nil ⟨t, _, rfl, .inr (SqT.of upd_same), fun r hr => ?_⟩
    have s2 : Same H (upd (upd H1 t (.tup [y, z])) r (.lst [y, z])) := s1.trans ((same_new ht _).trans (same_new hr _))
    exact k r _ _ s2 (s1.free ((same_new ht _).free hr)) upd_same (.cons (h1.mono (keepT_of s2)) (.cons (h2.mono (keepT_of s2)) .nil))
  | @first a y p hT h1 | @second a y p hT h1 =>
    refine s_cons (s_hd_ne 0 hT (s_nil ?_))
    refine s_cons (s_if (t_hd_in 0 ["give", "pair", "first", "second"] hT (fun H' => a_str (a_str (a_str (a_str (a_nil ⟨rfl, rfl⟩))))) fun H1 s1 => ifb_t (by decide +kernel) ?_))
    refine s_one (s_ret (e_callTy call_list_of rfl ml (by decide +kernel) (a_cons (e_slice sl_tup (e_var 0 rfl (o_some (e_int ⟨1, rfl, o_none ⟨_, _, rfl, sqT_keep (keepT_of s1) hT, cut1_not _ _, fun t ht => ?_⟩⟩)))))))
    rw [cut1]
    refine a_nil ⟨t, _, rfl, .inr (SqT.of upd_same), fun r hr => ?_⟩
    have s2 : Same H (upd (upd H1 t (.tup [y])) r (.lst [y])) := s1.trans ((same_new ht _).trans (same_new hr _))
    exact k r _ _ s2 (s1.free ((same_new ht _).free hr)) upd_same (.cons (h1.mono (keepT_of s2)) .nil)
/-! ### parts_of, deep_of -/
theorem acc_map {α : Type} {acc : List V} {l : List α} (g : α → V) (hl : acc.length = l.length) (h : ∀ (j : Nat) (y : V), acc[j]? = some y → ∃ q : α, l[j]? = some q ∧ y = g q) : acc = l.map g := by
  refine List.ext_getElem? fun j => ?_
  rw [List.getElem?_map]
  cases e : acc[j]? with
  | none =>
    have h1 : acc.length ≤ j := List.getElem?_eq_none_iff.mp e
    rw [List.getElem?_eq_none_iff.mpr (by omega)]
    rfl
  | some y =>
    obtain ⟨q, h1, h2⟩ := h j y e
    rw [h1, h2]
    rfl
theorem none_left {f : Addr} {fd : FuncData} {ps : List Str} {k : Nat} {sp : Sp} (no : ∀ vs H Q E, ¬ sp vs H Q E) : FnOk P w K mg base CX0 k f fd ps sp :=
  ⟨fun vs H Q E h => absurd h (no vs H Q E), fun A outer s H args us vs Q E _ _ _ _ h => absurd h (no vs H Q E)⟩
def spParts (K : PySem.W.Frag) (n : Nat) : Sp := fun vs H Q _ => ∃ v p, vs = [v] ∧ PAt K H v p ∧ K23.deepP p < n ∧ ∀ H', Same H H' → Q (.int (K23.partsP p)) H'
def spDeep (K : PySem.W.Frag) (n : Nat) : Sp := fun vs H Q _ => ∃ v p, vs = [v] ∧ PAt K H v p ∧ K23.deepP p < n ∧ ∀ H', Same H H' → Q (.int (K23.deepP p)) H'
theorem inner_deep {p q : Pg} {j : Nat} (h : (K23.inner p)[j]? = some q) : K23.deepP q < K23.deepP p := by
  have hm : q ∈ K23.inner p := List.mem_of_getElem? h
  cases p <;> simp [K23.inner] at hm <;> simp only [K23.deepP]
  · subst hm; omega
  · rcases hm with rfl | rfl <;> omega
  · rcases hm with rfl | rfl <;> omega
  · subst hm; omega
  · subst hm; omega
theorem parts_sum (p : Pg) : (1 : Int) + ((K23.inner p).map fun q => (K23.partsP q : Int)).sum = (K23.partsP p : Int) := by
  cases p <;> simp [K23.inner, K23.partsP]
theorem scParts : FnScope ["program", "part"] ["program"] (defScope sParts) := ⟨rfl, rfl, rfl, by decide +kernel, rfl, by decide +kernel, by decide +kernel⟩
theorem ok_parts {f fi : Addr} {fd fdi : FuncData} (D : Def K mg "parts_of" sParts ["program"] f fd) (Di : Def K mg "inner" sInner ["program"] fi fdi) (Gi : FnOk P w K mg base CX0 1 fi fdi ["program"] (spInner K)) (ms : mg "sum" = none) :
    ∀ n : Nat, FnOk P w K mg base CX0 (n + 2) f fd ["program"] (spParts K n)
  | 0 => none_left fun vs H Q E ⟨v, p, _, _, h, _⟩ => absurd h (by omega)
  | n + 1 => by
    have ih := ok_parts D Di Gi ms n
    refine fun_ok D.F scParts (fun vs H Q E h => ?_) (fun cdv A outer s H vs Q E hr h => ?_)
    · obtain ⟨v, p, rfl, _⟩ := h; rfl
    obtain ⟨v, p, rfl, hp, hd, k⟩ := h
    refine s_one (s_ret (e_op op_add (e_int (e_callB (cr_sum rfl) rfl ms (by decide +kernel) (a_cons ?_)))))
    refine e_map 1 (fun j y _ => ∃ q, (K23.inner p)[j]? = some q ∧ y = .int (K23.partsP q)) (fun _ _ _ _ h _ => h) rfl scParts.nd (blkOk_by (N := ["program", "part"]) (sc := defScope sParts) (by decide +kernel)) (fun _ _ _ _ _ => pg_name (i := 1) scParts.nd rfl (Or.inl rfl)) ?_
    refine e_call Gi (hr.mono (by omega)) rfl Di.m Di.F.kp Di.b .nil pass0 (a_cons (e_var 0 rfl (a_nil ⟨v, p, rfl, hp, fun r xs H1 s1 _ hl hq => ⟨r, xs, rfl, SqL.of hl, ?_, fun j y H2 hy s2 => ?_, fun D acc H2 s2 hD hacc hlen hall => a_nil ?_⟩⟩)))
    · have := hq.length; have := inner_le p; omega
    · intro s0 H0 C cl fp
      obtain ⟨q, hq1, hq2⟩ := paired_get hq hy
      refine e_call ih hr rfl D.m D.F.kp D.b .nil pass0 (a_cons (e_var 1 rfl (a_nil ⟨y, q, rfl, hq2.mono (keepT_of s2), ?_, fun H3 s3 => ⟨s3, q, hq1, rfl⟩⟩)))
      have := inner_deep hq1
      omega
    · have e := acc_map (l := K23.inner p) (fun q => V.int (K23.partsP q)) (by rw [hlen]; exact hq.length) hall
      refine ⟨D, (K23.inner p).map fun q => (K23.partsP q : Int), rfl, SqL.of (by rw [hacc, e, List.map_map]; rfl), _, _, rfl, rfl, ?_⟩
      have q := k _ (s1.trans s2)
      rw [← parts_sum] at q
      exact q
theorem deep_max (p : Pg) : mxd 0 ((K23.inner p).map fun q => 1 + (K23.deepP q : Int)) = (K23.deepP p : Int) := by
  have two : ∀ a b : Nat, PySem.W.maxOf (1 + (a : Int)) [1 + (b : Int)] = ((1 + max a b : Nat) : Int) := fun a b => by
    show (if decide (1 + (a : Int) < 1 + (b : Int)) = true then 1 + (b : Int) else 1 + (a : Int)) = _
    by_cases h : 1 + (a : Int) < 1 + (b : Int)
    · rw [decide_eq_true h, if_pos rfl]; omega
    · rw [decide_eq_false h, if_neg (by decide)]; omega
  cases p with
  | give p q => exact two _ _
  | pair p q => exact two _ _
  | take x k p => show (1 + (K23.deepP p : Int)) = ((1 + K23.deepP p : Nat) : Int); omega
  | first p => show (1 + (K23.deepP p : Int)) = ((1 + K23.deepP p : Nat) : Int); omega
  | second p => show (1 + (K23.deepP p : Int)) = ((1 + K23.deepP p : Nat) : Int); omega
  | name x => rfl
  | thing => rfl
theorem scDeep : FnScope ["program", "part"] ["program"] (defScope sDeep) := ⟨rfl, rfl, rfl, by decide +kernel, rfl, by decide +kernel, by decide +kernel⟩
theorem ok_deep {f fi : Addr} {fd fdi : FuncData} (D : Def K mg "deep_of" sDeep ["program"] f fd) (Di : Def K mg "inner" sInner ["program"] fi fdi) (Gi : FnOk P w K mg base CX0 1 fi fdi ["program"] (spInner K)) (ms : mg "max" = none) :
    ∀ n : Nat, FnOk P w K mg base CX0 (n + 2) f fd ["program"] (spDeep K n)
  | 0 => none_left fun vs H Q E ⟨v, p, _, _, h, _⟩ => absurd h (by omega)
  | n + 1 => by
    have ih := ok_deep D Di Gi ms n
    refine fun_ok D.F scDeep (fun vs H Q E h => ?_) (fun cdv A outer s H vs Q E hr h => ?_)
    · obtain ⟨v, p, rfl, _⟩ := h; rfl
    obtain ⟨v, p, rfl, hp, hd, k⟩ := h
    refine s_one (s_ret (e_callBK (cr_maxDf rfl (hu_of hr)) rfl ms (by decide +kernel) (pk_cons pe_int pk_nil) (a_cons ?_)))
    refine e_map 1 (fun j y _ => ∃ q, (K23.inner p)[j]? = some q ∧ y = .int (1 + K23.deepP q)) (fun _ _ _ _ h _ => h) rfl scDeep.nd (blkOk_by (N := ["program", "part"]) (sc := defScope sDeep) (by decide +kernel)) (fun _ _ _ _ _ => pg_name (i := 1) scDeep.nd rfl (Or.inl rfl)) ?_
    refine e_call Gi (hr.mono (by omega)) rfl Di.m Di.F.kp Di.b .nil pass0 (a_cons (e_var 0 rfl (a_nil ⟨v, p, rfl, hp, fun r xs H1 s1 _ hl hq => ⟨r, xs, rfl, SqL.of hl, ?_, fun j y H2 hy s2 => ?_, fun D acc H2 s2 hD hacc hlen hall => a_nil ?_⟩⟩)))
    · have := hq.length; have := inner_le p; omega
    · intro s0 H0 C cl fp
      obtain ⟨q, hq1, hq2⟩ := paired_get hq hy
      refine e_op op_add (e_int (e_call ih hr rfl D.m D.F.kp D.b .nil pass0 (a_cons (e_var 1 rfl (a_nil ⟨y, q, rfl, hq2.mono (keepT_of s2), ?_, fun H3 s3 => ⟨_, _, rfl, rfl, s3, q, hq1, rfl⟩⟩)))))
      have := inner_deep hq1
      omega
    · have e := acc_map (l := K23.inner p) (fun q => V.int (1 + K23.deepP q)) (by rw [hlen]; exact hq.length) hall
      refine ⟨D, (K23.inner p).map fun q => 1 + (K23.deepP q : Int), 0, rfl, rfl, SqL.of (by rw [hacc, e, List.map_map]; rfl), ?_⟩
      have q := k _ (s1.trans s2)
      rw [← deep_max] at q
      exact q
end
end KW

namespace KW
open PySem PySem.Spec L2 PyProof.Rows
open K23 (Kd Pg encK encP)
def nI (l : List Nat) : List V := l.map fun n : Nat => V.int (n : Int)
def nD (l : List Nat) : List PyData := l.map fun n : Nat => PyData.int (n : Int)
theorem dp_ints {K : PySem.W.Frag} {H : Hp} : ∀ l : List Nat, DpAll K H (nI l) (nD l)
  | [] => .nil
  | n :: l => .cons (.int _) (dp_ints l)
theorem plain_ints : ∀ l : List Nat, PyData.plainAll (nD l) = true
  | [] => rfl
  | n :: l => by
    have := plain_ints l
    unfold nD at *
    simp [PyData.plainAll, PyData.plain, this]
theorem eqv_nil (xs : List PyData) : PyData.eqv (.list xs) (.list []) = decide (xs = []) := by
  cases xs with
  | nil => rfl
  | cons x xs => rfl
theorem depth_nil (d : PyData) : min d.depth (PyData.list []).depth ≤ 200 := Nat.le_trans (Nat.min_le_right _ _) (by decide)
mutual
theorem dp_same {K : PySem.W.Frag} {H H' : Hp} (h : Same H H') : ∀ {v : V} {d : PyData}, Dp K H v d → Dp K H' v d
  | _, _, .non => .non
  | _, _, .bl b => .bl b
  | _, _, .int i => .int i
  | _, _, .str x => .str x
  | _, _, .lst q r => .lst (h.seq q) (dpAll_same h r)
  | _, _, .tup q r => .tup (sqT_keep (keepT_of h) q) (dpAll_same h r)
theorem dpAll_same {K : PySem.W.Frag} {H H' : Hp} (h : Same H H') : ∀ {vs : List V} {ds : List PyData}, DpAll K H vs ds → DpAll K H' vs ds
  | _, _, .nil => .nil
  | _, _, .cons q r => .cons (dp_same h q) (dpAll_same h r)
end
section
variable {X : Cx} {σ : L2.St} {H : Hp}
/-- e == [], e a list of data -/
theorem t_nil {Q : Bool → Hp → Prop} {e : Expr} {p1 p2 : Pos} (hu : X.A.units + 200 < cLine) (h : wE X e σ H fun v H1 => ∃ a xs ds, v = .ref a ∧ SqL X.K H1 a xs ∧ DpAll X.K H1 xs ds ∧ PyData.plainAll ds = true ∧ ∀ H2, Same H1 H2 → Q (decide (ds = [])) H2) : wT X (.Compare e [.Eq] [.List [] p1] p2) σ H Q :=
  t_cmp (op_eqP (n := 200) hu) (nomark _) (h.imp fun v H1 ⟨a, xs, ds, e, hL, hd, hp, q⟩ => e_lst (a_nil ⟨size_le (by decide), fun t ht => ⟨.list ds, .list [], by
    subst e
    exact .lst ((same_new ht _).seq hL) (dpAll_same (same_new ht _) hd), .lst (SqL.of upd_same) .nil, hp, rfl, depth_nil _, _, rfl, by rw [eqv_nil]; exact q _ (same_new ht _)⟩⟩))
theorem t_nilN {Q : Bool → Hp → Prop} {e : Expr} {p1 p2 : Pos} (hu : X.A.units + 200 < cLine) (h : wE X e σ H fun v H1 => ∃ a xs ds, v = .ref a ∧ SqL X.K H1 a xs ∧ DpAll X.K H1 xs ds ∧ PyData.plainAll ds = true ∧ ∀ H2, Same H1 H2 → Q (!decide (ds = [])) H2) : wT X (.Compare e [.NotEq] [.List [] p1] p2) σ H Q :=
  t_cmp (op_neP (n := 200) hu) (nomark _) (h.imp fun v H1 ⟨a, xs, ds, e, hL, hd, hp, q⟩ => e_lst (a_nil ⟨size_le (by decide), fun t ht => ⟨.list ds, .list [], by
    subst e
    exact .lst ((same_new ht _).seq hL) (dpAll_same (same_new ht _) hd), .lst (SqL.of upd_same) .nil, hp, rfl, depth_nil _, _, rfl, by rw [eqv_nil]; exact q _ (same_new ht _)⟩⟩))
end
theorem dp_pgs {K : PySem.W.Frag} {H : Hp} : ∀ {xs : List V} {ps : List Pg}, Paired (PAt K H) xs ps → DpAll K H xs (ps.map encP)
  | _, _, .nil => .nil
  | _, _, .cons r t => .cons r.dp (dp_pgs t)
theorem plain_pgs : ∀ ps : List Pg, PyData.plainAll (ps.map encP) = true
  | [] => rfl
  | p :: ps => by simp [PyData.plainAll, K23.plain_encP, plain_pgs ps]

/-! ### part_at -/
def spPartAt (K : PySem.W.Frag) : Sp := fun vs H Q _ => ∃ v p a l q, vs = [v, .ref a] ∧ PAt K H v p ∧ SqL K H a (nI l) ∧ K23.atP p l = some q ∧ ∀ u H', Same H H' → PAt K H' u q → Q u H'
theorem scPartAt : FnScope ["program", "place", "step", "some"] ["program", "place"] (defScope sPartAt) := ⟨rfl, rfl, rfl, by decide +kernel, rfl, by decide +kernel, by decide +kernel⟩
theorem nI_get {l : List Nat} {i : Nat} {y : V} (h : (nI l)[i]? = some y) : ∃ n, l[i]? = some n ∧ y = .int (n : Int) ∧ l.drop i = n :: l.drop (i + 1) := by
  unfold nI at h
  rw [List.getElem?_map] at h
  cases e : l[i]? with
  | none => rw [e] at h; cases h
  | some n =>
    rw [e] at h
    obtain ⟨h1, h2⟩ := List.getElem?_eq_some_iff.mp e
    exact ⟨n, rfl, (Option.some.inj h).symm, by rw [List.drop_eq_getElem_cons h1, h2]⟩
section
variable {P : Program} {w : World} {K : PySem.W.Frag} {mg : Str → Option Value} {base : Heap}
theorem ok_part_at {f fi : Addr} {fd fdi : FuncData} (D : Def K mg "part_at" sPartAt ["program", "place"] f fd) (Di : Def K mg "inner" sInner ["program"] fi fdi) (Gi : FnOk P w K mg base CX0 1 fi fdi ["program"] (spInner K)) (ml : mg "len" = none) :
    FnOk P w K mg base CX0 2 f fd ["program", "place"] (spPartAt K) := by
  refine fun_ok D.F scPartAt (fun vs H Q E h => ?_) (fun cdv A outer s H vs Q E hr h => ?_)
  · obtain ⟨v, p, a, l, q, rfl, _⟩ := h; rfl
  obtain ⟨v, p, a, l, q, rfl, hp, hL, hq, k⟩ := h
  refine s_cons (s_for PassesOwn.never rfl (pi_list (pv 1)) (pg_name (i := 2) scPartAt.nd rfl (Or.inl rfl)) ⟨_, rfl, a, rfl, ⟨_, hL⟩, ?_⟩)
  refine for_list (K := K) (a := a) (xs := nI l) (fun i σ H1 => ∃ v' p' x y, σ = [some v', some (.ref a), x, y] ∧ Same H H1 ∧ PAt K H1 v' p' ∧ K23.atP p' (l.drop i) = some q) ⟨v, p, none, none, rfl, Same.refl H, hp, hq⟩ (fun i σ H1 _ ⟨_, _, _, _, _, s1, _⟩ => s1.seq hL) ?_ ?_
  · rintro i y σ H1 hy ⟨v', p', x, y', rfl, s1, hp', hq'⟩
    obtain ⟨n, hn, rfl, hd⟩ := nI_get hy
    rw [hd] at hq'
    simp only [K23.atP] at hq'
    cases e : (K23.inner p')[n]? with
    | none => rw [e] at hq'; cases hq'
    | some z =>
      rw [e] at hq'
      have hnl : n < (K23.inner p').length := (List.getElem?_eq_some_iff.mp e).1
      refine s_cons (s_set 3 scPartAt.nd (e_call Gi hr rfl Di.m Di.F.kp Di.b .nil pass0 (a_cons (e_var 0 rfl (a_nil ⟨v', p', rfl, hp', fun r xs H2 s2 hr0 hl hx => ?_⟩)))))
      have hxl := hx.length
      refine s_cons (s_if (t_not (t_chain op_le op_lt (e_int (e_var 2 rfl ⟨_, _, rfl, rfl, _, rfl, if_eq (by omega) (e_callB call_len_seq rfl ml PySem.boot_len (a_cons (e_var 3 rfl (a_nil ⟨r, xs, rfl, .inl (SqL.of hl), _, _, rfl, rfl, _, rfl, ?_⟩))))⟩)))))
      rw [decide_eq_true (by omega)]
      refine iteF (s_nil ?_)
      obtain ⟨u, hu1, hu2⟩ := paired_get' hx e
      refine s_cons (s_set 0 scPartAt.nd (e_ix ix_list (fun _ _ => rfl) (e_var 3 rfl (e_var 2 rfl ⟨r, xs, _, u, rfl, rfl, SqL.of hl, atI_nat hu1, s_nil ?_⟩))))
      exact ⟨u, z, _, _, rfl, s1.trans s2, hu2, hq'⟩
  · rintro σ H1 ⟨v', p', x, y, rfl, s1, hp', hq'⟩
    have e0 : l.drop (nI l).length = [] := List.drop_eq_nil_of_le (by unfold nI; rw [List.length_map]; exact Nat.le_refl _)
    rw [e0] at hq'
    obtain rfl : p' = q := by simpa [K23.atP] using hq'
    exact s_one (s_ret (e_var 0 rfl (k v' H1 s1 hp')))
end
end KW

namespace KW
open PySem PySem.Spec L2 PyProof.Rows
open K23 (Kd Pg encK encP)
/-! ### with_inner, with_part -/
def spWithInner (K : PySem.W.Frag) : Sp := fun vs H Q _ => ∃ v p b ys qs, vs = [v, .ref b] ∧ PAt K H v p ∧ SqL K H b ys ∧ Paired (PAt K H) ys qs ∧ qs.length = (K23.inner p).length ∧ ∀ u H', Same H H' → PAt K H' u (K23.setP p qs) → Q u H'
theorem scWithInner : FnScope ["program", "some"] ["program", "some"] (defScope sWithInner) := ⟨rfl, rfl, rfl, by decide +kernel, rfl, by decide +kernel, by decide +kernel⟩
theorem paired_nil {α β : Type} {R : α → β → Prop} {xs : List α} (h : Paired R xs []) : xs = [] := by cases h; rfl
theorem paired_one {α β : Type} {R : α → β → Prop} {xs : List α} {y : β} (h : Paired R xs [y]) : ∃ x, xs = [x] ∧ R x y := by
  cases h with
  | cons r t => cases t; exact ⟨_, rfl, r⟩
theorem paired_two {α β : Type} {R : α → β → Prop} {xs : List α} {y z : β} (h : Paired R xs [y, z]) : ∃ x u, xs = [x, u] ∧ R x y ∧ R u z := by
  cases h with
  | cons r t =>
    cases t with
    | cons r' t => cases t; exact ⟨_, _, rfl, r, r'⟩
theorem len1 {α : Type} {l : List α} (h : l.length = 1) : ∃ x, l = [x] := by
  match l, h with
  | [x], _ => exact ⟨x, rfl⟩
theorem len2 {α : Type} {l : List α} (h : l.length = 2) : ∃ x y, l = [x, y] := by
  match l, h with
  | [x, y], _ => exact ⟨x, y, rfl⟩
section
variable {P : Program} {w : World} {K : PySem.W.Frag} {mg : Str → Option Value} {base : Heap}
theorem ok_with_inner {f : Addr} {fd : FuncData} (D : Def K mg "with_inner" sWithInner ["program", "some"] f fd) (mt : mg "tuple" = none) : FnOk P w K mg base CX0 1 f fd ["program", "some"] (spWithInner K) := by
  refine fun_ok D.F scWithInner (fun vs H Q E h => ?_) (fun cdv A outer s H vs Q E hr h => ?_)
  · obtain ⟨v, p, b, ys, qs, rfl, _⟩ := h; rfl
  obtain ⟨v, p, b, ys, qs, rfl, hp, hL, hq, hn, k⟩ := h
  have hu := room200 hr
  cases hp with
  | @take a x y z kd p hT hk hp =>
    obtain ⟨q', rfl⟩ := len1 hn
    obtain ⟨u, rfl, hu1⟩ := paired_one hq
    refine s_cons (s_hd_eq 0 hT ?_)
    refine s_one <| s_ret <| e_tup <| a_cons <| e_at 0 0 hT <| a_cons <| e_at 0 1 hT <| a_cons <| e_at 0 2 hT <| a_cons <| e_atL 0 <| e_var 1 rfl ⟨b, _, rfl, hL, _, rfl, a_nil ⟨size_le (by show 4 ≤ 100000; decide), fun t ht => ?_⟩⟩
    have s1 := same_new ht (.tup [.str "take", .str x, y, u])
    exact k _ _ s1 (.take (SqT.of upd_same) (hk.mono (keepT_of s1)) (hu1.mono (keepT_of s1)))
  | @name a x hT =>
    obtain rfl : qs = [] := List.length_eq_zero_iff.mp hn
    obtain rfl := paired_nil hq
    refine s_cons (s_hd_ne 0 hT (s_nil ?_))
    refine s_cons <| s_if <| t_nil hu <| e_var 1 rfl ⟨b, _, [], rfl, hL, .nil, rfl, fun H2 s2 => if_eq rfl ?_⟩
    exact s_one (s_ret (e_var 0 rfl (k _ _ s2 (.name (sqT_keep (keepT_of s2) hT)))))
  | @thing a hT =>
    obtain rfl : qs = [] := List.length_eq_zero_iff.mp hn
    obtain rfl := paired_nil hq
    refine s_cons (s_hd_ne 0 hT (s_nil ?_))
    refine s_cons <| s_if <| t_nil hu <| e_var 1 rfl ⟨b, _, [], rfl, hL, .nil, rfl, fun H2 s2 => if_eq rfl ?_⟩
    exact s_one (s_ret (e_var 0 rfl (k _ _ s2 (.thing (sqT_keep (keepT_of s2) hT)))))
  | @give a y z p q hT hp1 hp2 =>
    obtain ⟨q1, q2, rfl⟩ := len2 hn
    obtain ⟨u1, u2, rfl, hu1, hu2⟩ := paired_two hq
    refine s_cons (s_hd_ne 0 hT (s_nil ?_))
    refine s_cons <| s_if <| t_nil hu <| e_var 1 rfl ⟨b, _, [encP q1, encP q2], rfl, hL, .cons hu1.dp (.cons hu2.dp .nil), plain_pgs [q1, q2], fun H2 s2 => if_ne (by simp) (s_nil ?_)⟩
    refine s_one <| s_ret <| e_op op_catT <| e_tup <| a_cons <| e_at 0 0 (sqT_keep (keepT_of s2) hT) <| a_nil ⟨size_le (by show 1 ≤ 100000; decide), fun t ht => ?_⟩
    have s3 := s2.trans (same_new ht (.tup [.str "give"]))
    refine e_callTy call_tuple_of rfl mt (by decide +kernel) <| a_cons <| e_var 1 rfl <| a_nil ⟨b, _, rfl, .inl ⟨s3.seq hL, fun t2 ht2 => ⟨t, t2, _, _, rfl, rfl, SqT.of ((same_new ht2 _) _ _ upd_same), SqT.of upd_same, by simp, size_le (by show 3 ≤ 100000; decide), fun h => absurd h (by simp), fun _ r hr => ?_⟩⟩⟩
    have s4 := s3.trans ((same_new ht2 (.tup [u1, u2])).trans (same_new hr (.tup [.str "give", u1, u2])))
    exact k _ _ s4 (.give (SqT.of upd_same) (hu1.mono (keepT_of s4)) (hu2.mono (keepT_of s4)))
  | @pair a y z p q hT hp1 hp2 =>
    obtain ⟨q1, q2, rfl⟩ := len2 hn
    obtain ⟨u1, u2, rfl, hu1, hu2⟩ := paired_two hq
    refine s_cons (s_hd_ne 0 hT (s_nil ?_))
    refine s_cons <| s_if <| t_nil hu <| e_var 1 rfl ⟨b, _, [encP q1, encP q2], rfl, hL, .cons hu1.dp (.cons hu2.dp .nil), plain_pgs [q1, q2], fun H2 s2 => if_ne (by simp) (s_nil ?_)⟩
    refine s_one <| s_ret <| e_op op_catT <| e_tup <| a_cons <| e_at 0 0 (sqT_keep (keepT_of s2) hT) <| a_nil ⟨size_le (by show 1 ≤ 100000; decide), fun t ht => ?_⟩
    have s3 := s2.trans (same_new ht (.tup [.str "pair"]))
    refine e_callTy call_tuple_of rfl mt (by decide +kernel) <| a_cons <| e_var 1 rfl <| a_nil ⟨b, _, rfl, .inl ⟨s3.seq hL, fun t2 ht2 => ⟨t, t2, _, _, rfl, rfl, SqT.of ((same_new ht2 _) _ _ upd_same), SqT.of upd_same, by simp, size_le (by show 3 ≤ 100000; decide), fun h => absurd h (by simp), fun _ r hr => ?_⟩⟩⟩
    have s4 := s3.trans ((same_new ht2 (.tup [u1, u2])).trans (same_new hr (.tup [.str "pair", u1, u2])))
    exact k _ _ s4 (.pair (SqT.of upd_same) (hu1.mono (keepT_of s4)) (hu2.mono (keepT_of s4)))
  | @first a y p hT hp1 =>
    obtain ⟨q1, rfl⟩ := len1 hn
    obtain ⟨u1, rfl, hu1⟩ := paired_one hq
    refine s_cons (s_hd_ne 0 hT (s_nil ?_))
    refine s_cons <| s_if <| t_nil hu <| e_var 1 rfl ⟨b, _, [encP q1], rfl, hL, .cons hu1.dp .nil, plain_pgs [q1], fun H2 s2 => if_ne (by simp) (s_nil ?_)⟩
    refine s_one <| s_ret <| e_op op_catT <| e_tup <| a_cons <| e_at 0 0 (sqT_keep (keepT_of s2) hT) <| a_nil ⟨size_le (by show 1 ≤ 100000; decide), fun t ht => ?_⟩
    have s3 := s2.trans (same_new ht (.tup [.str "first"]))
    refine e_callTy call_tuple_of rfl mt (by decide +kernel) <| a_cons <| e_var 1 rfl <| a_nil ⟨b, _, rfl, .inl ⟨s3.seq hL, fun t2 ht2 => ⟨t, t2, _, _, rfl, rfl, SqT.of ((same_new ht2 _) _ _ upd_same), SqT.of upd_same, by simp, size_le (by show 2 ≤ 100000; decide), fun h => absurd h (by simp), fun _ r hr => ?_⟩⟩⟩
    have s4 := s3.trans ((same_new ht2 (.tup [u1])).trans (same_new hr (.tup [.str "first", u1])))
    exact k _ _ s4 (.first (SqT.of upd_same) (hu1.mono (keepT_of s4)))
  | @second a y p hT hp1 =>
    obtain ⟨q1, rfl⟩ := len1 hn
    obtain ⟨u1, rfl, hu1⟩ := paired_one hq
    refine s_cons (s_hd_ne 0 hT (s_nil ?_))
    refine s_cons <| s_if <| t_nil hu <| e_var 1 rfl ⟨b, _, [encP q1], rfl, hL, .cons hu1.dp .nil, plain_pgs [q1], fun H2 s2 => if_ne (by simp) (s_nil ?_)⟩
    refine s_one <| s_ret <| e_op op_catT <| e_tup <| a_cons <| e_at 0 0 (sqT_keep (keepT_of s2) hT) <| a_nil ⟨size_le (by show 1 ≤ 100000; decide), fun t ht => ?_⟩
    have s3 := s2.trans (same_new ht (.tup [.str "second"]))
    refine e_callTy call_tuple_of rfl mt (by decide +kernel) <| a_cons <| e_var 1 rfl <| a_nil ⟨b, _, rfl, .inl ⟨s3.seq hL, fun t2 ht2 => ⟨t, t2, _, _, rfl, rfl, SqT.of ((same_new ht2 _) _ _ upd_same), SqT.of upd_same, by simp, size_le (by show 2 ≤ 100000; decide), fun h => absurd h (by simp), fun _ r hr => ?_⟩⟩⟩
    have s4 := s3.trans ((same_new ht2 (.tup [u1])).trans (same_new hr (.tup [.str "second", u1])))
    exact k _ _ s4 (.second (SqT.of upd_same) (hu1.mono (keepT_of s4)))

def spWithPart (K : PySem.W.Frag) (n : Nat) : Sp := fun vs H Q _ => ∃ v p a l u q r, vs = [v, .ref a, u] ∧ PAt K H v p ∧ SqL K H a (nI l) ∧ PAt K H u r ∧ K23.atP p l = some q ∧ l.length < n ∧ ∀ u H', Same H H' → PAt K H' u (K23.withP p l r) → Q u H'
theorem scWithPart : FnScope ["program", "place", "part", "some"] ["program", "place", "part"] (defScope sWithPart) := ⟨rfl, rfl, rfl, by decide +kernel, rfl, by decide +kernel, by decide +kernel⟩
theorem cutL1 (x : V) (r : List V) : cutV (x :: r) (some 1) none = r := cut1 x r
theorem paired_set {α β : Type} {R : α → β → Prop} {x : α} {y : β} (r : R x y) : ∀ {xs : List α} {ys : List β} (i : Nat), Paired R xs ys → Paired R (xs.set i x) (ys.set i y)
  | _, _, _, .nil => .nil
  | _, _, 0, .cons _ t => .cons r t
  | _, _, i + 1, .cons q t => .cons q (paired_set r i t)
theorem ok_with_part {f fi fw : Addr} {fd fdi fdw : FuncData} (D : Def K mg "with_part" sWithPart ["program", "place", "part"] f fd) (Di : Def K mg "inner" sInner ["program"] fi fdi) (Gi : FnOk P w K mg base CX0 1 fi fdi ["program"] (spInner K))
    (Dw : Def K mg "with_inner" sWithInner ["program", "some"] fw fdw) (Gw : FnOk P w K mg base CX0 1 fw fdw ["program", "some"] (spWithInner K)) : ∀ n : Nat, FnOk P w K mg base CX0 (n + 2) f fd ["program", "place", "part"] (spWithPart K n)
  | 0 => none_left fun vs H Q E ⟨v, p, _, _, _, _, _, _, _, _, _, _, h, _⟩ => absurd h (by omega)
  | n + 1 => by
    have ih := ok_with_part D Di Gi Dw Gw n
    refine fun_ok D.F scWithPart (fun vs H Q E h => ?_) (fun cdv A outer s H vs Q E hr h => ?_)
    · obtain ⟨v, p, a, l, u, q, r, rfl, _⟩ := h; rfl
    obtain ⟨v, p, a, l, u, q, r, rfl, hp, hL, hu1, hat, hn, k⟩ := h
    have hu := room200 hr
    cases l with
    | nil =>
      refine s_cons <| s_if <| t_nil hu <| e_var 1 rfl ⟨a, _, [], rfl, hL, .nil, rfl, fun H2 s2 => if_eq rfl ?_⟩
      exact s_one (s_ret (e_var 2 rfl (k _ _ s2 (hu1.mono (keepT_of s2)))))
    | cons m l =>
      simp only [K23.atP] at hat
      cases e : (K23.inner p)[m]? with
      | none => rw [e] at hat; cases hat
      | some z =>
        rw [e] at hat
        have kw : K23.withP p (m :: l) r = K23.setP p ((K23.inner p).set m (K23.withP z l r)) := by simp only [K23.withP, e]
        rw [kw] at k
        refine s_cons <| s_if <| t_nil hu <| e_var 1 rfl ⟨a, _, nD (m :: l), rfl, hL, dp_ints _, plain_ints _, fun H2 s2 => if_ne (by unfold nD; simp) (s_nil ?_)⟩
        refine s_cons <| s_set 3 scWithPart.nd <| e_call Gi (hr.mono (by omega)) rfl Di.m Di.F.kp Di.b .nil pass0 <| a_cons <| e_var 0 rfl <| a_nil ⟨v, p, rfl, hp.mono (keepT_of s2), fun b xs H3 s3 hb hl hx => ?_⟩
        obtain ⟨y, hy1, hy2⟩ := paired_get' hx e
        have hml : m < xs.length := (List.getElem?_eq_some_iff.mp hy1).1
        have s23 := s2.trans s3
        have hLa : SqL K H3 a (nI (m :: l)) := s23.seq hL
        refine s_cons (s_asg (pg_sub pe_w pe_w set_list) ?_)
        refine e_call ih hr rfl D.m D.F.kp D.b .nil pass0 <| a_cons <| e_ix ix_list (fun _ _ => rfl) <| e_var 3 rfl <| e_atL 0 <| e_var 1 rfl ⟨a, _, rfl, hLa, _, rfl, b, xs, _, y, rfl, rfl, SqL.of hl, atI_nat hy1, ?_⟩
        refine a_cons <| e_slice sl_list <| e_var 1 rfl <| o_some <| e_int ⟨1, rfl, o_none ⟨a, nI (m :: l), rfl, hLa, fun c hc => ?_⟩⟩
        rw [show cutV (nI (m :: l)) (some 1) none = nI l from cut1 _ _]
        have s4 := same_new hc (.lst (nI l))
        have s24 := s23.trans s4
        refine a_cons <| e_var 2 rfl <| a_nil ⟨y, z, c, l, u, q, r, rfl, hy2.mono (keepT_of s4), SqL.of upd_same, hu1.mono (keepT_of s24), hat, by simp only [List.length_cons] at hn; omega, fun t H5 s5 ht => ?_⟩
        have s35 := s4.trans s5
        have s25 := s24.trans s5
        refine e_var 3 rfl <| e_atL 0 <| e_var 1 rfl ⟨a, _, rfl, s25.seq hL, _, rfl, ⟨b, xs, _, m, rfl, rfl, s35 _ _ hl, ?_, ?_⟩⟩
        · unfold ixN
          rw [if_pos (by omega), if_pos (by omega)]
          simp
        have hbn : H b = none := s2.free hb
        have s6 : Same H (upd H5 b (.lst (xs.set m t))) := Same.mut s25 hbn
        have kp : KeepT H5 (upd H5 b (.lst (xs.set m t))) := Exc.keepT (p := b) (fun c o q hb => by rw [upd_ne hb]; exact q) (not_tup_lst (s35 _ _ hl))
        refine s_one <| s_ret <| e_call Gw (hr.mono (by omega)) rfl Dw.m Dw.F.kp Dw.b .nil pass0 <| a_cons <| e_var 0 rfl <| a_cons <| e_var 3 rfl <| a_nil ⟨v, p, b, _, _, rfl, hp.mono (keepT_of s6), SqL.of upd_same, paired_set (ht.mono kp) m (paired_mono hx fun _ _ g => (g.mono (keepT_of s35)).mono kp), by rw [List.length_set], fun g H7 s7 hg => ?_⟩
        exact k g H7 (s6.trans s7) hg
end
end KW

namespace KW
open PySem PySem.Spec L2 PyProof.Rows
open K23 (Kd Pg encK encP)
abbrev sKnownAs : Stmt := top 15
abbrev sKindHere : Stmt := top 16
/-! ### known_as -/
def spKnownAs (K : PySem.W.Frag) : Sp := fun vs H Q _ => ∃ a xs l x kd, vs = [.ref a, .str x] ∧ SqL K H a xs ∧ Paired (NAt K H) xs l ∧ K23.lk l.reverse x = some kd ∧ ∀ u H', Same H H' → KAt K H' u kd → Q u H'
theorem scKnownAs : FnScope ["known", "name", "one", "kind"] ["known", "name"] (defScope sKnownAs) := ⟨rfl, rfl, rfl, by decide +kernel, rfl, by decide +kernel, by decide +kernel⟩
section
variable {P : Program} {w : World} {K : PySem.W.Frag} {mg : Str → Option Value} {base : Heap}
theorem ok_known_as {f : Addr} {fd : FuncData} (D : Def K mg "known_as" sKnownAs ["known", "name"] f fd) (mr : mg "reversed" = none) : FnOk P w K mg base CX0 1 f fd ["known", "name"] (spKnownAs K) := by
  refine fun_ok D.F scKnownAs (fun vs H Q E h => ?_) (fun cdv A outer s H vs Q E hr h => ?_)
  · obtain ⟨a, xs, l, x, kd, rfl, _⟩ := h; rfl
  obtain ⟨a, xs, l, x, kd, rfl, hL, hx, hk, k⟩ := h
  have hxl := hx.length
  refine s_cons <| s_for PassesOwn.never rfl (RT.pi_revA rfl mr (pv 0)) (pg_tup rfl (pgs_cons (pg_name (i := 2) scKnownAs.nd rfl (Or.inl rfl)) (pgs_cons (pg_name (i := 3) scKnownAs.nd rfl (Or.inl rfl)) pgs_nil))) ⟨_, rfl, a, xs, rfl, .inl ⟨hL, ?_⟩⟩
  refine for_it (walk_rev (K := K) (a := a) (xs := xs)) (fun i σ H1 => ∃ y z, σ = [some (.ref a), some (.str x), y, z] ∧ Same H H1 ∧ K23.lk (l.reverse.drop i) x = some kd) ⟨none, none, rfl, Same.refl H, hk⟩ (fun i σ H1 _ ⟨_, _, _, s1, _⟩ => s1.seq hL) ?_ ?_
  · rintro i v σ H1 _ hi ⟨y, z, rfl, s1, hk1⟩ ⟨rfl, hv⟩
    obtain ⟨q, hq, hn⟩ := paired_get hx hv
    obtain ⟨qx, qk⟩ := q
    cases hn with
    | @mk t _ ky _ hT hky =>
      have hrev : l.reverse[i]? = some (qx, qk) := by
        rw [List.getElem?_reverse (by omega)]
        rw [hxl] at hq
        exact hq
      obtain ⟨h1, h2⟩ := List.getElem?_eq_some_iff.mp hrev
      rw [List.drop_eq_getElem_cons h1, h2] at hk1
      refine ⟨t, _, rfl, sqT_keep (keepT_of s1) hT, rfl, _, _, rfl, _, _, rfl, rfl, ?_⟩
      refine s_one <| s_if <| t_cmp op_eq (nomark _) <| e_var 2 rfl <| e_var 1 rfl ⟨rfl, _, rfl, ?_⟩
      rw [dec_str]
      by_cases e : qx = x
      · subst e
        rw [show (qx == qx) = true from beq_self_eq_true _]
        refine iteT <| s_one <| s_ret <| e_var 3 rfl ?_
        simp only [K23.lk, if_true, Option.some.injEq] at hk1
        subst hk1
        exact k _ _ s1 (hky.mono (keepT_of s1))
      · rw [show (qx == x) = false from beq_eq_false_iff_ne.mpr e]
        refine iteF <| s_nil ?_
        simp only [K23.lk, if_neg e] at hk1
        exact ⟨_, _, rfl, s1, hk1⟩
  · rintro σ H1 ⟨y, z, rfl, s1, hk1⟩
    rw [List.drop_eq_nil_of_le (by rw [List.length_reverse]; omega)] at hk1
    cases hk1

/-! ### kind_here -/
/-- the kind by those of the parts -/
inductive TyH (l : List (Str × Kd)) : Pg → List Kd → Kd → Prop
  | name {x : Str} {k : Kd} : K23.lk l.reverse x = some k → TyH l (.name x) [] k
  | take {x : Str} {k B : Kd} {p : Pg} : TyH l (.take x k p) [B] (.to k B)
  | give {A B : Kd} {p q : Pg} : K23.deepK A ≤ 100 → TyH l (.give p q) [.to A B, A] B
  | pair {A B : Kd} {p q : Pg} : TyH l (.pair p q) [A, B] (.both A B)
  | first {A B : Kd} {p : Pg} : TyH l (.first p) [.both A B] A
  | second {A B : Kd} {p : Pg} : TyH l (.second p) [.both A B] B
  | thing : TyH l .thing [] .one
def spKindHere (K : PySem.W.Frag) : Sp := fun vs H Q _ => ∃ a xs l v p b ys Ks kd, vs = [.ref a, v, .ref b] ∧ SqL K H a xs ∧ Paired (NAt K H) xs l ∧ PAt K H v p ∧ SqL K H b ys ∧ Paired (KAt K H) ys Ks ∧ TyH l p Ks kd ∧ ∀ u H', Same H H' → KAt K H' u kd → Q u H'
theorem scKindHere : FnScope ["known", "program", "some", "word"] ["known", "program", "some"] (defScope sKindHere) := ⟨rfl, rfl, rfl, by decide +kernel, rfl, by decide +kernel, by decide +kernel⟩
end
section
variable {X : Cx} {σ : L2.St} {H : Hp} {Q : VK} {D : Ends} {A B : List Stmt}
theorem s_is_ne (i : Nat) {x w s : Str} {p1 p4 p5 p6 : Pos} {k'} (q : wS X B D σ H) (hs : σ[i]? = some (some (.str w)) := by rfl) (hN : X.N[i]? = some x := by rfl)
    (hv : Vis X.env.scope x := by first | exact Or.inl rfl | exact Or.inr (Or.inl rfl) | exact Or.inr (Or.inr rfl)) (hw : ¬ w = s := by decide +kernel) (hd : (x == ("__debug__" : Str)) = false := by decide) (hcd : (x == ("__classdict__" : Str)) = false := by decide) :
    w1 X (.If (.Compare (.Name x p1) [.Eq] [.Constant (.str s) k' p4] p5) A B p6) D σ H := s_if (t_str (e_var i hs ⟨rfl, if_ne hw q⟩ hN hv hd hcd))
theorem s_is_eq (i : Nat) {x w s : Str} {p1 p4 p5 p6 : Pos} {k'} (q : wS X A D σ H) (hs : σ[i]? = some (some (.str w)) := by rfl) (hN : X.N[i]? = some x := by rfl)
    (hv : Vis X.env.scope x := by first | exact Or.inl rfl | exact Or.inr (Or.inl rfl) | exact Or.inr (Or.inr rfl)) (hw : w = s := by rfl) (hd : (x == ("__debug__" : Str)) = false := by decide) (hcd : (x == ("__classdict__" : Str)) = false := by decide) :
    w1 X (.If (.Compare (.Name x p1) [.Eq] [.Constant (.str s) k' p4] p5) A B p6) D σ H := s_if (t_str (e_var i hs ⟨rfl, if_eq hw q⟩ hN hv hd hcd))
end
theorem depthK {k j : Kd} (h : K23.deepK k ≤ 100) : min (encK k).depth (encK j).depth ≤ 200 := by
  have h1 := K23.depth_encK k
  have := Nat.min_le_left (encK k).depth (encK j).depth
  omega
section
variable {P : Program} {w : World} {K : PySem.W.Frag} {mg : Str → Option Value} {base : Heap}
theorem ok_kind_here {f fk one : Addr} {fd fdk : FuncData} (D : Def K mg "kind_here" sKindHere ["known", "program", "some"] f fd) (Dk : Def K mg "known_as" sKnownAs ["known", "name"] fk fdk) (Gk : FnOk P w K mg base CX0 1 fk fdk ["known", "name"] (spKnownAs K))
    (m1 : mg "ONE" = some (.ref one)) (h1 : ∀ H, SqT K H one [.str "one"]) (mi : mg "int" = none) : FnOk P w K mg base CX0 2 f fd ["known", "program", "some"] (spKindHere K) := by
  refine fun_ok D.F scKindHere (fun vs H Q E h => ?_) (fun cdv A outer s H vs Q E hr h => ?_)
  · obtain ⟨a, xs, l, v, p, b, ys, Ks, kd, rfl, _⟩ := h; rfl
  obtain ⟨a, xs, l, v, p, b, ys, Ks, kd, rfl, hL, hx, hp, hB, hy, ht, k⟩ := h
  have hu := room200 hr
  cases hp with
  | @name c x hT =>
    cases ht with
    | name e =>
      refine s_cons <| s_set 3 scKindHere.nd <| e_at 1 0 hT <| s_cons <| s_is_eq 3 <| s_one <| s_ret ?_
      exact e_call Gk (hr.mono (by omega)) rfl Dk.m Dk.F.kp Dk.b .nil pass0 <| a_cons <| e_var 0 rfl <| a_cons <| e_at 1 1 hT <| a_nil ⟨a, xs, l, x, kd, rfl, hL, hx, e, k⟩
  | @take c x y z kd p hT hk hp =>
    cases ht with
    | @take _ _ B _ =>
      obtain ⟨u, rfl, hu1⟩ := paired_one hy
      refine s_cons <| s_set 3 scKindHere.nd <| e_at 1 0 hT ?_
      refine s_cons <| s_is_ne 3 <| s_nil <| s_cons <| s_is_eq 3 <| s_one <| s_ret ?_
      refine e_tup <| a_cons <| e_str <| a_cons <| e_at 1 2 hT <| a_cons <| e_atL 0 <| e_var 2 rfl ⟨b, _, rfl, hB, _, rfl, a_nil ⟨size_le (by show 3 ≤ 100000; decide), fun t ht => ?_⟩⟩
      have s1 := same_new ht (.tup [.str "to", y, u])
      exact k _ _ s1 (.to (SqT.of upd_same) (hk.mono (keepT_of s1)) (hu1.mono (keepT_of s1)))
  | @pair c y z p q hT hp hq =>
    cases ht with
    | pair =>
      obtain ⟨u1, u2, rfl, hu1, hu2⟩ := paired_two hy
      refine s_cons <| s_set 3 scKindHere.nd <| e_at 1 0 hT ?_
      refine s_cons <| s_is_ne 3 <| s_nil <| s_cons <| s_is_ne 3 <| s_nil <| s_cons <| s_is_eq 3 <| s_one <| s_ret ?_
      refine e_tup <| a_cons <| e_str <| a_cons <| e_atL 0 <| e_var 2 rfl ⟨b, _, rfl, hB, _, rfl, a_cons <| e_atL 1 <| e_var 2 rfl ⟨b, _, rfl, hB, _, rfl, a_nil ⟨size_le (by show 3 ≤ 100000; decide), fun t ht => ?_⟩⟩⟩
      have s1 := same_new ht (.tup [.str "both", u1, u2])
      exact k _ _ s1 (.both (SqT.of upd_same) (hu1.mono (keepT_of s1)) (hu2.mono (keepT_of s1)))
  | @thing c hT =>
    cases ht with
    | thing =>
      refine s_cons <| s_set 3 scKindHere.nd <| e_at 1 0 hT ?_
      refine s_cons <| s_is_ne 3 <| s_nil <| s_cons <| s_is_ne 3 <| s_nil <| s_cons <| s_is_ne 3 <| s_nil <| s_cons <| s_is_eq 3 <| s_one <| s_ret ?_
      exact e_glob rfl m1 (v := .ref one) rfl (k _ _ (Same.refl H) (.one (h1 H)))
  | @give c y z p q hT hp hq =>
    cases ht with
    | give hA =>
      obtain ⟨u1, u2, rfl, hu1, hu2⟩ := paired_two hy
      cases hu1 with
      | @to d ya yb _ _ hd hya hyb =>
        refine s_cons <| s_set 3 scKindHere.nd <| e_at 1 0 hT ?_
        refine s_cons <| s_is_ne 3 <| s_nil <| s_cons <| s_is_ne 3 <| s_nil <| s_cons <| s_is_ne 3 <| s_nil <| s_cons <| s_is_ne 3 <| s_nil <| s_cons <| s_is_ne 3 <| s_nil <| s_cons <| s_is_eq 3 <| s_cons <| s_if <| t_and2 <|
          t_str <| e_atE 0 <| e_atL 0 <| e_var 2 rfl ⟨b, _, rfl, hB, _, rfl, d, _, rfl, hd, _, rfl, rfl, if_eq rfl ?_⟩
        refine t_cmp (op_eqP (n := 200) hu) (nomark _) <| e_atE 1 <| e_atL 0 <| e_var 2 rfl ⟨b, _, rfl, hB, _, rfl, d, _, rfl, hd, _, rfl, e_atL 1 <| e_var 2 rfl ⟨b, _, rfl, hB, _, rfl, _, _, hya.dp, hu2.dp, K23.plain_encK _, K23.plain_encK _, ?_, _, rfl, ?_⟩⟩
        · exact depthK hA
        rw [K23.eqv_encK]
        refine if_eq rfl <| s_one <| s_ret <| e_atE 2 <| e_atL 0 <| e_var 2 rfl ⟨b, _, rfl, hB, _, rfl, d, _, rfl, hd, _, rfl, k _ _ (Same.refl H) hyb⟩
  | @first c y p hT hp =>
    cases ht with
    | first =>
      obtain ⟨u, rfl, hu1⟩ := paired_one hy
      cases hu1 with
      | @both d ya yb _ _ hd hya hyb =>
        refine s_cons <| s_set 3 scKindHere.nd <| e_at 1 0 hT ?_
        refine s_cons <| s_is_ne 3 <| s_nil <| s_cons <| s_is_ne 3 <| s_nil <| s_cons <| s_is_ne 3 <| s_nil <| s_cons <| s_is_ne 3 <| s_nil <| s_cons <| s_is_ne 3 <| s_nil <| s_cons <| s_is_ne 3 <| s_nil ?_
        refine s_cons <| s_if <| t_strN <| e_atE 0 <| e_atL 0 <| e_var 2 rfl ⟨b, _, rfl, hB, _, rfl, d, _, rfl, hd, _, rfl, rfl, ifn_eq rfl <| s_nil ?_⟩
        refine s_one <| s_ret <| e_ix ix_tup (fun _ _ => rfl) <| e_atL 0 <| e_var 2 rfl ⟨b, _, rfl, hB, _, rfl, e_op op_add <| e_int <| e_callTy call_int1 rfl mi (by decide +kernel) <| a_cons <| e_str_eq <| e_var 3 rfl ⟨rfl, a_nil (.inr ⟨_, rfl, _, _, rfl, rfl, d, _, _, ya, rfl, rfl, hd, ?_, k _ _ (Same.refl H) hya⟩)⟩⟩
        rw [decide_eq_false (by decide +kernel)]
        rfl
  | @second c y p hT hp =>
    cases ht with
    | second =>
      obtain ⟨u, rfl, hu1⟩ := paired_one hy
      cases hu1 with
      | @both d ya yb _ _ hd hya hyb =>
        refine s_cons <| s_set 3 scKindHere.nd <| e_at 1 0 hT ?_
        refine s_cons <| s_is_ne 3 <| s_nil <| s_cons <| s_is_ne 3 <| s_nil <| s_cons <| s_is_ne 3 <| s_nil <| s_cons <| s_is_ne 3 <| s_nil <| s_cons <| s_is_ne 3 <| s_nil <| s_cons <| s_is_ne 3 <| s_nil ?_
        refine s_cons <| s_if <| t_strN <| e_atE 0 <| e_atL 0 <| e_var 2 rfl ⟨b, _, rfl, hB, _, rfl, d, _, rfl, hd, _, rfl, rfl, ifn_eq rfl <| s_nil ?_⟩
        refine s_one <| s_ret <| e_ix ix_tup (fun _ _ => rfl) <| e_atL 0 <| e_var 2 rfl ⟨b, _, rfl, hB, _, rfl, e_op op_add <| e_int <| e_callTy call_int1 rfl mi (by decide +kernel) <| a_cons <| e_str_eq <| e_var 3 rfl ⟨rfl, a_nil (.inr ⟨_, rfl, _, _, rfl, rfl, d, _, _, yb, rfl, rfl, hd, ?_, k _ _ (Same.refl H) hyb⟩)⟩⟩
        rw [decide_eq_true rfl]
        rfl
end
end KW

namespace KW
open PySem PySem.Spec L2 PyProof.Rows
open K23 (Kd Pg encK encP)
abbrev sKindWithin : Stmt := top 17
abbrev sKindOf : Stmt := top 18
/-! ### kind_within, kind_of -/
inductive TyP : List (Str × Kd) → Pg → Kd → Prop
  | name {l : List (Str × Kd)} {x : Str} {k : Kd} : K23.lk l.reverse x = some k → TyP l (.name x) k
  | take {l : List (Str × Kd)} {x : Str} {k B : Kd} {p : Pg} : TyP (l ++ [(x, k)]) p B → TyP l (.take x k p) (.to k B)
  | give {l : List (Str × Kd)} {A B : Kd} {p q : Pg} : K23.deepK A ≤ 100 → TyP l p (.to A B) → TyP l q A → TyP l (.give p q) B
  | pair {l : List (Str × Kd)} {A B : Kd} {p q : Pg} : TyP l p A → TyP l q B → TyP l (.pair p q) (.both A B)
  | first {l : List (Str × Kd)} {A B : Kd} {p : Pg} : TyP l p (.both A B) → TyP l (.first p) A
  | second {l : List (Str × Kd)} {A B : Kd} {p : Pg} : TyP l p (.both A B) → TyP l (.second p) B
  | thing {l : List (Str × Kd)} : TyP l .thing .one
def kl (l : List (Str × Kd)) : Pg → List (Str × Kd)
  | .take x k _ => l ++ [(x, k)]
  | _ => l
theorem TyP.view {l : List (Str × Kd)} {p : Pg} {k : Kd} (h : TyP l p k) : ∃ Ks : List Kd, Ks.length = (K23.inner p).length ∧ (∀ (j : Nat) (q : Pg), (K23.inner p)[j]? = some q → ∃ kj, Ks[j]? = some kj ∧ TyP (kl l p) q kj) ∧ TyH (kl l p) p Ks k := by
  cases h with
  | name h => exact ⟨[], rfl, fun j q e => by simp [K23.inner] at e, .name h⟩
  | thing => exact ⟨[], rfl, fun j q e => by simp [K23.inner] at e, .thing⟩
  | @take _ x k B p h =>
    refine ⟨[B], rfl, fun j q e => ?_, .take⟩
    match j, e with
    | 0, e => simp [K23.inner] at e; subst e; exact ⟨B, rfl, h⟩
    | j + 1, e => simp [K23.inner] at e
  | @first _ A B p h =>
    refine ⟨[.both k B], rfl, fun j q e => ?_, .first⟩
    match j, e with
    | 0, e => simp [K23.inner] at e; subst e; exact ⟨_, rfl, h⟩
    | j + 1, e => simp [K23.inner] at e
  | @second _ A B p h =>
    refine ⟨[.both A k], rfl, fun j q e => ?_, .second⟩
    match j, e with
    | 0, e => simp [K23.inner] at e; subst e; exact ⟨_, rfl, h⟩
    | j + 1, e => simp [K23.inner] at e
  | give hA h1 h2 =>
    refine ⟨[_, _], rfl, fun j q e => ?_, .give hA⟩
    match j, e with
    | 0, e => simp [K23.inner] at e; subst e; exact ⟨_, rfl, h1⟩
    | 1, e => simp [K23.inner] at e; subst e; exact ⟨_, rfl, h2⟩
    | j + 2, e => simp [K23.inner] at e
  | pair h1 h2 =>
    refine ⟨[_, _], rfl, fun j q e => ?_, .pair⟩
    match j, e with
    | 0, e => simp [K23.inner] at e; subst e; exact ⟨_, rfl, h1⟩
    | 1, e => simp [K23.inner] at e; subst e; exact ⟨_, rfl, h2⟩
    | j + 2, e => simp [K23.inner] at e
theorem paired_of {α β : Type} {R : α → β → Prop} : ∀ {xs : List α} {ys : List β}, xs.length = ys.length → (∀ (j : Nat) (x : α), xs[j]? = some x → ∃ y, ys[j]? = some y ∧ R x y) → Paired R xs ys
  | [], [], _, _ => .nil
  | x :: xs, y :: ys, hl, h => by
    obtain ⟨y', h1, h2⟩ := h 0 x rfl
    obtain rfl : y = y' := by simpa using h1
    exact .cons h2 (paired_of (by simpa using hl) fun j z e => by
      obtain ⟨y'', g1, g2⟩ := h (j + 1) z (by simpa using e)
      exact ⟨y'', by simpa using g1, g2⟩)
def spKindWithin (K : PySem.W.Frag) (n : Nat) : Sp := fun vs H Q _ => ∃ a xs l v p c zs kd, vs = [.ref a, v, .ref c] ∧ H a = some (.lst xs) ∧ Paired (NAt K H) xs l ∧ PAt K H v p ∧ H c = some (.lst zs) ∧ xs.length + zs.length + 2 * K23.deepP p ≤ 1000 ∧ K23.deepP p < n ∧ TyP l p kd ∧
  ∀ u H', Same H H' → KAt K H' u kd → Q u H'
theorem scKindWithin : FnScope ["known", "program", "place", "some", "found", "k", "part"] ["known", "program", "place"] (defScope sKindWithin) := ⟨rfl, rfl, rfl, by decide +kernel, rfl, by decide +kernel, by decide +kernel⟩
section
variable {P : Program} {w : World} {K : PySem.W.Frag} {mg : Str → Option Value} {base : Heap}
theorem ok_kind_within {f fi fh : Addr} {fd fdi fdh : FuncData} (D : Def K mg "kind_within" sKindWithin ["known", "program", "place"] f fd) (Di : Def K mg "inner" sInner ["program"] fi fdi) (Gi : FnOk P w K mg base CX0 1 fi fdi ["program"] (spInner K))
    (Dh : Def K mg "kind_here" sKindHere ["known", "program", "some"] fh fdh) (Gh : FnOk P w K mg base CX0 2 fh fdh ["known", "program", "some"] (spKindHere K)) (me : mg "enumerate" = none) : ∀ n : Nat, FnOk P w K mg base CX0 (n + 3) f fd ["known", "program", "place"] (spKindWithin K n)
  | 0 => none_left fun vs H Q E ⟨_, _, _, _, _, _, _, _, _, _, _, _, _, _, h, _⟩ => absurd h (by omega)
  | n + 1 => by
    have ih := ok_kind_within D Di Gi Dh Gh me n
    refine fun_ok D.F scKindWithin (fun vs H Q E h => ?_) (fun cdv A outer s H vs Q E hr h => ?_)
    · obtain ⟨a, xs, l, v, p, c, zs, kd, rfl, _⟩ := h; rfl
    obtain ⟨a, xs, l, v, p, c, zs, kd, rfl, hL, hx, hp, hC, hz, hd, ht, k⟩ := h
    obtain ⟨Ks, hKl, hKs, hH⟩ := ht.view
    refine s_seq (fun σ' H1 => ∃ b ys, σ' = [some (.ref b), some v, some (.ref c), none, none, none, none] ∧ Same H H1 ∧ H1 b = some (.lst ys) ∧ ys.length ≤ xs.length + 1 ∧ Paired (NAt K H1) ys (kl l p)) (s_if ?_) ?_
    · cases hp with
      | @take d x y z kx q hT hk hq =>
        refine t_hd 1 hT <| if_eq rfl ?_
        refine s_one <| s_set 0 scKindWithin.nd <| e_op op_cat <| e_var 0 rfl <| e_lst <| a_cons <| e_tup <| a_cons <| e_at 1 1 hT <| a_cons <| e_at 1 2 hT <| a_nil ⟨size_le (by show 2 ≤ 100000; decide), fun t ht => a_nil ⟨size_le (by show 1 ≤ 100000; decide), fun u hu => ?_⟩⟩
        have s2 := (same_new ht (.tup [.str x, y])).trans (same_new hu (.lst [.ref t]))
        refine ⟨a, u, xs, [.ref t], rfl, rfl, s2 _ _ hL, upd_same, size_le (by simp only [List.length_singleton]; omega), fun b hb => ?_⟩
        have s3 := s2.trans (same_new hb (.lst (xs ++ [.ref t])))
        refine ⟨b, _, rfl, s3, upd_same, by simp, paired_append (paired_mono hx fun _ _ g => g.mono (keepT_of s3)) (.cons (.mk (SqT.of ?_) (hk.mono (keepT_of s3))) .nil)⟩
        exact (same_new hb _) _ _ ((same_new hu _) _ _ upd_same)
      | @name d x hT => exact t_hd 1 hT <| if_ne (by decide +kernel) <| s_nil ⟨a, xs, rfl, Same.refl H, hL, by omega, hx⟩
      | @thing d hT => exact t_hd 1 hT <| if_ne (by decide +kernel) <| s_nil ⟨a, xs, rfl, Same.refl H, hL, by omega, hx⟩
      | @give d y z p q hT _ _ => exact t_hd 1 hT <| if_ne (by decide +kernel) <| s_nil ⟨a, xs, rfl, Same.refl H, hL, by omega, hx⟩
      | @pair d y z p q hT _ _ => exact t_hd 1 hT <| if_ne (by decide +kernel) <| s_nil ⟨a, xs, rfl, Same.refl H, hL, by omega, hx⟩
      | @first d y p hT _ => exact t_hd 1 hT <| if_ne (by decide +kernel) <| s_nil ⟨a, xs, rfl, Same.refl H, hL, by omega, hx⟩
      | @second d y p hT _ => exact t_hd 1 hT <| if_ne (by decide +kernel) <| s_nil ⟨a, xs, rfl, Same.refl H, hL, by omega, hx⟩
    rintro σ' H1 ⟨b, ys, rfl, s1, hB, hyl, hy⟩
    have hN := scKindWithin.nd
    refine s_cons <| s_setLc 3 (own := [("k", 5), ("part", 6)]) (g := gTup K 2 (gCons (gName 5) (gCons (gName 6) gNil))) (tt := tYes) rfl hN (sw_true rfl rfl rfl (by decide +kernel)) (pi_enum rfl me pa_w) (blkOk_by (N := ["known", "program", "place", "some", "found", "k", "part"]) (sc := defScope sKindWithin) (by decide +kernel))
      (fun _ _ _ _ _ => pg_tup rfl (pgs_cons (pg_name (i := 5) hN rfl (Or.inl rfl)) (pgs_cons (pg_name (i := 6) hN rfl (Or.inl rfl)) pgs_nil))) (fun _ _ _ _ _ => pts_nil) ?_
    refine a_cons <| e_call Gi (hr.mono (by omega)) rfl Di.m Di.F.kp Di.b .nil pass0 <| a_cons <| e_var 1 rfl <| a_nil ⟨v, p, rfl, hp.mono (keepT_of s1), fun r qs H2 s2 hr0 hl hq => a_nil ⟨r, qs, rfl, SqL.of hl, ?_⟩⟩
    have hql := hq.length
    have hil := inner_le p
    refine lc_map (walk_enum (K := K) (a := r) (xs := qs)) (fun j y H => ∃ kj, Ks[j]? = some kj ∧ KAt K H y kj) (fun j y H H' ⟨kj, h1, h2⟩ kp => ⟨kj, h1, h2.mono kp⟩) (by omega) (fun H3 s3 => s3.seq (SqL.of hl)) ?_ ?_
    · rintro i x H3 H4 hi s3 ⟨T, x1, y1, rfl, hT, rfl, hx1, hy1⟩ Post post
      have hx1 : x1 = .int (i : Nat) := (Option.some.inj hx1).symm
      subst hx1
      obtain ⟨q, hq1, hq2⟩ := paired_get hq hy1
      obtain ⟨kj, hk1, hk2⟩ := hKs i q hq1
      have hdq := inner_deep hq1
      refine ⟨T, _, rfl, SqT.of upd_same, rfl, _, _, rfl, _, _, rfl, rfl, rfl, fun s0 H0 C cl fp => ?_⟩
      have s4 := s3.trans (same_new hT (.tup [.int (i : Nat), y1]))
      have s24 := s2.trans s4
      refine e_call ih hr rfl D.m D.F.kp D.b .nil pass0 <| a_cons <| e_var 0 rfl <| a_cons <| e_var 6 rfl <| a_cons <| e_op op_cat <| e_var 2 rfl <| e_lst <| a_cons <| e_var 5 rfl <| a_nil ⟨size_le (by show 1 ≤ 100000; decide), fun u hu => ?_⟩
      have s5 := same_new hu (.lst [.int (i : Nat)])
      refine ⟨c, u, zs, _, rfl, rfl, s5 _ _ (s24 _ _ (s1 _ _ hC)), upd_same, size_le (by simp only [List.length_singleton]; omega), fun g hg => a_nil ?_⟩
      have s6 := s5.trans (same_new hg (.lst (zs ++ [.int (i : Nat)])))
      have s26 := s24.trans s6
      refine ⟨b, ys, kl l p, y1, q, g, _, kj, rfl, s26 _ _ hB, paired_mono hy fun _ _ t => t.mono (keepT_of s26), hq2.mono (keepT_of (s4.trans s6)), upd_same, by rw [List.length_append, List.length_singleton]; omega, by omega, hk2, fun t H7 s7 hk7 => ?_⟩
      exact post t H7 ((same_new hT _).trans (s6.trans s7)) ⟨kj, hk1, hk7⟩
    · intro D' acc H3 s3 hD hacc hlen hall
      have s13 := s2.trans s3
      have s03 := s1.trans s13
      have hpk : Paired (KAt K H3) acc Ks := paired_of (by rw [hlen, hql, hKl]) hall
      refine s_cons <| s_set 4 scKindWithin.nd <| e_call Gh (hr.mono (by omega)) rfl Dh.m Dh.F.kp Dh.b .nil pass0 <| a_cons <| e_var 0 rfl <| a_cons <| e_var 1 rfl <| a_cons <| e_var 3 rfl <| a_nil ⟨b, ys, kl l p, v, p, D', acc, Ks, kd, rfl, SqL.of (s13 _ _ hB), paired_mono hy fun _ _ t => t.mono (keepT_of s13), hp.mono (keepT_of s03), SqL.of hacc, hpk, hH, fun u H4 s4 hu => ?_⟩
      obtain ⟨ad, _, eu, _⟩ := hu.head
      refine s_cons <| s_if <| t_isN <| e_var 4 rfl <| if_ne (by rw [eu]; intro z; cases z) <| s_nil ?_
      exact s_one <| s_ret <| e_var 4 rfl (k u H4 (s03.trans s4) hu)

def spKindOf (K : PySem.W.Frag) (n : Nat) : Sp := fun vs H Q _ => ∃ a xs l v p kd, vs = [.ref a, v] ∧ SqL K H a xs ∧ Paired (NAt K H) xs l ∧ PAt K H v p ∧ xs.length + 2 * K23.deepP p ≤ 1000 ∧ K23.deepP p < n ∧ TyP l p kd ∧ ∀ u H', Same H H' → KAt K H' u kd → Q u H'
theorem scKindOf : FnScope ["row", "program"] ["row", "program"] (defScope sKindOf) := ⟨rfl, rfl, rfl, by decide +kernel, rfl, by decide +kernel, by decide +kernel⟩
theorem ok_kind_of {f fw : Addr} {fd fdw : FuncData} {n : Nat} (D : Def K mg "kind_of" sKindOf ["row", "program"] f fd) (Dw : Def K mg "kind_within" sKindWithin ["known", "program", "place"] fw fdw) (Gw : FnOk P w K mg base CX0 (n + 3) fw fdw ["known", "program", "place"] (spKindWithin K n)) (ml : mg "list" = none) :
    FnOk P w K mg base CX0 (n + 4) f fd ["row", "program"] (spKindOf K n) := by
  refine fun_ok D.F scKindOf (fun vs H Q E h => ?_) (fun cdv A outer s H vs Q E hr h => ?_)
  · obtain ⟨a, xs, l, v, p, kd, rfl, _⟩ := h; rfl
  obtain ⟨a, xs, l, v, p, kd, rfl, hL, hx, hp, hz, hd, ht, k⟩ := h
  refine s_one <| s_ret <| e_call Gw hr rfl Dw.m Dw.F.kp Dw.b .nil pass0 <| a_cons <| e_callTy call_list_of rfl ml (by decide +kernel) <| a_cons <| e_var 0 rfl <| a_nil ⟨a, xs, rfl, .inl hL, fun b hb => a_cons <| e_var 1 rfl <| a_cons <| e_lst <| a_nil ⟨size_le (by show 0 ≤ 100000; decide), fun c hc => a_nil ?_⟩⟩
  have s1 := (same_new hb (.lst xs)).trans (same_new hc (.lst []))
  exact ⟨b, xs, l, v, p, c, [], kd, rfl, (same_new hc _) _ _ upd_same, paired_mono hx fun _ _ g => g.mono (keepT_of s1), hp.mono (keepT_of s1), upd_same, by simpa using hz, hd, ht, fun u H' s2 hu => k u H' (s1.trans s2) hu⟩
end
end KW

namespace KW
open PySem PySem.Spec L2 PyProof.Rows
open K23 (Kd Pg encK encP)
abbrev sTidiedWithin : Stmt := top 19
abbrev sTidied : Stmt := top 20
/-! ### tidied_within, tidied -/
/-- 'x' + str(k) -/
theorem log_small {k : Nat} (h : k ≤ 1000) : ((k : Nat) : Int).natAbs.log2 < 1920 := by
  have := Nat.log2_le_self ((k : Nat) : Int).natAbs
  simp only [Int.natAbs_natCast] at *
  omega
theorem e_num {X : Cx} {σ : L2.St} {H : Hp} {Q : VK} {s : Str} {e : Expr} {p1 p2 p3 p4 : Pos} {j} (hs : s.length ≤ 10) (hg : Gl X "str") (hm : X.mg "str" = none) (h : wE X e σ H fun v H1 => ∃ k : Nat, v = .int (k : Int) ∧ k ≤ 1000 ∧ Q (.str (s ++ Str.ofString (toString (k : Int)))) H1)
    (he : starEach [e] X.env = (false, eval e X.env) :: starEach [] X.env := by rfl) : wE X (.BinOp (.Constant (.str s) j p1) .Add (.Call (.Name "str" p2) [e] [] p3) p4) σ H Q :=
  e_op op_add_str <| e_str <| e_callTy call_str_int hg hm (by decide +kernel) (a_cons (h.imp fun v H1 ⟨k, e, hk, q⟩ => by
    subst e
    refine a_nil ⟨_, rfl, log_small hk, _, _, rfl, rfl, ?_, q⟩
    have := int_text_len_1921 (i := (k : Int)) (log_small hk)
    exact size_le (by omega)) he) (he := he)
def spTidW (K : PySem.W.Frag) (n : Nat) : Sp := fun vs H Q _ => ∃ (v : V) (p : Pg) (a : Addr) (ts : List Str), vs = [v, .ref a] ∧ PAt K H v p ∧ H a = some (.lst (ts.map V.str)) ∧ ts.length + K23.deepP p ≤ 900 ∧ K23.deepP p < n ∧ ∀ u H', Same H H' → PAt K H' u (K23.nm ts.length (K23.db ts.reverse p)) → Q u H'
theorem scTidW : FnScope ["program", "taken", "k", "body", "part"] ["program", "taken"] (defScope sTidiedWithin) := ⟨rfl, rfl, rfl, by decide +kernel, rfl, by decide +kernel, by decide +kernel⟩
theorem map_str_get {ts : List Str} {i : Nat} {y : V} (h : (ts.map V.str)[i]? = some y) : ∃ x, ts[i]? = some x ∧ y = .str x := by
  rw [List.getElem?_map] at h
  cases e : ts[i]? with
  | none => rw [e] at h; cases h
  | some x => rw [e] at h; exact ⟨x, rfl, (Option.some.inj h).symm⟩
theorem len_x : (Str.ofString "x").length ≤ 10 := by decide +kernel
theorem len_e : (Str.ofString "e").length ≤ 10 := by decide +kernel
section
variable {P : Program} {w : World} {K : PySem.W.Frag} {mg : Str → Option Value} {base : Heap}
theorem ok_tidW {f fi fw : Addr} {fd fdi fdw : FuncData} (D : Def K mg "tidied_within" sTidiedWithin ["program", "taken"] f fd) (Di : Def K mg "inner" sInner ["program"] fi fdi) (Gi : FnOk P w K mg base CX0 1 fi fdi ["program"] (spInner K))
    (Dw : Def K mg "with_inner" sWithInner ["program", "some"] fw fdw) (Gw : FnOk P w K mg base CX0 1 fw fdw ["program", "some"] (spWithInner K)) (mv : mg "reversed" = none) (mr : mg "range" = none) (ml : mg "len" = none) (ms : mg "str" = none) :
    ∀ n : Nat, FnOk P w K mg base CX0 (n + 2) f fd ["program", "taken"] (spTidW K n)
  | 0 => none_left fun vs H Q E ⟨_, _, _, _, _, _, _, _, h, _⟩ => absurd h (by omega)
  | n + 1 => by
    have ih := ok_tidW D Di Gi Dw Gw mv mr ml ms n
    have hN := scTidW.nd
    refine fun_ok D.F scTidW (fun vs H Q E h => ?_) (fun cdv A outer s H vs Q E hr h => ?_)
    · obtain ⟨v, p, a, ts, rfl, _⟩ := h; rfl
    obtain ⟨v, p, a, ts, rfl, hp, hL, hz, hd, k⟩ := h
    have comp : (∀ kx, K23.wd p = kx → ¬ kx = "name" ∧ ¬ kx = "take") → (K23.setP p ((K23.inner p).map fun q => K23.nm ts.length (K23.db ts.reverse q)) = K23.nm ts.length (K23.db ts.reverse p)) →
        wS (cxOf CX0 P w K mg base ["program", "taken", "k", "body", "part"] "tidied_within" (defScope sTidiedWithin) f cdv A outer s H E).nox (defBody sTidiedWithin) { nx := fun _ H' => Q .non H', rt := Q } (start ["program", "taken", "k", "body", "part"] [v, .ref a]) H := by
      intro hw hset
      obtain ⟨c, rest, rfl, hT⟩ := hp.head
      obtain ⟨w1', w2'⟩ := hw _ rfl
      refine s_cons <| s_if <| t_hd 0 hT <| if_ne w1' <| s_nil <| s_cons <| s_if <| t_hd 0 hT <| if_ne w2' <| s_nil ?_
      refine s_one <| s_ret <| e_call Gw (hr.mono (by omega)) rfl Dw.m Dw.F.kp Dw.b .nil pass0 <| a_cons <| e_var 0 rfl <| a_cons ?_
      refine e_map 4 (fun j y H => ∃ q, (K23.inner p)[j]? = some q ∧ PAt K H y (K23.nm ts.length (K23.db ts.reverse q))) (fun j y H H' ⟨q, h1, h2⟩ kp => ⟨q, h1, h2.mono kp⟩) rfl hN (blkOk_by (N := ["program", "taken", "k", "body", "part"]) (sc := defScope sTidiedWithin) (by decide +kernel)) (fun _ _ _ _ _ => pg_name (i := 4) hN rfl (Or.inl rfl)) ?_
      refine e_call Gi (hr.mono (by omega)) rfl Di.m Di.F.kp Di.b .nil pass0 <| a_cons <| e_var 0 rfl <| a_nil ⟨_, p, rfl, hp, fun r xs H1 s1 _ hl hq => ⟨r, xs, rfl, SqL.of hl, ?_, fun j y H2 hy s2 => ?_, fun D' acc H2 s2 hD hacc hlen hall => a_nil ?_⟩⟩
      · have := hq.length; have := inner_le p; omega
      · intro s0 H0 C cl fp
        obtain ⟨q, hq1, hq2⟩ := paired_get hq hy
        have hdq := inner_deep hq1
        refine e_call ih hr rfl D.m D.F.kp D.b .nil pass0 <| a_cons <| e_var 4 rfl <| a_cons <| e_var 1 rfl <| a_nil ⟨y, q, a, ts, rfl, hq2.mono (keepT_of s2), s2 _ _ (s1 _ _ hL), by omega, by omega, fun u H3 s3 hu => ⟨s3, q, hq1, hu⟩⟩
      · have s02 := s1.trans s2
        have hpk : Paired (PAt K H2) acc ((K23.inner p).map fun q => K23.nm ts.length (K23.db ts.reverse q)) := paired_of (by rw [hlen, List.length_map]; exact hq.length) fun j y hy => by
          obtain ⟨q, h1, h2⟩ := hall j y hy
          exact ⟨_, by rw [List.getElem?_map, h1]; rfl, h2⟩
        refine ⟨_, p, D', acc, _, rfl, hp.mono (keepT_of s02), SqL.of hacc, hpk, by rw [List.length_map], fun u H3 s3 hu => ?_⟩
        rw [hset] at hu
        exact k u H3 (s02.trans s3) hu
    cases hp with
    | @name c x hT =>
      have hnl : (ts.map V.str).length = ts.length := List.length_map _
      refine s_cons <| s_hd_eq 0 hT ?_
      refine s_cons <| s_for PassesOwn.never rfl (pi_revR rfl mv (prg_1 rfl mr pe_w)) (pg_name (i := 2) hN rfl (Or.inl rfl)) ?_
      refine e_callB call_len_seq rfl ml PySem.boot_len <| a_cons <| e_var 1 rfl <| a_nil ⟨a, _, rfl, .inl (SqL.of hL), _, rfl, by omega, by omega, by omega, by omega, ?_⟩
      have e1 : ((((ts.map V.str).length : Nat) : Int) - 0).toNat = ts.length := by omega
      rw [e1]
      refine for_it walk_rangeC (fun i σ H1 => ∃ y, σ = [some (.ref c), some (.ref a), y, none, none] ∧ Same H H1 ∧ i ≤ ts.length ∧ K23.ix ts.reverse x = (K23.ix (ts.reverse.drop i) x).map (· + i)) ⟨none, rfl, Same.refl H, by omega, by simp⟩ (fun _ _ _ _ _ => trivial) ?_ ?_
      · rintro i v σ H1 _ hi ⟨y, rfl, s1, _, hix⟩ ⟨rfl, rfl⟩
        have ev : (0 : Int) + (ts.length : Int) - 1 + (i : Nat) * (-1) = ((ts.length - 1 - i : Nat) : Int) := by omega
        have hti : ts.length - 1 - i < ts.length := by omega
        have hrev : ts.reverse[i]? = some (ts[ts.length - 1 - i]) := by
          rw [List.getElem?_reverse (by omega), List.getElem?_eq_getElem hti]
        obtain ⟨g1, g2⟩ := List.getElem?_eq_some_iff.mp hrev
        rw [List.drop_eq_getElem_cons g1, g2] at hix
        refine s_one <| s_if <| t_cmp op_eq (nomark _) <| e_ix ix_list (fun _ _ => rfl) <| e_var 1 rfl <| e_var 2 rfl ⟨a, ts.map V.str, _, .str (ts[ts.length - 1 - i]), rfl, rfl, SqL.of (s1 _ _ hL), ?_, e_at 0 1 (sqT_keep (keepT_of s1) hT) ⟨rfl, _, rfl, ?_⟩⟩
        · rw [ev]
          refine atI_nat ?_
          rw [List.getElem?_map, List.getElem?_eq_getElem hti]
          rfl
        rw [dec_str]
        by_cases e : ts[ts.length - 1 - i] = x
        · rw [show (ts[ts.length - 1 - i] == x) = true from beq_iff_eq.mpr e]
          refine iteT <| s_one <| s_ret <| e_tup <| a_str <| a_cons <| e_num len_x rfl ms <| e_var 2 rfl ⟨ts.length - 1 - i, congrArg V.int ev, by omega, a_nil ⟨size_le (by show 2 ≤ 100000; decide), fun t ht => ?_⟩⟩
          have s2 := s1.trans (same_new ht (.tup [.str "name", .str (Str.ofString "x" ++ Str.ofString (toString ((ts.length - 1 - i : Nat) : Int)))]))
          refine k _ _ s2 ?_
          rw [e, K23.ix_cons_self] at hix
          rw [K23.db_name_some (i := i) (by simpa using hix)]
          exact .name (SqT.of upd_same)
        · rw [show (ts[ts.length - 1 - i] == x) = false from beq_eq_false_iff_ne.mpr e]
          refine iteF <| s_nil ⟨_, rfl, s1, by omega, ?_⟩
          rw [hix, K23.ix_cons_ne e, Option.map_map]
          congr 1
          funext z
          simp only [Function.comp]
          omega
      · rintro σ H1 ⟨y, rfl, s1, _, hix⟩
        rw [List.drop_eq_nil_of_le (by rw [List.length_reverse]; omega)] at hix
        refine s_one <| s_ret <| e_var 0 rfl (k _ _ s1 ?_)
        rw [K23.db_name_none (by simpa [K23.ix] using hix)]
        exact .name (sqT_keep (keepT_of s1) hT)
    | @take c x y z kd q hT hk hq =>
      simp only [K23.deepP] at hz hd
      refine s_cons <| s_hd_ne 0 hT <| s_nil <| s_cons <| s_hd_eq 0 hT ?_
      refine s_cons <| s_set 3 hN <| e_call ih hr rfl D.m D.F.kp D.b .nil pass0 <| a_cons <| e_at 0 3 hT <| a_cons <| e_op op_cat <| e_var 1 rfl <| e_lst <| a_cons <| e_at 0 1 hT <| a_nil ⟨size_le (by show 1 ≤ 100000; decide), fun u hu => ?_⟩
      have s1 := same_new hu (.lst [.str x])
      refine ⟨a, u, _, _, rfl, rfl, s1 _ _ hL, upd_same, size_le (by simp only [List.length_map, List.length_singleton]; omega), fun b hb => a_nil ?_⟩
      have s2 := s1.trans (same_new hb (.lst (ts.map V.str ++ [.str x])))
      refine ⟨z, q, b, ts ++ [x], rfl, hq.mono (keepT_of s2), by rw [upd_same, List.map_append]; rfl, by rw [List.length_append, List.length_singleton]; omega, by omega, fun t H3 s3 ht => ?_⟩
      have s03 := s2.trans s3
      have hTt := sqT_keep (keepT_of s03) hT
      refine s_one <| s_ret <| e_tup <| a_str <| a_cons <| e_num len_x rfl ms <| e_callB call_len_seq rfl ml PySem.boot_len <| a_cons <| e_var 1 rfl <| a_nil ⟨a, _, rfl, .inl (SqL.of (s03 _ _ hL)), ts.length, by rw [List.length_map], by omega, a_cons <| e_at 0 2 hTt <| a_cons <| e_var 3 rfl <| a_nil ⟨size_le (by show 4 ≤ 100000; decide), fun r hr => ?_⟩⟩
      have s4 := same_new hr (.tup [.str "take", .str (Str.ofString "x" ++ Str.ofString (toString ((ts.length : Nat) : Int))), y, t])
      refine k _ _ (s03.trans s4) ?_
      have e2 : (ts ++ [x]).reverse = x :: ts.reverse := by simp
      rw [e2, List.length_append, List.length_singleton] at ht
      exact .take (SqT.of upd_same) (hk.mono (keepT_of (s03.trans s4))) (ht.mono (keepT_of s4))
    | thing hT => exact comp (fun kx e => by subst e; show ¬ ("thing" : Str) = "name" ∧ ¬ ("thing" : Str) = "take"; decide +kernel) rfl
    | give hT h1 h2 => exact comp (fun kx e => by subst e; show ¬ ("give" : Str) = "name" ∧ ¬ ("give" : Str) = "take"; decide +kernel) rfl
    | pair hT h1 h2 => exact comp (fun kx e => by subst e; show ¬ ("pair" : Str) = "name" ∧ ¬ ("pair" : Str) = "take"; decide +kernel) rfl
    | first hT h1 => exact comp (fun kx e => by subst e; show ¬ ("first" : Str) = "name" ∧ ¬ ("first" : Str) = "take"; decide +kernel) rfl
    | second hT h1 => exact comp (fun kx e => by subst e; show ¬ ("second" : Str) = "name" ∧ ¬ ("second" : Str) = "take"; decide +kernel) rfl
def spTidied (K : PySem.W.Frag) (n : Nat) : Sp := fun vs H Q _ => ∃ v p, vs = [v] ∧ PAt K H v p ∧ K23.deepP p ≤ 900 ∧ K23.deepP p < n ∧ ∀ u H', Same H H' → PAt K H' u (K23.nm 0 (K23.db [] p)) → Q u H'
theorem scTidied : FnScope ["program"] ["program"] (defScope sTidied) := ⟨rfl, rfl, rfl, by decide +kernel, rfl, by decide +kernel, by decide +kernel⟩
theorem ok_tidied {f fw : Addr} {fd fdw : FuncData} {n : Nat} (D : Def K mg "tidied" sTidied ["program"] f fd) (Dw : Def K mg "tidied_within" sTidiedWithin ["program", "taken"] fw fdw) (Gw : FnOk P w K mg base CX0 (n + 2) fw fdw ["program", "taken"] (spTidW K n)) :
    FnOk P w K mg base CX0 (n + 3) f fd ["program"] (spTidied K n) := by
  refine fun_ok D.F scTidied (fun vs H Q E h => ?_) (fun cdv A outer s H vs Q E hr h => ?_)
  · obtain ⟨v, p, rfl, _⟩ := h; rfl
  obtain ⟨v, p, rfl, hp, hz, hd, k⟩ := h
  refine s_one <| s_ret <| e_call Gw hr rfl Dw.m Dw.F.kp Dw.b .nil pass0 <| a_cons <| e_var 0 rfl <| a_cons <| e_lst <| a_nil ⟨size_le (by show 0 ≤ 100000; decide), fun c hc => a_nil ?_⟩
  have s1 := same_new hc (.lst [])
  exact ⟨v, p, c, [], rfl, hp.mono (keepT_of s1), upd_same, by simpa using hz, hd, fun u H' s2 hu => k u H' (s1.trans s2) hu⟩
end
end KW

namespace KW
open PySem PySem.Spec L2 PyProof.Rows
open K23 (Kd Pg encK encP)
abbrev sCanStep : Stmt := top 22
abbrev sPutPlaces : Stmt := top 23
abbrev sStepPlaces : Stmt := top 24
/-! ### can_step -/
def spCanStep (K : PySem.W.Frag) : Sp := fun vs H Q _ => ∃ v p, vs = [v] ∧ PAt K H v p ∧ ∀ H', Same H H' → Q (.bl (K23.canP p)) H'
theorem scCanStep : FnScope ["part"] ["part"] (defScope sCanStep) := ⟨rfl, rfl, rfl, by decide +kernel, rfl, by decide +kernel, by decide +kernel⟩
theorem can_give (p q : Pg) : K23.canP (.give p q) = decide (K23.wd p = "take") := by
  cases p <;> first | rfl | exact (decide_eq_false (by show ¬ _ = _; decide +kernel)).symm
theorem can_first (p : Pg) : K23.canP (.first p) = decide (K23.wd p = "pair") := by
  cases p <;> first | rfl | exact (decide_eq_false (by show ¬ _ = _; decide +kernel)).symm
theorem can_second (p : Pg) : K23.canP (.second p) = decide (K23.wd p = "pair") := by
  cases p <;> first | rfl | exact (decide_eq_false (by show ¬ _ = _; decide +kernel)).symm
section
variable {P : Program} {w : World} {K : PySem.W.Frag} {mg : Str → Option Value} {base : Heap}
theorem ok_can_step {f : Addr} {fd : FuncData} (D : Def K mg "can_step" sCanStep ["part"] f fd) : FnOk P w K mg base CX0 1 f fd ["part"] (spCanStep K) := by
  refine fun_ok D.F scCanStep (fun vs H Q E h => ?_) (fun cdv A outer s H vs Q E hr h => ?_)
  · obtain ⟨v, p, rfl, _⟩ := h; rfl
  obtain ⟨v, p, rfl, hp, k⟩ := h
  have no : ∀ {a : Addr} {wd : Str} {r : List V}, v = .ref a → SqT K H a (.str wd :: r) → ¬ wd = "give" → inV (.str wd) ((["first", "second"] : List Str).map V.str) = false → K23.canP p = false →
      wS (cxOf CX0 P w K mg base ["part"] "can_step" (defScope sCanStep) f cdv A outer s H E).nox (defBody sCanStep) { nx := fun _ H' => Q .non H', rt := Q } (start ["part"] [v]) H := by
    intro a wd r e hT h1 h2 hc
    subst e
    refine s_cons <| s_hd_ne 0 hT (hw := h1) <| s_nil <| s_one <| s_ret <| e_and2 <| e_hd_in 0 ["first", "second"] hT (fun H' => a_str (a_str (a_nil ⟨rfl, rfl⟩))) fun H1 s1 => ⟨_, rfl, ifb_f h2 ?_⟩
    have q := k H1 s1
    rw [hc] at q
    exact q
  cases hp with
  | name hT => exact no rfl hT (by decide +kernel) (by decide +kernel) rfl
  | take hT _ _ => exact no rfl hT (by decide +kernel) (by decide +kernel) rfl
  | pair hT _ _ => exact no rfl hT (by decide +kernel) (by decide +kernel) rfl
  | thing hT => exact no rfl hT (by decide +kernel) (by decide +kernel) rfl
  | @give a y z p q hT h1 h2 =>
    obtain ⟨c, r, rfl, hc⟩ := h1.head
    rw [can_give] at k
    exact s_cons <| s_hd_eq 0 hT <| s_one <| s_ret <| e_str_eq <| e_atE 0 <| e_at 0 1 hT ⟨c, _, rfl, hc, _, rfl, rfl, k _ (Same.refl H)⟩
  | @first a y p hT h1 =>
    obtain ⟨c, r, rfl, hc⟩ := h1.head
    rw [can_first] at k
    refine s_cons <| s_hd_ne 0 hT <| s_nil <| s_one <| s_ret <| e_and2 <| e_hd_in 0 ["first", "second"] hT (fun H' => a_str (a_str (a_nil ⟨rfl, rfl⟩))) fun H1 s1 => ⟨_, rfl, ifb_t (by decide +kernel) ?_⟩
    exact e_str_eq <| e_atE 0 <| e_at 0 1 (sqT_keep (keepT_of s1) hT) ⟨c, _, rfl, sqT_keep (keepT_of s1) hc, _, rfl, rfl, k _ s1⟩
  | @second a y p hT h1 =>
    obtain ⟨c, r, rfl, hc⟩ := h1.head
    rw [can_second] at k
    refine s_cons <| s_hd_ne 0 hT <| s_nil <| s_one <| s_ret <| e_and2 <| e_hd_in 0 ["first", "second"] hT (fun H' => a_str (a_str (a_nil ⟨rfl, rfl⟩))) fun H1 s1 => ⟨_, rfl, ifb_t (by decide +kernel) ?_⟩
    exact e_str_eq <| e_atE 0 <| e_at 0 1 (sqT_keep (keepT_of s1) hT) ⟨c, _, rfl, sqT_keep (keepT_of s1) hc, _, rfl, rfl, k _ s1⟩
end

/-! ### put_places, step_places -/
/-- the list of a place, not the one at g -/
def PlAt (g : Addr) (H : Hp) (v : V) (l : List Nat) : Prop := ∃ a, v = .ref a ∧ a ≠ g ∧ H a = some (.lst (nI l))
theorem PlAt.mono {g : Addr} {H H' : Hp} {v : V} {l : List Nat} (h : Exc g H H') (q : PlAt g H v l) : PlAt g H' v l := let ⟨a, h1, h2, h3⟩ := q; ⟨a, h1, h2, h _ _ h3 h2⟩
def plsI : Nat → List Pg → List (List Nat)
  | _, [] => []
  | k, q :: qs => (K23.pls q).map (k :: ·) ++ plsI (k + 1) qs
theorem pls_eq (p : Pg) : K23.pls p = (if K23.canP p = true then [[]] else []) ++ plsI 0 (K23.inner p) := by
  cases p with
  | name x => simp [K23.pls, K23.inner, plsI, K23.canP]
  | take x k p => simp [K23.pls, K23.inner, plsI, K23.canP]
  | thing => simp [K23.pls, K23.inner, plsI, K23.canP]
  | pair p q => simp [K23.pls, K23.inner, plsI, K23.canP]
  | give p q => simp only [K23.pls, K23.inner, plsI, List.append_nil]
  | first p => simp only [K23.pls, K23.inner, plsI, List.append_nil]
  | second p => simp only [K23.pls, K23.inner, plsI, List.append_nil]
theorem plsI_take : ∀ (l : List Pg) (k i : Nat) (q : Pg), l[i]? = some q → plsI k (l.take (i + 1)) = plsI k (l.take i) ++ (K23.pls q).map ((k + i) :: ·)
  | [], k, i, q, h => by simp at h
  | p :: l, k, 0, q, h => by
    obtain rfl : p = q := by simpa using h
    simp [plsI]
  | p :: l, k, i + 1, q, h => by
    have ih := plsI_take l (k + 1) i q (by simpa using h)
    simp only [List.take_succ_cons, plsI, ih, List.append_assoc]
    rw [show k + 1 + i = k + (i + 1) by omega]
theorem nI_app (l : List Nat) (k : Nat) : nI (l ++ [k]) = nI l ++ [.int (k : Int)] := by unfold nI; rw [List.map_append]; rfl
theorem nI_len (l : List Nat) : (nI l).length = l.length := by unfold nI; rw [List.length_map]
theorem pls_len : ∀ p : Pg, (K23.pls p).length ≤ K23.partsP p
  | .name _ => Nat.zero_le _
  | .thing => Nat.zero_le _
  | .take _ _ p => by have := pls_len p; simp only [K23.pls, K23.partsP, List.length_map]; omega
  | .pair p q => by have := pls_len p; have := pls_len q; simp only [K23.pls, K23.partsP, List.length_map, List.length_append]; omega
  | .give p q => by
    have := pls_len p; have := pls_len q
    simp only [K23.pls, K23.partsP, List.length_map, List.length_append]
    split <;> simp <;> omega
  | .first p => by
    have := pls_len p
    simp only [K23.pls, K23.partsP, List.length_map, List.length_append]
    split <;> simp <;> omega
  | .second p => by
    have := pls_len p
    simp only [K23.pls, K23.partsP, List.length_map, List.length_append]
    split <;> simp <;> omega
theorem inner_parts {p q : Pg} {j : Nat} (h : (K23.inner p)[j]? = some q) : K23.partsP q ≤ K23.partsP p := by
  have hm : q ∈ K23.inner p := List.mem_of_getElem? h
  cases p <;> simp [K23.inner] at hm <;> simp only [K23.partsP]
  · subst hm; omega
  · rcases hm with rfl | rfl <;> omega
  · rcases hm with rfl | rfl <;> omega
  · subst hm; omega
  · subst hm; omega
theorem plsI_len : ∀ (l : List Pg) (k : Nat), (plsI k l).length ≤ (l.map K23.partsP).sum
  | [], _ => Nat.le_refl _
  | p :: l, k => by
    have h1 := pls_len p
    have h2 := plsI_len l (k + 1)
    simp only [plsI, List.length_append, List.length_map, List.map_cons, List.sum_cons]
    omega
theorem plsI_sum : ∀ (l : List Pg) (k i : Nat) (q : Pg), l[i]? = some q → (plsI k (l.take i)).length + K23.partsP q ≤ (l.map K23.partsP).sum
  | [], k, i, q, h => by simp at h
  | p :: l, k, 0, q, h => by
    obtain rfl : p = q := by simpa using h
    simp [plsI]
  | p :: l, k, i + 1, q, h => by
    have h1 := pls_len p
    have h2 := plsI_sum l (k + 1) i q (by simpa using h)
    simp only [List.take_succ_cons, plsI, List.length_append, List.length_map, List.map_cons, List.sum_cons]
    omega
theorem parts_sumN (p : Pg) : 1 + ((K23.inner p).map K23.partsP).sum = K23.partsP p := by
  cases p <;> simp [K23.inner, K23.partsP]
def spPut (K : PySem.W.Frag) (n : Nat) : Sp := fun vs H Q _ => ∃ (v : V) (p : Pg) (c g : Addr) (pl : List Nat) (ys : List V), vs = [v, .ref c, .ref g] ∧ PAt K H v p ∧ H c = some (.lst (nI pl)) ∧ H g = some (.lst ys) ∧ c ≠ g ∧ pl.length + K23.deepP p ≤ 900 ∧ ys.length + K23.partsP p ≤ 9000 ∧ K23.deepP p < n ∧
  ∀ H' zs, Exc g H H' → H' g = some (.lst (ys ++ zs)) → Paired (PlAt g H') zs ((K23.pls p).map (pl ++ ·)) → Q .non H'
theorem scPut : FnScope ["part", "place", "found", "k", "one"] ["part", "place", "found"] (defScope sPutPlaces) := ⟨rfl, rfl, rfl, by decide +kernel, rfl, by decide +kernel, by decide +kernel⟩
section
variable {P : Program} {w : World} {K : PySem.W.Frag} {mg : Str → Option Value} {base : Heap}
theorem exc_upd {g : Addr} {H : Hp} {o : HO} : Exc g H (upd H g o) := fun b u q hb => by rw [upd_ne hb]; exact q
theorem ok_put {f fi fc : Addr} {fd fdi fdc : FuncData} (D : Def K mg "put_places" sPutPlaces ["part", "place", "found"] f fd) (Di : Def K mg "inner" sInner ["program"] fi fdi) (Gi : FnOk P w K mg base CX0 1 fi fdi ["program"] (spInner K))
    (Dc : Def K mg "can_step" sCanStep ["part"] fc fdc) (Gc : FnOk P w K mg base CX0 1 fc fdc ["part"] (spCanStep K)) (me : mg "enumerate" = none) : ∀ n : Nat, FnOk P w K mg base CX0 (n + 2) f fd ["part", "place", "found"] (spPut K n)
  | 0 => none_left fun vs H Q E ⟨_, _, _, _, _, _, _, _, _, _, _, _, _, h, _⟩ => absurd h (by omega)
  | n + 1 => by
    have ih := ok_put D Di Gi Dc Gc me n
    have hN := scPut.nd
    refine fun_ok D.F scPut (fun vs H Q E h => ?_) (fun cdv A outer s H vs Q E hr h => ?_)
    · obtain ⟨v, p, c, g, pl, ys, rfl, _⟩ := h; rfl
    obtain ⟨v, p, c, g, pl, ys, rfl, hp, hC, hG, hcg, hz, hy, hd, k⟩ := h
    refine s_seq (fun σ' H1 => ∃ zs, σ' = [some v, some (.ref c), some (.ref g), none, none] ∧ Exc g H H1 ∧ H1 g = some (.lst (ys ++ zs)) ∧ Paired (PlAt g H1) zs ((if K23.canP p = true then [[]] else []).map (pl ++ ·))) (s_if ?_) ?_
    · refine t_val <| e_call Gc (hr.mono (by omega)) rfl Dc.m Dc.F.kp Dc.b .nil pass0 <| a_cons <| e_var 0 rfl <| a_nil ⟨v, p, rfl, hp, fun H1 s1 => ⟨_, rfl, ?_⟩⟩
      cases e : K23.canP p with
      | true =>
        refine iteT <| s_one <| s_expr <| e_bm PySem.F.plainAttrs_list PySem.F.slot_list_append PySem.F.type_list_append mt_append <| e_var 2 rfl ⟨.inl ⟨rfl, _, SqL.of (s1 _ _ hG)⟩, a_cons <| e_var 1 rfl <| a_nil ⟨g, ys, .ref c, rfl, rfl, s1 _ _ hG, size_lt (by omega), ?_⟩⟩
        exact ⟨[.ref c], rfl, (exc_of s1).trans exc_upd, upd_same, .cons ⟨c, rfl, hcg, by rw [upd_ne hcg, s1 _ _ hC]; simp⟩ .nil⟩
      | false => exact iteF <| s_nil ⟨[], rfl, exc_of s1, by rw [s1 _ _ hG]; simp, .nil⟩
    rintro σ' H1 ⟨zs0, rfl, x1, hG1, hz0⟩
    have kp1 : KeepT H H1 := x1.keepT (not_tup_lst hG)
    refine s_one <| s_for PassesOwn.never rfl (pi_enum rfl me pa_w) (pg_tup rfl (pgs_cons (pg_name (i := 3) hN rfl (Or.inl rfl)) (pgs_cons (pg_name (i := 4) hN rfl (Or.inl rfl)) pgs_nil))) ?_
    refine a_cons <| e_call Gi (hr.mono (by omega)) rfl Di.m Di.F.kp Di.b .nil pass0 <| a_cons <| e_var 0 rfl <| a_nil ⟨v, p, rfl, hp.mono kp1, fun r qs H2 s2 hr0 hl hq => a_nil ⟨r, qs, rfl, SqL.of hl, ?_⟩⟩
    have hql := hq.length
    have hrg : r ≠ g := fun e => by rw [e, hG1] at hr0; cases hr0
    have hc1 : H1 c = some (.lst (nI pl)) := x1 _ _ hC hcg
    refine for_it (walk_enum (K := K) (a := r) (xs := qs)) (fun i σ H3 => ∃ zs x y, σ = [some v, some (.ref c), some (.ref g), x, y] ∧ Exc g H2 H3 ∧ H3 g = some (.lst (ys ++ zs)) ∧
        Paired (PlAt g H3) zs (((if K23.canP p = true then [[]] else []) ++ plsI 0 ((K23.inner p).take i)).map (pl ++ ·))) ⟨zs0, none, none, rfl, Exc.refl g H2, s2 _ _ hG1, ?_⟩ (fun i σ H3 _ ⟨_, _, _, _, x3, _⟩ => SqL.of (x3 _ _ hl hrg)) ?_ ?_
    · simp only [List.take_zero, plsI, List.append_nil]
      exact paired_mono hz0 fun _ _ t => t.mono (exc_of s2)
    · rintro i x σ H3 H4 hi ⟨zs, x', y', rfl, x3, hG3, hz3⟩ ⟨T, x1', y1, rfl, hT, rfl, hx1, hy1⟩
      have hx1 : x1' = .int (i : Nat) := (Option.some.inj hx1).symm
      subst hx1
      obtain ⟨q, hq1, hq2⟩ := paired_get hq hy1
      have hdq := inner_deep hq1
      have hTg : T ≠ g := fun e => by rw [e, hG3] at hT; cases hT
      have sT := same_new hT (.tup [.int (i : Nat), y1])
      refine ⟨T, _, rfl, SqT.of upd_same, rfl, _, _, rfl, _, _, rfl, rfl, ?_⟩
      refine s_one <| s_expr <| e_call ih hr rfl D.m D.F.kp D.b .nil pass0 <| a_cons <| e_var 4 rfl <| a_cons <| e_op op_cat <| e_var 1 rfl <| e_lst <| a_cons <| e_var 3 rfl <| a_nil ⟨size_le (by show 1 ≤ 100000; decide), fun u hu => ?_⟩
      have s5 := sT.trans (same_new hu (.lst [.int (i : Nat)]))
      have hc5 := s5 _ _ (x3 _ _ (s2 _ _ hc1) hcg)
      refine ⟨c, u, nI pl, _, rfl, rfl, hc5, upd_same, size_le (by simp only [nI_len, List.length_singleton]; omega), fun b hb => a_cons <| e_var 2 rfl <| a_nil ?_⟩
      have s6 := s5.trans (same_new hb (.lst (nI pl ++ [.int (i : Nat)])))
      have hG6 := s6 _ _ hG3
      have hbg : b ≠ g := fun e => by rw [e, s5 _ _ hG3] at hb; cases hb
      have kp6 : KeepT H2 _ := (x3.trans (exc_of s6)).keepT (not_tup_lst (s2 _ _ hG1))
      have hlen : zs.length + K23.partsP q ≤ K23.partsP p := by
        have h1 := hz3.length
        rw [List.length_map, List.length_append] at h1
        have h2 := plsI_sum (K23.inner p) 0 i q hq1
        have h3 := parts_sumN p
        have h4 : (if K23.canP p = true then [([] : List Nat)] else []).length ≤ 1 := by split <;> simp
        omega
      refine ⟨y1, q, b, g, pl ++ [i], ys ++ zs, rfl, hq2.mono kp6, by rw [upd_same, nI_app], hG6, hbg, by rw [List.length_append, List.length_singleton]; omega, ?_, by omega, fun H7 ws x7 hG7 hw => ?_⟩
      · rw [List.length_append]
        omega
      · refine ⟨zs ++ ws, _, _, rfl, (x3.trans (exc_of s6)).trans x7, by rw [hG7, List.append_assoc], ?_⟩
        rw [plsI_take _ _ _ _ hq1, ← List.append_assoc, List.map_append]
        refine paired_append (paired_mono hz3 fun _ _ t => (t.mono (exc_of s6)).mono x7) ?_
        have e : ((K23.pls q).map ((0 + i) :: ·)).map (pl ++ ·) = (K23.pls q).map ((pl ++ [i]) ++ ·) := by
          rw [List.map_map]
          refine List.map_congr_left fun l _ => ?_
          simp
        rw [e]
        exact hw
    · rintro σ H3 ⟨zs, x', y', rfl, x3, hG3, hz3⟩
      rw [hql, List.take_length, ← pls_eq] at hz3
      exact k H3 zs ((x1.trans (exc_of s2)).trans x3) hG3 hz3
/-- a place's list, read -/
def LsAt (K : PySem.W.Frag) (H : Hp) (v : V) (l : List Nat) : Prop := ∃ a, v = .ref a ∧ SqL K H a (nI l)
theorem LsAt.mono {H H' : Hp} {v : V} {l : List Nat} (h : Same H H') (q : LsAt K H v l) : LsAt K H' v l := let ⟨a, h1, h2⟩ := q; ⟨a, h1, h.seq h2⟩
def spPlaces (K : PySem.W.Frag) (n : Nat) : Sp := fun vs H Q _ => ∃ (v : V) (p : Pg), vs = [v] ∧ PAt K H v p ∧ K23.deepP p ≤ 900 ∧ K23.partsP p ≤ 9000 ∧ K23.deepP p < n ∧
  ∀ H' g zs, Same H H' → H g = none → H' g = some (.lst zs) → Paired (LsAt K H') zs (K23.pls p) → Q (.ref g) H'
theorem scPlaces : FnScope ["program", "found"] ["program"] (defScope sStepPlaces) := ⟨rfl, rfl, rfl, by decide +kernel, rfl, by decide +kernel, by decide +kernel⟩
theorem ok_places {f fp : Addr} {fd fdp : FuncData} {n : Nat} (D : Def K mg "step_places" sStepPlaces ["program"] f fd) (Dp : Def K mg "put_places" sPutPlaces ["part", "place", "found"] fp fdp) (Gp : FnOk P w K mg base CX0 (n + 2) fp fdp ["part", "place", "found"] (spPut K n)) :
    FnOk P w K mg base CX0 (n + 3) f fd ["program"] (spPlaces K n) := by
  refine fun_ok D.F scPlaces (fun vs H Q E h => ?_) (fun cdv A outer s H vs Q E hr h => ?_)
  · obtain ⟨v, p, rfl, _⟩ := h; rfl
  obtain ⟨v, p, rfl, hp, hd, hz, hn, k⟩ := h
  refine s_cons <| s_set 1 scPlaces.nd <| e_lst <| a_nil ⟨size_le (by show 0 ≤ 100000; decide), fun g hg => ?_⟩
  have s1 := same_new hg (.lst [])
  refine s_cons <| s_expr <| e_call Gp hr rfl Dp.m Dp.F.kp Dp.b .nil pass0 <| a_cons <| e_var 0 rfl <| a_cons <| e_lst <| a_nil ⟨size_le (by show 0 ≤ 100000; decide), fun c hc => a_cons <| e_var 1 rfl <| a_nil ?_⟩
  have s2 := s1.trans (same_new hc (.lst []))
  have hcg : c ≠ g := fun e => by rw [e, upd_same] at hc; cases hc
  refine ⟨v, p, c, g, [], [], rfl, hp.mono (keepT_of s2), upd_same, (same_new hc _) _ _ upd_same, hcg, by simpa using hd, by simpa using hz, hn, fun H' zs x hG hw => ?_⟩
  have s3 : Same H H' := fun b o q => x _ _ (s2 _ _ q) (ne_of_none q hg)
  refine s_one <| s_ret <| e_var 1 rfl (k H' g zs s3 hg (by simpa using hG) ?_)
  have e : (K23.pls p).map (([] : List Nat) ++ ·) = K23.pls p := by simp
  rw [e] at hw
  exact paired_mono hw fun a b ⟨d, h1, h2, h3⟩ => ⟨d, h1, SqL.of h3⟩
end
end KW

namespace KW
open PySem PySem.Spec L2 PyProof.Rows
open K23 (Kd Pg encK encP)
abbrev sNameCount : Stmt := top 29
abbrev sWithGiven : Stmt := top 30
abbrev sWhatComes : Stmt := top 31
abbrev sPartsThat : Stmt := top 32
abbrev sDoneAt : Stmt := top 33
abbrev sStepped : Stmt := top 34
abbrev sNextPlace : Stmt := top 35
/-! ### name_count, with_given -/
theorem depth_name (d : PyData) (x : Str) : min d.depth (encP (.name x)).depth ≤ 200 := Nat.le_trans (Nat.min_le_right _ _) (by show 1 ≤ 200; decide)
section
variable {X : Cx} {σ : L2.St} {H : Hp}
/-- v == ("name", x) -/
theorem t_isname {Q : Bool → Hp → Prop} {e1 e2 : Expr} {p : Pg} {x : Str} {p1 p2 p3 : Pos} {j k} (hu : X.A.units + 200 < cLine) (h : wE X e1 σ H fun v H1 => PAt X.K H1 v p ∧ wE X e2 σ H1 fun u H2 => u = .str x ∧ H2 = H1 ∧ ∀ H2, Same H1 H2 → Q (decide (p = .name x)) H2)
    (hs : starEach [e2] X.env = (false, eval e2 X.env) :: starEach [] X.env := by rfl) : wT X (.Compare e1 [.Eq] [.Tuple [.Constant (.str "name") j p1, e2] k p2] p3) σ H Q :=
  t_cmp (op_eqP (n := 200) hu) (nomark _) (h.imp fun v H1 ⟨hp, h2⟩ => e_tup <| a_str <| a_cons (h2.imp fun u H2 ⟨e, e', q⟩ => by
    subst e; subst e'
    refine a_nil ⟨size_le (by show 2 ≤ 100000; decide), fun t ht => ⟨encP p, encP (.name x), (hp.mono (keepT_of (same_new ht _))).dp, (PAt.name (SqT.of upd_same)).dp, K23.plain_encP _, K23.plain_encP _, depth_name _ _, _, rfl, ?_⟩⟩
    rw [K23.eqv_encP]
    exact q _ (same_new ht _)) hs)
end
theorem cnt_sum (x : Str) (p : Pg) (h : ¬ p = .name x) : ((K23.inner p).map fun q => (K23.cnt x q : Int)).sum = (K23.cnt x p : Int) := by
  cases p <;> simp [K23.inner, K23.cnt]
  rw [if_neg (fun e => h (by rw [e]))]
  rfl
theorem wg_set (x : Str) (a p : Pg) (h : ¬ p = .name x) : K23.setP p ((K23.inner p).map fun q => K23.wg x a q) = K23.wg x a p := by
  cases p <;> simp [K23.inner, K23.wg, K23.setP]
  intro e
  exact absurd (by rw [e]) h
def spCount (K : PySem.W.Frag) (n : Nat) : Sp := fun vs H Q _ => ∃ (v : V) (p : Pg) (x : Str), vs = [v, .str x] ∧ PAt K H v p ∧ K23.deepP p < n ∧ ∀ H', Same H H' → Q (.int (K23.cnt x p)) H'
theorem scCount : FnScope ["part", "name", "one"] ["part", "name"] (defScope sNameCount) := ⟨rfl, rfl, rfl, by decide +kernel, rfl, by decide +kernel, by decide +kernel⟩
def spGiven (K : PySem.W.Frag) (n : Nat) : Sp := fun vs H Q _ => ∃ (v : V) (p : Pg) (x : Str) (u : V) (a : Pg), vs = [v, .str x, u] ∧ PAt K H v p ∧ PAt K H u a ∧ K23.deepP p < n ∧ ∀ t H', Same H H' → PAt K H' t (K23.wg x a p) → Q t H'
theorem scGiven : FnScope ["part", "name", "given", "one"] ["part", "name", "given"] (defScope sWithGiven) := ⟨rfl, rfl, rfl, by decide +kernel, rfl, by decide +kernel, by decide +kernel⟩
section
variable {P : Program} {w : World} {K : PySem.W.Frag} {mg : Str → Option Value} {base : Heap}
theorem ok_count {f fi : Addr} {fd fdi : FuncData} (D : Def K mg "name_count" sNameCount ["part", "name"] f fd) (Di : Def K mg "inner" sInner ["program"] fi fdi) (Gi : FnOk P w K mg base CX0 1 fi fdi ["program"] (spInner K)) (ms : mg "sum" = none) :
    ∀ n : Nat, FnOk P w K mg base CX0 (n + 2) f fd ["part", "name"] (spCount K n)
  | 0 => none_left fun vs H Q E ⟨v, p, x, _, _, h, _⟩ => absurd h (by omega)
  | n + 1 => by
    have ih := ok_count D Di Gi ms n
    have hN := scCount.nd
    refine fun_ok D.F scCount (fun vs H Q E h => ?_) (fun cdv A outer s H vs Q E hr h => ?_)
    · obtain ⟨v, p, x, rfl, _⟩ := h; rfl
    obtain ⟨v, p, x, rfl, hp, hd, k⟩ := h
    refine s_cons <| s_if <| t_isname (p := p) (x := x) (room200 hr) <| e_var 0 rfl ⟨hp, e_var 1 rfl ⟨rfl, rfl, fun H2 s2 => ?_⟩⟩
    by_cases e : p = .name x
    · subst e
      refine if_eq rfl <| s_one <| s_ret <| e_int ?_
      have q := k H2 s2
      simp only [K23.cnt, if_true] at q
      exact q
    refine if_ne e <| s_nil ?_
    refine s_one <| s_ret <| e_callB (cr_sum rfl) rfl ms (by decide +kernel) <| a_cons ?_
    refine e_map 2 (fun j y _ => ∃ q, (K23.inner p)[j]? = some q ∧ y = .int (K23.cnt x q)) (fun _ _ _ _ h _ => h) rfl hN (blkOk_by (N := ["part", "name", "one"]) (sc := defScope sNameCount) (by decide +kernel)) (fun _ _ _ _ _ => pg_name (i := 2) hN rfl (Or.inl rfl)) ?_
    refine e_call Gi (hr.mono (by omega)) rfl Di.m Di.F.kp Di.b .nil pass0 <| a_cons <| e_var 0 rfl <| a_nil ⟨v, p, rfl, hp.mono (keepT_of s2), fun r xs H3 s3 _ hl hq => ⟨r, xs, rfl, SqL.of hl, ?_, fun j y H4 hy s4 => ?_, fun D' acc H4 s4 hD hacc hlen hall => a_nil ?_⟩⟩
    · have := hq.length; have := inner_le p; omega
    · intro s0 H0 C cl fp
      obtain ⟨q, hq1, hq2⟩ := paired_get hq hy
      have := inner_deep hq1
      exact e_call ih hr rfl D.m D.F.kp D.b .nil pass0 <| a_cons <| e_var 2 rfl <| a_cons <| e_var 1 rfl <| a_nil ⟨y, q, x, rfl, hq2.mono (keepT_of s4), by omega, fun H5 s5 => ⟨s5, q, hq1, rfl⟩⟩
    · have e' := acc_map (l := K23.inner p) (fun q => V.int (K23.cnt x q)) (by rw [hlen]; exact hq.length) hall
      refine ⟨D', (K23.inner p).map fun q => (K23.cnt x q : Int), rfl, SqL.of (by rw [hacc, e', List.map_map]; rfl), ?_⟩
      have q := k _ (s2.trans (s3.trans s4))
      rw [← cnt_sum x p e] at q
      exact q
theorem ok_given {f fi fw : Addr} {fd fdi fdw : FuncData} (D : Def K mg "with_given" sWithGiven ["part", "name", "given"] f fd) (Di : Def K mg "inner" sInner ["program"] fi fdi) (Gi : FnOk P w K mg base CX0 1 fi fdi ["program"] (spInner K))
    (Dw : Def K mg "with_inner" sWithInner ["program", "some"] fw fdw) (Gw : FnOk P w K mg base CX0 1 fw fdw ["program", "some"] (spWithInner K)) : ∀ n : Nat, FnOk P w K mg base CX0 (n + 2) f fd ["part", "name", "given"] (spGiven K n)
  | 0 => none_left fun vs H Q E ⟨_, _, _, _, _, _, _, _, h, _⟩ => absurd h (by omega)
  | n + 1 => by
    have ih := ok_given D Di Gi Dw Gw n
    have hN := scGiven.nd
    refine fun_ok D.F scGiven (fun vs H Q E h => ?_) (fun cdv A outer s H vs Q E hr h => ?_)
    · obtain ⟨v, p, x, u, a, rfl, _⟩ := h; rfl
    obtain ⟨v, p, x, u, a, rfl, hp, ha, hd, k⟩ := h
    refine s_cons <| s_if <| t_isname (p := p) (x := x) (room200 hr) <| e_var 0 rfl ⟨hp, e_var 1 rfl ⟨rfl, rfl, fun H2 s2 => ?_⟩⟩
    by_cases e : p = .name x
    · subst e
      refine if_eq rfl <| s_one <| s_ret <| e_var 2 rfl (k u H2 s2 ?_)
      simp only [K23.wg, if_true]
      exact ha.mono (keepT_of s2)
    refine if_ne e <| s_nil ?_
    have hp2 := hp.mono (keepT_of s2)
    refine s_one <| s_ret <| e_call Gw (hr.mono (by omega)) rfl Dw.m Dw.F.kp Dw.b .nil pass0 <| a_cons <| e_var 0 rfl <| a_cons ?_
    refine e_map 3 (fun j y H => ∃ q, (K23.inner p)[j]? = some q ∧ PAt K H y (K23.wg x a q)) (fun j y H H' ⟨q, h1, h2⟩ kp => ⟨q, h1, h2.mono kp⟩) rfl hN (blkOk_by (N := ["part", "name", "given", "one"]) (sc := defScope sWithGiven) (by decide +kernel)) (fun _ _ _ _ _ => pg_name (i := 3) hN rfl (Or.inl rfl)) ?_
    refine e_call Gi (hr.mono (by omega)) rfl Di.m Di.F.kp Di.b .nil pass0 <| a_cons <| e_var 0 rfl <| a_nil ⟨v, p, rfl, hp2, fun r xs H3 s3 _ hl hq => ⟨r, xs, rfl, SqL.of hl, ?_, fun j y H4 hy s4 => ?_, fun D' acc H4 s4 hD hacc hlen hall => a_nil ?_⟩⟩
    · have := hq.length; have := inner_le p; omega
    · intro s0 H0 C cl fp
      obtain ⟨q, hq1, hq2⟩ := paired_get hq hy
      have := inner_deep hq1
      have s24 := s2.trans (s3.trans s4)
      exact e_call ih hr rfl D.m D.F.kp D.b .nil pass0 <| a_cons <| e_var 3 rfl <| a_cons <| e_var 1 rfl <| a_cons <| e_var 2 rfl <| a_nil ⟨y, q, x, u, a, rfl, hq2.mono (keepT_of s4), ha.mono (keepT_of s24), by omega, fun t H5 s5 ht => ⟨s5, q, hq1, ht⟩⟩
    · have s34 := s3.trans s4
      have hpk : Paired (PAt K H4) acc ((K23.inner p).map fun q => K23.wg x a q) := paired_of (by rw [hlen, List.length_map]; exact hq.length) fun j y hy => by
        obtain ⟨q, h1, h2⟩ := hall j y hy
        exact ⟨_, by rw [List.getElem?_map, h1]; rfl, h2⟩
      refine ⟨v, p, D', acc, _, rfl, hp2.mono (keepT_of s34), SqL.of hacc, hpk, by rw [List.length_map], fun t H5 s5 ht => ?_⟩
      rw [wg_set x a p e] at ht
      exact k t H5 (s2.trans (s34.trans s5)) ht

/-! ### what_comes, parts_that_come -/
def spComes (K : PySem.W.Frag) (n : Nat) : Sp := fun vs H Q _ => ∃ (v : V) (p : Pg), vs = [v] ∧ PAt K H v p ∧ K23.canP p = true ∧ K23.deepP p < n ∧ ∀ t H', Same H H' → PAt K H' t (K23.comes p) → Q t H'
theorem scComes : FnScope ["part", "word", "name", "kind", "body"] ["part"] (defScope sWhatComes) := ⟨rfl, rfl, rfl, by decide +kernel, rfl, by decide +kernel, by decide +kernel⟩
theorem can_give' {p q : Pg} (h : K23.canP (.give p q) = true) : ∃ x k b, p = .take x k b := by
  cases p with
  | take x k b => exact ⟨x, k, b, rfl⟩
  | _ => cases h
theorem can_first' {p : Pg} (h : K23.canP (.first p) = true) : ∃ a b, p = .pair a b := by
  cases p with
  | pair a b => exact ⟨a, b, rfl⟩
  | _ => cases h
theorem can_second' {p : Pg} (h : K23.canP (.second p) = true) : ∃ a b, p = .pair a b := by
  cases p with
  | pair a b => exact ⟨a, b, rfl⟩
  | _ => cases h
/-- a, b, c, d = e -/
theorem pg4 {X : Cx} {x1 x2 x3 x4 : Str} {p1 p2 p3 p4 pos : Pos} {k : Nat} (i1 i2 i3 i4 : Nat) (hc : X.calm = true) (h1 : PG X (.Name x1 p1) (gName i1)) (h2 : PG X (.Name x2 p2) (gName i2)) (h3 : PG X (.Name x3 p3) (gName i3)) (h4 : PG X (.Name x4 p4) (gName i4)) :
    PG X (.Tuple [.Name x1 p1, .Name x2 p2, .Name x3 p3, .Name x4 p4] k pos) (gTup X.K 4 (gCons (gName i1) (gCons (gName i2) (gCons (gName i3) (gCons (gName i4) gNil))))) :=
  pg_tup hc (pgs_cons h1 (pgs_cons h2 (pgs_cons h3 (pgs_cons h4 pgs_nil))))
theorem ok_comes {f fg : Addr} {fd fdg : FuncData} {n : Nat} (D : Def K mg "what_comes" sWhatComes ["part"] f fd) (Dg : Def K mg "with_given" sWithGiven ["part", "name", "given"] fg fdg) (Gg : FnOk P w K mg base CX0 (n + 2) fg fdg ["part", "name", "given"] (spGiven K n)) (mi : mg "int" = none) :
    FnOk P w K mg base CX0 (n + 3) f fd ["part"] (spComes K n) := by
  have hN := scComes.nd
  refine fun_ok D.F scComes (fun vs H Q E h => ?_) (fun cdv A outer s H vs Q E hr h => ?_)
  · obtain ⟨v, p, rfl, _⟩ := h; rfl
  obtain ⟨v, p, rfl, hp, hc, hd, k⟩ := h
  cases hp with
  | name hT => cases hc
  | take hT _ _ => cases hc
  | pair hT _ _ => cases hc
  | thing hT => cases hc
  | @give a y z p q hT h1 h2 =>
    obtain ⟨x, kd, b, rfl⟩ := can_give' hc
    cases h1 with
    | @take c _ yk zb _ _ hT1 hk hb =>
      refine s_cons <| s_hd_eq 0 hT ?_
      refine s_cons <| s_asg (pg4 1 2 3 4 rfl (pg_name (i := 1) hN rfl (Or.inl rfl)) (pg_name (i := 2) hN rfl (Or.inl rfl)) (pg_name (i := 3) hN rfl (Or.inl rfl)) (pg_name (i := 4) hN rfl (Or.inl rfl))) <| e_at 0 1 hT ⟨c, _, rfl, hT1, rfl, _, _, rfl, _, _, rfl, _, _, rfl, _, _, rfl, rfl, ?_⟩
      refine s_one <| s_ret <| e_call Gg hr rfl Dg.m Dg.F.kp Dg.b .nil pass0 <| a_cons <| e_var 4 rfl <| a_cons <| e_var 2 rfl <| a_cons <| e_at 0 2 hT <| a_nil ⟨zb, b, x, z, q, rfl, hb, h2, ?_, k⟩
      simp only [K23.deepP] at hd
      omega
  | @first a y p hT h1 =>
    obtain ⟨p1, p2, rfl⟩ := can_first' hc
    cases h1 with
    | @pair c y1 y2 _ _ hT1 hp1 hp2 =>
      refine s_cons <| s_hd_ne 0 hT <| s_nil <| s_one <| s_ret <| e_ix ix_tup (fun _ _ => rfl) <| e_at 0 1 hT <| e_op op_add <| e_int <| e_callTy call_int1 rfl mi (by decide +kernel) <| a_cons <| e_str_eq <| e_at 0 0 hT ⟨rfl, a_nil (.inr ⟨_, rfl, _, _, rfl, rfl, c, _, _, y1, rfl, rfl, hT1, ?_, k _ _ (Same.refl H) hp1⟩)⟩
      rw [decide_eq_false (by decide +kernel)]
      rfl
  | @second a y p hT h1 =>
    obtain ⟨p1, p2, rfl⟩ := can_second' hc
    cases h1 with
    | @pair c y1 y2 _ _ hT1 hp1 hp2 =>
      refine s_cons <| s_hd_ne 0 hT <| s_nil <| s_one <| s_ret <| e_ix ix_tup (fun _ _ => rfl) <| e_at 0 1 hT <| e_op op_add <| e_int <| e_callTy call_int1 rfl mi (by decide +kernel) <| a_cons <| e_str_eq <| e_at 0 0 hT ⟨rfl, a_nil (.inr ⟨_, rfl, _, _, rfl, rfl, c, _, _, y2, rfl, rfl, hT1, ?_, k _ _ (Same.refl H) hp2⟩)⟩
      rw [decide_eq_true rfl]
      rfl
end
end KW

namespace KW
open PySem PySem.Spec L2 PyProof.Rows
open K23 (Kd Pg encK encP)
/-! ### parts_that_come, done_at, stepped, next_place -/
theorem cnt_le (x : Str) : ∀ p : Pg, K23.cnt x p ≤ K23.partsP p
  | .name y => by simp only [K23.cnt, K23.partsP]; split <;> omega
  | .take _ _ p => by have := cnt_le x p; simp only [K23.cnt, K23.partsP]; omega
  | .give p q => by have := cnt_le x p; have := cnt_le x q; simp only [K23.cnt, K23.partsP]; omega
  | .pair p q => by have := cnt_le x p; have := cnt_le x q; simp only [K23.cnt, K23.partsP]; omega
  | .first p => by have := cnt_le x p; simp only [K23.cnt, K23.partsP]; omega
  | .second p => by have := cnt_le x p; simp only [K23.cnt, K23.partsP]; omega
  | .thing => Nat.zero_le _
def spPThat (K : PySem.W.Frag) (n : Nat) : Sp := fun vs H Q _ => ∃ (v : V) (p : Pg) (u : V) (q : Pg), vs = [v, u] ∧ PAt K H v p ∧ PAt K H u q ∧ K23.canP q = true ∧ K23.deepP p < n ∧ K23.deepP q < n ∧ K23.partsP q ≤ 1000000 ∧
  ∀ H', Same H H' → Q (.int ((K23.partsP p : Int) - (K23.partsP q : Int) + (K23.partsP (K23.comes q) : Int))) H'
theorem scPThat : FnScope ["program", "part", "rest", "word", "name", "kind", "body"] ["program", "part"] (defScope sPartsThat) := ⟨rfl, rfl, rfl, by decide +kernel, rfl, by decide +kernel, by decide +kernel⟩
section
variable {P : Program} {w : World} {K : PySem.W.Frag} {mg : Str → Option Value} {base : Heap}
theorem ok_pthat {f fp fc fn : Addr} {fd fdp fdc fdn : FuncData} {n : Nat} (D : Def K mg "parts_that_come" sPartsThat ["program", "part"] f fd) (Dp : Def K mg "parts_of" sParts ["program"] fp fdp) (Gp : FnOk P w K mg base CX0 (n + 2) fp fdp ["program"] (spParts K n))
    (Dc : Def K mg "what_comes" sWhatComes ["part"] fc fdc) (Gc : FnOk P w K mg base CX0 (n + 3) fc fdc ["part"] (spComes K n)) (Dn : Def K mg "name_count" sNameCount ["part", "name"] fn fdn) (Gn : FnOk P w K mg base CX0 (n + 2) fn fdn ["part", "name"] (spCount K n)) :
    FnOk P w K mg base CX0 (n + 4) f fd ["program", "part"] (spPThat K n) := by
  have hN := scPThat.nd
  refine fun_ok D.F scPThat (fun vs H Q E h => ?_) (fun cdv A outer s H vs Q E hr h => ?_)
  · obtain ⟨v, p, u, q, rfl, _⟩ := h; rfl
  obtain ⟨v, p, u, q, rfl, hp, hq, hc, hd1, hd2, hz, k⟩ := h
  have hr2 := hr.mono (show n + 2 ≤ n + 3 by omega)
  refine s_cons <| s_set 2 hN <| e_op op_sub <| e_call Gp hr2 rfl Dp.m Dp.F.kp Dp.b .nil pass0 <| a_cons <| e_var 0 rfl <| a_nil ⟨v, p, rfl, hp, hd1, fun H1 s1 => e_call Gp hr2 rfl Dp.m Dp.F.kp Dp.b .nil pass0 <| a_cons <| e_var 1 rfl <| a_nil ⟨u, q, rfl, hq.mono (keepT_of s1), hd2, fun H2 s2 => ⟨_, _, rfl, rfl, ?_⟩⟩⟩
  have s02 := s1.trans s2
  have hq2 := hq.mono (keepT_of s02)
  have easy : ∀ {a : Addr} {wd : Str} {r : List V}, u = .ref a → SqT K H2 a (.str wd :: r) → ¬ wd = "give" → K23.deepP (K23.comes q) < n → wS (cxOf CX0 P w K mg base ["program", "part", "rest", "word", "name", "kind", "body"] "parts_that_come" (defScope sPartsThat) f cdv A outer s H E).nox ((defBody sPartsThat).drop 1) { nx := fun _ H' => Q .non H', rt := Q } [some v, some u, some (.int ((K23.partsP p : Int) - (K23.partsP q : Int))), none, none, none, none] H2 := by
    intro a wd r e hT hw hdc
    subst e
    refine s_cons <| s_if <| t_strN <| e_at 1 0 hT ⟨rfl, ifn_ne hw ?_⟩
    refine s_one <| s_ret <| e_op op_add <| e_var 2 rfl <| e_call Gp hr2 rfl Dp.m Dp.F.kp Dp.b .nil pass0 <| a_cons <| e_call Gc hr rfl Dc.m Dc.F.kp Dc.b .nil pass0 <| a_cons <| e_var 1 rfl <| a_nil ⟨_, q, rfl, hq2, hc, hd2, fun t H3 s3 ht => a_nil ⟨t, _, rfl, ht, hdc, fun H4 s4 => ⟨_, _, rfl, rfl, k H4 (s02.trans (s3.trans s4))⟩⟩⟩
  cases hq2 with
  | name hT => cases hc
  | take hT _ _ => cases hc
  | pair hT _ _ => cases hc
  | thing hT => cases hc
  | first hT _ =>
    obtain ⟨p1, p2, rfl⟩ := can_first' hc
    exact easy rfl hT (by decide +kernel) (by simp only [K23.deepP, K23.comes] at *; omega)
  | second hT _ =>
    obtain ⟨p1, p2, rfl⟩ := can_second' hc
    exact easy rfl hT (by decide +kernel) (by simp only [K23.deepP, K23.comes] at *; omega)
  | @give a y z q1 qa hT h1 h2 =>
    obtain ⟨x, kd, b, rfl⟩ := can_give' hc
    cases h1 with
    | @take c _ yk zb _ _ hT1 hk hb =>
      have hcl := cnt_le x b
      simp only [K23.deepP, K23.partsP] at hd2 hz
      refine s_cons <| s_if <| t_strN <| e_at 1 0 hT ⟨rfl, ifn_eq rfl <| s_nil ?_⟩
      refine s_cons <| s_asg (pg4 3 4 5 6 rfl (pg_name (i := 3) hN rfl (Or.inl rfl)) (pg_name (i := 4) hN rfl (Or.inl rfl)) (pg_name (i := 5) hN rfl (Or.inl rfl)) (pg_name (i := 6) hN rfl (Or.inl rfl))) <| e_at 1 1 hT ⟨c, _, rfl, hT1, rfl, _, _, rfl, _, _, rfl, _, _, rfl, _, _, rfl, rfl, ?_⟩
      refine s_one <| s_ret <| e_op op_add <| e_op op_add <| e_var 2 rfl <| e_call Gp hr2 rfl Dp.m Dp.F.kp Dp.b .nil pass0 <| a_cons <| e_var 6 rfl <| a_nil ⟨zb, b, rfl, hb, by omega, fun H3 s3 => ⟨_, _, rfl, rfl, ?_⟩⟩
      refine e_op op_mul <| e_call Gn hr2 rfl Dn.m Dn.F.kp Dn.b .nil pass0 <| a_cons <| e_var 6 rfl <| a_cons <| e_var 4 rfl <| a_nil ⟨zb, b, x, rfl, hb.mono (keepT_of s3), by omega, fun H4 s4 => ?_⟩
      refine e_op op_sub <| e_call Gp hr2 rfl Dp.m Dp.F.kp Dp.b .nil pass0 <| a_cons <| e_at 1 2 (sqT_keep (keepT_of (s3.trans s4)) hT) <| a_nil ⟨z, qa, rfl, h2.mono (keepT_of (s3.trans s4)), by omega, fun H5 s5 => e_int ⟨_, _, rfl, rfl, _, _, rfl, rfl, .inl ⟨by omega, by omega⟩, _, _, rfl, rfl, ?_⟩⟩
      have g := k H5 (s02.trans (s3.trans (s4.trans s5)))
      have e := K23.parts_wg x qa b
      have e2 : K23.comes (.give (.take x kd b) qa) = K23.wg x qa b := rfl
      rw [e2, e, ← Int.add_assoc] at g
      exact g
end
end KW

namespace KW
open PySem PySem.Spec L2 PyProof.Rows
open K23 (Kd Pg encK encP)
theorem at_len : ∀ (l : List Nat) (p q : Pg), K23.atP p l = some q → l.length + K23.deepP q ≤ K23.deepP p
  | [], p, q, h => by
    obtain rfl : p = q := by simpa [K23.atP] using h
    simp
  | m :: l, p, q, h => by
    simp only [K23.atP] at h
    cases e : (K23.inner p)[m]? with
    | none => rw [e] at h; cases h
    | some z =>
      rw [e] at h
      have h1 := at_len l z q h
      have h2 := inner_deep e
      simp only [List.length_cons]
      omega
theorem at_parts : ∀ (l : List Nat) (p q : Pg), K23.atP p l = some q → K23.partsP q ≤ K23.partsP p
  | [], p, q, h => by
    obtain rfl : p = q := by simpa [K23.atP] using h
    exact Nat.le_refl _
  | m :: l, p, q, h => by
    simp only [K23.atP] at h
    cases e : (K23.inner p)[m]? with
    | none => rw [e] at h; cases h
    | some z =>
      rw [e] at h
      exact Nat.le_trans (at_parts l z q h) (inner_parts e)
def spDone (K : PySem.W.Frag) (n : Nat) : Sp := fun vs H Q _ => ∃ (v : V) (p : Pg) (a : Addr) (l : List Nat) (q : Pg), vs = [v, .ref a] ∧ PAt K H v p ∧ SqL K H a (nI l) ∧ K23.atP p l = some q ∧ K23.canP q = true ∧ K23.deepP p < n ∧ K23.deepP (K23.withP p l (K23.comes q)) < n ∧ n ≤ 900 ∧
  ∀ t H', Same H H' → PAt K H' t (K23.nm 0 (K23.db [] (K23.withP p l (K23.comes q)))) → Q t H'
theorem scDone : FnScope ["program", "place"] ["program", "place"] (defScope sDoneAt) := ⟨rfl, rfl, rfl, by decide +kernel, rfl, by decide +kernel, by decide +kernel⟩
section
variable {P : Program} {w : World} {K : PySem.W.Frag} {mg : Str → Option Value} {base : Heap}
theorem ok_done {f ft fw fc fa : Addr} {fd fdt fdw fdc fda : FuncData} {n : Nat} (D : Def K mg "done_at" sDoneAt ["program", "place"] f fd) (Dt : Def K mg "tidied" sTidied ["program"] ft fdt) (Gt : FnOk P w K mg base CX0 (n + 3) ft fdt ["program"] (spTidied K n))
    (Dw : Def K mg "with_part" sWithPart ["program", "place", "part"] fw fdw) (Gw : FnOk P w K mg base CX0 (n + 2) fw fdw ["program", "place", "part"] (spWithPart K n)) (Dc : Def K mg "what_comes" sWhatComes ["part"] fc fdc) (Gc : FnOk P w K mg base CX0 (n + 3) fc fdc ["part"] (spComes K n))
    (Da : Def K mg "part_at" sPartAt ["program", "place"] fa fda) (Ga : FnOk P w K mg base CX0 2 fa fda ["program", "place"] (spPartAt K)) : FnOk P w K mg base CX0 (n + 4) f fd ["program", "place"] (spDone K n) := by
  refine fun_ok D.F scDone (fun vs H Q E h => ?_) (fun cdv A outer s H vs Q E hr h => ?_)
  · obtain ⟨v, p, a, l, q, rfl, _⟩ := h; rfl
  obtain ⟨v, p, a, l, q, rfl, hp, hL, hat, hc, hd, hd2, hn, k⟩ := h
  have hl := at_len l p q hat
  refine s_one <| s_ret <| e_call Gt hr rfl Dt.m Dt.F.kp Dt.b .nil pass0 <| a_cons <| e_call Gw (hr.mono (by omega)) rfl Dw.m Dw.F.kp Dw.b .nil pass0 <| a_cons <| e_var 0 rfl <| a_cons <| e_var 1 rfl <| a_cons <| e_call Gc hr rfl Dc.m Dc.F.kp Dc.b .nil pass0 <| a_cons <|
    e_call Ga (hr.mono (by omega)) rfl Da.m Da.F.kp Da.b .nil pass0 <| a_cons <| e_var 0 rfl <| a_cons <| e_var 1 rfl <| a_nil ⟨v, p, a, l, q, rfl, hp, hL, hat, fun u H1 s1 hu => a_nil ⟨u, q, rfl, hu, hc, by omega, fun u2 H2 s2 hu2 => a_nil ?_⟩⟩
  have s02 := s1.trans s2
  refine ⟨v, p, a, l, u2, q, _, rfl, hp.mono (keepT_of s02), s02.seq hL, hu2, hat, by omega, fun u3 H3 s3 hu3 => a_nil ⟨u3, _, rfl, hu3, by omega, hd2, fun t H4 s4 ht => k t H4 (s02.trans (s3.trans s4)) ht⟩⟩

/-! ### next_place -/
def PkAt (K : PySem.W.Frag) (H : Hp) (v : V) : Prop := v = .non ∨ ∃ (b : Addr) (ns : List Int), v = .ref b ∧ SqL K H b (ns.map V.int)
theorem PkAt.mono {H H' : Hp} {v : V} (h : Same H H') (q : PkAt K H v) : PkAt K H' v := by
  rcases q with q | ⟨b, ns, e, q⟩
  · exact .inl q
  · exact .inr ⟨b, ns, e, h.seq q⟩
theorem dp_intz {H : Hp} : ∀ l : List Int, DpAll K H (l.map V.int) (l.map PyData.int)
  | [] => .nil
  | n :: l => .cons (.int _) (dp_intz l)
theorem plain_intz : ∀ l : List Int, PyData.plainAll (l.map PyData.int) = true
  | [] => rfl
  | n :: l => by simp [PyData.plainAll, PyData.plain, plain_intz l]
def spNext (K : PySem.W.Frag) : Sp := fun vs H Q _ => ∃ (g : Addr) (zs : List V) (L : List (List Nat)) (pk : V) (n : Nat), vs = [.ref g, pk, .int (n : Int)] ∧ SqL K H g zs ∧ Paired (LsAt K H) zs L ∧ L ≠ [] ∧ PkAt K H pk ∧ ∀ v l H', Same H H' → l ∈ L → LsAt K H' v l → Q v H'
theorem scNext : FnScope ["places", "picks", "number"] ["places", "picks", "number"] (defScope sNextPlace) := ⟨rfl, rfl, rfl, by decide +kernel, rfl, by decide +kernel, by decide +kernel⟩
theorem fmod_ix {i : Int} {n : Nat} (h : 0 < n) : ∃ j : Nat, i.fmod (n : Int) = (j : Int) ∧ j < n := by
  have h1 := Int.fmod_nonneg_of_pos i (show (0 : Int) < n by omega)
  have h2 := Int.fmod_lt_of_pos i (show (0 : Int) < n by omega)
  exact ⟨(i.fmod n).toNat, by omega, by omega⟩
theorem ok_next {f : Addr} {fd : FuncData} (D : Def K mg "next_place" sNextPlace ["places", "picks", "number"] f fd) (ml : mg "len" = none) : FnOk P w K mg base CX0 1 f fd ["places", "picks", "number"] (spNext K) := by
  refine fun_ok D.F scNext (fun vs H Q E h => ?_) (fun cdv A outer s H vs Q E hr h => ?_)
  · obtain ⟨g, zs, L, pk, n, rfl, _⟩ := h; rfl
  obtain ⟨g, zs, L, pk, n, rfl, hG, hz, hne, hpk, k⟩ := h
  have hzl := hz.length
  have hpos : 0 < L.length := List.length_pos_iff.mpr hne
  have pick : ∀ (j : Nat) (H' : Hp), Same H H' → j < zs.length → ∃ y, zs[j]? = some y ∧ (Q y H') := fun j H' s' hj => by
    obtain ⟨l, h1, h2⟩ := paired_get hz (List.getElem?_eq_getElem hj)
    exact ⟨_, List.getElem?_eq_getElem hj, k _ l H' s' (List.mem_of_getElem? h1) (h2.mono s')⟩
  have first' : ∀ H' {p1 p2 p3 p4 : Pos} {j}, Same H H' → wS (cxOf CX0 P w K mg base ["places", "picks", "number"] "next_place" (defScope sNextPlace) f cdv A outer s H E).nox [.Return (some (.Subscript (.Name "places" p1) (.Constant (.int 0) j p2) p3)) p4] { nx := wS (cxOf CX0 P w K mg base ["places", "picks", "number"] "next_place" (defScope sNextPlace) f cdv A outer s H E).nox ((defBody sNextPlace).drop 1) { nx := fun _ H' => Q .non H', rt := Q }, rt := Q } [some (.ref g), some pk, some (.int (n : Int))] H' := fun H' {p1 p2 p3 p4 j} s' => by
    obtain ⟨y, h1, h2⟩ := pick 0 H' s' (by omega)
    exact s_one <| s_ret <| e_atL 0 <| e_var 0 rfl ⟨g, zs, rfl, s'.seq hG, y, h1, h2⟩
  rcases hpk with rfl | ⟨b, ns, rfl, hB⟩
  · exact s_cons <| s_if <| t_or2 <| t_isN <| e_var 1 rfl <| if_eq rfl <| iteT <| first' H (Same.refl H)
  · refine s_cons <| s_if <| t_or2 <| t_isN <| e_var 1 rfl <| if_ne (by intro z; cases z) <| t_nil (room200 hr) <| e_var 1 rfl ⟨b, _, _, rfl, hB, dp_intz ns, plain_intz ns, fun H2 s2 => ?_⟩
    by_cases e : ns = []
    · subst e
      exact if_eq rfl <| first' H2 s2
    · refine if_ne (by simpa using e) <| s_nil ?_
      have hnp : 0 < ns.length := List.length_pos_iff.mpr e
      obtain ⟨j, ej, hj⟩ := fmod_ix (i := (n : Int)) hnp
      have hjn : (ns.map V.int)[j]? = some (.int ns[j]) := by rw [List.getElem?_map, List.getElem?_eq_getElem hj]; rfl
      obtain ⟨m, em, hm⟩ := fmod_ix (i := ns[j]) (show 0 < zs.length by omega)
      obtain ⟨y, hy1, hy2⟩ := pick m H2 s2 hm
      refine s_one <| s_ret <| e_ix ix_list (fun _ _ => rfl) <| e_var 0 rfl <| e_op op_modN <| e_ix ix_list (fun _ _ => rfl) <| e_var 1 rfl <| e_op op_modN <| e_var 2 rfl <| e_callB call_len_seq rfl ml PySem.boot_len <| a_cons <| e_var 1 rfl <| a_nil
        ⟨b, _, rfl, .inl (s2.seq hB), _, _, rfl, rfl, by rw [List.length_map]; omega, b, _, _, .int ns[j], rfl, rfl, s2.seq hB, ?_, e_callB call_len_seq rfl ml PySem.boot_len <| a_cons <| e_var 0 rfl <| a_nil ⟨g, zs, rfl, .inl (s2.seq hG), _, _, rfl, rfl, by omega, g, zs, _, y, rfl, rfl, s2.seq hG, ?_, hy2⟩⟩
      · rw [List.length_map, ej]
        exact atI_nat hjn
      · rw [em]
        exact atI_nat hy1
end
end KW

namespace KW
open PySem PySem.Spec L2 PyProof.Rows
open K23 (Kd Pg encK encP Nx Wf Ty Fin Star Nf Many)
abbrev sRun : Stmt := top 36
/-! ### stepped -/
def spStepped (K : PySem.W.Frag) (n : Nat) : Sp := fun vs H Q _ => ∃ (v : V) (p : Pg) (a : Addr) (l : List Nat) (E : Str → Option Kd), vs = [v, .ref a] ∧ PAt K H v p ∧ SqL K H a (nI l) ∧ Nx E ∧ Wf E 0 (K23.db [] p) ∧ l ∈ K23.pls p ∧ K23.deepP p < n ∧ n ≤ 900 ∧ (∀ u, K23.Step (K23.db [] p) u → K23.dp u < n) ∧
  ∀ t u H', Same H H' → K23.Step (K23.db [] p) u → PAt K H' t (K23.nm 0 u) → Q t H'
theorem scStepped : FnScope ["program", "place", "part"] ["program", "place"] (defScope sStepped) := ⟨rfl, rfl, rfl, by decide +kernel, rfl, by decide +kernel, by decide +kernel⟩
/-- a step at a place of a tidied program -/
theorem at_step {E : Str → Option Kd} (N : Nx E) {t : K23.Tm} (w : Wf E 0 t) {l : List Nat} (h : l ∈ K23.plsT t) : ∃ q u, K23.atP (K23.nm 0 t) l = some q ∧ K23.canP q = true ∧ K23.Step t u ∧ K23.nm 0 (K23.db [] (K23.withP (K23.nm 0 t) l (K23.comes q))) = K23.nm 0 u ∧ K23.deepP (K23.withP (K23.nm 0 t) l (K23.comes q)) = K23.dp u ∧ K23.partsP (K23.withP (K23.nm 0 t) l (K23.comes q)) = K23.parts u := by
  obtain ⟨q, u, h1, h2, h3, h4⟩ := K23.step_at N t 0 w l h
  have h4' : K23.db [] (K23.withP (K23.nm 0 t) l (K23.comes q)) = u := h4
  exact ⟨q, u, h1, h2, h3, by rw [h4'], by rw [← K23.deepP_db _ [], h4'], by rw [← K23.partsP_db _ [], h4']⟩
section
variable {P : Program} {w : World} {K : PySem.W.Frag} {mg : Str → Option Value} {base : Heap}
theorem ok_stepped {f ft fa fc fn : Addr} {fd fdt fda fdc fdn : FuncData} {n : Nat} (D : Def K mg "stepped" sStepped ["program", "place"] f fd) (Dt : Def K mg "tidied" sTidied ["program"] ft fdt) (Gt : FnOk P w K mg base CX0 (n + 3) ft fdt ["program"] (spTidied K n))
    (Da : Def K mg "part_at" sPartAt ["program", "place"] fa fda) (Ga : FnOk P w K mg base CX0 2 fa fda ["program", "place"] (spPartAt K)) (Dc : Def K mg "can_step" sCanStep ["part"] fc fdc) (Gc : FnOk P w K mg base CX0 1 fc fdc ["part"] (spCanStep K))
    (Dn : Def K mg "done_at" sDoneAt ["program", "place"] fn fdn) (Gn : FnOk P w K mg base CX0 (n + 4) fn fdn ["program", "place"] (spDone K n)) : FnOk P w K mg base CX0 (n + 5) f fd ["program", "place"] (spStepped K n) := by
  have hN := scStepped.nd
  refine fun_ok D.F scStepped (fun vs H Q E h => ?_) (fun cdv A outer s H vs Q E' hr h => ?_)
  · obtain ⟨v, p, a, l, E, rfl, _⟩ := h; rfl
  obtain ⟨v, p, a, l, E, rfl, hp, hL, N, wf, hl, hd, hn, hu, k⟩ := h
  rw [← K23.plsT_db p []] at hl
  obtain ⟨q, u, h1, h2, h3, h4, h5, _⟩ := at_step N wf hl
  have hdt : K23.deepP (K23.nm 0 (K23.db [] p)) < n := by rw [K23.deepP_nm, K23.deepP_db]; exact hd
  refine s_cons <| s_set 0 hN <| e_call Gt (hr.mono (by omega)) rfl Dt.m Dt.F.kp Dt.b .nil pass0 <| a_cons <| e_var 0 rfl <| a_nil ⟨v, p, rfl, hp, by omega, hd, fun v1 H1 s1 hv1 => ?_⟩
  refine s_cons <| s_set 2 hN <| e_call Ga (hr.mono (by omega)) rfl Da.m Da.F.kp Da.b .nil pass0 <| a_cons <| e_var 0 rfl <| a_cons <| e_var 1 rfl <| a_nil ⟨v1, _, a, l, q, rfl, hv1, s1.seq hL, h1, fun v2 H2 s2 hv2 => ?_⟩
  obtain ⟨c, _, ev, _⟩ := hv2.head
  refine s_cons <| s_if <| t_or2 <| t_isN <| e_var 2 rfl <| if_ne (by rw [ev]; intro z; cases z) <| t_not <| t_val <| e_call Gc (hr.mono (by omega)) rfl Dc.m Dc.F.kp Dc.b .nil pass0 <| a_cons <| e_var 2 rfl <| a_nil ⟨v2, q, rfl, hv2, fun H3 s3 => ⟨_, rfl, ?_⟩⟩
  rw [h2]
  refine iteF <| s_nil ?_
  have s13 := s2.trans s3
  refine s_one <| s_ret <| e_call Gn hr rfl Dn.m Dn.F.kp Dn.b .nil pass0 <| a_cons <| e_var 0 rfl <| a_cons <| e_var 1 rfl <| a_nil ⟨v1, _, a, l, q, rfl, hv1.mono (keepT_of s13), (s1.trans s13).seq hL, h1, h2, hdt, by rw [h5]; exact hu u h3, hn, fun t H4 s4 ht => ?_⟩
  rw [h4] at ht
  exact k t u H4 (s1.trans (s13.trans s4)) h3 ht

theorem e_gi {X : Cx} {σ : L2.St} {H : Hp} {Q : VK} {x : Str} {i : Int} {t : Tok} {pos : Pos} (hg : Gl X x) (hm : X.mg x = some (.int i t)) (q : Q (.int i) H) (hd : (x == ("__debug__" : Str)) = false := by decide) : wE X (.Name x pos) σ H Q := e_glob hg hm (show RelV (.int i) _ from ⟨t, rfl⟩) q hd
/-! ### run -/
def spRun (K : PySem.W.Frag) : Sp := fun vs H Q _ => ∃ (v : V) (p : Pg) (pk : V) (E : Str → Option Kd) (kd : Kd) (q : K23.Tm), vs = [v, pk] ∧ PAt K H v p ∧ PkAt K H pk ∧ Nx E ∧ Ty E [] (K23.db [] p) kd ∧ Fin (K23.db [] p) ∧ Star K23.Step (K23.db [] p) q ∧ Nf q ∧
  ∀ (a b : Addr) (u : V) (H' : Hp), Same H H' → SqT K H' a [u, .ref b] → PAt K H' u (K23.nm 0 q) → Q (.ref a) H'
theorem scRun : FnScope ["program", "picks", "log", "places", "place"] ["program", "picks"] (defScope sRun) := ⟨rfl, rfl, rfl, by decide +kernel, rfl, by decide +kernel, by decide +kernel⟩
/-- lists of places: data -/
theorem dp_ls {H : Hp} : ∀ {zs : List V} {L : List (List Nat)}, Paired (LsAt K H) zs L → DpAll K H zs (L.map fun l => PyData.list (nD l))
  | _, _, .nil => .nil
  | _, _, .cons ⟨a, e, h⟩ t => by subst e; exact .cons (.lst h (dp_ints _)) (dp_ls t)
theorem plain_ls : ∀ L : List (List Nat), PyData.plainAll (L.map fun l => PyData.list (nD l)) = true
  | [] => rfl
  | l :: L => by simp [PyData.plainAll, PyData.plain, plain_ints, plain_ls L]
theorem fun_okD {P : Program} {w : World} {K : PySem.W.Frag} {mg : Str → Option Value} {base : Heap} {x qual : Str} {st : Stmt} {f : Addr} {fd : FuncData} {N ps : List Str} {k : Nat} {sp : Sp} {dvs : List V} {kws : List (Str × V)} (F : FunD K x qual (defArgs st) (defBody st) (defScope st) dvs kws f fd) (S : FnScope N ps (defScope st)) (len : ∀ vs H Q E, sp vs H Q E → vs.length = ps.length)
    (hbody : ∀ (cdv : Value) (A : Around) (outer : List Env) (s : Shared) (H : Hp) (vs : List V) (Q : VK) (E : XK), Room k (A.deeper (envOfC qual (defScope st) s.heap.objs.size f cdv)) → sp vs H Q E →
      wS (cxOf CX0 P w K mg base N qual (defScope st) f cdv A outer s H E).nox (defBody st) { nx := fun _ H' => Q .non H', rt := Q } (start N vs) H) : FnOk P w K mg base CX0 (k + 1) f fd ps sp :=
  F.ok S len fun cdv A outer s H vs Q E hr h => ⟨_, pss_w.nox, hbody cdv A outer s H vs Q E hr h⟩
theorem many_ty {E : Str → Option Kd} {t u : K23.Tm} {k : Kd} {n : Nat} (h : Many K23.Step n t u) (ty : Ty E [] t k) : Ty E [] u k := by
  induction h with
  | nil => exact ty
  | snoc _ a ih => exact (ih ty).step a
theorem ok_run {f ft fs fx fp fa fn fe : Addr} {fd fdt fds fdx fdp fda fdn fde : FuncData} {t1 t2 t3 : Tok} (F : FunD K "run" "run" (defArgs sRun) (defBody sRun) (defScope sRun) [.non] [] f fd)
    (Dt : Def K mg "tidied" sTidied ["program"] ft fdt) (Gt : FnOk P w K mg base CX0 93 ft fdt ["program"] (spTidied K 90)) (Ds : Def K mg "step_places" sStepPlaces ["program"] fs fds) (Gs : FnOk P w K mg base CX0 93 fs fds ["program"] (spPlaces K 90))
    (Dx : Def K mg "next_place" sNextPlace ["places", "picks", "number"] fx fdx) (Gx : FnOk P w K mg base CX0 1 fx fdx ["places", "picks", "number"] (spNext K)) (Dp : Def K mg "parts_that_come" sPartsThat ["program", "part"] fp fdp) (Gp : FnOk P w K mg base CX0 94 fp fdp ["program", "part"] (spPThat K 90))
    (Da : Def K mg "part_at" sPartAt ["program", "place"] fa fda) (Ga : FnOk P w K mg base CX0 2 fa fda ["program", "place"] (spPartAt K)) (Dn : Def K mg "done_at" sDoneAt ["program", "place"] fn fdn) (Gn : FnOk P w K mg base CX0 94 fn fdn ["program", "place"] (spDone K 90))
    (De : Def K mg "deep_of" sDeep ["program"] fe fde) (Ge : FnOk P w K mg base CX0 92 fe fde ["program"] (spDeep K 90)) (ml : mg "len" = none) (m1 : mg "MOST_STEPS" = some (.int 200 t1)) (m2 : mg "MOST_PARTS_steps" = some (.int 1500 t2)) (m3 : mg "MOST_DEEP_steps" = some (.int 100 t3)) :
    FnOk P w K mg base CX0 95 f fd ["program", "picks"] (spRun K) := by
  have hN := scRun.nd
  refine fun_okD (k := 94) F scRun (fun vs H Q E h => ?_) (fun cdv A outer s H vs Q E' hr h => ?_)
  · obtain ⟨v, p, pk, E, kd, q, rfl, _⟩ := h; rfl
  obtain ⟨v, p, pk, E, kd, q, rfl, hp, hpk, N, ty, fin, st, nf, k⟩ := h
  have wf0 := ty.wf
  have d0 : K23.deepP p ≤ 80 := by rw [← K23.deepP_db p []]; exact fin.dp 0 _ (.nil _)
  refine s_cons <| s_set 0 hN <| e_call Gt (hr.mono (by omega)) rfl Dt.m Dt.F.kp Dt.b .nil pass0 <| a_cons <| e_var 0 rfl <| a_nil ⟨v, p, rfl, hp, by omega, by omega, fun v1 H1 s1 hv1 => ?_⟩
  refine s_cons <| s_set 2 hN <| e_lst <| a_nil ⟨size_le (by show 0 ≤ 100000; decide), fun lg hlg => ?_⟩
  have s2 := s1.trans (same_new hlg (.lst []))
  have hlg0 : H lg = none := s1.free hlg
  refine s_cons <| s_set 3 hN <| e_call Gs (hr.mono (by omega)) rfl Ds.m Ds.F.kp Ds.b .nil pass0 <| a_cons <| e_var 0 rfl <| a_nil ⟨v1, _, rfl, hv1.mono (keepT_of (same_new hlg _)), by rw [K23.deepP_nm, K23.deepP_db]; omega, by rw [K23.partsP_nm]; have := fin.parts 0 _ (.nil _); omega, by rw [K23.deepP_nm, K23.deepP_db]; omega, fun H3 g zs s3 hg hG hz => ?_⟩
  have s03 := s2.trans s3
  refine s_seq (fun σ' H' => ∃ v lg, σ'[0]? = some (some v) ∧ σ'[2]? = some (some (.ref lg)) ∧ Same H H' ∧ PAt K H' v (K23.nm 0 q)) ?_ ?_
  · refine s_while PassesOwn.never ⟨fun m σ H' => ∃ n v u x g zs ls, m + n = 151 ∧ σ = [some v, some pk, some (.ref lg), some (.ref g), x] ∧ Same H H' ∧ Many K23.Step n (K23.db [] p) u ∧ PAt K H' v (K23.nm 0 u) ∧ H' lg = some (.lst ls) ∧ ls.length = n ∧ SqL K H' g zs ∧ Paired (LsAt K H') zs (K23.plsT u), ⟨151, 0, v1, _, none, g, zs, [], rfl, rfl, s03, .nil _, hv1.mono (keepT_of ((same_new hlg _).trans s3)), s3 _ _ upd_same, rfl, SqL.of hG, ?_⟩, ?_⟩
    · rw [← K23.plsT_db _ [], K23.db_nm0 N wf0] at hz
      exact hz
    · rintro m σ H4 ⟨n, v4, u, x, g4, zs4, ls, hm, rfl, s4, hmn, hv4, hl4, hln, hG4, hz4⟩
      have tyu := many_ty hmn ty
      have wfu := tyu.wf
      have hn := fin.steps n u hmn
      refine t_nilN (room200 hr) <| e_var 3 rfl ⟨g4, zs4, _, rfl, hG4, dp_ls hz4, plain_ls _, fun H5 s5 => ?_⟩
      by_cases e : K23.plsT u = []
      · refine ifn_eq (by simpa using e) ?_
        have hq : u = q := K23.one_end ⟨n, hmn⟩ st ((K23.nf_pls N wfu).mpr e) nf
        subst hq
        exact ⟨v4, lg, rfl, rfl, s4.trans s5, hv4.mono (keepT_of s5)⟩
      · refine ifn_ne (by simpa using e) ?_
        refine ⟨fun σ' H' => ∃ v u x g zs ls, σ' = [some v, some pk, some (.ref lg), some (.ref g), x] ∧ Same H H' ∧ Many K23.Step (n + 1) (K23.db [] p) u ∧ PAt K H' v (K23.nm 0 u) ∧ H' lg = some (.lst ls) ∧ ls.length = n + 1 ∧ SqL K H' g zs ∧ Paired (LsAt K H') zs (K23.plsT u), fun σ' H' ⟨v, u, x, g, zs, ls, h1, h2, h3, h4, h5, h6, h7, h8⟩ => ⟨m - 1, ?_, n + 1, v, u, x, g, zs, ls, ?_, h1, h2, h3, h4, h5, h6, h7, h8⟩, ?_⟩
        · have := fin.steps (n + 1) u h3; omega
        · have := fin.steps (n + 1) u h3; omega
        have s45 := s4.trans s5
        refine s_cons <| s_set 4 hN <| e_call Gx (hr.mono (by omega)) rfl Dx.m Dx.F.kp Dx.b .nil pass0 <| a_cons <| e_var 3 rfl <| a_cons <| e_var 1 rfl <| a_cons <| e_callB call_len_seq rfl ml PySem.boot_len <| a_cons <| e_var 2 rfl <| a_nil ⟨lg, ls, rfl, .inl (SqL.of (s5 _ _ hl4)), a_nil ?_⟩
        refine ⟨g4, zs4, _, pk, ls.length, rfl, s5.seq hG4, paired_mono hz4 fun _ _ t => t.mono s5, e, hpk.mono s45, ?_⟩
        rintro _ l H6 s6 hl ⟨la, rfl, hla⟩
        obtain ⟨qq, u', a1, a2, a3, a4, a5, a6⟩ := at_step N wfu hl
        have hs := fin.steps (n + 1) u' (hmn.snoc a3)
        have s46 := s5.trans s6
        have hlg6 := s46 _ _ hl4
        have du : K23.deepP (K23.nm 0 u) ≤ 80 := by rw [K23.deepP_nm]; exact fin.dp n u hmn
        have du' : K23.dp u' ≤ 80 := fin.dp (n + 1) u' (hmn.snoc a3)
        have pu : K23.partsP (K23.nm 0 u) ≤ 1500 := by rw [K23.partsP_nm]; exact fin.parts n u hmn
        have pu' : K23.parts u' ≤ 1500 := fin.parts (n + 1) u' (hmn.snoc a3)
        have aln := at_len l _ qq a1
        have alp := at_parts l _ qq a1
        refine s_cons <| s_if <| t_or2 <| t_cmp op_eq (nomark _) <| e_callB call_len_seq rfl ml PySem.boot_len <| a_cons <| e_var 2 rfl <| a_nil ⟨lg, ls, rfl, .inl (SqL.of hlg6), e_gi rfl m1 ⟨rfl, _, rfl, ?_⟩⟩
        rw [show (decide (V.int (ls.length : Int) = V.int 200)) = false from decide_eq_false (by intro z; injection z with z; omega)]
        refine iteF ?_
        refine t_cmp op_gt (nomark _) <| e_call Gp hr rfl Dp.m Dp.F.kp Dp.b .nil pass0 <| a_cons <| e_var 0 rfl <| a_cons <| e_call Ga (hr.mono (by omega)) rfl Da.m Da.F.kp Da.b .nil pass0 <| a_cons <| e_var 0 rfl <| a_cons <| e_var 4 rfl <| a_nil ⟨v4, _, la, l, qq, rfl, hv4.mono (keepT_of s46), hla, a1, fun v7 H7 s7 hv7 => a_nil ?_⟩
        have s47 := s46.trans s7
        refine ⟨v4, _, v7, qq, rfl, hv4.mono (keepT_of s47), hv7, a2, by omega, by omega, by omega, fun H8 s8 => e_gi rfl m2 ?_⟩
        have s48 := s47.trans s8
        have pw := K23.parts_with l _ qq (K23.comes qq) a1
        refine ⟨_, _, rfl, rfl, _, rfl, ?_⟩
        refine if_ne (by omega) <| s_nil ?_
        refine s_cons <| s_set 0 hN <| e_call Gn hr rfl Dn.m Dn.F.kp Dn.b .nil pass0 <| a_cons <| e_var 0 rfl <| a_cons <| e_var 4 rfl <| a_nil ⟨v4, _, la, l, qq, rfl, hv4.mono (keepT_of s48), (s7.trans s8).seq hla, a1, a2, by omega, by omega, by omega, fun v9 H9 s9 hv9 => ?_⟩
        rw [a4] at hv9
        refine s_cons <| s_if <| t_cmp op_gt (nomark _) <| e_call Ge (hr.mono (by omega)) rfl De.m De.F.kp De.b .nil pass0 <| a_cons <| e_var 0 rfl <| a_nil ⟨v9, _, rfl, hv9, by rw [K23.deepP_nm]; omega, fun H10 s10 => e_gi rfl m3 ⟨_, _, rfl, rfl, _, rfl, if_ne (by rw [K23.deepP_nm]; omega) <| s_nil ?_⟩⟩
        have s410 := s48.trans (s9.trans s10)
        have hl10 := s410 _ _ hl4
        refine s_cons <| s_expr <| e_bm PySem.F.plainAttrs_list PySem.F.slot_list_append PySem.F.type_list_append mt_append <| e_var 2 rfl ⟨.inl ⟨rfl, _, SqL.of hl10⟩, a_cons <| e_var 4 rfl <| a_nil ⟨lg, ls, _, rfl, rfl, hl10, size_lt (by omega), ?_⟩⟩
        have s11 : Same H (upd H10 lg (.lst (ls ++ [.ref la]))) := Same.mut (s4.trans s410) hlg0
        have kp11 : KeepT H10 (upd H10 lg (.lst (ls ++ [.ref la]))) := exc_upd.keepT (not_tup_lst hl10)
        refine s_one <| s_set 3 hN <| e_call Gs (hr.mono (by omega)) rfl Ds.m Ds.F.kp Ds.b .nil pass0 <| a_cons <| e_var 0 rfl <| a_nil ⟨v9, _, rfl, (hv9.mono (keepT_of s10)).mono kp11, by rw [K23.deepP_nm]; omega, by rw [K23.partsP_nm]; omega, by rw [K23.deepP_nm]; omega, fun H12 g12 zs12 s12 hg12 hG12 hz12 => ?_⟩
        rw [← K23.plsT_db _ [], K23.db_nm0 N ((tyu.step a3).wf)] at hz12
        exact ⟨v9, u', _, g12, zs12, _, rfl, s11.trans s12, hmn.snoc a3, ((hv9.mono (keepT_of s10)).mono kp11).mono (keepT_of s12), s12 _ _ upd_same, by rw [List.length_append, hln]; rfl, SqL.of hG12, hz12⟩
  · rintro σ H4 ⟨v4, lg4, e0, e2, s4, hv4⟩
    refine s_one <| s_ret <| e_tup <| a_cons <| e_var 0 e0 <| a_cons <| e_var 2 e2 <| a_nil ⟨size_le (by show 2 ≤ 100000; decide), fun a ha => ?_⟩
    exact k a lg4 v4 _ (s4.trans (same_new ha _)) (SqT.of upd_same) (hv4.mono (keepT_of (same_new ha _)))
end
end KW

namespace KW
open PySem PySem.Spec L2 PyProof.Rows
open K23 (Kd Pg encK encP Nx Wf Ty Fin Star Nf Many Mk Al Sm nm xn lvs lk leaves deepK rowE deepK_leaves)
/-! ### long, with names -/
mutual
inductive LnP : List (Str × Kd) → Nat → Kd → Pg → Prop
  | one {l : List (Str × Kd)} {n : Nat} : LnP l n .one .thing
  | mark {l : List (Str × Kd)} {n : Nat} {m : Str} {p : Pg} : GaP l n p (.mark m) → LnP l n (.mark m) p
  | both {l : List (Str × Kd)} {n : Nat} {A B : Kd} {p q : Pg} : LnP l n A p → LnP l n B q → LnP l n (.both A B) (.pair p q)
  | to {l : List (Str × Kd)} {n : Nat} {A B : Kd} {p : Pg} : deepK A ≤ 100 → LnP (l ++ [(xn n, A)]) (n + 1) B p → LnP l n (.to A B) (.take (xn n) A p)
inductive GaP : List (Str × Kd) → Nat → Pg → Kd → Prop
  | name {l : List (Str × Kd)} {n : Nat} {x : Str} {k : Kd} : lk l.reverse x = some k → GaP l n (.name x) k
  | give {l : List (Str × Kd)} {n : Nat} {A B : Kd} {p q : Pg} : GaP l n p (.to A B) → LnP l n A q → GaP l n (.give p q) B
  | first {l : List (Str × Kd)} {n : Nat} {A B : Kd} {p : Pg} : GaP l n p (.both A B) → GaP l n (.first p) A
  | second {l : List (Str × Kd)} {n : Nat} {A B : Kd} {p : Pg} : GaP l n p (.both A B) → GaP l n (.second p) B
end
section
variable {row : List (Str × Kd)}
/-- the names as Python lists them -/
def kn (row : List (Str × Kd)) (G : List Kd) : List (Str × Kd) := row ++ (lvs G).reverse
theorem kn_cons (row : List (Str × Kd)) (A : Kd) (G : List Kd) : kn row (A :: G) = kn row G ++ [(xn G.length, A)] := by
  show row ++ ((xn G.length, A) :: lvs G).reverse = _
  rw [List.reverse_cons, ← List.append_assoc]
  rfl
theorem kn_lk (N : Nx (rowE row)) {G : List Kd} {t : K23.Tm} {K : Kd} {x : Str} (h : Ty (rowE row) G t K) (e : nm G.length t = .name x) : lk (kn row G).reverse x = some K := by
  rw [← K23.kas_lvs N h e, K23.kas_eq]
  rfl
mutual
theorem mk_ln (N : Nx (rowE row)) : ∀ {G : List Kd} {K : Kd} {t r : K23.Tm}, Mk (rowE row) G K t r → Sm (rowE row) G → leaves K ≤ 4 → LnP (kn row G) G.length K (nm G.length r)
  | _, _, _, _, .one, s, h4 => .one
  | _, _, _, _, .mark h, s, h4 => .mark (al_ga N h s).1
  | _, _, _, _, .both h g, s, h4 => by
    simp only [leaves] at h4
    exact .both (mk_ln N h s (by omega)) (mk_ln N g s (by omega))
  | _, _, _, _, .bothE _ h g, s, h4 => by
    simp only [leaves] at h4
    exact .both (mk_ln N h s (by omega)) (mk_ln N g s (by omega))
  | G, _, _, _, .to (A := A) h, s, h4 => by
    simp only [leaves] at h4
    have h1 := mk_ln N h (s.cons (by omega)) (by omega)
    rw [kn_cons] at h1
    exact .to (by have := deepK_leaves A; omega) h1
  | G, _, _, _, .toE (A := A) _ h, s, h4 => by
    simp only [leaves] at h4
    have h1 := mk_ln N h (s.cons (by omega)) (by omega)
    rw [kn_cons] at h1
    exact .to (by have := deepK_leaves A; omega) h1
theorem al_ga (N : Nx (rowE row)) : ∀ {G : List Kd} {t r : K23.Tm} {K : Kd}, Al (rowE row) G t r K → Sm (rowE row) G → GaP (kn row G) G.length (nm G.length r) K ∧ leaves K ≤ 4
  | _, _, _, _, .var h, s => ⟨.name (kn_lk N (.var h) rfl), s.g _ _ h⟩
  | _, _, _, _, .free h, s => ⟨.name (kn_lk N (.free h) rfl), s.e _ _ h⟩
  | _, _, _, _, .app h g, s => by
    obtain ⟨h1, h2⟩ := al_ga N h s
    simp only [leaves] at h2
    exact ⟨.give h1 (mk_ln N g s (by omega)), by omega⟩
  | _, _, _, _, .fst h, s => by
    obtain ⟨h1, h2⟩ := al_ga N h s
    simp only [leaves] at h2
    exact ⟨.first h1, by omega⟩
  | _, _, _, _, .snd h, s => by
    obtain ⟨h1, h2⟩ := al_ga N h s
    simp only [leaves] at h2
    exact ⟨.second h1, by omega⟩
end
end
abbrev sTakenName : Stmt := top 40
abbrev sIsLongHere : Stmt := top 41
abbrev sGoneAlong : Stmt := top 42
abbrev sIsLong : Stmt := top 43
def spTakenName : Sp := fun vs H Q _ => ∃ n : Nat, vs = [.int (n : Int)] ∧ n ≤ 1000 ∧ Q (.str (xn n)) H
theorem scTakenName : FnScope ["takes"] ["takes"] (defScope sTakenName) := ⟨rfl, rfl, rfl, by decide +kernel, rfl, by decide +kernel, by decide +kernel⟩
def spIsLH (K : PySem.W.Frag) (n : Nat) : Sp := fun vs H Q _ => ∃ (a : Addr) (xs : List V) (l : List (Str × Kd)) (kv : V) (kd : Kd) (v : V) (p : Pg) (m : Nat), vs = [.ref a, kv, v, .int (m : Int)] ∧ H a = some (.lst xs) ∧ Paired (NAt K H) xs l ∧ KAt K H kv kd ∧ PAt K H v p ∧ LnP l m kd p ∧
  l.length + K23.deepP p ≤ 900 ∧ m + K23.deepP p ≤ 900 ∧ K23.deepP p < n ∧ ∀ H', Same H H' → Q (.bl true) H'
theorem scIsLH : FnScope ["known", "kind", "program", "takes", "name"] ["known", "kind", "program", "takes"] (defScope sIsLongHere) := ⟨rfl, rfl, rfl, by decide +kernel, rfl, by decide +kernel, by decide +kernel⟩
def spGone (K : PySem.W.Frag) (n : Nat) : Sp := fun vs H Q _ => ∃ (a : Addr) (xs : List V) (l : List (Str × Kd)) (kd : Kd) (v : V) (p : Pg) (m : Nat), vs = [.ref a, v, .int (m : Int)] ∧ H a = some (.lst xs) ∧ Paired (NAt K H) xs l ∧ PAt K H v p ∧ GaP l m p kd ∧
  l.length + K23.deepP p ≤ 900 ∧ m + K23.deepP p ≤ 900 ∧ K23.deepP p < n ∧ ∀ u H', Same H H' → KAt K H' u kd → Q u H'
theorem scGone : FnScope ["known", "program", "takes", "kind"] ["known", "program", "takes"] (defScope sGoneAlong) := ⟨rfl, rfl, rfl, by decide +kernel, rfl, by decide +kernel, by decide +kernel⟩
/-- x[0] not in ('a', 'b', ..) -/
theorem t_hd_nin {X : Cx} {σ : L2.St} {H : Hp} {Q : Bool → Hp → Prop} (i : Nat) {x : Str} {p : Addr} {w : Str} {r : List V} {es : List Expr} {p1 p2 p3 p4 p5 : Pos} {k k'} (ws : List Str) (hT : SqT X.K H p (.str w :: r)) (hes : ∀ H', wA X es σ H' fun xs H1 => xs = ws.map V.str ∧ H1 = H')
    (q : ∀ H1, Same H H1 → Q (!inV (.str w) (ws.map V.str)) H1) (hz : ws.length ≤ 100000 := by decide) (hs : σ[i]? = some (some (.ref p)) := by rfl) (hm : behindInMarks .NotIn (.Tuple es k' p4) = false := by rfl) (hN : X.N[i]? = some x := by rfl)
    (hv : Vis X.env.scope x := by first | exact Or.inl rfl | exact Or.inr (Or.inl rfl) | exact Or.inr (Or.inr rfl)) (hd : (x == ("__debug__" : Str)) = false := by decide) (hcd : (x == ("__classdict__" : Str)) = false := by decide) :
    wT X (.Compare (.Subscript (.Name x p1) (.Constant (.int 0) k p2) p3) [.NotIn] [.Tuple es k' p4] p5) σ H Q :=
  t_cmp op_notIn_seq hm (e_at i 0 hT (e_txts ws (hes _) hz fun t ht => ⟨t, _, rfl, .inr (SqT.of upd_same), rfl, flat_txts ws, _, rfl, q _ (same_new ht _)⟩) hs rfl rfl hN hv hd hcd)
theorem e_gr {X : Cx} {σ : L2.St} {H : Hp} {Q : VK} {x : Str} {a : Addr} {pos : Pos} (hg : Gl X x) (hm : X.mg x = some (.ref a)) (q : Q (.ref a) H) (hd : (x == ("__debug__" : Str)) = false := by decide) : wE X (.Name x pos) σ H Q := e_glob hg hm (show RelV (.ref a) _ from rfl) q hd
section
variable {P : Program} {w : World} {K : PySem.W.Frag} {mg : Str → Option Value} {base : Heap}
theorem ok_taken {f : Addr} {fd : FuncData} (D : Def K mg "taken_name" sTakenName ["takes"] f fd) (ms : mg "str" = none) : FnOk P w K mg base CX0 1 f fd ["takes"] spTakenName := by
  refine fun_ok D.F scTakenName (fun vs H Q E h => ?_) (fun cdv A outer s H vs Q E hr h => ?_)
  · obtain ⟨n, rfl, _⟩ := h; rfl
  obtain ⟨n, rfl, hn, k⟩ := h
  exact s_one <| s_ret <| e_num len_x rfl ms <| e_var 0 rfl ⟨n, rfl, hn, k⟩
theorem kat_eq {H H' : Hp} {x y : V} {k : Kd} (h : deepK k ≤ 100) (a : KAt K H x k) (b : KAt K H y k) : min (encK k).depth (encK k).depth ≤ 200 := by
  rw [K23.depth_encK]; omega
/-- is_long_here by gone_along of the same room -/
theorem ok_is_lh {f fg ft th : Addr} {fd fdg fdt : FuncData} {n : Nat} (D : Def K mg "is_long_here" sIsLongHere ["known", "kind", "program", "takes"] f fd) (Dg : Def K mg "gone_along" sGoneAlong ["known", "program", "takes"] fg fdg) (Gg : FnOk P w K mg base CX0 (2 * n + 1) fg fdg ["known", "program", "takes"] (spGone K n))
    (ih : ∀ m, m < n → FnOk P w K mg base CX0 (2 * m + 2) f fd ["known", "kind", "program", "takes"] (spIsLH K m))
    (Dt : Def K mg "taken_name" sTakenName ["takes"] ft fdt) (Gt : FnOk P w K mg base CX0 1 ft fdt ["takes"] spTakenName) (mT : mg "THING" = some (.ref th)) (hT : ∀ H, SqT K H th [.str "thing"]) : FnOk P w K mg base CX0 (2 * n + 2) f fd ["known", "kind", "program", "takes"] (spIsLH K n) := by
  have hN := scIsLH.nd
  refine fun_ok D.F scIsLH (fun vs H Q E h => ?_) (fun cdv A outer s H vs Q E hr h => ?_)
  · obtain ⟨a, xs, l, kv, kd, v, p, m, rfl, _⟩ := h; rfl
  obtain ⟨a, xs, l, kv, kd, v, p, m, rfl, hL, hx, hk, hp, ln, hl, hm, hd, k⟩ := h
  have hxl := hx.length
  cases ln with
  | one =>
    cases hk with
    | one hK =>
      refine s_cons <| s_hd_eq 1 hK <| s_one <| s_ret <| e_cmp (op_eqP (n := 200) (room200 hr)) (nomark _) <| e_var 2 rfl <| e_gr rfl mT ⟨encP .thing, encP .thing, hp.dp, (PAt.thing (hT _)).dp, K23.plain_encP _, K23.plain_encP _, ?_, ?_⟩
      · show min 1 1 ≤ 200; decide
      · rw [K23.eqv_encP]; exact k H (Same.refl H)
  | @mark _ _ mm _ ga =>
    cases hk with
    | mark hK =>
      refine s_cons <| s_hd_ne 1 hK <| s_nil <| s_cons <| s_hd_eq 1 hK <| s_one <| s_ret <| e_cmp (op_eqP (n := 200) (room200 hr)) (nomark _) <| e_call Gg hr rfl Dg.m Dg.F.kp Dg.b .nil pass0 <| a_cons <| e_var 0 rfl <| a_cons <| e_var 2 rfl <| a_cons <| e_var 3 rfl <| a_nil
        ⟨a, xs, l, _, v, p, m, rfl, hL, hx, hp, ga, hl, hm, hd, fun u H1 s1 hu => e_var 1 rfl ⟨_, _, hu.dp, (KAt.mark (sqT_keep (keepT_of s1) hK)).dp, K23.plain_encK _, K23.plain_encK _, ?_, ?_⟩⟩
      · show min 1 1 ≤ 200; decide
      · rw [K23.eqv_encK, decide_eq_true rfl]; exact k H1 s1
  | @both _ _ kA kB p q h1 h2 =>
    simp only [K23.deepP] at hl hm hd
    obtain ⟨n, rfl⟩ : ∃ z, n = z + 1 := ⟨n - 1, by omega⟩
    have ih := ih n (by omega)
    cases hk with
    | @both _ x y _ _ hK ka kb =>
      cases hp with
      | @pair pa pv qv _ _ hP pp pq =>
        refine s_cons <| s_hd_ne 1 hK <| s_nil <| s_cons <| s_hd_ne 1 hK <| s_nil <| s_cons <| s_hd_eq 1 hK <| s_cons <| s_if <| t_or2 <| t_strN <| e_at 2 0 hP ⟨rfl, ifn_eq rfl <| t_not <| t_val ?_⟩
        refine e_call ih (hr.mono (by omega)) rfl D.m D.F.kp D.b .nil pass0 <| a_cons <| e_var 0 rfl <| a_cons <| e_at 1 1 hK <| a_cons <| e_at 2 1 hP <| a_cons <| e_var 3 rfl <| a_nil ⟨a, xs, l, x, kA, pv, p, m, rfl, hL, hx, ka, pp, h1, by omega, by omega, by omega, fun H1 s1 => ⟨true, rfl, iteF <| s_nil ?_⟩⟩
        have kp := keepT_of s1
        refine s_one <| s_ret <| e_call ih (hr.mono (by omega)) rfl D.m D.F.kp D.b .nil pass0 <| a_cons <| e_var 0 rfl <| a_cons <| e_at 1 2 (sqT_keep kp hK) <| a_cons <| e_at 2 2 (sqT_keep kp hP) <| a_cons <| e_var 3 rfl <| a_nil ⟨a, xs, l, y, kB, qv, q, m, rfl, s1 _ _ hL, paired_mono hx fun _ _ t => t.mono kp, kb.mono kp, pq.mono kp, h2, by omega, by omega, by omega, fun H2 s2 => k H2 (s1.trans s2)⟩
  | @to _ _ kA kB p hA h1 =>
    simp only [K23.deepP] at hl hm hd
    obtain ⟨n, rfl⟩ : ∃ z, n = z + 1 := ⟨n - 1, by omega⟩
    have ih := ih n (by omega)
    cases hk with
    | @to _ x y _ _ hK ka kb =>
      cases hp with
      | @take pa _ yv zv _ _ hP pk pp =>
        refine s_cons <| s_hd_ne 1 hK <| s_nil <| s_cons <| s_hd_ne 1 hK <| s_nil <| s_cons <| s_hd_ne 1 hK <| s_nil ?_
        refine s_cons <| s_set 4 hN <| e_call Gt (hr.mono (by omega)) rfl Dt.m Dt.F.kp Dt.b .nil pass0 <| a_cons <| e_var 3 rfl <| a_nil ⟨m, rfl, by omega, ?_⟩
        refine s_cons <| s_if <| t_or3 <| t_strN <| e_at 2 0 hP ⟨rfl, ifn_eq rfl <| t_cmp op_ne (nomark _) <| e_at 2 1 hP <| e_var 4 rfl ⟨rfl, _, rfl, ifn_eq rfl ?_⟩⟩
        refine t_cmp (op_neP (n := 200) (room200 hr)) (nomark _) <| e_at 2 2 hP <| e_at 1 1 hK ⟨_, _, pk.dp, ka.dp, K23.plain_encK _, K23.plain_encK _, by rw [K23.depth_encK]; omega, _, rfl, ?_⟩
        rw [K23.eqv_encK, decide_eq_true rfl]
        refine iteF <| s_nil ?_
        refine s_one <| s_ret <| e_call ih (hr.mono (by omega)) rfl D.m D.F.kp D.b .nil pass0 <| a_cons <| e_op op_cat <| e_var 0 rfl <| e_lst <| a_cons <| e_tup <| a_cons <| e_var 4 rfl <| a_cons <| e_at 1 1 hK <| a_nil ⟨size_le (by show 2 ≤ 100000; decide), fun t ht => a_nil ⟨size_le (by show 1 ≤ 100000; decide), fun u hu => ?_⟩⟩
        have s1 := same_new ht (.tup [.str (xn m), x])
        have s2 := s1.trans (same_new hu (.lst [.ref t]))
        refine ⟨a, u, _, _, rfl, rfl, s2 _ _ hL, upd_same, size_le (by simp only [List.length_singleton]; omega), fun b hb => ?_⟩
        have s3 := s2.trans (same_new hb (.lst (xs ++ [.ref t])))
        have kp := keepT_of s3
        refine a_cons <| e_at 1 2 (sqT_keep kp hK) <| a_cons <| e_at 2 3 (sqT_keep kp hP) <| a_cons <| e_op op_add <| e_var 3 rfl <| e_int ⟨_, _, rfl, rfl, a_nil ?_⟩
        refine ⟨b, _, _, y, kB, zv, p, m + 1, rfl, upd_same, paired_append (paired_mono hx fun _ _ t => t.mono kp) (.cons (.mk (SqT.of ?_) (ka.mono kp)) .nil), kb.mono kp, pp.mono kp, h1, by rw [List.length_append, List.length_singleton]; omega, by omega, by omega, fun H2 s4 => k H2 (s3.trans s4)⟩
        exact (same_new hb _) _ _ ((same_new hu _) _ _ upd_same)
theorem ok_gone {f fl fk : Addr} {fd fdl fdk : FuncData} {n : Nat} (D : Def K mg "gone_along" sGoneAlong ["known", "program", "takes"] f fd) (Dl : Def K mg "is_long_here" sIsLongHere ["known", "kind", "program", "takes"] fl fdl)
    (ih : ∀ m, m < n → FnOk P w K mg base CX0 (2 * m + 1) f fd ["known", "program", "takes"] (spGone K m)) (ihl : ∀ m, m < n → FnOk P w K mg base CX0 (2 * m + 2) fl fdl ["known", "kind", "program", "takes"] (spIsLH K m))
    (Dk : Def K mg "known_as" sKnownAs ["known", "name"] fk fdk) (Gk : FnOk P w K mg base CX0 1 fk fdk ["known", "name"] (spKnownAs K)) (mi : mg "int" = none) : FnOk P w K mg base CX0 (2 * n + 1) f fd ["known", "program", "takes"] (spGone K n) := by
  have hN := scGone.nd
  cases n with
  | zero => exact none_left fun vs H Q E ⟨_, _, _, _, _, _, _, _, _, _, _, _, _, _, h, _⟩ => absurd h (by omega)
  | succ n =>
  have ih := ih n (by omega)
  have ihl := ihl n (by omega)
  refine fun_ok D.F scGone (fun vs H Q E h => ?_) (fun cdv A outer s H vs Q E hr h => ?_)
  · obtain ⟨a, xs, l, kd, v, p, m, rfl, _⟩ := h; rfl
  obtain ⟨a, xs, l, kd, v, p, m, rfl, hL, hx, hp, ga, hl, hm, hd, k⟩ := h
  have hxl := hx.length
  cases ga with
  | @name _ _ x _ hk =>
    cases hp with
    | name hP =>
      exact s_cons <| s_hd_eq 1 hP <| s_one <| s_ret <| e_call Gk (hr.mono (by omega)) rfl Dk.m Dk.F.kp Dk.b .nil pass0 <| a_cons <| e_var 0 rfl <| a_cons <| e_at 1 1 hP <| a_nil ⟨a, xs, l, x, kd, rfl, SqL.of hL, hx, hk, fun u H' s1 hu => k u H' s1 hu⟩
  | @give _ _ kA _ p q h1 h2 =>
    simp only [K23.deepP] at hl hm hd
    cases hp with
    | @give pa pv qv _ _ hP pp pq =>
      refine s_cons <| s_hd_ne 1 hP <| s_nil <| s_cons <| s_if <| t_hd_nin 1 ["first", "second", "give"] hP (hes := fun H' => a_str <| a_str <| a_str <| a_nil ⟨rfl, rfl⟩) (q := fun H1 s1 => ifb_f (by decide +kernel) <| s_nil ?_)
      have kp := keepT_of s1
      refine s_cons <| s_set 3 hN <| e_call ih (hr.mono (by omega)) rfl D.m D.F.kp D.b .nil pass0 <| a_cons <| e_var 0 rfl <| a_cons <| e_at 1 1 (sqT_keep kp hP) <| a_cons <| e_var 2 rfl <| a_nil ⟨a, xs, l, _, pv, p, m, rfl, s1 _ _ hL, paired_mono hx fun _ _ t => t.mono kp, pp.mono kp, h1, by omega, by omega, by omega, fun u H2 s2 hu => ?_⟩
      have s12 := s1.trans s2
      have kp2 := keepT_of s12
      cases hu with
      | @to ua x y _ _ hU ka kb =>
        refine s_cons <| s_if <| t_isN <| e_var 3 rfl <| if_ne (by intro z; cases z) <| s_nil ?_
        refine s_cons <| s_hd_eq 1 (sqT_keep kp2 hP) <| s_cons <| s_if <| t_and2 <| t_hd 3 hU <| if_eq rfl ?_
        refine t_val <| e_call ihl (hr.mono (by omega)) rfl Dl.m Dl.F.kp Dl.b .nil pass0 <| a_cons <| e_var 0 rfl <| a_cons <| e_at 3 1 hU <| a_cons <| e_at 1 2 (sqT_keep kp2 hP) <| a_cons <| e_var 2 rfl <| a_nil ⟨a, xs, l, x, kA, qv, q, m, rfl, s12 _ _ hL, paired_mono hx fun _ _ t => t.mono kp2, ka, pq.mono kp2, h2, by omega, by omega, by omega, fun H3 s3 => ⟨true, rfl, iteT ?_⟩⟩
        exact s_one <| s_ret <| e_at 3 2 (sqT_keep (keepT_of s3) hU) (k _ _ (s12.trans s3) (kb.mono (keepT_of s3)))
  | @first _ _ _ kB p h1 =>
    simp only [K23.deepP] at hl hm hd
    cases hp with
    | @first pa pv _ hP pp =>
      refine s_cons <| s_hd_ne 1 hP <| s_nil <| s_cons <| s_if <| t_hd_nin 1 ["first", "second", "give"] hP (hes := fun H' => a_str <| a_str <| a_str <| a_nil ⟨rfl, rfl⟩) (q := fun H1 s1 => ifb_f (by decide +kernel) <| s_nil ?_)
      have kp := keepT_of s1
      refine s_cons <| s_set 3 hN <| e_call ih (hr.mono (by omega)) rfl D.m D.F.kp D.b .nil pass0 <| a_cons <| e_var 0 rfl <| a_cons <| e_at 1 1 (sqT_keep kp hP) <| a_cons <| e_var 2 rfl <| a_nil ⟨a, xs, l, _, pv, p, m, rfl, s1 _ _ hL, paired_mono hx fun _ _ t => t.mono kp, pp.mono kp, h1, by omega, by omega, by omega, fun u H2 s2 hu => ?_⟩
      have s12 := s1.trans s2
      have kp2 := keepT_of s12
      cases hu with
      | @both ua x y _ _ hU ka kb =>
        refine s_cons <| s_if <| t_isN <| e_var 3 rfl <| if_ne (by intro z; cases z) <| s_nil ?_
        refine s_cons <| s_hd_ne 1 (sqT_keep kp2 hP) <| s_nil <| s_cons <| s_if <| t_strN <| e_at 3 0 hU ⟨rfl, ifn_eq rfl <| s_nil ?_⟩
        refine s_one <| s_ret <| e_ix ix_tup (fun _ _ => rfl) <| e_var 3 rfl <| e_op op_add <| e_int <| e_callTy call_int1 rfl mi (by decide +kernel) <| a_cons <| e_str_eq <| e_at 1 0 (sqT_keep kp2 hP) ⟨rfl, a_nil (.inr ⟨_, rfl, _, _, rfl, rfl, ua, _, _, x, rfl, rfl, hU, ?_, k _ _ s12 ka⟩)⟩
        rw [show decide (("first" : Str) = "second") = false by decide +kernel]
        rfl
  | @second _ _ kA _ p h1 =>
    simp only [K23.deepP] at hl hm hd
    cases hp with
    | @second pa pv _ hP pp =>
      refine s_cons <| s_hd_ne 1 hP <| s_nil <| s_cons <| s_if <| t_hd_nin 1 ["first", "second", "give"] hP (hes := fun H' => a_str <| a_str <| a_str <| a_nil ⟨rfl, rfl⟩) (q := fun H1 s1 => ifb_f (by decide +kernel) <| s_nil ?_)
      have kp := keepT_of s1
      refine s_cons <| s_set 3 hN <| e_call ih (hr.mono (by omega)) rfl D.m D.F.kp D.b .nil pass0 <| a_cons <| e_var 0 rfl <| a_cons <| e_at 1 1 (sqT_keep kp hP) <| a_cons <| e_var 2 rfl <| a_nil ⟨a, xs, l, _, pv, p, m, rfl, s1 _ _ hL, paired_mono hx fun _ _ t => t.mono kp, pp.mono kp, h1, by omega, by omega, by omega, fun u H2 s2 hu => ?_⟩
      have s12 := s1.trans s2
      have kp2 := keepT_of s12
      cases hu with
      | @both ua x y _ _ hU ka kb =>
        refine s_cons <| s_if <| t_isN <| e_var 3 rfl <| if_ne (by intro z; cases z) <| s_nil ?_
        refine s_cons <| s_hd_ne 1 (sqT_keep kp2 hP) <| s_nil <| s_cons <| s_if <| t_strN <| e_at 3 0 hU ⟨rfl, ifn_eq rfl <| s_nil ?_⟩
        refine s_one <| s_ret <| e_ix ix_tup (fun _ _ => rfl) <| e_var 3 rfl <| e_op op_add <| e_int <| e_callTy call_int1 rfl mi (by decide +kernel) <| a_cons <| e_str_eq <| e_at 1 0 (sqT_keep kp2 hP) ⟨rfl, a_nil (.inr ⟨_, rfl, _, _, rfl, rfl, ua, _, _, y, rfl, rfl, hU, ?_, k _ _ s12 kb⟩)⟩
        rw [show decide (("second" : Str) = "second") = true by decide +kernel]
        rfl
theorem ok_long_all {f fg fk ft th : Addr} {fd fdg fdk fdt : FuncData} (D : Def K mg "is_long_here" sIsLongHere ["known", "kind", "program", "takes"] f fd) (Dg : Def K mg "gone_along" sGoneAlong ["known", "program", "takes"] fg fdg)
    (Dt : Def K mg "taken_name" sTakenName ["takes"] ft fdt) (Gt : FnOk P w K mg base CX0 1 ft fdt ["takes"] spTakenName) (mT : mg "THING" = some (.ref th)) (hT : ∀ H, SqT K H th [.str "thing"])
    (Dk : Def K mg "known_as" sKnownAs ["known", "name"] fk fdk) (Gk : FnOk P w K mg base CX0 1 fk fdk ["known", "name"] (spKnownAs K)) (mi : mg "int" = none) :
    ∀ n, (∀ m, m < n → FnOk P w K mg base CX0 (2 * m + 1) fg fdg ["known", "program", "takes"] (spGone K m) ∧ FnOk P w K mg base CX0 (2 * m + 2) f fd ["known", "kind", "program", "takes"] (spIsLH K m))
  | 0 => fun m h => absurd h (by omega)
  | n + 1 => fun m h => by
    have ih := ok_long_all D Dg Dt Gt mT hT Dk Gk mi n
    have g := ok_gone (n := m) Dg D (fun i hi => (ih i (by omega)).1) (fun i hi => (ih i (by omega)).2) Dk Gk mi
    exact ⟨g, ok_is_lh D Dg g (fun i hi => (ih i (by omega)).2) Dt Gt mT hT⟩
/-! ### is_long -/
/-- a list of names and kinds -/
def spIsLong (K : PySem.W.Frag) (n : Nat) : Sp := fun vs H Q _ => ∃ (a : Addr) (xs : List V) (l : List (Str × Kd)) (kv : V) (kd : Kd) (v : V) (p : Pg), vs = [.ref a, kv, v] ∧ SqL K H a xs ∧ Paired (NAt K H) xs l ∧ KAt K H kv kd ∧ PAt K H v p ∧ LnP l 0 kd p ∧
  l.length + K23.deepP p ≤ 900 ∧ K23.deepP p < n ∧ ∀ H', Same H H' → Q (.bl true) H'
theorem scIsLong : FnScope ["row", "kind", "program"] ["row", "kind", "program"] (defScope sIsLong) := ⟨rfl, rfl, rfl, by decide +kernel, rfl, by decide +kernel, by decide +kernel⟩
theorem ok_is_long {f fl : Addr} {fd fdl : FuncData} {n : Nat} (D : Def K mg "is_long" sIsLong ["row", "kind", "program"] f fd) (Dl : Def K mg "is_long_here" sIsLongHere ["known", "kind", "program", "takes"] fl fdl) (Gl : FnOk P w K mg base CX0 (2 * n + 2) fl fdl ["known", "kind", "program", "takes"] (spIsLH K n)) (mli : mg "list" = none) :
    FnOk P w K mg base CX0 (2 * n + 3) f fd ["row", "kind", "program"] (spIsLong K n) := by
  refine fun_ok D.F scIsLong (fun vs H Q E h => ?_) (fun cdv A outer s H vs Q E hr h => ?_)
  · obtain ⟨a, xs, l, kv, kd, v, p, rfl, _⟩ := h; rfl
  obtain ⟨a, xs, l, kv, kd, v, p, rfl, hL, hx, hk, hp, ln, hl, hd, k⟩ := h
  refine s_one <| s_ret <| e_call Gl hr rfl Dl.m Dl.F.kp Dl.b .nil pass0 <| a_cons <| e_callTy call_list_of rfl mli (by decide +kernel) <| a_cons <| e_var 0 rfl <| a_nil ⟨a, xs, rfl, .inl hL, fun b hb => a_cons <| e_var 1 rfl <| a_cons <| e_var 2 rfl <| a_cons <| e_int <| a_nil ?_⟩
  have s1 := same_new hb (.lst xs)
  have kp := keepT_of s1
  exact ⟨b, xs, l, kv, kd, v, p, 0, rfl, upd_same, paired_mono hx fun _ _ t => t.mono kp, hk.mono kp, hp.mono kp, ln, hl, by omega, hd, fun H2 s2 => k H2 (s1.trans s2)⟩
end
end KW

namespace KW
open PySem PySem.Spec L2 PyProof.Rows
open K23 (Kd Pg encK encP Nx Wf Ty Fin Star Nf Many MkN AlN kas lk en deepP partsP)
abbrev sLoInit : Stmt := inClass (top 44) 0
abbrev sSpend : Stmt := inClass (top 44) 1
abbrev sMade : Stmt := inClass (top 44) 2
abbrev sAlong : Stmt := inClass (top 44) 3
section
variable {X : Cx} {σ : L2.St} {H : Hp} {Q : VK} {D : Ends}
theorem e_fld {e : Expr} {f : Str} {pos : Pos} (h : wE X e σ H fun x H1 => ∃ a C dx fs v, x = .ref a ∧ H1 a = some (.ins C dx fs) ∧ Cls X.K C ∧ NoAttr X.K C f ∧ fs.lookup f = some v ∧ Q v H1) (hb : attributeBase e f X.env (eval e X.env) = eval e X.env := by rfl) : wE X (.Attribute e f pos) σ H Q := e_mk (pe_fld pe_w hb) h
theorem s_fld {o value : Expr} {f : Str} {pos pos' : Pos} (h : wE X value σ H fun y H1 => wE X o σ H1 fun x H2 => ∃ a C dx fs, x = .ref a ∧ H2 a = some (.ins C dx fs) ∧ Cls X.K C ∧ NoAttr X.K C f ∧ fs.length < 1000 ∧ D.nx σ (upd H2 a (.ins C dx (putF f y fs)))) (hs : swapsWith value (some (.Attribute o f pos')) pos.line X.env = pure false := by rfl) :
    w1 X (.Assign [.Attribute o f pos'] value pos) D σ H := s1_mk (ps_fld pe_w pe_w hs) h
theorem e_meth {CX : CXT} {k : Nat} {f C : Addr} {fd : FuncData} {ps : List Str} {sp : Sp} {dvs : List V} {ds : List Value} {E : XK} {m : Str} {pos apos : Pos} {e o : Expr} {es : List Expr} {pl : Sem Bool} (c : Cls X.K C) (hm : Meth X.K C m f) (F : FnOk X.prog X.w X.K X.mg X.base CX k f fd ps sp) (hr : Room k X.A) (hb : Binds X.K fd ps ds) (hd : Vals dvs ds) (hx : Passes CX X E)
    (h : wE X o σ H fun x H1 => ∃ a dx fs, x = .ref a ∧ H1 a = some (.ins C dx fs) ∧ fs.lookup m = none ∧ wA X (e :: es) σ H1 fun vs H2 => sp (x :: (vs ++ dvs)) H2 Q E)
    (hst : starEach (e :: es) X.env = (false, eval e X.env) :: starEach es X.env := by rfl) (hpl : (backTo pos (starEach es X.env)).any (·.1) = false := by rfl)
    (ht : eval (.Call (.Attribute o m apos) (e :: es) [] pos) X.env = (do
      let ov ← eval o X.env
      standAt apos.atName
      let (f, first) ← holding [ov] (getMethod ov m pl)
      callWith pos f first (backTo pos (starEach (e :: es) X.env)) (backToKw pos (keywordEach [] X.env))) := by rfl) : wE X (.Call (.Attribute o m apos) (e :: es) [] pos) σ H Q := e_mk (pe_meth pe_w c hm F hr hb hd hx pa_w hst hpl ht) h
theorem e_make0 {CX : CXT} {k : Nat} {f C : Addr} {fd : FuncData} {ps : List Str} {sp : Sp} {dvs : List V} {ds : List Value} {E : XK} {x : Str} {p pos : Pos} (M : L2.Mk X.K C f) (F : FnOk X.prog X.w X.K X.mg X.base CX k f fd ps sp) (hr : Room (k + 1) X.A) (hg : Gl X x) (hm : X.mg x = some (.ref C)) (hb : Binds X.K fd ps ds) (hd : Vals dvs ds) (hx : Passes CX X E)
    (h : ∀ x dx, H x = none → H dx = none → dx ≠ x → sp (.ref x :: dvs) (upd (upd H dx (.own x)) x (.ins C dx [])) (fun v H2 => v = .non ∧ Q (.ref x) H2) E) (hdb : (x == ("__debug__" : Str)) = false := by decide) : wE X (.Call (.Name x p) [] [] pos) σ H Q := e_mk (pe_make0 M F hr hg hm hb hd hx hdb) h
end
/-- a method of the text, as the top leaves it -/
structure DefM (K : PySem.W.Frag) (C : Addr) (x q : Str) (st : Stmt) (ps : List Str) (f : Addr) (fd : FuncData) : Prop where
  F : L2.Fun K x q st f fd
  m : Meth K C x f
  b : Binds K fd ps []
structure LoT (K : PySem.W.Frag) (mg : Str → Option Value) (C : Addr) : Prop where
  cl : Cls K C
  nL : NoAttr K C "left"
  mC : mg "Longer" = some (.ref C)
def LoAt (C : Addr) (H : Hp) (o : Addr) (z : Int) : Prop := ∃ dx, H o = some (.ins C dx [("left", .int z)])
theorem lo_look (z : Int) : ([(("left" : Str), V.int z)] : List (Str × V)).lookup ("left" : Str) = some (V.int z) := by
  simp only [List.lookup]
  rw [show (("left" : Str) == "left") = true from beq_self_eq_true _]
theorem lo_put (z y : Int) : putF "left" (.int y) [(("left" : Str), V.int z)] = [(("left" : Str), V.int y)] := by
  show (if ("left" : Str) = "left" then _ else _) = _
  rw [if_pos rfl]
theorem lo_no (z : Int) {m : Str} (h : ¬ m = "left") : ([(("left" : Str), V.int z)] : List (Str × V)).lookup m = none := by
  simp only [List.lookup]
  rw [show (m == ("left" : Str)) = false from beq_eq_false_iff_ne.mpr h]
theorem LoAt.keepT {C o : Addr} {H H' : Hp} {z : Int} (h : LoAt C H o z) (x : Exc o H H') : KeepT H H' := let ⟨_, e⟩ := h; x.keepT (not_tup_ins e)
theorem LoAt.same {C o : Addr} {H H' : Hp} {z : Int} (h : LoAt C H o z) (s : Same H H') : LoAt C H' o z := let ⟨dx, e⟩ := h; ⟨dx, s _ _ e⟩
theorem LoAt.ne {C o a : Addr} {H : Hp} {z : Int} {xs : List V} (h : LoAt C H o z) (q : H a = some (.lst xs)) : a ≠ o := fun e => by
  obtain ⟨dx, h⟩ := h
  rw [e, h] at q
  cases q
def spLoInit (C : Addr) : Sp := fun vs H Q _ => ∃ (o dx : Addr), vs = [.ref o] ∧ H o = some (.ins C dx []) ∧ ∀ H', Exc o H H' → LoAt C H' o 1500 → Q .non H'
theorem scLoInit : FnScope ["self"] ["self"] (defScope sLoInit) := ⟨rfl, rfl, rfl, by decide +kernel, rfl, by decide +kernel, by decide +kernel⟩
def spSpend (C : Addr) : Sp := fun vs H Q _ => ∃ (o : Addr) (z : Int) (nest : Nat), vs = [.ref o, .int (nest : Int)] ∧ LoAt C H o z ∧ 1 ≤ z ∧ nest ≤ 100 ∧ ∀ H', Exc o H H' → LoAt C H' o (z - 1) → Q .non H'
theorem scSpend : FnScope ["self", "nest"] ["self", "nest"] (defScope sSpend) := ⟨rfl, rfl, rfl, by decide +kernel, rfl, by decide +kernel, by decide +kernel⟩
def spMade (K : PySem.W.Frag) (C : Addr) (n : Nat) : Sp := fun vs H Q _ => ∃ (o : Addr) (z : Int) (a : Addr) (xs : List V) (row sc : List (Str × Kd)) (kv : V) (kd : Kd) (v : V) (p r : Pg) (nest : Nat), vs = [.ref o, .ref a, kv, v, .int (nest : Int)] ∧ LoAt C H o z ∧ H a = some (.lst xs) ∧ Paired (NAt K H) xs (row ++ sc.reverse) ∧
  KAt K H kv kd ∧ PAt K H v p ∧ MkN row sc kd p r ∧ (partsP r : Int) ≤ z ∧ nest + deepP r ≤ 100 ∧ (row ++ sc.reverse).length + deepP r ≤ 900 ∧ deepP r < n ∧
  ∀ u z' H', Exc o H H' → LoAt C H' o z' → z ≤ z' + (partsP r : Int) → PAt K H' u r → Q u H'
theorem scMade : FnScope ["self", "known", "kind", "program", "nest", "halves", "one", "name", "body"] ["self", "known", "kind", "program", "nest"] (defScope sMade) := ⟨rfl, rfl, rfl, by decide +kernel, rfl, by decide +kernel, by decide +kernel⟩
def spAlong (K : PySem.W.Frag) (C : Addr) (n : Nat) : Sp := fun vs H Q _ => ∃ (o : Addr) (z : Int) (a : Addr) (xs : List V) (row sc : List (Str × Kd)) (kd : Kd) (v : V) (p r : Pg) (nest : Nat), vs = [.ref o, .ref a, v, .int (nest : Int)] ∧ LoAt C H o z ∧ H a = some (.lst xs) ∧ Paired (NAt K H) xs (row ++ sc.reverse) ∧
  PAt K H v p ∧ AlN row sc p r kd ∧ (partsP r : Int) ≤ z + 1 ∧ nest + deepP r ≤ 100 ∧ (row ++ sc.reverse).length + deepP r ≤ 900 ∧ deepP r < n ∧
  ∀ t u kv z' H', Exc o H H' → LoAt C H' o z' → z + 1 ≤ z' + (partsP r : Int) → SqT K H' t [u, kv] → PAt K H' u r → KAt K H' kv kd → Q (.ref t) H'
theorem scAlong : FnScope ["self", "known", "program", "nest", "found", "kind"] ["self", "known", "program", "nest"] (defScope sAlong) := ⟨rfl, rfl, rfl, by decide +kernel, rfl, by decide +kernel, by decide +kernel⟩
theorem wd_pair {p : Pg} (h : ∀ x y, p ≠ .pair x y) : ¬ K23.wd p = "pair" := by
  cases p with
  | pair a b => exact absurd rfl (h a b)
  | _ => simp only [K23.wd]; decide +kernel
theorem wd_take {p : Pg} (h : ∀ x k y, p ≠ .take x k y) : ¬ K23.wd p = "take" := by
  cases p with
  | take a b c => exact absurd rfl (h a b c)
  | _ => simp only [K23.wd]; decide +kernel
theorem parts_posP : ∀ p : Pg, 1 ≤ partsP p
  | .name _ => by simp [partsP]
  | .take _ _ _ => by simp [partsP]
  | .give _ _ => by simp only [partsP]; omega
  | .pair _ _ => by simp only [partsP]; omega
  | .first _ => by simp [partsP]
  | .second _ => by simp [partsP]
  | .thing => by simp [partsP]
section
variable {P : Program} {w : World} {K : PySem.W.Frag} {mg : Str → Option Value} {base : Heap}
theorem ok_lo_init {f C : Addr} {fd : FuncData} {t : Tok} (F : L2.Fun K "__init__" "Longer.__init__" sLoInit f fd) (T : LoT K mg C) (mm : mg "MOST_PARTS_longs" = some (.int 1500 t)) : FnOk P w K mg base CX0 1 f fd ["self"] (spLoInit C) := by
  refine fun_ok F scLoInit (fun vs H Q E h => ?_) (fun cdv A outer s H vs Q E hr h => ?_)
  · obtain ⟨o, dx, rfl, _⟩ := h; rfl
  obtain ⟨o, dx, rfl, ho, k⟩ := h
  exact s_one <| s_fld <| e_gi rfl mm <| e_var 0 rfl ⟨o, C, dx, [], rfl, ho, T.cl, T.nL, by decide, k _ exc_upd ⟨dx, upd_same⟩⟩
theorem ok_spend {f C : Addr} {fd : FuncData} {t : Tok} (D : DefM K C "spend" "Longer.spend" sSpend ["self", "nest"] f fd) (T : LoT K mg C) (mm : mg "MOST_DEEP_longs" = some (.int 100 t)) : FnOk P w K mg base CX0 1 f fd ["self", "nest"] (spSpend C) := by
  refine fun_ok D.F scSpend (fun vs H Q E h => ?_) (fun cdv A outer s H vs Q E hr h => ?_)
  · obtain ⟨o, z, nest, rfl, _⟩ := h; rfl
  obtain ⟨o, z, nest, rfl, ⟨dx, ho⟩, hz, hn, k⟩ := h
  refine s_cons <| s_fld <| e_op op_sub <| e_fld <| e_var 0 rfl ⟨o, C, dx, _, _, rfl, ho, T.cl, T.nL, lo_look z, e_int ⟨_, _, rfl, rfl, e_var 0 rfl ⟨o, C, dx, _, rfl, ho, T.cl, T.nL, by show 1 < 1000; decide, ?_⟩⟩⟩
  rw [lo_put]
  refine s_one <| s_if <| t_or2 <| t_cmp op_lt (nomark _) <| e_fld <| e_var 0 rfl ⟨o, C, dx, _, _, rfl, upd_same, T.cl, T.nL, lo_look _, e_int ⟨_, _, rfl, rfl, _, rfl, if_ne (by omega) ?_⟩⟩
  exact t_cmp op_gt (nomark _) <| e_var 1 rfl <| e_gi rfl mm ⟨_, _, rfl, rfl, _, rfl, if_ne (by omega) <| s_nil <| k _ exc_upd ⟨dx, upd_same⟩⟩
theorem ok_along {f fm fk C : Addr} {fd fdm fdk : FuncData} {n : Nat} (D : DefM K C "along" "Longer.along" sAlong ["self", "known", "program", "nest"] f fd) (Dm : DefM K C "made" "Longer.made" sMade ["self", "known", "kind", "program", "nest"] fm fdm) (T : LoT K mg C)
    (ih : ∀ m, m < n → FnOk P w K mg base CX0 (2 * m + 1) f fd ["self", "known", "program", "nest"] (spAlong K C m)) (ihm : ∀ m, m < n → FnOk P w K mg base CX0 (2 * m + 2) fm fdm ["self", "known", "kind", "program", "nest"] (spMade K C m))
    (Dk : Def K mg "known_as" sKnownAs ["known", "name"] fk fdk) (Gk : FnOk P w K mg base CX0 1 fk fdk ["known", "name"] (spKnownAs K)) (mi : mg "int" = none) : FnOk P w K mg base CX0 (2 * n + 1) f fd ["self", "known", "program", "nest"] (spAlong K C n) := by
  have hN := scAlong.nd
  cases n with
  | zero => exact none_left fun vs H Q E ⟨_, _, _, _, _, _, _, _, _, _, _, _, _, _, _, _, _, _, _, _, h, _⟩ => absurd h (by omega)
  | succ n =>
  have ih := ih n (by omega)
  have ihm := ihm n (by omega)
  refine fun_ok D.F scAlong (fun vs H Q E h => ?_) (fun cdv A outer s H vs Q E hr h => ?_)
  · obtain ⟨o, z, a, xs, row, sc, kd, v, p, r, nest, rfl, _⟩ := h; rfl
  obtain ⟨o, z, a, xs, row, sc, kd, v, p, r, nest, rfl, ho, hL, hx, hp, al, hz, hne, hl, hd, k⟩ := h
  have hao := ho.ne hL
  cases al with
  | @name _ x _ hk =>
    cases hp with
    | @name pa _ hP =>
      rw [K23.kas_eq] at hk
      refine s_cons <| s_hd_eq 2 hP <| s_one <| s_ret <| e_tup <| a_cons <| e_var 2 rfl <| a_cons <| e_call Gk (hr.mono (by omega)) rfl Dk.m Dk.F.kp Dk.b .nil pass0 <| a_cons <| e_var 1 rfl <| a_cons <| e_at 2 1 hP <| a_nil ⟨a, xs, _, x, kd, rfl, SqL.of hL, hx, hk, fun u H1 s1 hu => a_nil ⟨size_le (by show 2 ≤ 100000; decide), fun t ht => ?_⟩⟩
      have s2 := s1.trans (same_new ht (.tup [.ref pa, u]))
      refine k t _ u z _ (exc_of s2) (ho.same s2) ?_ (SqT.of upd_same) (.name (sqT_keep (keepT_of s2) hP)) (hu.mono (keepT_of (same_new ht _)))
      show z + 1 ≤ z + ((1 : Nat) : Int)
      omega
  | @give _ kA _ p r q vv h1 h2 =>
    simp only [deepP, partsP] at hl hz hne hd
    have hpos := parts_posP vv
    cases hp with
    | @give pa pv qv _ _ hP pp pq =>
      refine s_cons <| s_hd_ne 2 hP <| s_nil ?_
      refine s_cons <| s_asg (pg_tup rfl (pgs_cons (pg_name (i := 4) hN rfl (Or.inl rfl)) (pgs_cons (pg_name (i := 5) hN rfl (Or.inl rfl)) pgs_nil))) <| e_meth T.cl D.m ih (hr.mono (by omega)) D.b .nil pass0 <| e_var 0 rfl ⟨o, _, _, rfl, ho.choose_spec, lo_no z (by decide +kernel), a_cons <| e_var 1 rfl <| a_cons <| e_at 2 1 hP <| a_cons <| e_var 3 rfl <| a_nil ?_⟩
      refine ⟨o, z, a, xs, row, sc, _, pv, p, r, nest, rfl, ho, hL, hx, pp, h1, by omega, by omega, by omega, by omega, fun t u kv z' H1 x1 ho1 hz1 hT1 hu hkv => ?_⟩
      have kp := ho.keepT x1
      refine ⟨t, _, rfl, hT1, rfl, _, _, rfl, _, _, rfl, rfl, ?_⟩
      have hP1 := sqT_keep kp hP
      cases hkv with
      | @to ua x y _ _ hU ka kb =>
        refine s_cons <| s_hd_eq 2 hP1 <| s_one <| s_ret <| e_tup <| a_cons <| e_tup <| a_str <| a_cons <| e_var 4 rfl <| a_cons <| e_meth T.cl Dm.m ihm (hr.mono (by omega)) Dm.b .nil pass0 <| e_var 0 rfl ⟨o, _, _, rfl, ho1.choose_spec, lo_no z' (by decide +kernel), a_cons <| e_var 1 rfl <| a_cons <| e_at 5 1 hU <| a_cons <| e_at 2 2 hP1 <| a_cons <| e_op op_add <| e_var 3 rfl <| e_int ⟨_, _, rfl, rfl, a_nil ?_⟩⟩
        refine ⟨o, z', a, xs, row, sc, x, kA, qv, q, vv, nest + 1, rfl, ho1, x1 _ _ hL hao, paired_mono hx fun _ _ t => t.mono kp, ka, pq.mono kp, h2, by omega, by omega, by omega, by omega, fun u2 z2 H2 x2 ho2 hz2 hu2 => a_nil ⟨size_le (by show 3 ≤ 100000; decide), fun t3 ht3 => ?_⟩⟩
        have kp2 := ho1.keepT x2
        have s3 := same_new ht3 (.tup [.str "give", u, u2])
        refine a_cons <| e_at 5 2 (sqT_keep (keepT_of s3) (sqT_keep kp2 hU)) <| a_nil ⟨size_le (by show 2 ≤ 100000; decide), fun t4 ht4 => ?_⟩
        have s4 := same_new ht4 (.tup [.ref t3, y])
        refine k t4 _ _ z2 _ ((x1.trans x2).trans (exc_of (s3.trans s4))) (ho2.same (s3.trans s4)) (by simp only [partsP]; omega) (SqT.of upd_same) ?_ ((kb.mono kp2).mono (keepT_of (s3.trans s4)))
        exact .give (SqT.of (s4 _ _ upd_same)) ((hu.mono kp2).mono (keepT_of (s3.trans s4))) (hu2.mono (keepT_of (s3.trans s4)))
  | @first _ _ kB p r h1 =>
    simp only [deepP, partsP] at hl hz hne hd
    cases hp with
    | @first pa pv _ hP pp =>
      refine s_cons <| s_hd_ne 2 hP <| s_nil ?_
      refine s_cons <| s_asg (pg_tup rfl (pgs_cons (pg_name (i := 4) hN rfl (Or.inl rfl)) (pgs_cons (pg_name (i := 5) hN rfl (Or.inl rfl)) pgs_nil))) <| e_meth T.cl D.m ih (hr.mono (by omega)) D.b .nil pass0 <| e_var 0 rfl ⟨o, _, _, rfl, ho.choose_spec, lo_no z (by decide +kernel), a_cons <| e_var 1 rfl <| a_cons <| e_at 2 1 hP <| a_cons <| e_var 3 rfl <| a_nil ?_⟩
      refine ⟨o, z, a, xs, row, sc, _, pv, p, r, nest, rfl, ho, hL, hx, pp, h1, by omega, by omega, by omega, by omega, fun t u kv z' H1 x1 ho1 hz1 hT1 hu hkv => ?_⟩
      have kp := ho.keepT x1
      refine ⟨t, _, rfl, hT1, rfl, _, _, rfl, _, _, rfl, rfl, ?_⟩
      have hP1 := sqT_keep kp hP
      cases hkv with
      | @both ua x y _ _ hU ka kb =>
        refine s_cons <| s_hd_ne 2 hP1 <| s_nil <| s_one <| s_ret <| e_tup <| a_cons <| e_tup <| a_cons <| e_at 2 0 hP1 <| a_cons <| e_var 4 rfl <| a_nil ⟨size_le (by show 2 ≤ 100000; decide), fun t3 ht3 => ?_⟩
        have s3 := same_new ht3 (.tup [.str "first", u])
        have kp3 := keepT_of s3
        refine a_cons <| e_ix ix_tup (fun _ _ => rfl) <| e_var 5 rfl <| e_op op_add <| e_int <| e_callTy call_int1 rfl mi (by decide +kernel) <| a_cons <| e_str_eq <| e_at 2 0 (sqT_keep kp3 hP1) ⟨rfl, a_nil (.inr ⟨_, rfl, _, _, rfl, rfl, ua, _, _, x, rfl, rfl, sqT_keep kp3 hU, ?_, a_nil ⟨size_le (by show 2 ≤ 100000; decide), fun t4 ht4 => ?_⟩⟩)⟩
        · rw [show decide (("first" : Str) = "second") = false by decide +kernel]
          rfl
        have s4 := same_new ht4 (.tup [.ref t3, x])
        refine k t4 _ _ z' _ (x1.trans (exc_of (s3.trans s4))) (ho1.same (s3.trans s4)) (by simp only [partsP]; omega) (SqT.of upd_same) ?_ (ka.mono (keepT_of (s3.trans s4)))
        exact .first (SqT.of (s4 _ _ upd_same)) (hu.mono (keepT_of (s3.trans s4)))
  | @second _ kA _ p r h1 =>
    simp only [deepP, partsP] at hl hz hne hd
    cases hp with
    | @second pa pv _ hP pp =>
      refine s_cons <| s_hd_ne 2 hP <| s_nil ?_
      refine s_cons <| s_asg (pg_tup rfl (pgs_cons (pg_name (i := 4) hN rfl (Or.inl rfl)) (pgs_cons (pg_name (i := 5) hN rfl (Or.inl rfl)) pgs_nil))) <| e_meth T.cl D.m ih (hr.mono (by omega)) D.b .nil pass0 <| e_var 0 rfl ⟨o, _, _, rfl, ho.choose_spec, lo_no z (by decide +kernel), a_cons <| e_var 1 rfl <| a_cons <| e_at 2 1 hP <| a_cons <| e_var 3 rfl <| a_nil ?_⟩
      refine ⟨o, z, a, xs, row, sc, _, pv, p, r, nest, rfl, ho, hL, hx, pp, h1, by omega, by omega, by omega, by omega, fun t u kv z' H1 x1 ho1 hz1 hT1 hu hkv => ?_⟩
      have kp := ho.keepT x1
      refine ⟨t, _, rfl, hT1, rfl, _, _, rfl, _, _, rfl, rfl, ?_⟩
      have hP1 := sqT_keep kp hP
      cases hkv with
      | @both ua x y _ _ hU ka kb =>
        refine s_cons <| s_hd_ne 2 hP1 <| s_nil <| s_one <| s_ret <| e_tup <| a_cons <| e_tup <| a_cons <| e_at 2 0 hP1 <| a_cons <| e_var 4 rfl <| a_nil ⟨size_le (by show 2 ≤ 100000; decide), fun t3 ht3 => ?_⟩
        have s3 := same_new ht3 (.tup [.str "second", u])
        have kp3 := keepT_of s3
        refine a_cons <| e_ix ix_tup (fun _ _ => rfl) <| e_var 5 rfl <| e_op op_add <| e_int <| e_callTy call_int1 rfl mi (by decide +kernel) <| a_cons <| e_str_eq <| e_at 2 0 (sqT_keep kp3 hP1) ⟨rfl, a_nil (.inr ⟨_, rfl, _, _, rfl, rfl, ua, _, _, y, rfl, rfl, sqT_keep kp3 hU, ?_, a_nil ⟨size_le (by show 2 ≤ 100000; decide), fun t4 ht4 => ?_⟩⟩)⟩
        · rw [show decide (("second" : Str) = "second") = true by decide +kernel]
          rfl
        have s4 := same_new ht4 (.tup [.ref t3, y])
        refine k t4 _ _ z' _ (x1.trans (exc_of (s3.trans s4))) (ho1.same (s3.trans s4)) (by simp only [partsP]; omega) (SqT.of upd_same) ?_ (kb.mono (keepT_of (s3.trans s4)))
        exact .second (SqT.of (s4 _ _ upd_same)) (hu.mono (keepT_of (s3.trans s4)))
end
end KW

namespace KW
open PySem PySem.Spec L2 PyProof.Rows
open K23 (Kd Pg encK encP Nx Wf Ty Fin Star Nf Many MkN AlN kas lk en deepP partsP)
section
variable {P : Program} {w : World} {K : PySem.W.Frag} {mg : Str → Option Value} {base : Heap}
theorem ok_made {f fa fs th C : Addr} {fd fda fds : FuncData} {n : Nat} (D : DefM K C "made" "Longer.made" sMade ["self", "known", "kind", "program", "nest"] f fd) (Da : DefM K C "along" "Longer.along" sAlong ["self", "known", "program", "nest"] fa fda) (T : LoT K mg C)
    (Ga : FnOk P w K mg base CX0 (2 * n + 1) fa fda ["self", "known", "program", "nest"] (spAlong K C n)) (ih : ∀ m, m < n → FnOk P w K mg base CX0 (2 * m + 2) f fd ["self", "known", "kind", "program", "nest"] (spMade K C m))
    (Ds : DefM K C "spend" "Longer.spend" sSpend ["self", "nest"] fs fds) (Gs : FnOk P w K mg base CX0 1 fs fds ["self", "nest"] (spSpend C)) (mT : mg "THING" = some (.ref th)) (hT : ∀ H, SqT K H th [.str "thing"]) (ml : mg "len" = none) (ms : mg "str" = none) :
    FnOk P w K mg base CX0 (2 * n + 2) f fd ["self", "known", "kind", "program", "nest"] (spMade K C n) := by
  have hN := scMade.nd
  refine fun_ok D.F scMade (fun vs H Q E h => ?_) (fun cdv A outer s H vs Q E hr h => ?_)
  · obtain ⟨o, z, a, xs, row, sc, kv, kd, v, p, r, nest, rfl, _⟩ := h; rfl
  obtain ⟨o, z0, a, xs, row, sc, kv, kd, v, p, r, nest, rfl, ho0, hL0, hx0, hk0, hp0, mk, hz0, hne, hl, hd, k0⟩ := h
  have hao := ho0.ne hL0
  have hxl := hx0.length
  have hpos := parts_posP r
  cases n with
  | zero => exact absurd hd (by omega)
  | succ n =>
  have ih := ih n (by omega)
  refine s_cons <| s_expr <| e_meth T.cl Ds.m Gs (hr.mono (by omega)) Ds.b .nil pass0 <| e_var 0 rfl ⟨o, _, _, rfl, ho0.choose_spec, lo_no z0 (by decide +kernel), a_cons <| e_var 4 rfl <| a_nil ⟨o, z0, nest, rfl, ho0, by omega, by omega, fun H1 x1 ho => ?_⟩⟩
  have kp1 := ho0.keepT x1
  have hL := x1 _ _ hL0 hao
  have hx : Paired (NAt K H1) xs (row ++ sc.reverse) := paired_mono hx0 fun _ _ t => t.mono kp1
  have hk := hk0.mono kp1
  have hp := hp0.mono kp1
  have k : ∀ u z' H', Exc o H1 H' → LoAt C H' o z' → z0 ≤ z' + (partsP r : Int) → PAt K H' u r → Q u H' := fun u z' H' x h1 h2 h3 => k0 u z' H' (x1.trans x) h1 h2 h3
  generalize hzz : z0 - 1 = z at ho
  cases mk with
  | one =>
    cases hk with
    | one hK =>
      refine s_cons <| s_hd_eq 2 hK <| s_one <| s_ret <| e_gr rfl mT (k _ z _ (Exc.refl _ _) ho ?_ (.thing (hT _)))
      show z0 ≤ z + ((1 : Nat) : Int)
      omega
  | mark al =>
    cases hk with
    | mark hK =>
      refine s_cons <| s_hd_ne 2 hK <| s_nil <| s_cons <| s_hd_eq 2 hK <| s_one <| s_ret <| e_atE 0 <| e_meth T.cl Da.m Ga hr Da.b .nil pass0 <| e_var 0 rfl ⟨o, _, _, rfl, ho.choose_spec, lo_no z (by decide +kernel), a_cons <| e_var 1 rfl <| a_cons <| e_var 3 rfl <| a_cons <| e_var 4 rfl <| a_nil ?_⟩
      exact ⟨o, z, a, xs, row, sc, _, v, p, r, nest, rfl, ho, hL, hx, hp, al, by omega, by omega, by omega, by omega, fun t u kv' z' H2 x2 ho2 hz2 hT2 hu hkv => ⟨t, _, rfl, hT2, u, rfl, k u z' H2 x2 ho2 (by omega) hu⟩⟩
  | @both _ kA kB p q a' b' h1 h2 =>
    simp only [deepP, partsP] at hl hz0 hne hd hpos
    have hpa := parts_posP a'
    have hpb := parts_posP b'
    cases hk with
    | @both ka_ x y _ _ hK ka kb =>
      cases hp with
      | @pair pa pv qv _ _ hP pp pq =>
        refine s_cons <| s_hd_ne 2 hK <| s_nil <| s_cons <| s_hd_ne 2 hK <| s_nil <| s_cons <| s_hd_eq 2 hK <| s_cons <| s_set 5 hN <| e_lst <| a_cons <| e_tup <| a_str <| a_cons <| e_var 3 rfl <| a_nil ⟨size_le (by show 2 ≤ 100000; decide), fun t1 ht1 => a_cons <| e_tup <| a_str <| a_cons <| e_var 3 rfl <| a_nil ⟨size_le (by show 2 ≤ 100000; decide), fun t2 ht2 => a_nil ⟨size_le (by show 2 ≤ 100000; decide), fun t3 ht3 => ?_⟩⟩⟩
        have s3 := ((same_new ht1 (.tup [.str "first", .ref pa])).trans (same_new ht2 (.tup [.str "second", .ref pa]))).trans (same_new ht3 (.lst [.ref t1, .ref t2]))
        have kp3 := keepT_of s3
        refine s_cons <| s_hd_eq 3 (sqT_keep kp3 hP) <| s_one <| s_set 5 hN <| e_lst <| a_cons <| e_at 3 1 (sqT_keep kp3 hP) <| a_cons <| e_at 3 2 (sqT_keep kp3 hP) <| a_nil ⟨size_le (by show 2 ≤ 100000; decide), fun t4 ht4 => ?_⟩
        have s4 := s3.trans (same_new ht4 (.lst [pv, qv]))
        have kp4 := keepT_of s4
        refine s_cons <| s_set 6 hN <| e_meth T.cl D.m ih (hr.mono (by omega)) D.b .nil pass0 <| e_var 0 rfl ⟨o, _, _, rfl, (ho.same s4).choose_spec, lo_no z (by decide +kernel), a_cons <| e_var 1 rfl <| a_cons <| e_at 2 1 (sqT_keep kp4 hK) <| a_cons <| e_atL 0 <| e_var 5 rfl ⟨t4, _, rfl, SqL.of upd_same, _, rfl, a_cons <| e_op op_add <| e_var 4 rfl <| e_int ⟨_, _, rfl, rfl, a_nil ?_⟩⟩⟩
        refine ⟨o, z, a, xs, row, sc, x, kA, pv, p, a', nest + 1, rfl, ho.same s4, s4 _ _ hL, paired_mono hx fun _ _ t => t.mono kp4, ka.mono kp4, pp.mono kp4, h1, by omega, by omega, by omega, by omega, fun u z1 H2 x2 ho2 hz2 hu => ?_⟩
        have kp5 := (ho.same s4).keepT x2
        have ht4o : t4 ≠ o := (ho.same s4).ne upd_same
        refine s_one <| s_ret <| e_tup <| a_str <| a_cons <| e_var 6 rfl <| a_cons <| e_meth T.cl D.m ih (hr.mono (by omega)) D.b .nil pass0 <| e_var 0 rfl ⟨o, _, _, rfl, ho2.choose_spec, lo_no z1 (by decide +kernel), a_cons <| e_var 1 rfl <| a_cons <| e_at 2 2 (sqT_keep kp5 (sqT_keep kp4 hK)) <| a_cons <| e_atL 1 <| e_var 5 rfl ⟨t4, _, rfl, SqL.of (x2 _ _ upd_same ht4o), _, rfl, a_cons <| e_op op_add <| e_var 4 rfl <| e_int ⟨_, _, rfl, rfl, a_nil ?_⟩⟩⟩
        refine ⟨o, z1, a, xs, row, sc, y, kB, qv, q, b', nest + 1, rfl, ho2, x2 _ _ (s4 _ _ hL) hao, paired_mono hx fun _ _ t => (t.mono kp4).mono kp5, (kb.mono kp4).mono kp5, (pq.mono kp4).mono kp5, h2, by omega, by omega, by omega, by omega, fun u2 z2 H3 x3 ho3 hz3 hu2 => a_nil ⟨size_le (by show 3 ≤ 100000; decide), fun t5 ht5 => ?_⟩⟩
        have s5 := same_new ht5 (.tup [.str "pair", u, u2])
        refine k _ z2 _ ((exc_of s4).trans (x2.trans (x3.trans (exc_of s5)))) (ho3.same s5) (by simp only [partsP]; omega) (.pair (SqT.of upd_same) ((hu.mono (ho2.keepT x3)).mono (keepT_of s5)) (hu2.mono (keepT_of s5)))
  | @bothE _ kA kB p a' b' hnp h1 h2 =>
    simp only [deepP, partsP] at hl hz0 hne hd hpos
    have hpa := parts_posP a'
    have hpb := parts_posP b'
    cases hk with
    | @both ka_ x y _ _ hK ka kb =>
      obtain ⟨pa, rest, rfl, hP⟩ := hp.head
      refine s_cons <| s_hd_ne 2 hK <| s_nil <| s_cons <| s_hd_ne 2 hK <| s_nil <| s_cons <| s_hd_eq 2 hK <| s_cons <| s_set 5 hN <| e_lst <| a_cons <| e_tup <| a_str <| a_cons <| e_var 3 rfl <| a_nil ⟨size_le (by show 2 ≤ 100000; decide), fun t1 ht1 => a_cons <| e_tup <| a_str <| a_cons <| e_var 3 rfl <| a_nil ⟨size_le (by show 2 ≤ 100000; decide), fun t2 ht2 => a_nil ⟨size_le (by show 2 ≤ 100000; decide), fun t4 ht4 => ?_⟩⟩⟩
      have s1 := same_new ht1 (.tup [.str "first", .ref pa])
      have s2 := same_new ht2 (.tup [.str "second", .ref pa])
      have s34 := same_new ht4 (.lst [.ref t1, .ref t2])
      have s4 := (s1.trans s2).trans s34
      have kp4 := keepT_of s4
      refine s_cons <| s_if <| t_hd 3 (sqT_keep kp4 hP) <| if_ne (wd_pair hnp) <| s_nil ?_
      refine s_cons <| s_set 6 hN <| e_meth T.cl D.m ih (hr.mono (by omega)) D.b .nil pass0 <| e_var 0 rfl ⟨o, _, _, rfl, (ho.same s4).choose_spec, lo_no z (by decide +kernel), a_cons <| e_var 1 rfl <| a_cons <| e_at 2 1 (sqT_keep kp4 hK) <| a_cons <| e_atL 0 <| e_var 5 rfl ⟨t4, _, rfl, SqL.of upd_same, _, rfl, a_cons <| e_op op_add <| e_var 4 rfl <| e_int ⟨_, _, rfl, rfl, a_nil ?_⟩⟩⟩
      have hf1 : PAt K _ (.ref t1) (.first p) := .first (SqT.of (s34 _ _ (s2 _ _ upd_same))) (hp.mono kp4)
      have hf2 : PAt K _ (.ref t2) (.second p) := .second (SqT.of (s34 _ _ upd_same)) (hp.mono kp4)
      refine ⟨o, z, a, xs, row, sc, x, kA, .ref t1, .first p, a', nest + 1, rfl, ho.same s4, s4 _ _ hL, paired_mono hx fun _ _ t => t.mono kp4, ka.mono kp4, hf1, h1, by omega, by omega, by omega, by omega, fun u z1 H2 x2 ho2 hz2 hu => ?_⟩
      have kp5 := (ho.same s4).keepT x2
      have ht4o : t4 ≠ o := (ho.same s4).ne upd_same
      refine s_one <| s_ret <| e_tup <| a_str <| a_cons <| e_var 6 rfl <| a_cons <| e_meth T.cl D.m ih (hr.mono (by omega)) D.b .nil pass0 <| e_var 0 rfl ⟨o, _, _, rfl, ho2.choose_spec, lo_no z1 (by decide +kernel), a_cons <| e_var 1 rfl <| a_cons <| e_at 2 2 (sqT_keep kp5 (sqT_keep kp4 hK)) <| a_cons <| e_atL 1 <| e_var 5 rfl ⟨t4, _, rfl, SqL.of (x2 _ _ upd_same ht4o), _, rfl, a_cons <| e_op op_add <| e_var 4 rfl <| e_int ⟨_, _, rfl, rfl, a_nil ?_⟩⟩⟩
      refine ⟨o, z1, a, xs, row, sc, y, kB, .ref t2, .second p, b', nest + 1, rfl, ho2, x2 _ _ (s4 _ _ hL) hao, paired_mono hx fun _ _ t => (t.mono kp4).mono kp5, (kb.mono kp4).mono kp5, hf2.mono kp5, h2, by omega, by omega, by omega, by omega, fun u2 z2 H3 x3 ho3 hz3 hu2 => a_nil ⟨size_le (by show 3 ≤ 100000; decide), fun t5 ht5 => ?_⟩⟩
      have s5 := same_new ht5 (.tup [.str "pair", u, u2])
      refine k _ z2 _ ((exc_of s4).trans (x2.trans (x3.trans (exc_of s5)))) (ho3.same s5) (by simp only [partsP]; omega) (.pair (SqT.of upd_same) ((hu.mono (ho2.keepT x3)).mono (keepT_of s5)) (hu2.mono (keepT_of s5)))
  | @to _ nx kK kA kB p r' h1 =>
    simp only [deepP, partsP] at hl hz0 hne hd hpos
    have hpr := parts_posP r'
    cases hk with
    | @to ka_ x y _ _ hK ka kb =>
      cases hp with
      | @take pa _ yv zv _ _ hP pk pp =>
        refine s_cons <| s_hd_ne 2 hK <| s_nil <| s_cons <| s_hd_ne 2 hK <| s_nil <| s_cons <| s_hd_ne 2 hK <| s_nil ?_
        refine s_cons <| s_set 7 hN <| e_num len_e rfl ms <| e_callB call_len_seq rfl ml PySem.boot_len <| a_cons <| e_var 1 rfl <| a_nil ⟨a, xs, rfl, .inl (SqL.of hL), xs.length, rfl, by omega, ?_⟩
        refine s_cons <| s_set 8 hN <| e_tup <| a_str <| a_cons <| e_var 3 rfl <| a_cons <| e_tup <| a_str <| a_cons <| e_var 7 rfl <| a_nil ⟨size_le (by show 2 ≤ 100000; decide), fun t1 ht1 => a_nil ⟨size_le (by show 3 ≤ 100000; decide), fun t2 ht2 => ?_⟩⟩
        have s2 := (same_new ht1 (.tup [.str "name", .str (en xs.length)])).trans (same_new ht2 (.tup [.str "give", .ref pa, .ref t1]))
        have kp2 := keepT_of s2
        refine s_cons <| s_hd_eq 3 (sqT_keep kp2 hP) <| s_cons <| s_set 7 hN <| e_at 3 1 (sqT_keep kp2 hP) <| s_one <| s_set 8 hN <| e_at 3 3 (sqT_keep kp2 hP) ?_
        refine s_one <| s_ret <| e_tup <| a_str <| a_cons <| e_var 7 rfl <| a_cons <| e_at 2 1 (sqT_keep kp2 hK) <| a_cons <| e_meth T.cl D.m ih (hr.mono (by omega)) D.b .nil pass0 <| e_var 0 rfl ⟨o, _, _, rfl, (ho.same s2).choose_spec, lo_no z (by decide +kernel), a_cons <| e_op op_cat <| e_var 1 rfl <| e_lst <| a_cons <| e_tup <| a_cons <| e_var 7 rfl <| a_cons <| e_at 2 1 (sqT_keep kp2 hK) <| a_nil ⟨size_le (by show 2 ≤ 100000; decide), fun t3 ht3 => a_nil ⟨size_le (by show 1 ≤ 100000; decide), fun t4 ht4 => ?_⟩⟩⟩
        have s3 := s2.trans (same_new ht3 (.tup [.str nx, x]))
        have s4 := s3.trans (same_new ht4 (.lst [.ref t3]))
        refine ⟨a, t4, _, _, rfl, rfl, s4 _ _ hL, upd_same, size_le (by simp only [List.length_singleton]; omega), fun b hb => ?_⟩
        have s5 := s4.trans (same_new hb (.lst (xs ++ [.ref t3])))
        have kp := keepT_of s5
        refine a_cons <| e_at 2 2 (sqT_keep kp hK) <| a_cons <| e_var 8 rfl <| a_cons <| e_op op_add <| e_var 4 rfl <| e_int ⟨_, _, rfl, rfl, a_nil ?_⟩
        have e1 : row ++ ((nx, kA) :: sc).reverse = (row ++ sc.reverse) ++ [(nx, kA)] := by rw [List.reverse_cons, List.append_assoc]
        refine ⟨o, z, b, _, row, (nx, kA) :: sc, y, kB, zv, p, r', nest + 1, rfl, ho.same s5, upd_same, ?_, kb.mono kp, pp.mono kp, h1, by omega, by omega, by rw [e1, List.length_append, List.length_singleton]; omega, by omega, fun u z1 H2 x2 ho2 hz2 hu => a_nil ⟨size_le (by show 4 ≤ 100000; decide), fun t5 ht5 => ?_⟩⟩
        · rw [e1]
          exact paired_append (paired_mono hx fun _ _ t => t.mono kp) (.cons (.mk (SqT.of ((same_new hb _) _ _ ((same_new ht4 _) _ _ upd_same))) (ka.mono kp)) .nil)
        have s6 := same_new ht5 (.tup [.str "take", .str nx, x, u])
        exact k _ z1 _ ((exc_of s5).trans (x2.trans (exc_of s6))) (ho2.same s6) (by simp only [partsP]; omega) (.take (SqT.of upd_same) (((ka.mono kp).mono ((ho.same s5).keepT x2)).mono (keepT_of s6)) (hu.mono (keepT_of s6)))
  | @toE _ kA kB p r' hnt h1 =>
    simp only [deepP, partsP] at hl hz0 hne hd hpos
    have hpr := parts_posP r'
    have hlen : row.length + sc.length = xs.length := by rw [hxl, List.length_append, List.length_reverse]
    rw [hlen] at h1 k
    cases hk with
    | @to ka_ x y _ _ hK ka kb =>
      obtain ⟨pa, rest, rfl, hP⟩ := hp.head
      refine s_cons <| s_hd_ne 2 hK <| s_nil <| s_cons <| s_hd_ne 2 hK <| s_nil <| s_cons <| s_hd_ne 2 hK <| s_nil ?_
      refine s_cons <| s_set 7 hN <| e_num len_e rfl ms <| e_callB call_len_seq rfl ml PySem.boot_len <| a_cons <| e_var 1 rfl <| a_nil ⟨a, xs, rfl, .inl (SqL.of hL), xs.length, rfl, by omega, ?_⟩
      refine s_cons <| s_set 8 hN <| e_tup <| a_str <| a_cons <| e_var 3 rfl <| a_cons <| e_tup <| a_str <| a_cons <| e_var 7 rfl <| a_nil ⟨size_le (by show 2 ≤ 100000; decide), fun t1 ht1 => a_nil ⟨size_le (by show 3 ≤ 100000; decide), fun t2 ht2 => ?_⟩⟩
      have s22 := same_new ht2 (.tup [.str "give", .ref pa, .ref t1])
      have s2 := (same_new ht1 (.tup [.str "name", .str (en xs.length)])).trans s22
      have kp2 := keepT_of s2
      have hb0 : PAt K _ (.ref t2) (.give p (.name (en xs.length))) := .give (SqT.of upd_same) (hp.mono kp2) (.name (SqT.of (s22 _ _ upd_same)))
      refine s_cons <| s_if <| t_hd 3 (sqT_keep kp2 hP) <| if_ne (wd_take hnt) <| s_nil ?_
      refine s_one <| s_ret <| e_tup <| a_str <| a_cons <| e_var 7 rfl <| a_cons <| e_at 2 1 (sqT_keep kp2 hK) <| a_cons <| e_meth T.cl D.m ih (hr.mono (by omega)) D.b .nil pass0 <| e_var 0 rfl ⟨o, _, _, rfl, (ho.same s2).choose_spec, lo_no z (by decide +kernel), a_cons <| e_op op_cat <| e_var 1 rfl <| e_lst <| a_cons <| e_tup <| a_cons <| e_var 7 rfl <| a_cons <| e_at 2 1 (sqT_keep kp2 hK) <| a_nil ⟨size_le (by show 2 ≤ 100000; decide), fun t3 ht3 => a_nil ⟨size_le (by show 1 ≤ 100000; decide), fun t4 ht4 => ?_⟩⟩⟩
      have s3' := same_new ht3 (.tup [.str (en xs.length), x])
      have s4' := s3'.trans (same_new ht4 (.lst [.ref t3]))
      have s4 := s2.trans s4'
      refine ⟨a, t4, _, _, rfl, rfl, s4 _ _ hL, upd_same, size_le (by simp only [List.length_singleton]; omega), fun b hb => ?_⟩
      have s5' := s4'.trans (same_new hb (.lst (xs ++ [.ref t3])))
      have s5 := s4.trans (same_new hb (.lst (xs ++ [.ref t3])))
      have kp := keepT_of s5
      refine a_cons <| e_at 2 2 (sqT_keep kp hK) <| a_cons <| e_var 8 rfl <| a_cons <| e_op op_add <| e_var 4 rfl <| e_int ⟨_, _, rfl, rfl, a_nil ?_⟩
      have e1 : row ++ ((en xs.length, kA) :: sc).reverse = (row ++ sc.reverse) ++ [(en xs.length, kA)] := by rw [List.reverse_cons, List.append_assoc]
      refine ⟨o, z, b, _, row, (en xs.length, kA) :: sc, y, kB, .ref t2, _, r', nest + 1, rfl, ho.same s5, upd_same, ?_, kb.mono kp, hb0.mono (keepT_of s5'), h1, by omega, by omega, by rw [e1, List.length_append, List.length_singleton]; omega, by omega, fun u z1 H2 x2 ho2 hz2 hu => a_nil ⟨size_le (by show 4 ≤ 100000; decide), fun t5 ht5 => ?_⟩⟩
      · rw [e1]
        exact paired_append (paired_mono hx fun _ _ t => t.mono kp) (.cons (.mk (SqT.of ((same_new hb _) _ _ ((same_new ht4 _) _ _ upd_same))) (ka.mono kp)) .nil)
      have s6 := same_new ht5 (.tup [.str "take", .str (en xs.length), x, u])
      exact k _ z1 _ ((exc_of s5).trans (x2.trans (exc_of s6))) (ho2.same s6) (by simp only [partsP]; omega) (.take (SqT.of upd_same) (((ka.mono kp).mono ((ho.same s5).keepT x2)).mono (keepT_of s6)) (hu.mono (keepT_of s6)))
theorem ok_lo_all {f fa fs fk th C : Addr} {fd fda fds fdk : FuncData} (D : DefM K C "made" "Longer.made" sMade ["self", "known", "kind", "program", "nest"] f fd) (Da : DefM K C "along" "Longer.along" sAlong ["self", "known", "program", "nest"] fa fda) (T : LoT K mg C)
    (Ds : DefM K C "spend" "Longer.spend" sSpend ["self", "nest"] fs fds) (Gs : FnOk P w K mg base CX0 1 fs fds ["self", "nest"] (spSpend C)) (mT : mg "THING" = some (.ref th)) (hT : ∀ H, SqT K H th [.str "thing"]) (ml : mg "len" = none) (ms : mg "str" = none)
    (Dk : Def K mg "known_as" sKnownAs ["known", "name"] fk fdk) (Gk : FnOk P w K mg base CX0 1 fk fdk ["known", "name"] (spKnownAs K)) (mi : mg "int" = none) :
    ∀ n, (∀ m, m < n → FnOk P w K mg base CX0 (2 * m + 1) fa fda ["self", "known", "program", "nest"] (spAlong K C m) ∧ FnOk P w K mg base CX0 (2 * m + 2) f fd ["self", "known", "kind", "program", "nest"] (spMade K C m))
  | 0 => fun m h => absurd h (by omega)
  | n + 1 => fun m h => by
    have ih := ok_lo_all D Da T Ds Gs mT hT ml ms Dk Gk mi n
    have g := ok_along (n := m) Da D T (fun i hi => (ih i (by omega)).1) (fun i hi => (ih i (by omega)).2) Dk Gk mi
    exact ⟨g, ok_made D Da T g (fun i hi => (ih i (by omega)).2) Ds Gs mT hT ml ms⟩
end
end KW

namespace K23
open PySem (Str)
/-! ### kinds are small -/
def LK : Tm → Prop
  | .lam A t => leaves A ≤ 4 ∧ LK t
  | .app t u => LK t ∧ LK u
  | .pair t u => LK t ∧ LK u
  | .fst t => LK t
  | .snd t => LK t
  | _ => True
theorem LK.ren : ∀ {t : Tm} {r : Nat → Nat}, LK t → LK (K23.ren r t)
  | .var _, _, _ => trivial
  | .free _, _, _ => trivial
  | .unit, _, _ => trivial
  | .lam _ _, _, h => ⟨h.1, LK.ren h.2⟩
  | .app _ _, _, h => ⟨LK.ren h.1, LK.ren h.2⟩
  | .pair _ _, _, h => ⟨LK.ren h.1, LK.ren h.2⟩
  | .fst t, _, h => LK.ren (t := t) h
  | .snd t, _, h => LK.ren (t := t) h
theorem LK.sub : ∀ {t : Tm} {s : Nat → Tm}, LK t → (∀ i, LK (s i)) → LK (K23.sub s t)
  | .var i, _, _, h => h i
  | .free _, _, _, _ => trivial
  | .unit, _, _, _ => trivial
  | .lam _ t, s, g, h => ⟨g.1, LK.sub g.2 fun i => by
    cases i with
    | zero => trivial
    | succ i => exact LK.ren (h i)⟩
  | .app _ _, _, g, h => ⟨LK.sub g.1 h, LK.sub g.2 h⟩
  | .pair _ _, _, g, h => ⟨LK.sub g.1 h, LK.sub g.2 h⟩
  | .fst t, _, g, h => LK.sub (t := t) g h
  | .snd t, _, g, h => LK.sub (t := t) g h
theorem LK.step {t u : Tm} (h : LK t) (s : Step t u) : LK u := by
  induction s with
  | beta k b a =>
    refine LK.sub h.1.2 fun i => ?_
    cases i with
    | zero => exact h.2
    | succ i => trivial
  | p1 a b => exact h.1
  | p2 a b => exact h.2
  | lam k _ ih => exact ⟨h.1, ih h.2⟩
  | appL u _ ih => exact ⟨ih h.1, h.2⟩
  | appR t _ ih => exact ⟨h.1, ih h.2⟩
  | pairL u _ ih => exact ⟨ih h.1, h.2⟩
  | pairR t _ ih => exact ⟨h.1, ih h.2⟩
  | fst _ ih => exact ih h
  | snd _ ih => exact ih h
theorem LK.star {t u : Tm} (h : LK t) (s : Star Step t u) : LK u := by
  obtain ⟨n, m⟩ := s
  induction m with
  | nil => exact h
  | snoc _ r ih => exact (ih h).step r
section
variable {E : Str → Option Kd}
theorem Us.lk {P : Kd → Tm → Prop} {G : List Kd} {c : Nat} {K : Kd} {t : Tm} (h : Us E P G c K t) (hP : ∀ A a, leaves A ≤ 4 → P A a → LK a) : LK t := by
  induction h with
  | var _ _ => trivial
  | free _ _ => trivial
  | app h ha ih =>
    have := h.c4
    simp only [leaves] at this
    exact ⟨ih, hP _ _ (by omega) ha⟩
  | fst _ ih => exact ih
  | snd _ ih => exact ih
theorem Dr.lk {up : Prop} {P : List Kd → Kd → Tm → Prop} (hP : ∀ G A a, leaves A ≤ 4 → P G A a → LK a) {G : List Kd} {K : Kd} {t : Tm} (h : Dr E up P G K t) (h4 : leaves K ≤ 4) : LK t := by
  induction h with
  | red hb ha h3 => exact ⟨⟨by omega, hP _ _ _ h4 hb⟩, hP _ _ _ (by omega) ha⟩
  | p1 ha hb h2 => exact ⟨hP _ _ _ h4 ha, hP _ _ _ (by omega) hb⟩
  | p2 ha hb h2 => exact ⟨hP _ _ _ (by omega) hb, hP _ _ _ h4 ha⟩
  | used _ h => exact h.lk (hP _)
  | one => trivial
  | mark _ _ => trivial
  | pair _ _ ih1 ih2 =>
    simp only [leaves] at h4
    exact ⟨ih1 (by omega), ih2 (by omega)⟩
  | lam _ ih =>
    simp only [leaves] at h4
    exact ⟨by omega, ih (by omega)⟩
theorem Dn.lk : ∀ {r : Nat} {G : List Kd} {K : Kd} {t : Tm}, Dn E r G K t → leaves K ≤ 4 → LK t
  | 0, _, _, _, h, h4 => Dr.lk (fun _ _ _ _ z => z.elim) h h4
  | _ + 1, _, _, _, h, h4 => Dr.lk (fun _ _ _ g z => Dn.lk z g) h h4
mutual
theorem Mk.lk : ∀ {G : List Kd} {K : Kd} {t r : Tm}, Mk E G K t r → Sm E G → leaves K ≤ 4 → LK r
  | _, _, _, _, .one, s, h4 => trivial
  | _, _, _, _, .mark h, s, h4 => (Al.lk h s).1
  | _, _, _, _, .both h g, s, h4 => by
    simp only [leaves] at h4
    exact ⟨Mk.lk h s (by omega), Mk.lk g s (by omega)⟩
  | _, _, _, _, .bothE _ h g, s, h4 => by
    simp only [leaves] at h4
    exact ⟨Mk.lk h s (by omega), Mk.lk g s (by omega)⟩
  | _, _, _, _, .to h, s, h4 => by
    simp only [leaves] at h4
    exact ⟨by omega, Mk.lk h (s.cons (by omega)) (by omega)⟩
  | _, _, _, _, .toE _ h, s, h4 => by
    simp only [leaves] at h4
    exact ⟨by omega, Mk.lk h (s.cons (by omega)) (by omega)⟩
theorem Al.lk : ∀ {G : List Kd} {t r : Tm} {K : Kd}, Al E G t r K → Sm E G → LK r ∧ leaves K ≤ 4
  | _, _, _, _, .var h, s => ⟨trivial, s.g _ _ h⟩
  | _, _, _, _, .free h, s => ⟨trivial, s.e _ _ h⟩
  | _, _, _, _, .app h g, s => by
    obtain ⟨h1, h2⟩ := Al.lk h s
    simp only [leaves] at h2
    exact ⟨⟨h1, Mk.lk g s (by omega)⟩, by omega⟩
  | _, _, _, _, .fst h, s => by
    obtain ⟨h1, h2⟩ := Al.lk h s
    simp only [leaves] at h2
    exact ⟨h1, by omega⟩
  | _, _, _, _, .snd h, s => by
    obtain ⟨h1, h2⟩ := Al.lk h s
    simp only [leaves] at h2
    exact ⟨h1, by omega⟩
end
theorem Ty.deep {G : List Kd} {t : Tm} {K : Kd} (h : Ty E G t K) : LK t → Sm E G → deepK K ≤ 3 + dp t := by
  induction h with
  | @var G i K h => intro _ s; have := s.g _ _ h; have := deepK_leaves K; omega
  | @free G x K h => intro _ s; have := s.e _ _ h; have := deepK_leaves K; omega
  | unit => intro _ _; simp [deepK]
  | @lam G A B t h ih =>
    intro l s
    have := ih l.2 (s.cons l.1)
    have := deepK_leaves A
    have := l.1
    simp only [deepK, dp]
    omega
  | app h g ih1 ih2 =>
    intro l s
    have := ih1 l.1 s
    simp only [deepK, dp] at *
    omega
  | pair h g ih1 ih2 =>
    intro l s
    have := ih1 l.1 s
    have := ih2 l.2 s
    simp only [deepK, dp] at *
    omega
  | fst h ih =>
    intro l s
    have := ih l s
    simp only [deepK, dp] at *
    omega
  | snd h ih =>
    intro l s
    have := ih l s
    simp only [deepK, dp] at *
    omega
/-- what holds of a program that is drawn, with its kinds -/
structure Wh (E : Str → Option Kd) (K : Kd) (t q r : Tm) : Prop where
  w : Whole E K t q r
  s : Sm E []
  k4 : leaves K ≤ 4
  lk : LK t
theorem wh {K : Kd} {t : Tm} (sm : Sm E []) (h : Dn E 2 [] K t) (h4 : leaves K ≤ 4) : ∃ q r, Wh E K t q r :=
  let ⟨q, r, w⟩ := whole sm h h4
  ⟨q, r, w, sm, h4, h.lk h4⟩
variable {K : Kd} {t q r u : Tm}
theorem Wh.step (h : Wh E K t q r) (s : Step t u) : Wh E K u q r := ⟨h.w.step s, h.s, h.k4, h.lk.step s⟩
theorem Wh.plain (h : Wh E K t q r) : Wh E K q q r := ⟨h.w.plain, h.s, h.k4, h.lk.star h.w.star⟩
theorem Wh.long (h : Wh E K t q r) : Wh E K r r r := ⟨h.w.long, h.s, h.k4, h.w.mkd.lk h.s h.k4⟩
end
end K23
namespace KW
open PySem PySem.Spec L2 PyProof.Rows
open K23 (Kd Pg encK encP Nx Wf Ty Fin Star Nf Many MkN AlN kas en deepP partsP rowE Sm LK db Wh nm deepK)
theorem ty_typ {row : List (Str × Kd)} : ∀ (p : Pg) (sc : List (Str × Kd)) (K : Kd), Ty (rowE row) (sc.map (·.2)) (db (sc.map (·.1)) p) K → LK (db (sc.map (·.1)) p) → Sm (rowE row) (sc.map (·.2)) → deepP p ≤ 80 → TyP (row ++ sc.reverse) p K
  | .name x, sc, K, h, l, s, hd => .name (by rw [← K23.kas_eq]; exact K23.kas_ty h)
  | .take x k p, sc, K, h, l, s, hd => by
    simp only [db] at h l
    simp only [deepP] at hd
    cases h with
    | @lam _ A B _ h =>
      have h1 := ty_typ p ((x, k) :: sc) B h l.2 (s.cons l.1) (by omega)
      rw [List.reverse_cons, ← List.append_assoc] at h1
      exact .take h1
  | .give p q, sc, K, h, l, s, hd => by
    simp only [db] at h l
    simp only [deepP] at hd
    cases h with
    | @app _ A B _ _ h g =>
      have h1 := h.deep l.1 s
      rw [K23.deepP_db] at h1
      simp only [deepK] at h1
      exact .give (by omega) (ty_typ p sc _ h l.1 s (by omega)) (ty_typ q sc _ g l.2 s (by omega))
  | .pair p q, sc, K, h, l, s, hd => by
    simp only [db] at h l
    simp only [deepP] at hd
    cases h with
    | pair h g => exact .pair (ty_typ p sc _ h l.1 s (by omega)) (ty_typ q sc _ g l.2 s (by omega))
  | .first p, sc, K, h, l, s, hd => by
    simp only [db] at h l
    simp only [deepP] at hd
    cases h with
    | fst h => exact .first (ty_typ p sc _ h l s (by omega))
  | .second p, sc, K, h, l, s, hd => by
    simp only [db] at h l
    simp only [deepP] at hd
    cases h with
    | snd h => exact .second (ty_typ p sc _ h l s (by omega))
  | .thing, sc, K, h, l, s, hd => by
    simp only [db] at h
    cases h with
    | unit => exact .thing
end KW

namespace KW
open PySem PySem.Spec L2 PyProof.Rows
open K23 (Kd Pg encK encP Nx Wf Ty Fin Star Nf Many MkN AlN kas en deepP partsP rowE Sm LK db Wh nm deepK)
abbrev sLongForm : Stmt := top 45
/-- the row as it stands in the heap -/
structure RowAt (K : PySem.W.Frag) (H : Hp) (a : Addr) (row : List (Str × Kd)) : Prop where
  ex : ∃ xs, SqL K H a xs ∧ Paired (NAt K H) xs row
  nx : Nx (rowE row)
  len : row.length ≤ 10
theorem RowAt.same {K : PySem.W.Frag} {H H' : Hp} {a : Addr} {row : List (Str × Kd)} (h : RowAt K H a row) (s : Same H H') : RowAt K H' a row :=
  ⟨let ⟨xs, h1, h2⟩ := h.ex; ⟨xs, s.seq h1, paired_mono h2 fun _ _ t => t.mono (keepT_of s)⟩, h.nx, h.len⟩
/-- run, called with one argument or with two -/
structure RunD (K : PySem.W.Frag) (mg : Str → Option Value) (f : Addr) (fd : FuncData) : Prop where
  F : FunD K "run" "run" (defArgs sRun) (defBody sRun) (defScope sRun) [.non] [] f fd
  m : mg "run" = some (.ref f)
  b1 : ∃ ds, Vals [V.non] ds ∧ Binds K fd ["program", "picks"] ds
  b2 : Binds K fd ["program", "picks"] []
def spLongForm (K : PySem.W.Frag) : Sp := fun vs H Q _ => ∃ (a : Addr) (row : List (Str × Kd)) (v : V) (p : Pg) (kd : Kd) (q r : K23.Tm), vs = [.ref a, v] ∧ RowAt K H a row ∧ PAt K H v p ∧ Wh (rowE row) kd (db [] p) q r ∧ ∀ u H', Same H H' → PAt K H' u (nm 0 r) → Q u H'
theorem scLongForm : FnScope ["row", "program", "kind", "plain", "found"] ["row", "program"] (defScope sLongForm) := ⟨rfl, rfl, rfl, by decide +kernel, rfl, by decide +kernel, by decide +kernel⟩
theorem Wh.typ {row : List (Str × Kd)} {kd : Kd} {p : Pg} {q r : K23.Tm} (h : Wh (rowE row) kd (db [] p) q r) : TyP row p kd := by
  have h1 := ty_typ p [] kd h.w.ty h.lk h.s (by rw [← K23.deepP_db p []]; exact h.w.fin.dp 0 _ (.nil _))
  simpa using h1
theorem Wh.dp {row : List (Str × Kd)} {kd : Kd} {p : Pg} {q r : K23.Tm} (h : Wh (rowE row) kd (db [] p) q r) : deepP p ≤ 80 := by rw [← K23.deepP_db p []]; exact h.w.fin.dp 0 _ (.nil _)
theorem Wh.dq {row : List (Str × Kd)} {kd : Kd} {t q r : K23.Tm} (h : Wh (rowE row) kd t q r) : K23.dp q ≤ 80 ∧ K23.parts q ≤ 1500 := by
  obtain ⟨n, m⟩ := h.w.star
  exact ⟨h.w.fin.dp n q m, h.w.fin.parts n q m⟩
section
variable {P : Program} {w : World} {K : PySem.W.Frag} {mg : Str → Option Value} {base : Heap}
theorem ok_long_form {f fk fr ft fm fI C fp fe : Addr} {fd fdk fdr fdt fdm fdI fdp fde : FuncData} {t2 t3 : Tok} (D : Def K mg "long_form" sLongForm ["row", "program"] f fd) (Dk : Def K mg "kind_of" sKindOf ["row", "program"] fk fdk) (Gk : FnOk P w K mg base CX0 94 fk fdk ["row", "program"] (spKindOf K 90))
    (Dr : RunD K mg fr fdr) (Gr : FnOk P w K mg base CX0 95 fr fdr ["program", "picks"] (spRun K)) (Dt : Def K mg "tidied" sTidied ["program"] ft fdt) (Gt : FnOk P w K mg base CX0 93 ft fdt ["program"] (spTidied K 90))
    (Dm : DefM K C "made" "Longer.made" sMade ["self", "known", "kind", "program", "nest"] fm fdm) (Gm : FnOk P w K mg base CX0 164 fm fdm ["self", "known", "kind", "program", "nest"] (spMade K C 81)) (T : LoT K mg C) (M : L2.Mk K C fI) (bI : Binds K fdI ["self"] []) (GI : FnOk P w K mg base CX0 1 fI fdI ["self"] (spLoInit C))
    (Dp : Def K mg "parts_of" sParts ["program"] fp fdp) (Gp : FnOk P w K mg base CX0 92 fp fdp ["program"] (spParts K 90)) (De : Def K mg "deep_of" sDeep ["program"] fe fde) (Ge : FnOk P w K mg base CX0 92 fe fde ["program"] (spDeep K 90))
    (mli : mg "list" = none) (m2 : mg "MOST_PARTS_longs" = some (.int 1500 t2)) (m3 : mg "MOST_DEEP_longs" = some (.int 100 t3)) : FnOk P w K mg base CX0 165 f fd ["row", "program"] (spLongForm K) := by
  have hN := scLongForm.nd
  refine fun_ok D.F scLongForm (fun vs H Q E h => ?_) (fun cdv A outer s H vs Q E' hr h => ?_)
  · obtain ⟨a, row, v, p, kd, q, r, rfl, _⟩ := h; rfl
  obtain ⟨a, row, v, p, kd, q, r, rfl, R, hp, W, k⟩ := h
  obtain ⟨xs, hL, hx⟩ := R.ex
  have hxl := hx.length
  have hrl := R.len
  have dP := Wh.dp W
  obtain ⟨dQ, pQ⟩ := Wh.dq W
  refine s_cons <| s_set 2 hN <| e_call Gk (hr.mono (by omega)) rfl Dk.m Dk.F.kp Dk.b .nil pass0 <| a_cons <| e_var 0 rfl <| a_cons <| e_var 1 rfl <| a_nil ⟨a, xs, row, v, p, kd, rfl, hL, hx, hp, by omega, by omega, Wh.typ W, fun kv H1 s1 hk => ?_⟩
  obtain ⟨ds, hds, hb1⟩ := Dr.b1
  refine s_cons <| s_set 3 hN <| e_atE 0 <| e_call Gr (hr.mono (by omega)) rfl Dr.m Dr.F.kp hb1 hds pass0 <| a_cons <| e_var 1 rfl <| a_nil ⟨v, p, .non, rowE row, kd, q, rfl, hp.mono (keepT_of s1), .inl rfl, R.nx, W.w.ty, W.w.fin, W.w.star, W.w.nf, fun rt lg pv H2 s2 hrt hpv => ⟨rt, _, rfl, hrt, pv, rfl, ?_⟩⟩
  have hq := W.w.ty.star W.w.star
  obtain ⟨R', mk, hdb⟩ := K23.Mk.named W.w.mkd [] (nm 0 q) rfl (K23.db_nm0 R.nx hq.wf) ((K23.noE_nm R.nx q 0 hq.wf).up (Nat.zero_le _))
  have hdR : deepP R' ≤ 80 := by rw [← K23.deepP_db R' [], show db [] R' = r from hdb]; exact W.w.dp
  have hpR : partsP R' ≤ 1500 := by rw [← K23.partsP_db R' [], show db [] R' = r from hdb]; exact W.w.parts
  have s02 := s1.trans s2
  refine s_cons <| s_set 4 hN <| e_call Gt (hr.mono (by omega)) rfl Dt.m Dt.F.kp Dt.b .nil pass0 <| a_cons <| e_meth T.cl Dm.m Gm hr Dm.b .nil pass0 <| e_make0 M GI (hr.mono (by omega)) rfl T.mC bI .nil pass0 fun o dx ho hdx hne => ⟨o, dx, rfl, upd_same, fun H3 x3 lo3 => ⟨rfl, o, _, _, rfl, lo3.choose_spec, lo_no _ (by decide +kernel), ?_⟩⟩
  have s23 : Same H2 H3 := fun b u e => x3 _ _ (by rw [upd_ne (ne_of_none e ho), upd_ne (ne_of_none e hdx)]; exact e) (ne_of_none e ho)
  have s03 := s02.trans s23
  have hoH : H o = none := s02.free ho
  refine a_cons <| e_callTy call_list_of rfl mli (by decide +kernel) <| a_cons <| e_var 0 rfl <| a_nil ⟨a, xs, rfl, .inl (s03.seq hL), fun l hl => a_cons <| e_var 2 rfl <| a_cons <| e_var 3 rfl <| a_cons <| e_int <| a_nil ?_⟩
  have s34 := same_new hl (.lst xs)
  have s04 := s03.trans s34
  refine ⟨o, 1500, l, xs, row, [], kv, kd, pv, nm 0 q, R', 0, rfl, lo3.same s34, upd_same, ?_, hk.mono (keepT_of (s2.trans (s23.trans s34))), hpv.mono (keepT_of (s23.trans s34)), mk, by omega, by omega, ?_, by omega, fun u z' H5 x5 lo5 _ hu => a_nil ?_⟩
  · rw [List.reverse_nil, List.append_nil]
    exact paired_mono hx fun _ _ t => t.mono (keepT_of s04)
  · rw [List.reverse_nil, List.append_nil]
    omega
  have s05 : Same H H5 := fun b ob e => x5 _ _ (s04 _ _ e) (ne_of_none e hoH)
  refine ⟨u, R', rfl, hu, by omega, by omega, fun u6 H6 s6 hu6 => ?_⟩
  rw [show db [] R' = r from hdb] at hu6
  have hdr := W.w.dp
  have hpr := W.w.parts
  refine s_cons <| s_if <| t_or2 <| t_cmp op_gt (nomark _) <| e_call Gp (hr.mono (by omega)) rfl Dp.m Dp.F.kp Dp.b .nil pass0 <| a_cons <| e_var 4 rfl <| a_nil ⟨u6, _, rfl, hu6, by rw [K23.deepP_nm]; omega, fun H7 s7 => e_gi rfl m2 ⟨_, _, rfl, rfl, _, rfl, if_ne (by rw [K23.partsP_nm]; omega) ?_⟩⟩
  refine t_cmp op_gt (nomark _) <| e_call Ge (hr.mono (by omega)) rfl De.m De.F.kp De.b .nil pass0 <| a_cons <| e_var 4 rfl <| a_nil ⟨u6, _, rfl, hu6.mono (keepT_of s7), by rw [K23.deepP_nm]; omega, fun H8 s8 => e_gi rfl m3 ⟨_, _, rfl, rfl, _, rfl, if_ne (by rw [K23.deepP_nm]; omega) <| s_nil ?_⟩⟩
  exact s_one <| s_ret <| e_var 4 rfl (k u6 H8 ((s05.trans s6).trans (s7.trans s8)) (hu6.mono (keepT_of (s7.trans s8))))
end
end KW

namespace KW
open PySem PySem.Spec L2 PyProof.Rows
open K23 (Kd Pg encK encP leaves deepK)
abbrev sPool : Stmt := top 47
abbrev sTake : Stmt := top 48
abbrev sLawKind : Stmt := top 49
def PoolAt (H : Hp) (a : Addr) : Prop := ∃ c d : Int, H a = some (.lst [.int c, .int d])
theorem PoolAt.same {H H' : Hp} {a : Addr} (h : PoolAt H a) (s : Same H H') : PoolAt H' a := let ⟨c, d, e⟩ := h; ⟨c, d, s _ _ e⟩
theorem PoolAt.keepT {H H' : Hp} {a : Addr} (h : PoolAt H a) (x : Exc a H H') : KeepT H H' := let ⟨_, _, e⟩ := h; x.keepT (not_tup_lst e)
def spPool (K : PySem.W.Frag) : Sp := fun vs H Q _ => ∃ (a : Addr) (ns : List Int) (k : Nat), vs = [.ref a, .int (k : Int)] ∧ SqL K H a (ns.map V.int) ∧ k < 8 ∧ ∀ p H', Same H H' → H p = none → PoolAt H' p → Q (.ref p) H'
theorem scPool : FnScope ["_law_script", "_law_k", "_law_cell", "_law_number"] ["_law_script", "_law_k"] (defScope sPool) := ⟨rfl, rfl, rfl, by decide +kernel, rfl, by decide +kernel, by decide +kernel⟩
def spTake : Sp := fun vs H Q _ => ∃ (a : Addr) (m : Nat), vs = [.ref a, .int (m : Int)] ∧ PoolAt H a ∧ 0 < m ∧ m ≤ 1000 ∧ ∀ (j : Nat) H', j < m → Exc a H H' → PoolAt H' a → Q (.int (j : Int)) H'
theorem scTake : FnScope ["_law_pool_here", "_law_many_here", "_law_found"] ["_law_pool_here", "_law_many_here"] (defScope sTake) := ⟨rfl, rfl, rfl, by decide +kernel, rfl, by decide +kernel, by decide +kernel⟩
/-- kinds that the law draws -/
def MkK : Kd → Prop
  | .mark m => m = "a" ∨ m = "ab"
  | .one => True
  | .to a b => MkK a ∧ MkK b
  | .both a b => MkK a ∧ MkK b
def spLawKind (K : PySem.W.Frag) (n : Nat) : Sp := fun vs H Q _ => ∃ (a mk : Addr) (L : Nat), vs = [.ref a, .int (L : Int), .ref mk] ∧ PoolAt H a ∧ H mk = some (.lst [.str "a", .str "ab"]) ∧ 1 ≤ L ∧ L ≤ n ∧ L ≤ 900 ∧ ∀ u kd H', Exc a H H' → PoolAt H' a → KAt K H' u kd → leaves kd = L → MkK kd → Q u H'
theorem scLawKind : FnScope ["_law_pool_here", "_law_leaves", "_law_marks", "_law_one", "_law_word"] ["_law_pool_here", "_law_leaves", "_law_marks"] (defScope sLawKind) := ⟨rfl, rfl, rfl, by decide +kernel, rfl, by decide +kernel, by decide +kernel⟩
theorem e_modP {X : Cx} {a b : Expr} {pos : Pos} {σ : L2.St} {H : Hp} {Q : VK} (h : wE X a σ H fun x H1 => wE X b σ H1 fun y H2 => ∃ i j : Int, x = .int i ∧ y = .int j ∧ 0 < j ∧ ∀ g : Int, 0 ≤ g → g < j → Q (.int g) H2) : wE X (.BinOp a .Mod b pos) σ H Q :=
  e_op op_modN (h.imp fun x H1 q => q.imp fun y H2 ⟨i, j, e1, e2, hj, q⟩ => ⟨i, j, e1, e2, by omega, q _ (Int.fmod_nonneg_of_pos i hj) (Int.fmod_lt_of_pos i hj)⟩)
theorem e_modM {X : Cx} {a b : Expr} {pos : Pos} {σ : L2.St} {H : Hp} {Q : VK} (h : wE X a σ H fun x H1 => wE X b σ H1 fun y H2 => ∃ (i : Int) (m : Nat), x = .int i ∧ y = .int (m : Int) ∧ 0 < m ∧ ∀ g : Nat, g < m → Q (.int (g : Int)) H2) : wE X (.BinOp a .Mod b pos) σ H Q :=
  e_modP (h.imp fun x H1 q => q.imp fun y H2 ⟨i, m, e1, e2, hj, q⟩ => ⟨i, m, e1, e2, by omega, fun g h1 h2 => by
    have := q g.toNat (by omega)
    rwa [show ((g.toNat : Nat) : Int) = g by omega] at this⟩)
theorem fmod_rg (i : Int) {n : Int} (h : 0 < n) : 0 ≤ i.fmod n ∧ i.fmod n < n := ⟨Int.fmod_nonneg_of_pos i h, Int.fmod_lt_of_pos i h⟩
section
variable {P : Program} {w : World} {K : PySem.W.Frag} {mg : Str → Option Value} {base : Heap}
theorem ok_pool {f : Addr} {fd : FuncData} (D : Def K mg "_law_pool" sPool ["_law_script", "_law_k"] f fd) (ml : mg "len" = none) : FnOk P w K mg base CX0 1 f fd ["_law_script", "_law_k"] (spPool K) := by
  have hN := scPool.nd
  refine fun_ok D.F scPool (fun vs H Q E h => ?_) (fun cdv A outer s H vs Q E hr h => ?_)
  · obtain ⟨a, ns, k, rfl, _⟩ := h; rfl
  obtain ⟨a, ns, k, rfl, hL, hk, post⟩ := h
  refine s_cons <| s_set 2 hN <| e_int ?_
  refine s_seq (fun σ' H' => ∃ c : Int, σ' = [some (.ref a), some (.int (k : Int)), some (.int c), none] ∧ H' = H) (s_if <| t_cmp op_lt (nomark _) <| e_var 1 rfl <| e_callB call_len_seq rfl ml PySem.boot_len <| a_cons <| e_var 0 rfl <| a_nil ⟨a, _, rfl, .inl hL, _, _, rfl, rfl, _, rfl, ?_⟩) ?_
  · rw [List.length_map]
    by_cases e : (k : Int) < (ns.length : Int)
    · refine if_eq e ?_
      have hk' : k < ns.length := by omega
      refine s_one <| s_set 2 hN <| e_ix ix_list (fun _ _ => rfl) <| e_var 0 rfl <| e_var 1 rfl ⟨a, _, _, .int ns[k], rfl, rfl, hL, ?_, ns[k], rfl, rfl⟩
      refine atI_nat ?_
      rw [List.getElem?_map, List.getElem?_eq_getElem hk']
      rfl
    · exact if_ne e <| s_nil ⟨0, rfl, rfl⟩
  rintro σ' H0 ⟨c, rfl, rfl⟩
  refine s_cons <| s_set 3 hN <| e_modP <| e_op op_pow <| e_op op_add <| e_op op_add <| e_modP <| e_var 2 rfl <| e_int ⟨_, _, rfl, rfl, by omega, fun g hg1 hg2 => e_op op_mul <| e_op op_mul <| e_int <| e_var 1 rfl ⟨_, _, rfl, rfl, .inl ⟨by decide, by decide⟩, e_var 1 rfl ⟨_, _, rfl, rfl, .inr ⟨by omega, by omega⟩, _, _, rfl, rfl, e_int ⟨_, _, rfl, rfl, e_int ⟨_, _, rfl, rfl, ⟨by decide, by decide, ?_⟩, e_int ⟨_, _, rfl, rfl, by omega, fun d _ _ => ?_⟩⟩⟩⟩⟩⟩
  · have h8 : k = 0 ∨ k = 1 ∨ k = 2 ∨ k = 3 ∨ k = 4 ∨ k = 5 ∨ k = 6 ∨ k = 7 := by omega
    rcases h8 with rfl | rfl | rfl | rfl | rfl | rfl | rfl | rfl <;> omega
  refine s_seq (fun σ' H' => ∃ c : Int, σ' = [some (.ref a), some (.int (k : Int)), some (.int c), some (.int d)] ∧ H' = H0) (s_if <| t_cmp op_lt (nomark _) <| e_var 2 rfl <| e_op op_pow <| e_int <| e_int ⟨_, _, rfl, rfl, ⟨by decide, by decide, by decide⟩, _, _, rfl, rfl, _, rfl, ?_⟩) ?_
  · by_cases e : c < 10 ^ (18 : Int).toNat
    · exact if_eq e <| s_one <| s_set 2 hN <| e_int ⟨0, rfl, rfl⟩
    · exact if_ne e <| s_nil ⟨c, rfl, rfl⟩
  rintro σ' H' ⟨c, rfl, rfl⟩
  exact s_one <| s_ret <| e_lst <| a_cons <| e_var 2 rfl <| a_cons <| e_var 3 rfl <| a_nil ⟨size_le (by show 2 ≤ 100000; decide), fun p hp => post p _ (same_new hp _) hp ⟨_, _, upd_same⟩⟩
theorem ok_take {f : Addr} {fd : FuncData} (D : Def K mg "_law_take" sTake ["_law_pool_here", "_law_many_here"] f fd) : FnOk P w K mg base CX0 1 f fd ["_law_pool_here", "_law_many_here"] spTake := by
  have hN := scTake.nd
  refine fun_ok D.F scTake (fun vs H Q E h => ?_) (fun cdv A outer s H vs Q E hr h => ?_)
  · obtain ⟨a, m, rfl, _⟩ := h; rfl
  obtain ⟨a, m, rfl, ⟨c, d, hA⟩, hm, hm2, k⟩ := h
  have i0 : ∀ (x y : V), atI [x, y] 0 = some x := fun x y => atI_nat (j := 0) rfl
  have i1 : ∀ (x y : V), atI [x, y] 1 = some y := fun x y => atI_nat (j := 1) rfl
  refine s_cons <| s_if <| t_cmp op_gt (nomark _) <| e_ix ix_list (fun _ _ => rfl) <| e_var 0 rfl <| e_int ⟨a, _, _, _, rfl, rfl, SqL.of hA, i0 _ _, e_int ⟨_, _, rfl, rfl, _, rfl, ?_⟩⟩
  by_cases e : (0 : Int) < c
  · refine if_eq e ?_
    refine s_cons <| s_set 2 hN <| e_modM <| e_ix ix_list (fun _ _ => rfl) <| e_var 0 rfl <| e_int ⟨a, _, _, _, rfl, rfl, SqL.of hA, i0 _ _, e_var 1 rfl ⟨_, m, rfl, rfl, hm, fun j hj => ?_⟩⟩
    refine s_cons <| s_asg (pg_sub pe_w pe_w set_list) <| e_op op_fdivN <| e_ix ix_list (fun _ _ => rfl) <| e_var 0 rfl <| e_int ⟨a, _, _, _, rfl, rfl, SqL.of hA, i0 _ _, e_var 1 rfl ⟨_, _, rfl, rfl, ⟨by omega, by omega⟩, ?_⟩⟩
    refine e_var 0 rfl <| e_int ⟨a, _, 0, 0, rfl, rfl, hA, rfl, ?_⟩
    exact s_one <| s_ret <| e_var 2 rfl (k j _ hj exc_upd ⟨_, _, upd_same⟩)
  · refine if_ne e <| s_nil ?_
    refine s_cons <| s_asg (pg_sub pe_w pe_w set_list) <| e_modP <| e_op op_add <| e_op op_mul <| e_ix ix_list (fun _ _ => rfl) <| e_var 0 rfl <| e_int ⟨a, _, _, _, rfl, rfl, SqL.of hA, i1 _ _, e_int ⟨_, _, rfl, rfl, .inr ⟨by decide, by decide⟩, e_int ⟨_, _, rfl, rfl, e_int ⟨_, _, rfl, rfl, by omega, fun g hg1 hg2 => ?_⟩⟩⟩⟩
    refine e_var 0 rfl <| e_int ⟨a, _, 1, 1, rfl, rfl, hA, rfl, ?_⟩
    have hB : upd H a (.lst (([V.int c, V.int d]).set 1 (V.int g))) a = some (.lst [.int c, .int g]) := upd_same
    refine s_one <| s_ret <| e_modM <| e_op op_fdivN <| e_modP <| e_op op_mul <| e_ix ix_list (fun _ _ => rfl) <| e_var 0 rfl <| e_int ⟨a, _, _, _, rfl, rfl, SqL.of hB, i1 _ _, e_ix ix_list (fun _ _ => rfl) <| e_var 0 rfl <| e_int ⟨a, _, _, _, rfl, rfl, SqL.of hB, i1 _ _, _, _, rfl, rfl, .inl ⟨by omega, by omega⟩, e_int ⟨_, _, rfl, rfl, by omega, fun _ _ _ => e_int ⟨_, _, rfl, rfl, ⟨by decide, by decide⟩, e_var 1 rfl ⟨_, m, rfl, rfl, hm, fun j hj => ?_⟩⟩⟩⟩⟩
    exact k j _ hj exc_upd ⟨_, _, upd_same⟩
theorem PoolAt.ne {H : Hp} {a b : Addr} {xs : List V} (h : PoolAt H a) (q : H b = some (.lst xs)) (hx : ∀ c d : Int, xs ≠ [.int c, .int d]) : b ≠ a := fun e => by
  obtain ⟨c, d, h⟩ := h
  rw [e, h] at q
  injection q with q
  injection q with q
  exact hx c d q.symm
theorem not_ints {x y : Str} : ∀ c d : Int, [V.str x, V.str y] ≠ [.int c, .int d] := fun c d e => by
  injection e with e _
  cases e
theorem ok_law_kind {f ft : Addr} {fd fdt : FuncData} (D : Def K mg "_law_kind" sLawKind ["_law_pool_here", "_law_leaves", "_law_marks"] f fd) (Dt : Def K mg "_law_take" sTake ["_law_pool_here", "_law_many_here"] ft fdt) (Gt : FnOk P w K mg base CX0 1 ft fdt ["_law_pool_here", "_law_many_here"] spTake) (ml : mg "len" = none) :
    ∀ n : Nat, FnOk P w K mg base CX0 (n + 1) f fd ["_law_pool_here", "_law_leaves", "_law_marks"] (spLawKind K n)
  | 0 => none_left fun vs H Q E ⟨_, _, _, _, _, _, h1, h2, _⟩ => absurd h1 (by omega)
  | n + 1 => by
    have ih := ok_law_kind D Dt Gt ml n
    have hN := scLawKind.nd
    refine fun_ok D.F scLawKind (fun vs H Q E h => ?_) (fun cdv A outer s H vs Q E hr h => ?_)
    · obtain ⟨a, mk, L, rfl, _⟩ := h; rfl
    obtain ⟨a, mk, L, rfl, hA, hM, h1, hn, h9, k⟩ := h
    have hma := hA.ne hM not_ints
    have hr1 : Room 1 _ := hr.mono (by omega)
    refine s_cons <| s_if <| t_cmp op_eq (nomark _) <| e_var 1 rfl <| e_int ⟨rfl, _, rfl, ?_⟩
    by_cases e : L = 1
    · subst e
      refine if_eq rfl ?_
      refine s_cons <| s_if <| t_cmp op_eq (nomark _) <| e_call Gt hr1 rfl Dt.m Dt.F.kp Dt.b .nil pass0 <| a_cons <| e_var 0 rfl <| a_cons <| e_int <| a_nil ⟨a, 9, rfl, hA, by decide, by decide, fun j H1 hj x1 hA1 => e_int ⟨rfl, _, rfl, ?_⟩⟩
      by_cases ej : j = 8
      · subst ej
        refine if_eq rfl ?_
        refine s_one <| s_ret <| e_tup <| a_str <| a_nil ⟨size_le (by show 1 ≤ 100000; decide), fun t ht => ?_⟩
        exact k _ .one _ (x1.trans (exc_of (same_new ht _))) (hA1.same (same_new ht _)) (.one (SqT.of upd_same)) rfl trivial
      · refine if_ne (by intro z; injection z with z; omega) <| s_nil ?_
        have hM1 := x1 _ _ hM hma
        refine s_one <| s_ret <| e_tup <| a_str <| a_cons <| e_ix ix_list (fun _ _ => rfl) <| e_var 2 rfl <| e_call Gt hr1 rfl Dt.m Dt.F.kp Dt.b .nil pass0 <| a_cons <| e_var 0 rfl <| a_cons <| e_callB call_len_seq rfl ml PySem.boot_len <| a_cons <| e_var 2 rfl <| a_nil ⟨mk, _, rfl, .inl (SqL.of hM1), a_nil ⟨a, 2, rfl, hA1, by decide, by decide, fun j2 H2 hj2 x2 hA2 => ?_⟩⟩
        have hM2 := x2 _ _ hM1 hma
        have hj3 : j2 = 0 ∨ j2 = 1 := by omega
        rcases hj3 with rfl | rfl
        · refine ⟨mk, _, _, .str "a", rfl, rfl, SqL.of hM2, atI_nat (j := 0) rfl, a_nil ⟨size_le (by show 2 ≤ 100000; decide), fun t ht => ?_⟩⟩
          exact k _ (.mark "a") _ (x1.trans (x2.trans (exc_of (same_new ht _)))) (hA2.same (same_new ht _)) (.mark (SqT.of upd_same)) rfl (.inl rfl)
        · refine ⟨mk, _, _, .str "ab", rfl, rfl, SqL.of hM2, atI_nat (j := 1) rfl, a_nil ⟨size_le (by show 2 ≤ 100000; decide), fun t ht => ?_⟩⟩
          exact k _ (.mark "ab") _ (x1.trans (x2.trans (exc_of (same_new ht _)))) (hA2.same (same_new ht _)) (.mark (SqT.of upd_same)) rfl (.inr rfl)
    · refine if_ne (by intro z; injection z with z; omega) <| s_nil ?_
      refine s_cons <| s_set 3 hN <| e_op op_add <| e_int <| e_call Gt hr1 rfl Dt.m Dt.F.kp Dt.b .nil pass0 <| a_cons <| e_var 0 rfl <| a_cons <| e_op op_sub <| e_var 1 rfl <| e_int ⟨_, _, rfl, rfl, a_nil ⟨a, L - 1, by show [V.ref a, V.int ((L : Int) - 1)] = _; rw [show ((L : Int) - 1) = ((L - 1 : Nat) : Int) by omega], hA, by omega, by omega, fun j H1 hj x1 hA1 => ⟨_, _, rfl, rfl, ?_⟩⟩⟩
      have hM1 := x1 _ _ hM hma
      have ej : (1 : Int) + (j : Int) = ((j + 1 : Nat) : Int) := by omega
      refine s_seq (fun σ' H' => ∃ wd : Str, σ' = [some (.ref a), some (.int (L : Int)), some (.ref mk), some (.int ((j + 1 : Nat) : Int)), some (.str wd)] ∧ Exc a H1 H' ∧ PoolAt H' a ∧ (wd = "to" ∨ wd = "both")) (s_set 4 hN <| e_ix ix_list (fun _ _ => rfl) <| e_lst <| a_str <| a_str <| a_str <| a_nil ⟨size_le (by show 3 ≤ 100000; decide), fun t ht => ?_⟩) ?_
      · have s2 := same_new ht (.lst [.str "to", .str "to", .str "both"])
        refine e_call Gt hr1 rfl Dt.m Dt.F.kp Dt.b .nil pass0 <| a_cons <| e_var 0 rfl <| a_cons <| e_int <| a_nil ⟨a, 3, rfl, hA1.same s2, by decide, by decide, fun j2 H2 hj2 x2 hA2 => ?_⟩
        have hta : t ≠ a := (hA1.same s2).ne upd_same (fun c d e => by injection e with e _; cases e)
        have hT := x2 _ _ upd_same hta
        have hj3 : j2 = 0 ∨ j2 = 1 ∨ j2 = 2 := by omega
        have x12 := (exc_of s2).trans x2
        show ∃ p xs i v, _
        rcases hj3 with rfl | rfl | rfl
        · exact ⟨t, _, _, .str "to", rfl, rfl, SqL.of hT, atI_nat (j := 0) rfl, "to", by rw [← ej]; rfl, x12, hA2, .inl rfl⟩
        · exact ⟨t, _, _, .str "to", rfl, rfl, SqL.of hT, atI_nat (j := 1) rfl, "to", by rw [← ej]; rfl, x12, hA2, .inl rfl⟩
        · exact ⟨t, _, _, .str "both", rfl, rfl, SqL.of hT, atI_nat (j := 2) rfl, "both", by rw [← ej]; rfl, x12, hA2, .inr rfl⟩
      rintro σ' H2 ⟨wd, rfl, x2, hA2, hw⟩
      have hM2 := x2 _ _ hM1 hma
      refine s_one <| s_ret <| e_tup <| a_cons <| e_var 4 rfl <| a_cons <| e_call ih hr rfl D.m D.F.kp D.b .nil pass0 <| a_cons <| e_var 0 rfl <| a_cons <| e_var 3 rfl <| a_cons <| e_var 2 rfl <| a_nil ⟨a, mk, j + 1, rfl, hA2, hM2, by omega, by omega, by omega, fun u ku H3 x3 hA3 hu lu mu => ?_⟩
      have hM3 := x3 _ _ hM2 hma
      refine a_cons <| e_call ih hr rfl D.m D.F.kp D.b .nil pass0 <| a_cons <| e_var 0 rfl <| a_cons <| e_op op_sub <| e_var 1 rfl <| e_var 3 rfl ⟨_, _, rfl, rfl, a_cons <| e_var 2 rfl <| a_nil ⟨a, mk, L - (j + 1), by show [V.ref a, V.int ((L : Int) - ((j + 1 : Nat) : Int)), V.ref mk] = _; rw [show ((L : Int) - ((j + 1 : Nat) : Int)) = ((L - (j + 1) : Nat) : Int) by omega], hA3, hM3, by omega, by omega, by omega, fun v kv H4 x4 hA4 hv lv mv => a_nil ⟨size_le (by show 3 ≤ 100000; decide), fun t ht => ?_⟩⟩⟩
      have s5 := same_new ht (.tup [.str wd, u, v])
      have x05 := x1.trans (x2.trans (x3.trans (x4.trans (exc_of s5))))
      have hu5 := (hu.mono (hA3.keepT x4)).mono (keepT_of s5)
      have hv5 := hv.mono (keepT_of s5)
      rcases hw with rfl | rfl
      · exact k _ (.to ku kv) _ x05 (hA4.same s5) (.to (SqT.of upd_same) hu5 hv5) (by simp only [leaves]; omega) ⟨mu, mv⟩
      · exact k _ (.both ku kv) _ x05 (hA4.same s5) (.both (SqT.of upd_same) hu5 hv5) (by simp only [leaves]; omega) ⟨mu, mv⟩
end
end KW

namespace KW
open PySem PySem.Spec L2 PyProof.Rows
open K23 (Kd Pg encK encP leaves deepK lk)
abbrev sSeen : Stmt := top 50
abbrev sUses : Stmt := top 51
/-- a comprehension over a list whose items may be lists: they are not the list that is filled -/
theorem e_mapD {X : Cx} {σ : L2.St} {H : Hp} {Q : VK} {elt iter : Expr} {x : Str} {px pos : Pos} {scope : Scope} (i : Nat) (R : Addr → Nat → V → Hp → Prop) (hR : ∀ D j y H H', R D j y H → Exc D H H' → (∃ acc, H D = some (.lst acc)) → R D j y H') (hc : X.calm = true) (hN : X.N.Nodup) (ok : BlkOk X.N X.env.scope scope [(x, i)])
    (hg : ∀ (s : Shared) (H : Hp) (C : Addr) (cl : List (Str × Addr)) (fp : List Addr), PG (X.blk s H scope (compEnvC scope cl C X.env) fp) (.Name x px) (gName i))
    (h : wE X iter σ H fun v H1 => ∃ a xs, v = .ref a ∧ SqL X.K H1 a xs ∧ xs.length ≤ 100000 ∧
      (∀ D j y H2, xs[j]? = some y → Same H1 H2 → H1 D = none → (∃ acc, H2 D = some (.lst acc)) → wB X scope elt ((σ.set i none).set i (some y)) H2 fun z H3 => Same H2 H3 ∧ R D j z H3) ∧
      ∀ D acc H2, Same H1 H2 → H1 D = none → H2 D = some (.lst acc) → acc.length = xs.length → (∀ j y, acc[j]? = some y → R D j y H2) → Q (.ref D) H2)
    (hs : ∀ x, foldedSetIterable iter X.env x = pure x := by intro _; rfl) : wE X (.ListComp elt [⟨.Name x px, iter, [], 0⟩] scope pos) σ H Q := by
  refine e_lc (own := [(x, i)]) (g := gName i) (tt := tYes) (wi := iList X.K (wE X iter)) hc hN (pi_list pe_w) ok hg (fun _ _ _ _ _ => pts_nil) ?_ hs
  refine h.imp fun v H1 ⟨a, xs, e, hL, hz, body, fin⟩ => ⟨a, e, ⟨xs, hL⟩, fun D hD => ?_⟩
  refine lc_list (K := X.K) (a := a) (xs := xs) (fun n H2 => Same H1 H2 ∧ ∃ acc, H2 D = some (.lst acc) ∧ acc.length = n ∧ ∀ j y, acc[j]? = some y → R D j y H2) ⟨same_new hD _, [], upd_same, rfl, fun j y q => by simp at q⟩ (fun n H2 _ ⟨s2, _⟩ => s2.seq hL) (fun n y H2 hy ⟨s2, acc, h2, hn, hr⟩ => ?_) fun H2 ⟨s2, acc, h2, hn, hr⟩ => fin D acc H2 s2 hD h2 hn hr
  have hnl : n < xs.length := (List.getElem?_eq_some_iff.mp hy).1
  refine ⟨?_, ?_⟩
  · show ((σ.set i none).set i (some y)).set i none = σ.set i none
    rw [List.set_set, List.set_set]
  · have key : wB X scope elt ((σ.set i none).set i (some y)) H2 (fun z H4 => ∃ acc, H4 D = some (.lst acc) ∧ acc.length < sizeLine ∧ (Same H1 (upd H4 D (.lst (acc ++ [z]))) ∧ ∃ acc', upd H4 D (.lst (acc ++ [z])) D = some (.lst acc') ∧ acc'.length = n + 1 ∧
        ∀ j y, acc'[j]? = some y → R D j y (upd H4 D (.lst (acc ++ [z]))))) := ?_
    · exact key
    refine fun s0 H0 C cl fp => (body D n y H2 hy s2 hD ⟨acc, h2⟩ s0 H0 C cl fp).imp fun z H3 ⟨s3, rz⟩ => ?_
    refine ⟨acc, s3 _ _ h2, size_lt (by omega), fun b o q => ?_, acc ++ [z], upd_same, by rw [List.length_append, hn]; rfl, fun j y' q => hR D j y' H3 _ ?_ exc_upd ⟨acc, s3 _ _ h2⟩⟩
    · rw [upd_ne (ne_of_none q hD)]
      exact s3 _ _ (s2 _ _ q)
    · by_cases hj : j < acc.length
      · rw [List.getElem?_append_left hj] at q
        exact hR D j y' H2 H3 (hr j y' q) (exc_of s3) ⟨acc, h2⟩
      · rw [List.getElem?_append_right (by omega)] at q
        have e0 : j - acc.length = 0 := by
          cases e : j - acc.length with
          | zero => rfl
          | succ m => rw [e] at q; simp at q
        rw [e0] at q
        obtain rfl : z = y' := by simpa using q
        obtain rfl : j = n := by omega
        exact rz
theorem e_lock {X : Cx} {e : Expr} {σ : L2.St} {H : Hp} {Q : VK} (h : ∃ d u, H d = some u ∧ Mut (some u) ∧ ∀ od, wE X e σ (upd H d (.frz od u)) fun v H' => H' d = some (.frz od u) ∧ Q v (upd H' d u)) : wE X e σ H Q := e_mk (pe_lock pe_w) h
theorem e_dget {X : Cx} {o i : Expr} {pos : Pos} {σ : L2.St} {H : Hp} {Q : VK} (hu : X.A.units + 1 < cLine) (hs : NoSl i) (h : wE X o σ H fun x H1 => wE X i σ H1 fun y H2 => ∃ a v, x = .ref a ∧ DGet H2 a y (some v) ∧ Q v H2) : wE X (.Subscript o i pos) σ H Q := e_mk (pe_dget hu pe_w pe_w hs) h
theorem s_dput {X : Cx} {o i value : Expr} {pos pos' : Pos} {σ : L2.St} {H : Hp} {D : Ends} (hu : X.A.units + 1 < cLine) (h : wE X value σ H fun v H1 => wE X o σ H1 fun x H2 => wE X i σ H2 fun y H3 => ∃ a H4, x = .ref a ∧ DPut H3 a y v H4 ∧ D.nx σ H4)
    (hs : swapsWith value (some (.Subscript o i pos')) pos.line X.env = pure false := by rfl) : w1 X (.Assign [.Subscript o i pos'] value pos) D σ H := s1_mk (ps_dput hu pe_w pe_w pe_w hs) h
theorem e_dnew {X : Cx} {pos : Pos} {σ : L2.St} {H : Hp} {Q : VK} (h : ∀ p, H p = none → Q (.ref p) (upd H p (.dK []))) : wE X (.Dict [] [] pos) σ H Q := e_mk pe_dnewK h
theorem not_tup_dk {H : Hp} {p : Addr} {kvs : List (Key × V)} (h : Rd H p (.dK kvs)) : ∀ xs, ¬ Rd H p (.tup xs) := fun xs q => by
  rcases h with h | ⟨o, h⟩ <;> rcases q with q | ⟨o2, q⟩ <;> rw [h] at q <;> cases q
def spSeen (K : PySem.W.Frag) : Sp := fun vs H Q _ => ∃ (a : Addr) (xs : List V) (l : List (Str × Kd)), vs = [.ref a] ∧ SqL K H a xs ∧ Paired (NAt K H) xs l ∧ l.length ≤ 900 ∧
  ∀ H' g zs L, Same H H' → H g = none → H' g = some (.lst zs) → Paired (NAt K H') zs L → zs.length ≤ l.length → (∀ x k, (x, k) ∈ L → lk l.reverse x = some k) → Q (.ref g) H'
theorem scSeen : FnScope ["_law_known", "_law_found", "_law_name", "_law_kind_here"] ["_law_known"] (defScope sSeen) := ⟨rfl, rfl, rfl, by decide +kernel, rfl, by decide +kernel, by decide +kernel⟩
theorem valV_len (kvs : List (Key × V)) (k : Key) (v : V) : (putK kvs k v).length ≤ kvs.length + 1 := by
  unfold putK
  split <;> simp
section
variable {P : Program} {w : World} {K : PySem.W.Frag} {mg : Str → Option Value} {base : Heap}
theorem ok_seen {f : Addr} {fd : FuncData} (D : Def K mg "_law_seen" sSeen ["_law_known"] f fd) : FnOk P w K mg base CX0 1 f fd ["_law_known"] (spSeen K) := by
  have hN := scSeen.nd
  refine fun_ok D.F scSeen (fun vs H Q E h => ?_) (fun cdv A outer s H vs Q E hr h => ?_)
  · obtain ⟨a, xs, l, rfl, _⟩ := h; rfl
  obtain ⟨a, xs, l, rfl, hL, hx, hl, k⟩ := h
  have hxl := hx.length
  have hu1 : (cxOf CX0 P w K mg base ["_law_known", "_law_found", "_law_name", "_law_kind_here"] "_law_seen" (defScope sSeen) f cdv A outer s H E).nox.A.units + 1 < cLine := by have := room200 hr; exact Nat.lt_of_le_of_lt (Nat.add_le_add_left (by decide) _) this
  refine s_cons <| s_set 1 hN <| e_dnew fun d hd => ?_
  refine s_seq (fun σ' H1 => ∃ kvs y z, σ' = [some (.ref a), some (.ref d), y, z] ∧ Same H H1 ∧ H1 d = some (.dK kvs) ∧ kvs.length ≤ l.length ∧ ∀ key v, valV kvs key = some v → ∃ x kd, key = Sum.inr x ∧ KAt K H1 v kd ∧ lk l.reverse x = some kd) (s_for PassesOwn.never rfl (pi_list pe_w) (pg_tup rfl (pgs_cons (pg_name (i := 2) hN rfl (Or.inl rfl)) (pgs_cons (pg_name (i := 3) hN rfl (Or.inl rfl)) pgs_nil))) ?_) ?_
  · refine e_var 0 rfl ⟨a, rfl, ⟨xs, (same_new hd _).seq hL⟩, ?_⟩
    refine for_it (walk_list (K := K) (a := a) (xs := xs)) (fun i σ' H1 => ∃ kvs y z, σ' = [some (.ref a), some (.ref d), y, z] ∧ Same H H1 ∧ H1 d = some (.dK kvs) ∧ kvs.length ≤ i ∧ ∀ key v, valV kvs key = some v → ∃ x kd, key = Sum.inr x ∧ KAt K H1 v kd ∧ lk (l.take i).reverse x = some kd)
      ⟨[], none, none, rfl, same_new hd _, upd_same, by decide, fun key v q => by simp [valV_nil] at q⟩ (fun i σ' H1 _ ⟨_, _, _, _, s1, _⟩ => s1.seq hL) ?_ ?_
    · rintro i v σ' _ H1 hi ⟨kvs, y, z, rfl, s1, hD, hk, hv⟩ ⟨rfl, hvi⟩
      obtain ⟨q, hq, hn⟩ := paired_get hx hvi
      obtain ⟨qx, qk⟩ := q
      cases hn with
      | @mk t _ ky _ hT hky =>
        have hT1 := sqT_keep (keepT_of s1) hT
        refine ⟨t, _, rfl, hT1, rfl, _, _, rfl, _, _, rfl, rfl, ?_⟩
        refine s_one <| s_dput hu1 <| e_var 3 rfl <| e_var 1 rfl <| e_var 2 rfl ⟨d, _, rfl, DPut.k (k := Sum.inr qx) hD (size_lt (by omega)), ?_⟩
        have xd : Exc d H1 (upd H1 d (.dK (putK kvs (Sum.inr qx) ky))) := exc_upd
        have kp := xd.keepT (not_tup_dk (.inl hD))
        refine ⟨_, _, _, rfl, Same.mut s1 hd, upd_same, by have := valV_len kvs (Sum.inr qx) ky; omega, fun key v q => ?_⟩
        rw [valV_put] at q
        have et : (l.take (i + 1)).reverse = (qx, qk) :: (l.take i).reverse := by
          obtain ⟨h1, h2⟩ := List.getElem?_eq_some_iff.mp hq
          rw [List.take_succ_eq_append_getElem h1, List.reverse_append, h2]
          rfl
        rw [et]
        by_cases e : key = Sum.inr qx
        · rw [if_pos e] at q
          obtain rfl : ky = v := Option.some.inj q
          exact ⟨qx, qk, e, (hky.mono (keepT_of s1)).mono kp, by simp [lk]⟩
        · rw [if_neg e] at q
          obtain ⟨x', kd, e1, e2, e3⟩ := hv key v q
          refine ⟨x', kd, e1, e2.mono kp, ?_⟩
          subst e1
          simp only [lk]
          rw [if_neg (fun h => e (by rw [h]))]
          exact e3
    · rintro σ' H1 ⟨kvs, y, z, rfl, s1, hD, hk, hv⟩
      rw [hxl, List.take_length] at hv
      exact ⟨kvs, y, z, rfl, s1, hD, by omega, hv⟩
  rintro σ' H1 ⟨kvs, y, z, rfl, s1, hD, hk, hv⟩
  refine s_one <| s_ret <| e_lock ⟨d, _, hD, trivial, fun od => ?_⟩
  have xf : Exc d H1 (upd H1 d (.frz od (.dK kvs))) := exc_upd
  have kf := xf.keepT (not_tup_dk (.inl hD))
  refine e_lc (own := [("_law_name", 2)]) (g := gName 2) (tt := tYes) rfl hN (pi_keys pe_w) (blkOk_by (N := ["_law_known", "_law_found", "_law_name", "_law_kind_here"]) (sc := defScope sSeen) (by decide +kernel)) (fun _ _ _ _ _ => pg_name (i := 2) hN rfl (Or.inl rfl)) (fun _ _ _ _ _ => pts_nil) ?_
  refine e_var 1 rfl ⟨d, od, rfl, .inl ⟨kvs, upd_same, ?_⟩⟩
  refine lc_map (walk_keys (d := d) (o := od) (kvs := kvs)) (fun j y H => ∃ x kd, NAt K H y (x, kd) ∧ lk l.reverse x = some kd) (fun j y H H' ⟨x, kd, h1, h2⟩ kp => ⟨x, kd, h1.mono kp, h2⟩) (by omega) (fun H3 s3 => s3 _ _ upd_same) ?_ ?_
  · rintro i x H3 H4 hi s3 ⟨rfl, key, v, hkv, rfl⟩ Post post
    have hany : (valV kvs key).isSome = true := by
      rw [← valV_any]
      exact List.any_eq_true.mpr ⟨(key, v), List.mem_of_getElem? hkv, by simp⟩
    obtain ⟨v', hv'⟩ := Option.isSome_iff_exists.mp hany
    obtain ⟨x, kd, rfl, hkd, hlk⟩ := hv key v' hv'
    refine ⟨rfl, fun s0 H0 C cl fp => ?_⟩
    have hrd : Rd H4 d (.dK kvs) := .inr ⟨od, s3 _ _ upd_same⟩
    refine e_tup <| a_cons <| e_var 2 rfl <| a_cons <| e_dget (o := .Name "_law_found" _) hu1 (fun _ _ => rfl) <| e_var 1 rfl <| e_var 2 rfl ⟨d, v', rfl, by rw [← hv']; exact .inl ⟨kvs, Sum.inr x, hrd, rfl, rfl⟩, a_nil ⟨size_le (by show 2 ≤ 100000; decide), fun t ht => ?_⟩⟩
    have s5 := same_new ht (.tup [.str x, v'])
    exact post _ _ s5 ⟨x, kd, .mk (SqT.of upd_same) ((hkd.mono kf).mono (keepT_of (s3.trans s5))), hlk⟩
  · intro D' acc H3 s3 hD' hacc hlen hall
    refine ⟨s3 _ _ upd_same, ?_⟩
    have hne : D' ≠ d := fun e => by rw [e, upd_same] at hD'; cases hD'
    have s13 : Same H H3 := fun b o q => s3 _ _ (by rw [upd_ne (ne_of_none q hd)]; exact s1 _ _ q)
    have hrd : Rd H3 d (.dK kvs) := .inr ⟨od, s3 _ _ upd_same⟩
    have xg : Exc d H3 (upd H3 d (.dK kvs)) := exc_upd
    have kg := xg.keepT (not_tup_dk hrd)
    have hg0 : H D' = none := s1.free (by rw [upd_ne hne] at hD'; exact hD')
    have hex : ∃ L : List (Str × Kd), Paired (NAt K (upd H3 d (.dK kvs))) acc L ∧ ∀ x k, (x, k) ∈ L → lk l.reverse x = some k := by
      clear hlen hacc
      revert hall
      generalize acc = acc'
      intro hall
      induction acc' with
      | nil => exact ⟨[], .nil, fun x k h => by simp at h⟩
      | cons y ys ih =>
        obtain ⟨x, kd, h1, h2⟩ := hall 0 y rfl
        obtain ⟨L, g1, g2⟩ := ih fun j z q => hall (j + 1) z (by simpa using q)
        refine ⟨(x, kd) :: L, .cons (h1.mono kg) g1, fun x' k' h => ?_⟩
        rcases List.mem_cons.mp h with h | h
        · cases h; exact h2
        · exact g2 x' k' h
    obtain ⟨L, g1, g2⟩ := hex
    exact k _ D' acc L (Same.mut s13 hd) hg0 (by rw [upd_ne hne]; exact hacc) g1 (by omega) g2
end
end KW

namespace KW
open PySem PySem.Spec L2 PyProof.Rows
open K23 (Kd Pg encK encP leaves deepK lk)
/-- a step along a kind -/
inductive Mv where
  | one
  | two
  | arg (k : Kd)
inductive MvAt (K : PySem.W.Frag) (H : Hp) : V → Mv → Prop
  | one : MvAt K H (.int 1) .one
  | two : MvAt K H (.int 2) .two
  | arg {v : V} {k : Kd} : KAt K H v k → MvAt K H v (.arg k)
theorem MvAt.mono {K : PySem.W.Frag} {H H' : Hp} {v : V} {m : Mv} (h : KeepT H H') (q : MvAt K H v m) : MvAt K H' v m := by
  cases q with
  | one => exact .one
  | two => exact .two
  | arg k => exact .arg (k.mono h)
/-- from a kind along to the goal -/
inductive Pth (g : Kd) : Kd → List Mv → Prop
  | nil : Pth g g []
  | arg {A B : Kd} {ms : List Mv} : Pth g B ms → Pth g (.to A B) (.arg A :: ms)
  | one {A B : Kd} {ms : List Mv} : Pth g A ms → Pth g (.both A B) (.one :: ms)
  | two {A B : Kd} {ms : List Mv} : Pth g B ms → Pth g (.both A B) (.two :: ms)
theorem pth_len {g kd : Kd} {ms : List Mv} (h : Pth g kd ms) : ms.length ≤ deepK kd := by
  induction h with
  | nil => exact Nat.zero_le _
  | arg _ ih => simp only [deepK, List.length_cons]; omega
  | one _ ih => simp only [deepK, List.length_cons]; omega
  | two _ ih => simp only [deepK, List.length_cons]; omega
def MsAt (K : PySem.W.Frag) (H : Hp) (b : Addr) (ms : List Mv) : Prop := ∃ ys, H b = some (.lst ys) ∧ Paired (MvAt K H) ys ms
theorem MsAt.exc {K : PySem.W.Frag} {H H' : Hp} {b D : Addr} {ms : List Mv} (h : MsAt K H b ms) (x : Exc D H H') (hb : b ≠ D) (kp : KeepT H H') : MsAt K H' b ms :=
  let ⟨ys, h1, h2⟩ := h; ⟨ys, x _ _ h1 hb, paired_mono h2 fun _ _ t => t.mono kp⟩
theorem MsAt.same {K : PySem.W.Frag} {H H' : Hp} {b : Addr} {ms : List Mv} (h : MsAt K H b ms) (s : Same H H') : MsAt K H' b ms :=
  let ⟨ys, h1, h2⟩ := h; ⟨ys, s _ _ h1, paired_mono h2 fun _ _ t => t.mono (keepT_of s)⟩
/-- a way, not the list D itself -/
def UsD (K : PySem.W.Frag) (H0 : Hp) (g kd : Kd) (D : Addr) (z : V) (H : Hp) : Prop := ∃ b ms, z = .ref b ∧ H0 b = none ∧ b ≠ D ∧ MsAt K H b ms ∧ Pth g kd ms
theorem UsD.exc {K : PySem.W.Frag} {H0 : Hp} {g kd : Kd} {D : Addr} {z : V} {H H' : Hp} (h : UsD K H0 g kd D z H) (x : Exc D H H') (hd : ∃ acc, H D = some (.lst acc)) : UsD K H0 g kd D z H' := by
  obtain ⟨b, ms, e, h0, hb, hm, p⟩ := h
  obtain ⟨acc, hD⟩ := hd
  exact ⟨b, ms, e, h0, hb, hm.exc x hb (x.keepT (not_tup_lst hD)), p⟩
def UsAll (K : PySem.W.Frag) (H0 : Hp) (g kd : Kd) (H : Hp) (zs : List V) : Prop := ∀ z ∈ zs, ∃ b ms, z = .ref b ∧ H0 b = none ∧ MsAt K H b ms ∧ Pth g kd ms
theorem UsAll.same {K : PySem.W.Frag} {H0 : Hp} {g kd : Kd} {H H' : Hp} {zs : List V} (h : UsAll K H0 g kd H zs) (s : Same H H') : UsAll K H0 g kd H' zs := fun z hz =>
  let ⟨b, ms, e, h0, hm, p⟩ := h z hz; ⟨b, ms, e, h0, hm.same s, p⟩
theorem UsAll.app {K : PySem.W.Frag} {H0 : Hp} {g kd : Kd} {H : Hp} {zs ys : List V} (h : UsAll K H0 g kd H zs) (h2 : UsAll K H0 g kd H ys) : UsAll K H0 g kd H (zs ++ ys) := fun z hz =>
  (List.mem_append.mp hz).elim (h z) (h2 z)
theorem UsAll.of {K : PySem.W.Frag} {H0 : Hp} {g kd : Kd} {D : Addr} {H : Hp} {acc : List V} (h : ∀ (j : Nat) y, acc[j]? = some y → UsD K H0 g kd D y H) : UsAll K H0 g kd H acc := fun z hz => by
  obtain ⟨j, hj⟩ := List.mem_iff_getElem?.mp hz
  obtain ⟨b, ms, e, h0, _, hm, p⟩ := h j z hj
  exact ⟨b, ms, e, h0, hm, p⟩
/-- [m] + way, a new list -/
theorem usd_new {K : PySem.W.Frag} {H0 : Hp} {g kd : Kd} {D p : Addr} {H : Hp} {v : V} {ys : List V} {m : Mv} {ms : List Mv} (hD : ∃ acc, H D = some (.lst acc)) (h0 : Same H0 H) (hp : H p = none) (hv : MvAt K H v m) (hy : Paired (MvAt K H) ys ms) (h : Pth g kd (m :: ms)) : UsD K H0 g kd D (.ref p) (upd H p (.lst ([v] ++ ys))) := by
  obtain ⟨acc, hD⟩ := hD
  have kp := keepT_of (same_new hp (.lst ([v] ++ ys)))
  exact ⟨p, m :: ms, rfl, h0.free hp, fun e => by (rw [e, hD] at hp; cases hp), ⟨_, upd_same, .cons (hv.mono kp) (paired_mono hy fun _ _ t => t.mono kp)⟩, h⟩
def spUses (K : PySem.W.Frag) (n : Nat) : Sp := fun vs H Q _ => ∃ (kv gv : V) (x : Str) (kd g : Kd), vs = [kv, gv, .str x] ∧ KAt K H kv kd ∧ KAt K H gv g ∧ deepK kd < n ∧ deepK kd ≤ 100 ∧ leaves kd ≤ 100 ∧
  ∀ H' b zs, Same H H' → H b = none → H' b = some (.lst zs) → UsAll K H g kd H' zs → zs.length + 1 ≤ 2 * leaves kd → Q (.ref b) H'
theorem scUses : FnScope ["_law_kind_here", "_law_goal", "_law_name", "_law_found", "_law_moves"] ["_law_kind_here", "_law_goal", "_law_name"] (defScope sUses) := ⟨rfl, rfl, rfl, by decide +kernel, rfl, by decide +kernel, by decide +kernel⟩
section
variable {P : Program} {w : World} {K : PySem.W.Frag} {mg : Str → Option Value} {base : Heap}
theorem ok_uses {f : Addr} {fd : FuncData} (D_ : Def K mg "_law_uses" sUses ["_law_kind_here", "_law_goal", "_law_name"] f fd) : ∀ n : Nat, FnOk P w K mg base CX0 (n + 1) f fd ["_law_kind_here", "_law_goal", "_law_name"] (spUses K n)
  | 0 => none_left fun vs H Q E ⟨_, _, _, _, _, _, _, _, h, _⟩ => absurd h (by omega)
  | n + 1 => by
    have ih := ok_uses D_ n
    have hN := scUses.nd
    refine fun_ok D_.F scUses (fun vs H Q E h => ?_) (fun cdv A outer s H vs Q E hr h => ?_)
    · obtain ⟨kv, gv, x, kd, g, rfl, _⟩ := h; rfl
    obtain ⟨kv, gv, x, kd, g, rfl, hk, hg, hd, hd2, hl2, k⟩ := h
    have lp := K23.leaves_pos
    refine s_cons <| s_set 3 hN <| e_lst <| a_nil ⟨size_le (by show 0 ≤ 100000; decide), fun fb hfb => ?_⟩
    have s1 := same_new hfb (.lst [])
    refine s_seq (fun σ' H1 => ∃ b zs, σ' = [some kv, some gv, some (.str x), some (.ref b), none] ∧ Same H H1 ∧ H b = none ∧ H1 b = some (.lst zs) ∧ UsAll K H g kd H1 zs ∧ zs.length ≤ 1) (s_if <| t_cmp (op_eqP (n := 200) (room200 hr)) (nomark _) <| e_var 0 rfl <| e_var 1 rfl ⟨_, _, (hk.mono (keepT_of s1)).dp, (hg.mono (keepT_of s1)).dp, K23.plain_encK _, K23.plain_encK _, by rw [K23.depth_encK, K23.depth_encK]; omega, _, rfl, ?_⟩) ?_
    · rw [K23.eqv_encK]
      by_cases e : kd = g
      · subst e
        refine if_eq rfl ?_
        refine s_one <| s_expr <| e_bm PySem.F.plainAttrs_list PySem.F.slot_list_append PySem.F.type_list_append mt_append <| e_var 3 rfl ⟨.inl ⟨rfl, _, SqL.of upd_same⟩, a_cons <| e_lst <| a_nil ⟨size_le (by show 0 ≤ 100000; decide), fun c hc => a_nil ⟨fb, [], _, rfl, rfl, (same_new hc _) _ _ upd_same, size_lt (by show 0 < 100000; decide), ?_⟩⟩⟩
        have hcf : c ≠ fb := fun e => by rw [e, upd_same] at hc; cases hc
        refine ⟨fb, _, rfl, Same.mut (s1.trans (same_new hc _)) hfb, hfb, upd_same, fun z hz => ?_, by simp⟩
        obtain rfl : z = .ref c := by simpa using hz
        exact ⟨c, [], rfl, s1.free hc, ⟨[], by rw [upd_ne hcf]; exact upd_same, .nil⟩, .nil⟩
      · exact if_ne e <| s_nil ⟨fb, [], rfl, s1, hfb, upd_same, fun z hz => by simp at hz, by simp⟩
    rintro σ' H1 ⟨b, zs, rfl, s01, hb0, hB, hU, hzl⟩
    have hk1 := hk.mono (keepT_of s01)
    have hg1 := hg.mono (keepT_of s01)
    have done : ∀ (b : Addr) (zs : List V) (H2 : Hp) (y : Option V), Same H H2 → H b = none → H2 b = some (.lst zs) → UsAll K H g kd H2 zs → zs.length + 1 ≤ 2 * leaves kd →
        wS (cxOf CX0 P w K mg base ["_law_kind_here", "_law_goal", "_law_name", "_law_found", "_law_moves"] "_law_uses" (defScope sUses) f cdv A outer s H E).nox ((defBody sUses).drop 4) { nx := fun _ H' => Q .non H', rt := Q } [some kv, some gv, some (.str x), some (.ref b), y] H2 := fun b zs H2 y s2 h1 h2 h3 h4 =>
      s_one <| s_ret <| e_var 3 rfl (k H2 b zs s2 h1 h2 h3 h4)
    cases hk1 with
    | one hK =>
      exact s_cons <| s_hd_ne 0 hK <| s_nil <| s_cons <| s_hd_ne 0 hK <| s_nil <| done b zs H1 none s01 hb0 hB hU (by have := lp .one; simp only [leaves] at *; omega)
    | mark hK =>
      exact s_cons <| s_hd_ne 0 hK <| s_nil <| s_cons <| s_hd_ne 0 hK <| s_nil <| done b zs H1 none s01 hb0 hB hU (by simp only [leaves]; omega)
    | @to ka x1 y1 kA kB hK hA hBk =>
      simp only [deepK] at hd hd2
      simp only [leaves] at hl2
      have lA := lp kA
      have lB := lp kB
      refine s_cons <| s_hd_eq 0 hK <| s_one <| s_set 3 hN <| e_op op_cat <| e_var 3 rfl ?_
      refine e_mapD 4 (fun D j z H' => UsD K H g (.to kA kB) D z H') (fun D j y H H' h x hd => h.exc x hd) rfl hN (blkOk_by (N := ["_law_kind_here", "_law_goal", "_law_name", "_law_found", "_law_moves"]) (sc := defScope sUses) (by decide +kernel)) (fun _ _ _ _ _ => pg_name (i := 4) hN rfl (Or.inl rfl)) ?_
      refine e_call ih hr rfl D_.m D_.F.kp D_.b .nil pass0 <| a_cons <| e_at 0 2 hK <| a_cons <| e_var 1 rfl <| a_cons <| e_var 2 rfl <| a_nil ⟨y1, gv, x, kB, g, rfl, hBk, hg1, by omega, by omega, by omega, fun H2 b2 ws s2 hb2 hB2 hU2 hw2 => ⟨b2, ws, rfl, SqL.of hB2, by omega, fun D j y H3 hy s3 hD hDl => ?_, fun D acc H3 s3 hD hacc hlen hall => ?_⟩⟩
      · intro s0 H0 C cl fp
        obtain ⟨c, ms, rfl, _, hm, hp'⟩ := hU2 y (List.mem_of_getElem? hy)
        obtain ⟨ys, hc, hys⟩ := hm
        have kp3 := keepT_of (s2.trans s3)
        refine e_op op_cat <| e_lst <| a_cons <| e_at 0 1 (sqT_keep kp3 hK) <| a_nil ⟨size_le (by show 1 ≤ 100000; decide), fun t ht => e_var 4 rfl ?_⟩
        have s4 := same_new ht (.lst [x1])
        refine ⟨t, c, _, _, rfl, rfl, upd_same, s4 _ _ (s3 _ _ hc), size_le (by have := hys.length; have := pth_len hp'; simp only [List.length_singleton]; omega), fun p hp => ⟨s4.trans (same_new hp _), ?_⟩⟩
        exact usd_new (let ⟨acc, h⟩ := hDl; ⟨acc, s4 _ _ h⟩) (((s01.trans s2).trans s3).trans s4) hp (.arg (hA.mono (keepT_of ((s2.trans s3).trans s4)))) (paired_mono hys fun _ _ t => t.mono (keepT_of (s3.trans s4))) (.arg hp')
      · have s13 := s2.trans s3
        refine ⟨b, D, _, _, rfl, rfl, s13 _ _ hB, hacc, size_le (by omega), fun p hp => ?_⟩
        have s4 := same_new hp (.lst (zs ++ acc))
        refine s_cons <| s_hd_ne 0 (sqT_keep (keepT_of (s13.trans s4)) hK) <| s_nil <| done p _ _ none ((s01.trans s13).trans s4) ((s01.trans s13).free hp) upd_same (((hU.same s13).app (UsAll.of hall)).same s4) ?_
        rw [List.length_append, hlen]
        simp only [leaves]
        omega
    | @both ka x1 y1 kA kB hK hA hBk =>
      simp only [deepK] at hd hd2
      simp only [leaves] at hl2
      have lA := lp kA
      have lB := lp kB
      refine s_cons <| s_hd_ne 0 hK <| s_nil <| s_cons <| s_hd_eq 0 hK <| s_cons <| s_set 3 hN <| e_op op_cat <| e_var 3 rfl ?_
      refine e_mapD 4 (fun D j z H' => UsD K H g (.both kA kB) D z H') (fun D j y H H' h x hd => h.exc x hd) rfl hN (blkOk_by (N := ["_law_kind_here", "_law_goal", "_law_name", "_law_found", "_law_moves"]) (sc := defScope sUses) (by decide +kernel)) (fun _ _ _ _ _ => pg_name (i := 4) hN rfl (Or.inl rfl)) ?_
      refine e_call ih hr rfl D_.m D_.F.kp D_.b .nil pass0 <| a_cons <| e_at 0 1 hK <| a_cons <| e_var 1 rfl <| a_cons <| e_var 2 rfl <| a_nil ⟨x1, gv, x, kA, g, rfl, hA, hg1, by omega, by omega, by omega, fun H2 b2 ws s2 hb2 hB2 hU2 hw2 => ⟨b2, ws, rfl, SqL.of hB2, by omega, fun D j y H3 hy s3 hD hDl => ?_, fun D acc H3 s3 hD hacc hlen hall => ?_⟩⟩
      · intro s0 H0 C cl fp
        obtain ⟨c, ms, rfl, _, hm, hp'⟩ := hU2 y (List.mem_of_getElem? hy)
        obtain ⟨ys, hc, hys⟩ := hm
        refine e_op op_cat <| e_lst <| a_cons <| e_int <| a_nil ⟨size_le (by show 1 ≤ 100000; decide), fun t ht => e_var 4 rfl ?_⟩
        have s4 := same_new ht (.lst [.int 1])
        refine ⟨t, c, _, _, rfl, rfl, upd_same, s4 _ _ (s3 _ _ hc), size_le (by have := hys.length; have := pth_len hp'; simp only [List.length_singleton]; omega), fun p hp => ⟨s4.trans (same_new hp _), ?_⟩⟩
        exact usd_new (let ⟨acc, h⟩ := hDl; ⟨acc, s4 _ _ h⟩) (((s01.trans s2).trans s3).trans s4) hp .one (paired_mono hys fun _ _ t => t.mono (keepT_of (s3.trans s4))) (.one hp')
      · have s13 := s2.trans s3
        refine ⟨b, D, _, _, rfl, rfl, s13 _ _ hB, hacc, size_le (by omega), fun p hp => ?_⟩
        have s4 := same_new hp (.lst (zs ++ acc))
        have s14 := s13.trans s4
        have hK4 := sqT_keep (keepT_of s14) hK
        have hU4 := ((hU.same s13).app (UsAll.of hall)).same s4
        have hz4 : (zs ++ acc).length ≤ 2 * leaves kA := by rw [List.length_append, hlen]; omega
        have hP4 : upd H3 p (.lst (zs ++ acc)) p = some (.lst (zs ++ acc)) := upd_same
        generalize upd H3 p (.lst (zs ++ acc)) = H4 at *
        generalize zs ++ acc = zs4 at *
        refine s_one <| s_set 3 hN <| e_op op_cat <| e_var 3 rfl ?_
        refine e_mapD 4 (fun D j z H' => UsD K H g (.both kA kB) D z H') (fun D j y H H' h x hd => h.exc x hd) rfl hN (blkOk_by (N := ["_law_kind_here", "_law_goal", "_law_name", "_law_found", "_law_moves"]) (sc := defScope sUses) (by decide +kernel)) (fun _ _ _ _ _ => pg_name (i := 4) hN rfl (Or.inl rfl)) ?_
        refine e_call ih hr rfl D_.m D_.F.kp D_.b .nil pass0 <| a_cons <| e_at 0 2 hK4 <| a_cons <| e_var 1 rfl <| a_cons <| e_var 2 rfl <| a_nil ⟨y1, gv, x, kB, g, rfl, hBk.mono (keepT_of s14), hg1.mono (keepT_of s14), by omega, by omega, by omega, fun H5 b5 ws5 s5 hb5 hB5 hU5 hw5 => ⟨b5, ws5, rfl, SqL.of hB5, by omega, fun D j y H6 hy s6 hD hDl => ?_, fun D acc H6 s6 hD hacc hlen hall => ?_⟩⟩
        · intro s0 H0 C cl fp
          obtain ⟨c, ms, rfl, _, hm, hp'⟩ := hU5 y (List.mem_of_getElem? hy)
          obtain ⟨ys, hc, hys⟩ := hm
          refine e_op op_cat <| e_lst <| a_cons <| e_int <| a_nil ⟨size_le (by show 1 ≤ 100000; decide), fun t ht => e_var 4 rfl ?_⟩
          have s7 := same_new ht (.lst [.int 2])
          refine ⟨t, c, _, _, rfl, rfl, upd_same, s7 _ _ (s6 _ _ hc), size_le (by have := hys.length; have := pth_len hp'; simp only [List.length_singleton]; omega), fun p hp => ⟨s7.trans (same_new hp _), ?_⟩⟩
          exact usd_new (let ⟨acc, h⟩ := hDl; ⟨acc, s7 _ _ h⟩) ((((s01.trans s14).trans s5).trans s6).trans s7) hp .two (paired_mono hys fun _ _ t => t.mono (keepT_of (s6.trans s7))) (.two hp')
        · have s46 := s5.trans s6
          refine ⟨p, D, _, _, rfl, rfl, s46 _ _ hP4, hacc, size_le (by omega), fun p2 hp2 => ?_⟩
          have s7 := same_new hp2 (.lst (zs4 ++ acc))
          have s06 := (s01.trans s14).trans s46
          refine done p2 _ _ none (s06.trans s7) (s06.free hp2) upd_same (((hU4.same s46).app (UsAll.of hall)).same s7) ?_
          rw [List.length_append, hlen]
          simp only [leaves]
          omega
end
end KW

namespace K23
open PySem (Str)
section
variable {E : Str → Option Kd}
theorem Dn.one' : ∀ {r : Nat} {G : List Kd}, Dn E r G .one .unit
  | 0, _ => Dr.one
  | _ + 1, _ => Dr.one
theorem Dn.mark' : ∀ {r : Nat} {G : List Kd} {m x : Str}, pq x = true → E x = some (.mark m) → Dn E r G (.mark m) (.free x)
  | 0, _, _, _, h, e => Dr.mark h e
  | _ + 1, _, _, _, h, e => Dr.mark h e
theorem Dn.pair' : ∀ {r : Nat} {G : List Kd} {A B : Kd} {a b : Tm}, Dn E r G A a → Dn E r G B b → Dn E r G (.both A B) (.pair a b)
  | 0, _, _, _, _, _, h, g => Dr.pair h g
  | _ + 1, _, _, _, _, _, h, g => Dr.pair h g
theorem Dn.lam' : ∀ {r : Nat} {G : List Kd} {A B : Kd} {b : Tm}, Dn E r (A :: G) B b → Dn E r G (.to A B) (.lam A b)
  | 0, _, _, _, _, h => Dr.lam h
  | _ + 1, _, _, _, _, h => Dr.lam h
theorem Dn.red' {r : Nat} {G : List Kd} {K g : Kd} {b a : Tm} (h1 : Dn E r (K :: G) g b) (h2 : Dn E r G K a) (h3 : leaves K ≤ 3) : Dn E (r + 1) G g (.app (.lam K b) a) := Dr.red h1 h2 h3
theorem Dn.p1' {r : Nat} {G : List Kd} {K g : Kd} {a b : Tm} (h1 : Dn E r G g a) (h2 : Dn E r G K b) (h3 : leaves K ≤ 2) : Dn E (r + 1) G g (.fst (.pair a b)) := Dr.p1 h1 h2 h3
theorem Dn.p2' {r : Nat} {G : List Kd} {K g : Kd} {a b : Tm} (h1 : Dn E r G g a) (h2 : Dn E r G K b) (h3 : leaves K ≤ 2) : Dn E (r + 1) G g (.snd (.pair b a)) := Dr.p2 h1 h2 h3
theorem Dn.used' {r c : Nat} {G : List Kd} {g : Kd} {t : Tm} (h : Us E (Dn E r G) G c g t) : Dn E (r + 1) G g t := Dr.used trivial h
end
/-- the names that the law binds -/
def BN (x : Str) : Prop := x = "u" ∨ x = "v" ∨ x = "x0" ∨ x = "x7" ∨ x = "f"
theorem BN.ne {x : Str} (h : BN x) : x ≠ "p" ∧ x ≠ "q" := by
  rcases h with rfl | rfl | rfl | rfl | rfl <;> decide +kernel
theorem ix_bn {x : Str} : ∀ {l : List Str}, (∀ y ∈ l, y ≠ x) → ix l x = none
  | [], _ => rfl
  | y :: l, h => by
    rw [ix_cons_ne (h y (List.mem_cons_self ..)), ix_bn fun z hz => h z (List.mem_cons_of_mem _ hz)]
    rfl
theorem lk_mem : ∀ {l : List (Str × Kd)} {x : Str} {k : Kd}, lk l x = some k → (x, k) ∈ l
  | (y, k') :: l, x, k, h => by
    simp only [lk] at h
    split at h
    · rename_i e
      cases h
      subst e
      exact List.mem_cons_self ..
    · exact List.mem_cons_of_mem _ (lk_mem h)
theorem us_start {row sc : List (Str × Kd)} {P : Kd → Tm → Prop} {x : Str} {K : Kd} (h : kas row sc x = some K) (h4 : leaves K ≤ 4) : Us (rowE row) P (sc.map (·.2)) 0 K (db (sc.map (·.1)) (.name x)) := by
  unfold kas at h
  cases q : ix (sc.map (·.1)) x with
  | none =>
    rw [db_name_none q]
    rw [ix_lk_none q] at h
    exact .free h h4
  | some i =>
    rw [db_name_some q]
    obtain ⟨k, h1, h2⟩ := ix_lk_some q
    rw [h1] at h
    obtain rfl : k = K := Option.some.inj h
    exact .var h2 h4
end K23
namespace KW
open PySem PySem.Spec L2 PyProof.Rows
open K23 (Kd Pg encK encP leaves deepK lk rowE db Us Dn BN)
abbrev sUsed : Stmt := top 52
abbrev sLawMade : Stmt := top 53
abbrev sLawProg : Stmt := top 54
/-- what is known while the law draws -/
structure Ctx (row sc : List (Str × Kd)) : Prop where
  nm : ∀ p ∈ sc, BN p.1
  ks : ∀ p ∈ row ++ sc.reverse, leaves p.2 ≤ 4 ∧ MkK p.2
  ep : rowE row "p" = some (.mark "a")
  eq : rowE row "q" = some (.mark "ab")
theorem Ctx.cons {row sc : List (Str × Kd)} {x : Str} {k : Kd} (h : Ctx row sc) (hx : BN x) (h4 : leaves k ≤ 4) (hm : MkK k) : Ctx row ((x, k) :: sc) := by
  refine ⟨fun p hp => ?_, fun p hp => ?_, h.ep, h.eq⟩
  · rcases List.mem_cons.mp hp with rfl | hp
    · exact hx
    · exact h.nm p hp
  · rw [List.reverse_cons, ← List.append_assoc] at hp
    rcases List.mem_append.mp hp with hp | hp
    · exact h.ks p hp
    · obtain rfl : p = (x, k) := by simpa using hp
      exact ⟨h4, hm⟩
theorem Ctx.pq {row sc : List (Str × Kd)} (h : Ctx row sc) {x : Str} (hx : x = "p" ∨ x = "q") : db (sc.map (·.1)) (.name x) = .free x := by
  refine K23.db_name_none (K23.ix_bn fun y hy => ?_)
  obtain ⟨p, hp, rfl⟩ := List.mem_map.mp hy
  have := (h.nm p hp).ne
  rcases hx with rfl | rfl
  · exact this.1
  · exact this.2
theorem Ctx.ne {row sc : List (Str × Kd)} (h : Ctx row sc) : row ++ sc.reverse ≠ [] := by
  intro e
  have : row = [] := (List.append_eq_nil_iff.mp e).1
  subst this
  have := h.ep
  simp [rowE, lk] at this
/-- the list of what is known is not the pool -/
theorem known_ne {K : PySem.W.Frag} {H : Hp} {xs : List V} {l : List (Str × Kd)} (h : Paired (NAt K H) xs l) (hl : l ≠ []) : ∀ c d : Int, xs ≠ [.int c, .int d] := fun c d e => by
  subst e
  cases h with
  | cons r _ => cases r
/-- data: the ways -/
def encM : Mv → PyData
  | .one => .int 1
  | .two => .int 2
  | .arg k => encK k
theorem plain_encM : ∀ m : Mv, (encM m).plain = true
  | .one => rfl
  | .two => rfl
  | .arg k => K23.plain_encK k
theorem MvAt.dp {K : PySem.W.Frag} {H : Hp} {v : V} {m : Mv} (h : MvAt K H v m) : Dp K H v (encM m) := by
  cases h with
  | one => exact .int _
  | two => exact .int _
  | arg k => exact k.dp
theorem dp_mvs {K : PySem.W.Frag} {H : Hp} : ∀ {ys : List V} {ms : List Mv}, Paired (MvAt K H) ys ms → DpAll K H ys (ms.map encM)
  | _, _, .nil => .nil
  | _, _, .cons r t => .cons r.dp (dp_mvs t)
theorem plain_mvs : ∀ ms : List Mv, PyData.plainAll (ms.map encM) = true
  | [] => rfl
  | m :: ms => by simp [PyData.plainAll, plain_encM m, plain_mvs ms]
theorem dp_each {K : PySem.W.Frag} {H : Hp} : ∀ {zs : List V}, (∀ z ∈ zs, ∃ d, Dp K H z d ∧ d.plain = true) → ∃ ds, DpAll K H zs ds ∧ PyData.plainAll ds = true ∧ (ds = [] ↔ zs = [])
  | [], _ => ⟨[], .nil, rfl, by simp⟩
  | z :: zs, h => by
    obtain ⟨d, h1, h2⟩ := h z (List.mem_cons_self ..)
    obtain ⟨ds, g1, g2, _⟩ := dp_each (zs := zs) fun y hy => h y (List.mem_cons_of_mem _ hy)
    exact ⟨d :: ds, .cons h1 g1, by simp [PyData.plainAll, h2, g2], by simp⟩
/-- a name and a way, not the list D itself -/
def SmD (K : PySem.W.Frag) (H0 : Hp) (l : List (Str × Kd)) (g : Kd) (D : Option Addr) (z : V) (H : Hp) : Prop := ∃ t x b ms kd, z = .ref t ∧ SqT K H t [.str x, .ref b] ∧ H0 b = none ∧ some b ≠ D ∧ MsAt K H b ms ∧ Pth g kd ms ∧ lk l.reverse x = some kd
theorem SmD.dp {K : PySem.W.Frag} {H0 : Hp} {l : List (Str × Kd)} {g : Kd} {D : Option Addr} {z : V} {H : Hp} (h : SmD K H0 l g D z H) : ∃ d, Dp K H z d ∧ d.plain = true := by
  obtain ⟨t, x, b, ms, kd, rfl, hT, _, _, ⟨ys, hb, hy⟩, _⟩ := h
  exact ⟨.tuple [.str x, .list (ms.map encM)], .tup hT (.cons (.str x) (.cons (.lst (SqL.of hb) (dp_mvs hy)) .nil)), by simp [PyData.plain, PyData.plainAll, plain_mvs ms]⟩
theorem SmD.exc {K : PySem.W.Frag} {H0 : Hp} {l : List (Str × Kd)} {g : Kd} {D : Addr} {z : V} {H H' : Hp} (h : SmD K H0 l g (some D) z H) (x : Exc D H H') (hd : ∃ acc, H D = some (.lst acc)) : SmD K H0 l g (some D) z H' := by
  obtain ⟨t, y, b, ms, kd, e, hT, h0, hb, hm, p⟩ := h
  obtain ⟨acc, hD⟩ := hd
  have kp := x.keepT (not_tup_lst hD)
  exact ⟨t, y, b, ms, kd, e, sqT_keep kp hT, h0, hb, hm.exc x (fun e => hb (by rw [e])) kp, p⟩
theorem SmD.same {K : PySem.W.Frag} {H0 : Hp} {l : List (Str × Kd)} {g : Kd} {D D' : Option Addr} {z : V} {H H' : Hp} (h : SmD K H0 l g D z H) (s : Same H H') (hD : D' = none ∨ D' = D) : SmD K H0 l g D' z H' := by
  obtain ⟨t, y, b, ms, kd, e, hT, h0, hb, hm, p⟩ := h
  have hb' : some b ≠ D' := by
    rcases hD with rfl | rfl
    · intro z; cases z
    · exact hb
  exact ⟨t, y, b, ms, kd, e, sqT_keep (keepT_of s) hT, h0, hb', hm.same s, p⟩
def spProg (K : PySem.W.Frag) (r d : Nat) : Sp := fun vs H Q _ => ∃ (a kn : Addr) (xs : List V) (row sc : List (Str × Kd)) (gv : V) (g : Kd), vs = [.ref a, .ref kn, gv, .int (r : Int)] ∧ PoolAt H a ∧ H kn = some (.lst xs) ∧ Paired (NAt K H) xs (row ++ sc.reverse) ∧
  KAt K H gv g ∧ leaves g ≤ 4 ∧ MkK g ∧ deepK g < d ∧ Ctx row sc ∧ (row ++ sc.reverse).length + 5 * r + d ≤ 100 ∧
  ∀ u p H', Exc a H H' → PoolAt H' a → PAt K H' u p → Dn (rowE row) r (sc.map (·.2)) g (db (sc.map (·.1)) p) → Q u H'
def spUsed (K : PySem.W.Frag) (r : Nat) : Sp := fun vs H Q _ => ∃ (a kn : Addr) (xs : List V) (row sc : List (Str × Kd)) (gv : V) (g : Kd), vs = [.ref a, .ref kn, gv, .int ((r + 1 : Nat) : Int)] ∧ PoolAt H a ∧ H kn = some (.lst xs) ∧ Paired (NAt K H) xs (row ++ sc.reverse) ∧
  KAt K H gv g ∧ leaves g ≤ 4 ∧ MkK g ∧ Ctx row sc ∧ (row ++ sc.reverse).length + 5 * r + 4 ≤ 100 ∧ (∀ H', Exc a H H' → PoolAt H' a → Q .non H') ∧
  ∀ u p H', Exc a H H' → PoolAt H' a → PAt K H' u p → Dn (rowE row) (r + 1) (sc.map (·.2)) g (db (sc.map (·.1)) p) → Q u H'
theorem scUsed : FnScope ["_law_pool_here", "_law_known", "_law_goal", "_law_room", "_law_some", "_law_name", "_law_kind_here", "_law_moves", "_law_found", "_law_move"] ["_law_pool_here", "_law_known", "_law_goal", "_law_room"] (defScope sUsed) := ⟨rfl, rfl, rfl, by decide +kernel, rfl, by decide +kernel, by decide +kernel⟩
theorem scLawMade : FnScope ["_law_pool_here", "_law_known", "_law_goal", "_law_room", "_law_name"] ["_law_pool_here", "_law_known", "_law_goal", "_law_room"] (defScope sLawMade) := ⟨rfl, rfl, rfl, by decide +kernel, rfl, by decide +kernel, by decide +kernel⟩
theorem scLawProg : FnScope ["_law_pool_here", "_law_known", "_law_goal", "_law_room", "_law_way", "_law_name", "_law_kind_here", "_law_body", "_law_some", "_law_found"] ["_law_pool_here", "_law_known", "_law_goal", "_law_room"] (defScope sLawProg) := ⟨rfl, rfl, rfl, by decide +kernel, rfl, by decide +kernel, by decide +kernel⟩
section
variable {P : Program} {w : World} {K : PySem.W.Frag} {mg : Str → Option Value} {base : Heap}
theorem int_of_ab {m : Str} : (m == ("ab" : Str)) = decide (m = "ab") := rfl
theorem ok_law_made {f fp ft : Addr} {fd fdp fdt : FuncData} {r d : Nat} (D : Def K mg "_law_made" sLawMade ["_law_pool_here", "_law_known", "_law_goal", "_law_room"] f fd) (Dp : Def K mg "_law_program" sLawProg ["_law_pool_here", "_law_known", "_law_goal", "_law_room"] fp fdp) (Gp : FnOk P w K mg base CX0 (8 * r + 6 + 2 * d) fp fdp ["_law_pool_here", "_law_known", "_law_goal", "_law_room"] (spProg K r d))
    (Dt : Def K mg "_law_take" sTake ["_law_pool_here", "_law_many_here"] ft fdt) (Gt : FnOk P w K mg base CX0 1 ft fdt ["_law_pool_here", "_law_many_here"] spTake) (mi : mg "int" = none) : FnOk P w K mg base CX0 (8 * r + 6 + 2 * d + 1) f fd ["_law_pool_here", "_law_known", "_law_goal", "_law_room"] (spProg K r (d + 1)) := by
  have hN := scLawMade.nd
  refine fun_ok (k := 8 * r + 6 + 2 * d) D.F scLawMade (fun vs H Q E h => ?_) (fun cdv A outer s H vs Q E hr h => ?_)
  · obtain ⟨a, kn, xs, row, sc, gv, g, rfl, _⟩ := h; rfl
  obtain ⟨a, kn, xs, row, sc, gv, g, rfl, hA, hL, hx, hg, h4, hm, hd, C, hz, k⟩ := h
  have hka := hA.ne hL (known_ne hx C.ne)
  have hxl := hx.length
  cases hg with
  | one hG =>
    refine s_cons <| s_hd_eq 2 hG <| s_one <| s_ret <| e_tup <| a_str <| a_nil ⟨size_le (by show 1 ≤ 100000; decide), fun t ht => ?_⟩
    exact k _ .thing _ (exc_of (same_new ht _)) (hA.same (same_new ht _)) (.thing (SqT.of upd_same)) Dn.one'
  | @mark ga m hG =>
    refine s_cons <| s_hd_ne 2 hG <| s_nil <| s_cons <| s_hd_eq 2 hG <| s_one <| s_ret <| e_tup <| a_str <| a_cons <| e_ix ix_list (fun _ _ => rfl) <| e_lst <| a_str <| a_str <| a_nil ⟨size_le (by show 2 ≤ 100000; decide), fun b hb => e_callTy call_int1 rfl mi (by decide +kernel) <| a_cons <| e_str_eq <| e_at 2 1 (sqT_keep (keepT_of (same_new hb _)) hG) ⟨rfl, a_nil (.inr ⟨_, rfl, b, _, _, .str (if m = "ab" then "q" else "p"), rfl, rfl, SqL.of upd_same, ?_, a_nil ⟨size_le (by show 2 ≤ 100000; decide), fun t ht => ?_⟩⟩)⟩⟩
    · rcases hm with rfl | rfl
      · rw [show decide (("a" : Str) = "ab") = false by decide +kernel, if_neg (by decide +kernel)]
        exact atI_nat (j := 0) rfl
      · rw [show decide (("ab" : Str) = "ab") = true by decide +kernel, if_pos rfl]
        exact atI_nat (j := 1) rfl
    have s2 := (same_new hb (.lst [.str "p", .str "q"])).trans (same_new ht (.tup [.str "name", .str (if m = "ab" then "q" else "p")]))
    refine k _ (.name (if m = "ab" then "q" else "p")) _ (exc_of s2) (hA.same s2) (.name (SqT.of upd_same)) ?_
    rcases hm with rfl | rfl
    · rw [if_neg (by decide +kernel), C.pq (.inl rfl)]
      exact Dn.mark' (by decide +kernel) C.ep
    · rw [if_pos rfl, C.pq (.inr rfl)]
      exact Dn.mark' (by decide +kernel) C.eq
  | @both ga x y kA kB hG hkA hkB =>
    simp only [deepK] at hd
    simp only [leaves] at h4
    refine s_cons <| s_hd_ne 2 hG <| s_nil <| s_cons <| s_hd_ne 2 hG <| s_nil <| s_cons <| s_hd_eq 2 hG <| s_one <| s_ret <| e_tup <| a_str <| a_cons <| e_call Gp hr rfl Dp.m Dp.F.kp Dp.b .nil pass0 <| a_cons <| e_var 0 rfl <| a_cons <| e_var 1 rfl <| a_cons <| e_at 2 1 hG <| a_cons <| e_var 3 rfl <| a_nil
      ⟨a, kn, xs, row, sc, x, kA, rfl, hA, hL, hx, hkA, by omega, hm.1, by omega, C, by omega, fun u p H1 x1 hA1 hu hp => ?_⟩
    have kp := hA.keepT x1
    refine a_cons <| e_call Gp hr rfl Dp.m Dp.F.kp Dp.b .nil pass0 <| a_cons <| e_var 0 rfl <| a_cons <| e_var 1 rfl <| a_cons <| e_at 2 2 (sqT_keep kp hG) <| a_cons <| e_var 3 rfl <| a_nil
      ⟨a, kn, xs, row, sc, y, kB, rfl, hA1, x1 _ _ hL hka, paired_mono hx fun _ _ t => t.mono kp, hkB.mono kp, by omega, hm.2, by omega, C, by omega, fun u2 p2 H2 x2 hA2 hu2 hp2 => a_nil ⟨size_le (by show 3 ≤ 100000; decide), fun t ht => ?_⟩⟩
    have s3 := same_new ht (.tup [.str "pair", u, u2])
    refine k _ (.pair p p2) _ (x1.trans (x2.trans (exc_of s3))) (hA2.same s3) (.pair (SqT.of upd_same) ((hu.mono (hA1.keepT x2)).mono (keepT_of s3)) (hu2.mono (keepT_of s3))) ?_
    simp only [db]
    exact Dn.pair' hp hp2
  | @to ga x y kA kB hG hkA hkB =>
    simp only [deepK] at hd
    simp only [leaves] at h4
    refine s_cons <| s_hd_ne 2 hG <| s_nil <| s_cons <| s_hd_ne 2 hG <| s_nil <| s_cons <| s_hd_ne 2 hG <| s_nil ?_
    refine s_seq (fun σ' H' => ∃ nx : Str, BN nx ∧ σ' = [some (.ref a), some (.ref kn), some (.ref ga), some (.int (r : Int)), some (.str nx)] ∧ Exc a H H' ∧ PoolAt H' a) (s_set 4 hN <| e_ix ix_list (fun _ _ => rfl) <| e_lst <| a_str <| a_str <| a_str <| a_str <| a_str <| a_nil ⟨size_le (by show 5 ≤ 100000; decide), fun b hb => ?_⟩) ?_
    · have s1 := same_new hb (.lst [.str "u", .str "v", .str "x0", .str "x7", .str "f"])
      have hba : b ≠ a := (hA.same s1).ne upd_same (fun c d e => by injection e with e _; cases e)
      refine e_call Gt (hr.mono (by omega)) rfl Dt.m Dt.F.kp Dt.b .nil pass0 <| a_cons <| e_var 0 rfl <| a_cons <| e_int <| a_nil ⟨a, 5, rfl, hA.same s1, by decide, by decide, fun j H2 hj x2 hA2 => ?_⟩
      have hB := x2 _ _ upd_same hba
      have x02 := (exc_of s1).trans x2
      have hj5 : j = 0 ∨ j = 1 ∨ j = 2 ∨ j = 3 ∨ j = 4 := by omega
      rcases hj5 with rfl | rfl | rfl | rfl | rfl
      · exact ⟨b, _, _, .str "u", rfl, rfl, SqL.of hB, atI_nat (j := 0) rfl, "u", .inl rfl, rfl, x02, hA2⟩
      · exact ⟨b, _, _, .str "v", rfl, rfl, SqL.of hB, atI_nat (j := 1) rfl, "v", .inr (.inl rfl), rfl, x02, hA2⟩
      · exact ⟨b, _, _, .str "x0", rfl, rfl, SqL.of hB, atI_nat (j := 2) rfl, "x0", .inr (.inr (.inl rfl)), rfl, x02, hA2⟩
      · exact ⟨b, _, _, .str "x7", rfl, rfl, SqL.of hB, atI_nat (j := 3) rfl, "x7", .inr (.inr (.inr (.inl rfl))), rfl, x02, hA2⟩
      · exact ⟨b, _, _, .str "f", rfl, rfl, SqL.of hB, atI_nat (j := 4) rfl, "f", .inr (.inr (.inr (.inr rfl))), rfl, x02, hA2⟩
    rintro σ' H1 ⟨nx, hnx, rfl, x1, hA1⟩
    have kp := hA.keepT x1
    have hL1 := x1 _ _ hL hka
    have hG1 := sqT_keep kp hG
    refine s_one <| s_ret <| e_tup <| a_str <| a_cons <| e_var 4 rfl <| a_cons <| e_at 2 1 hG1 <| a_cons <| e_call Gp hr rfl Dp.m Dp.F.kp Dp.b .nil pass0 <| a_cons <| e_var 0 rfl <| a_cons <| e_op op_cat <| e_var 1 rfl <| e_lst <| a_cons <| e_tup <| a_cons <| e_var 4 rfl <| a_cons <| e_at 2 1 hG1 <| a_nil ⟨size_le (by show 2 ≤ 100000; decide), fun t ht => a_nil ⟨size_le (by show 1 ≤ 100000; decide), fun u hu => ?_⟩⟩
    have s2 := (same_new ht (.tup [.str nx, x])).trans (same_new hu (.lst [.ref t]))
    refine ⟨kn, u, _, _, rfl, rfl, s2 _ _ hL1, upd_same, size_le (by simp only [List.length_singleton]; omega), fun b hb => ?_⟩
    have s3 := s2.trans (same_new hb (.lst (xs ++ [.ref t])))
    have k3 := keepT_of s3
    have k03 := kp.trans k3
    have hka1 := (hkA.mono kp).mono k3
    refine a_cons <| e_at 2 2 (sqT_keep k3 hG1) <| a_cons <| e_var 3 rfl <| a_nil ⟨a, b, _, row, (nx, kA) :: sc, y, kB, rfl, hA1.same s3, upd_same, ?_, hkB.mono k03, by omega, hm.2, by omega, C.cons hnx (by omega) hm.1, ?_, fun v p H4 x4 hA4 hv hp => a_nil ⟨size_le (by show 4 ≤ 100000; decide), fun t5 ht5 => ?_⟩⟩
    · rw [List.reverse_cons, ← List.append_assoc]
      exact paired_append (paired_mono hx fun _ _ t => t.mono k03) (.cons (.mk (SqT.of ((same_new hb _) _ _ ((same_new hu _) _ _ upd_same))) hka1) .nil)
    · rw [List.reverse_cons, ← List.append_assoc, List.length_append, List.length_singleton]
      omega
    have s5 := same_new ht5 (.tup [.str "take", .str nx, x, v])
    refine k _ (.take nx kA p) _ (x1.trans ((exc_of s3).trans (x4.trans (exc_of s5)))) (hA4.same s5) (.take (SqT.of upd_same) ((hka1.mono ((hA1.same s3).keepT x4)).mono (keepT_of s5)) (hv.mono (keepT_of s5))) ?_
    simp only [db]
    exact Dn.lam' hp
end
end KW

namespace KW
open PySem PySem.Spec L2 PyProof.Rows
open K23 (Kd Pg encK encP leaves deepK lk rowE db Us Dn BN)
section
variable {P : Program} {w : World} {K : PySem.W.Frag} {mg : Str → Option Value} {base : Heap}
theorem not_refs {x : Addr} {ys : List V} : ∀ c d : Int, (V.ref x :: ys) ≠ [.int c, .int d] := fun c d e => by
  injection e with e _
  cases e
theorem deep3 {k : Kd} (h : leaves k ≤ 4) : deepK k < 4 := by have := K23.deepK_leaves k; omega
theorem ok_law_prog0 {f fm ft : Addr} {fd fdm fdt : FuncData} {d : Nat} (D : Def K mg "_law_program" sLawProg ["_law_pool_here", "_law_known", "_law_goal", "_law_room"] f fd) (Dm : Def K mg "_law_made" sLawMade ["_law_pool_here", "_law_known", "_law_goal", "_law_room"] fm fdm) (Gm : FnOk P w K mg base CX0 (8 * 0 + 6 + 2 * d + 1) fm fdm ["_law_pool_here", "_law_known", "_law_goal", "_law_room"] (spProg K 0 (d + 1)))
    (Dt : Def K mg "_law_take" sTake ["_law_pool_here", "_law_many_here"] ft fdt) (Gt : FnOk P w K mg base CX0 1 ft fdt ["_law_pool_here", "_law_many_here"] spTake) : FnOk P w K mg base CX0 (8 * 0 + 6 + 2 * d + 1 + 1) f fd ["_law_pool_here", "_law_known", "_law_goal", "_law_room"] (spProg K 0 (d + 1)) := by
  have hN := scLawProg.nd
  refine fun_ok D.F scLawProg (fun vs H Q E h => ?_) (fun cdv A outer s H vs Q E hr h => ?_)
  · obtain ⟨a, kn, xs, row, sc, gv, g, rfl, _⟩ := h; rfl
  obtain ⟨a, kn, xs, row, sc, gv, g, rfl, hA, hL, hx, hg, h4, hm, hd, C, hz, k⟩ := h
  have hka := hA.ne hL (known_ne hx C.ne)
  refine s_cons <| s_set 4 hN <| e_call Gt (hr.mono (by omega)) rfl Dt.m Dt.F.kp Dt.b .nil pass0 <| a_cons <| e_var 0 rfl <| a_cons <| e_int <| a_nil ⟨a, 8, rfl, hA, by decide, by decide, fun j H1 hj x1 hA1 => ?_⟩
  have kp := hA.keepT x1
  refine s_cons <| s_if <| t_and2 <| t_cmp op_gt (nomark _) <| e_var 3 rfl <| e_int ⟨_, _, rfl, rfl, _, rfl, if_ne (by decide) <| iteF <| s_nil ?_⟩
  refine s_cons <| s_if <| t_and2 <| t_cmp op_gt (nomark _) <| e_var 3 rfl <| e_int ⟨_, _, rfl, rfl, _, rfl, if_ne (by decide) <| iteF <| s_nil ?_⟩
  refine s_cons <| s_set 9 hN <| e_non ?_
  refine s_cons <| s_if <| t_and2 <| t_cmp op_gt (nomark _) <| e_var 3 rfl <| e_int ⟨_, _, rfl, rfl, _, rfl, if_ne (by decide) <| iteF <| s_nil ?_⟩
  refine s_cons <| s_if <| t_isN <| e_var 9 rfl <| if_eq rfl <| s_one <| s_set 9 hN <| e_call Gm hr rfl Dm.m Dm.F.kp Dm.b .nil pass0 <| a_cons <| e_var 0 rfl <| a_cons <| e_var 1 rfl <| a_cons <| e_var 2 rfl <| a_cons <| e_var 3 rfl <| a_nil
    ⟨a, kn, xs, row, sc, gv, g, rfl, hA1, x1 _ _ hL hka, paired_mono hx fun _ _ t => t.mono kp, hg.mono kp, h4, hm, hd, C, hz, fun u p H2 x2 hA2 hu hp => ?_⟩
  exact s_one <| s_ret <| e_var 9 rfl (k u p H2 (x1.trans x2) hA2 hu hp)
theorem ok_law_prog1 {f fm ft fu fk : Addr} {fd fdm fdt fdu fdk : FuncData} {r d : Nat} (D : Def K mg "_law_program" sLawProg ["_law_pool_here", "_law_known", "_law_goal", "_law_room"] f fd) (Dm : Def K mg "_law_made" sLawMade ["_law_pool_here", "_law_known", "_law_goal", "_law_room"] fm fdm) (Gm : FnOk P w K mg base CX0 (8 * (r + 1) + 6 + 2 * d + 1) fm fdm ["_law_pool_here", "_law_known", "_law_goal", "_law_room"] (spProg K (r + 1) (d + 1)))
    (Gp : FnOk P w K mg base CX0 (8 * r + 14) f fd ["_law_pool_here", "_law_known", "_law_goal", "_law_room"] (spProg K r 4)) (Du : Def K mg "_law_used" sUsed ["_law_pool_here", "_law_known", "_law_goal", "_law_room"] fu fdu) (Gu : FnOk P w K mg base CX0 (8 * r + 15) fu fdu ["_law_pool_here", "_law_known", "_law_goal", "_law_room"] (spUsed K r))
    (Dk : Def K mg "_law_kind" sLawKind ["_law_pool_here", "_law_leaves", "_law_marks"] fk fdk) (Gk : FnOk P w K mg base CX0 5 fk fdk ["_law_pool_here", "_law_leaves", "_law_marks"] (spLawKind K 4))
    (Dt : Def K mg "_law_take" sTake ["_law_pool_here", "_law_many_here"] ft fdt) (Gt : FnOk P w K mg base CX0 1 ft fdt ["_law_pool_here", "_law_many_here"] spTake) : FnOk P w K mg base CX0 (8 * (r + 1) + 6 + 2 * d + 1 + 1) f fd ["_law_pool_here", "_law_known", "_law_goal", "_law_room"] (spProg K (r + 1) (d + 1)) := by
  have hN := scLawProg.nd
  refine fun_ok D.F scLawProg (fun vs H Q E h => ?_) (fun cdv A outer s H vs Q E hr h => ?_)
  · obtain ⟨a, kn, xs, row, sc, gv, g, rfl, _⟩ := h; rfl
  obtain ⟨a, kn, xs, row, sc, gv, g, rfl, hA0, hL0, hx0, hg0, h4, hm, hd, C, hz, k0⟩ := h
  have hka := hA0.ne hL0 (known_ne hx0 C.ne)
  have hxl := hx0.length
  have hrt : Room 1 _ := hr.mono (by omega)
  have hrm : (((r + 1 : Nat) : Int) - 1) = (r : Int) := by omega
  refine s_cons <| s_set 4 hN <| e_call Gt hrt rfl Dt.m Dt.F.kp Dt.b .nil pass0 <| a_cons <| e_var 0 rfl <| a_cons <| e_int <| a_nil ⟨a, 8, rfl, hA0, by decide, by decide, fun j H1 hj x1 hA => ?_⟩
  have kp1 := hA0.keepT x1
  have hL := x1 _ _ hL0 hka
  have hx : Paired (NAt K H1) xs (row ++ sc.reverse) := paired_mono hx0 fun _ _ t => t.mono kp1
  have hg := hg0.mono kp1
  have k : ∀ u p H', Exc a H1 H' → PoolAt H' a → PAt K H' u p → Dn (rowE row) (r + 1) (sc.map (·.2)) g (db (sc.map (·.1)) p) → Q u H' := fun u p H' x h1 h2 h3 => k0 u p H' (x1.trans x) h1 h2 h3
  refine s_cons <| s_if <| t_and2 <| t_cmp op_gt (nomark _) <| e_var 3 rfl <| e_int ⟨_, _, rfl, rfl, _, rfl, if_eq (by omega) <| t_cmp op_lt (nomark _) <| e_var 4 rfl <| e_int ⟨_, _, rfl, rfl, _, rfl, ?_⟩⟩
  by_cases e2 : (j : Int) < 2
  · refine if_eq e2 ?_
    refine s_seq (fun σ' H' => ∃ nx : Str, BN nx ∧ σ' = [some (.ref a), some (.ref kn), some gv, some (.int ((r + 1 : Nat) : Int)), some (.int (j : Int)), some (.str nx), none, none, none, none] ∧ Exc a H1 H' ∧ PoolAt H' a) (s_set 5 hN <| e_ix ix_list (fun _ _ => rfl) <| e_lst <| a_str <| a_str <| a_str <| a_str <| a_str <| a_nil ⟨size_le (by show 5 ≤ 100000; decide), fun b hb => ?_⟩) ?_
    · have s1 := same_new hb (.lst [.str "u", .str "v", .str "x0", .str "x7", .str "f"])
      have hba : b ≠ a := (hA.same s1).ne upd_same (fun c d e => by injection e with e _; cases e)
      refine e_call Gt hrt rfl Dt.m Dt.F.kp Dt.b .nil pass0 <| a_cons <| e_var 0 rfl <| a_cons <| e_int <| a_nil ⟨a, 5, rfl, hA.same s1, by decide, by decide, fun j H2 hj x2 hA2 => ?_⟩
      have hB := x2 _ _ upd_same hba
      have x02 := (exc_of s1).trans x2
      have hj5 : j = 0 ∨ j = 1 ∨ j = 2 ∨ j = 3 ∨ j = 4 := by omega
      rcases hj5 with rfl | rfl | rfl | rfl | rfl
      · exact ⟨b, _, _, .str "u", rfl, rfl, SqL.of hB, atI_nat (j := 0) rfl, "u", .inl rfl, rfl, x02, hA2⟩
      · exact ⟨b, _, _, .str "v", rfl, rfl, SqL.of hB, atI_nat (j := 1) rfl, "v", .inr (.inl rfl), rfl, x02, hA2⟩
      · exact ⟨b, _, _, .str "x0", rfl, rfl, SqL.of hB, atI_nat (j := 2) rfl, "x0", .inr (.inr (.inl rfl)), rfl, x02, hA2⟩
      · exact ⟨b, _, _, .str "x7", rfl, rfl, SqL.of hB, atI_nat (j := 3) rfl, "x7", .inr (.inr (.inr (.inl rfl))), rfl, x02, hA2⟩
      · exact ⟨b, _, _, .str "f", rfl, rfl, SqL.of hB, atI_nat (j := 4) rfl, "f", .inr (.inr (.inr (.inr rfl))), rfl, x02, hA2⟩
    rintro σ' H2 ⟨nx, hnx, rfl, x2, hA2⟩
    have kp2 := hA.keepT x2
    have hL2 := x2 _ _ hL hka
    refine s_cons <| s_set 6 hN <| e_call Gk (hr.mono (by omega)) rfl Dk.m Dk.F.kp Dk.b .nil pass0 <| a_cons <| e_var 0 rfl <| a_cons <| e_op op_add <| e_int <| e_call Gt hrt rfl Dt.m Dt.F.kp Dt.b .nil pass0 <| a_cons <| e_var 0 rfl <| a_cons <| e_int <| a_nil ⟨a, 3, rfl, hA2, by decide, by decide, fun j3 H3 hj3 x3 hA3 => ⟨_, _, rfl, rfl, a_cons <| e_lst <| a_str <| a_str <| a_nil ⟨size_le (by show 2 ≤ 100000; decide), fun mk hmk => a_nil ?_⟩⟩⟩
    have s4 := same_new hmk (.lst [.str "a", .str "ab"])
    refine ⟨a, mk, j3 + 1, by show [V.ref a, V.int ((1 : Int) + (j3 : Int)), V.ref mk] = _; rw [show (1 : Int) + (j3 : Int) = ((j3 + 1 : Nat) : Int) by omega], hA3.same s4, upd_same, by omega, by omega, by omega, fun kv kd H5 x5 hA5 hkv lkd mkd => ?_⟩
    have x25 := x3.trans ((exc_of s4).trans x5)
    have kp5 := hA2.keepT x25
    have hL5 := x25 _ _ hL2 hka
    have hx5 : Paired (NAt K H5) xs (row ++ sc.reverse) := paired_mono hx fun _ _ t => (t.mono kp2).mono kp5
    have hg5 := (hg.mono kp2).mono kp5
    refine s_cons <| s_set 7 hN <| e_call Gp (hr.mono (by omega)) rfl D.m D.F.kp D.b .nil pass0 <| a_cons <| e_var 0 rfl <| a_cons <| e_op op_cat <| e_var 1 rfl <| e_lst <| a_cons <| e_tup <| a_cons <| e_var 5 rfl <| a_cons <| e_var 6 rfl <| a_nil ⟨size_le (by show 2 ≤ 100000; decide), fun t ht => a_nil ⟨size_le (by show 1 ≤ 100000; decide), fun u hu => ?_⟩⟩
    have s6 := (same_new ht (.tup [.str nx, kv])).trans (same_new hu (.lst [.ref t]))
    refine ⟨kn, u, _, _, rfl, rfl, s6 _ _ hL5, upd_same, size_le (by simp only [List.length_singleton]; omega), fun b hb => ?_⟩
    have s7 := s6.trans (same_new hb (.lst (xs ++ [.ref t])))
    have k7 := keepT_of s7
    refine a_cons <| e_var 2 rfl <| a_cons <| e_op op_sub <| e_var 3 rfl <| e_int ⟨_, _, rfl, rfl, a_nil ?_⟩
    refine ⟨a, b, _, row, (nx, kd) :: sc, gv, g, by show [V.ref a, V.ref b, gv, V.int (((r + 1 : Nat) : Int) - 1)] = _; rw [hrm], hA5.same s7, upd_same, ?_, hg5.mono k7, h4, hm, deep3 h4, C.cons hnx (by omega) mkd, ?_, fun bv bp H8 x8 hA8 hbv hbp => ?_⟩
    · rw [List.reverse_cons, ← List.append_assoc]
      exact paired_append (paired_mono hx5 fun _ _ t => t.mono k7) (.cons (.mk (SqT.of ((same_new hb _) _ _ ((same_new hu _) _ _ upd_same))) (hkv.mono k7)) .nil)
    · rw [List.reverse_cons, ← List.append_assoc, List.length_append, List.length_singleton]
      omega
    have x58 := (exc_of s7).trans x8
    have kp8 := hA5.keepT x58
    refine s_one <| s_ret <| e_tup <| a_str <| a_cons <| e_tup <| a_str <| a_cons <| e_var 5 rfl <| a_cons <| e_var 6 rfl <| a_cons <| e_var 7 rfl <| a_nil ⟨size_le (by show 4 ≤ 100000; decide), fun t9 ht9 => ?_⟩
    have s9 := same_new ht9 (.tup [.str "take", .str nx, kv, bv])
    have k9 := keepT_of s9
    have hT9 : PAt K _ (.ref t9) (.take nx kd bp) := .take (SqT.of upd_same) ((hkv.mono kp8).mono k9) (hbv.mono k9)
    refine a_cons <| e_call Gp (hr.mono (by omega)) rfl D.m D.F.kp D.b .nil pass0 <| a_cons <| e_var 0 rfl <| a_cons <| e_var 1 rfl <| a_cons <| e_var 6 rfl <| a_cons <| e_op op_sub <| e_var 3 rfl <| e_int ⟨_, _, rfl, rfl, a_nil ?_⟩
    refine ⟨a, kn, xs, row, sc, kv, kd, by show [V.ref a, V.ref kn, kv, V.int (((r + 1 : Nat) : Int) - 1)] = _; rw [hrm], hA8.same s9, s9 _ _ (x58 _ _ hL5 hka), paired_mono hx5 fun _ _ t => (t.mono kp8).mono k9, (hkv.mono kp8).mono k9, by omega, mkd, deep3 (by omega), C, by omega, fun av ap H10 x10 hA10 hav hap => a_nil ⟨size_le (by show 3 ≤ 100000; decide), fun t11 ht11 => ?_⟩⟩
    have s11 := same_new ht11 (.tup [.str "give", .ref t9, av])
    refine k _ (.give (.take nx kd bp) ap) _ (x2.trans (x25.trans (x58.trans ((exc_of s9).trans (x10.trans (exc_of s11)))))) (hA10.same s11) (.give (SqT.of upd_same) ((hT9.mono ((hA8.same s9).keepT x10)).mono (keepT_of s11)) (hav.mono (keepT_of s11))) ?_
    simp only [db]
    exact Dn.red' hbp hap (by omega)
  · refine if_ne e2 <| s_nil ?_
    refine s_cons <| s_if <| t_and2 <| t_cmp op_gt (nomark _) <| e_var 3 rfl <| e_int ⟨_, _, rfl, rfl, _, rfl, if_eq (by omega) <| t_cmp op_eq (nomark _) <| e_var 4 rfl <| e_int ⟨rfl, _, rfl, ?_⟩⟩
    by_cases e3 : j = 2
    · subst e3
      refine if_eq rfl ?_
      refine s_cons <| s_set 6 hN <| e_call Gk (hr.mono (by omega)) rfl Dk.m Dk.F.kp Dk.b .nil pass0 <| a_cons <| e_var 0 rfl <| a_cons <| e_op op_add <| e_int <| e_call Gt hrt rfl Dt.m Dt.F.kp Dt.b .nil pass0 <| a_cons <| e_var 0 rfl <| a_cons <| e_int <| a_nil ⟨a, 2, rfl, hA, by decide, by decide, fun j3 H3 hj3 x3 hA3 => ⟨_, _, rfl, rfl, a_cons <| e_lst <| a_str <| a_str <| a_nil ⟨size_le (by show 2 ≤ 100000; decide), fun mk hmk => a_nil ?_⟩⟩⟩
      have s4 := same_new hmk (.lst [.str "a", .str "ab"])
      refine ⟨a, mk, j3 + 1, by show [V.ref a, V.int ((1 : Int) + (j3 : Int)), V.ref mk] = _; rw [show (1 : Int) + (j3 : Int) = ((j3 + 1 : Nat) : Int) by omega], hA3.same s4, upd_same, by omega, by omega, by omega, fun kv kd H5 x5 hA5 hkv lkd mkd => ?_⟩
      have x25 := x3.trans ((exc_of s4).trans x5)
      have kp5 := hA.keepT x25
      have hL5 := x25 _ _ hL hka
      have hx5 : Paired (NAt K H5) xs (row ++ sc.reverse) := paired_mono hx fun _ _ t => t.mono kp5
      have hg5 := hg.mono kp5
      refine s_cons <| s_set 8 hN <| e_lst <| a_cons <| e_call Gp (hr.mono (by omega)) rfl D.m D.F.kp D.b .nil pass0 <| a_cons <| e_var 0 rfl <| a_cons <| e_var 1 rfl <| a_cons <| e_var 2 rfl <| a_cons <| e_op op_sub <| e_var 3 rfl <| e_int ⟨_, _, rfl, rfl, a_nil ?_⟩
      refine ⟨a, kn, xs, row, sc, gv, g, by show [V.ref a, V.ref kn, gv, V.int (((r + 1 : Nat) : Int) - 1)] = _; rw [hrm], hA5, hL5, hx5, hg5, h4, hm, deep3 h4, C, by omega, fun av ap H6 x6 hA6 hav hap => ?_⟩
      have kp6 := hA5.keepT x6
      refine a_cons <| e_call Gp (hr.mono (by omega)) rfl D.m D.F.kp D.b .nil pass0 <| a_cons <| e_var 0 rfl <| a_cons <| e_var 1 rfl <| a_cons <| e_var 6 rfl <| a_cons <| e_op op_sub <| e_var 3 rfl <| e_int ⟨_, _, rfl, rfl, a_nil ?_⟩
      refine ⟨a, kn, xs, row, sc, kv, kd, by show [V.ref a, V.ref kn, kv, V.int (((r + 1 : Nat) : Int) - 1)] = _; rw [hrm], hA6, x6 _ _ hL5 hka, paired_mono hx5 fun _ _ t => t.mono kp6, hkv.mono kp6, by omega, mkd, deep3 (by omega), C, by omega, fun bv bp H7 x7 hA7 hbv hbp => a_nil ⟨size_le (by show 2 ≤ 100000; decide), fun l hl => ?_⟩⟩
      have kp7 := hA6.keepT x7
      have s8 := same_new hl (.lst [av, bv])
      obtain ⟨ada, _, eav, _⟩ := hav.head
      have hla : l ≠ a := (hA7.same s8).ne upd_same (by rw [eav]; exact not_refs)
      refine s_cons <| s_if <| t_cmp op_eq (nomark _) <| e_call Gt hrt rfl Dt.m Dt.F.kp Dt.b .nil pass0 <| a_cons <| e_var 0 rfl <| a_cons <| e_int <| a_nil ⟨a, 2, rfl, hA7.same s8, by decide, by decide, fun j9 H9 hj9 x9 hA9 => e_int ⟨rfl, _, rfl, ?_⟩⟩
      have hl9 := x9 _ _ upd_same hla
      have x69 := (exc_of s8).trans x9
      have kp9 := hA7.keepT x69
      have hav9 := (hav.mono kp7).mono kp9
      have hbv9 := hbv.mono kp9
      have x19 := x25.trans (x6.trans (x7.trans x69))
      by_cases e9 : j9 = 0
      · subst e9
        refine if_eq rfl ?_
        refine s_one <| s_ret <| e_tup <| a_str <| a_cons <| e_tup <| a_str <| a_cons <| e_atL 0 <| e_var 8 rfl ⟨l, _, rfl, SqL.of hl9, av, rfl, a_cons <| e_atL 1 <| e_var 8 rfl ⟨l, _, rfl, SqL.of hl9, bv, rfl, a_nil ⟨size_le (by show 3 ≤ 100000; decide), fun t ht => a_nil ⟨size_le (by show 2 ≤ 100000; decide), fun t2 ht2 => ?_⟩⟩⟩⟩
        have s10 := same_new ht (.tup [.str "pair", av, bv])
        have s11 := same_new ht2 (.tup [.str "first", .ref t])
        refine k _ (.first (.pair ap bp)) _ (x19.trans (exc_of (s10.trans s11))) (hA9.same (s10.trans s11)) (.first (SqT.of upd_same) (.pair (SqT.of (s11 _ _ upd_same)) (hav9.mono (keepT_of (s10.trans s11))) (hbv9.mono (keepT_of (s10.trans s11))))) ?_
        simp only [db]
        exact Dn.p1' hap hbp (by omega)
      · refine if_ne (by intro z; injection z with z; omega) <| s_nil ?_
        refine s_one <| s_ret <| e_tup <| a_str <| a_cons <| e_tup <| a_str <| a_cons <| e_atL 1 <| e_var 8 rfl ⟨l, _, rfl, SqL.of hl9, bv, rfl, a_cons <| e_atL 0 <| e_var 8 rfl ⟨l, _, rfl, SqL.of hl9, av, rfl, a_nil ⟨size_le (by show 3 ≤ 100000; decide), fun t ht => a_nil ⟨size_le (by show 2 ≤ 100000; decide), fun t2 ht2 => ?_⟩⟩⟩⟩
        have s10 := same_new ht (.tup [.str "pair", bv, av])
        have s11 := same_new ht2 (.tup [.str "second", .ref t])
        refine k _ (.second (.pair bp ap)) _ (x19.trans (exc_of (s10.trans s11))) (hA9.same (s10.trans s11)) (.second (SqT.of upd_same) (.pair (SqT.of (s11 _ _ upd_same)) (hbv9.mono (keepT_of (s10.trans s11))) (hav9.mono (keepT_of (s10.trans s11))))) ?_
        simp only [db]
        exact Dn.p2' hap hbp (by omega)
    · refine if_ne (by intro z; injection z with z; omega) <| s_nil ?_
      refine s_cons <| s_set 9 hN <| e_non ?_
      -- found None: made
      have made : ∀ H2, Exc a H1 H2 → PoolAt H2 a → wS (cxOf CX0 P w K mg base ["_law_pool_here", "_law_known", "_law_goal", "_law_room", "_law_way", "_law_name", "_law_kind_here", "_law_body", "_law_some", "_law_found"] "_law_program" (defScope sLawProg) f cdv A outer s H E).nox ((defBody sLawProg).drop 5) { nx := fun _ H' => Q .non H', rt := Q } [some (.ref a), some (.ref kn), some gv, some (.int ((r + 1 : Nat) : Int)), some (.int (j : Int)), none, none, none, none, some .non] H2 := fun H2 x2 hA2 => by
        have kp2 := hA.keepT x2
        refine s_cons <| s_if <| t_isN <| e_var 9 rfl <| if_eq rfl <| s_one <| s_set 9 hN <| e_call Gm hr rfl Dm.m Dm.F.kp Dm.b .nil pass0 <| a_cons <| e_var 0 rfl <| a_cons <| e_var 1 rfl <| a_cons <| e_var 2 rfl <| a_cons <| e_var 3 rfl <| a_nil
          ⟨a, kn, xs, row, sc, gv, g, rfl, hA2, x2 _ _ hL hka, paired_mono hx fun _ _ t => t.mono kp2, hg.mono kp2, h4, hm, hd, C, hz, fun u p H3 x3 hA3 hu hp => ?_⟩
        exact s_one <| s_ret <| e_var 9 rfl (k u p H3 (x2.trans x3) hA3 hu hp)
      refine s_cons <| s_if <| t_and2 <| t_cmp op_gt (nomark _) <| e_var 3 rfl <| e_int ⟨_, _, rfl, rfl, _, rfl, if_eq (by omega) <| t_cmp op_lt (nomark _) <| e_var 4 rfl <| e_int ⟨_, _, rfl, rfl, _, rfl, ?_⟩⟩
      by_cases e6 : (j : Int) < 6
      · refine if_eq e6 ?_
        refine s_one <| s_set 9 hN <| e_call Gu (hr.mono (by omega)) rfl Du.m Du.F.kp Du.b .nil pass0 <| a_cons <| e_var 0 rfl <| a_cons <| e_var 1 rfl <| a_cons <| e_var 2 rfl <| a_cons <| e_var 3 rfl <| a_nil ⟨a, kn, xs, row, sc, gv, g, rfl, hA, hL, hx, hg, h4, hm, C, by omega, fun H2 x2 hA2 => made H2 x2 hA2, fun u p H2 x2 hA2 hu hp => ?_⟩
        obtain ⟨ada, _, eu, _⟩ := hu.head
        refine s_cons <| s_if <| t_isN <| e_var 9 rfl <| if_ne (by rw [eu]; intro z; cases z) <| s_nil ?_
        exact s_one <| s_ret <| e_var 9 rfl (k u p H2 x2 hA2 hu hp)
      · exact if_ne e6 <| s_nil <| made H1 (Exc.refl _ _) hA
end
end KW

namespace KW
open PySem PySem.Spec L2 PyProof.Rows
open K23 (Kd Pg encK encP leaves deepK lk rowE db Us Dn BN)
theorem eqv_int (i j : Int) : PyData.eqv (.int i) (.int j) = decide (i = j) := rfl
theorem eqv_encK_int (k : Kd) (j : Int) : PyData.eqv (encK k) (.int j) = false := by
  cases k <;> rfl
/-- a way's end -/
theorem Pth.end_ {g k : Kd} (h : Pth g k []) : k = g := by cases h; rfl
section
variable {P : Program} {w : World} {K : PySem.W.Frag} {mg : Str → Option Value} {base : Heap}
theorem ok_law_used {f fp fs fu ft : Addr} {fd fdp fds fdu fdt : FuncData} {r : Nat} (D : Def K mg "_law_used" sUsed ["_law_pool_here", "_law_known", "_law_goal", "_law_room"] f fd) (Dp : Def K mg "_law_program" sLawProg ["_law_pool_here", "_law_known", "_law_goal", "_law_room"] fp fdp) (Gp : FnOk P w K mg base CX0 (8 * r + 14) fp fdp ["_law_pool_here", "_law_known", "_law_goal", "_law_room"] (spProg K r 4))
    (Ds : Def K mg "_law_seen" sSeen ["_law_known"] fs fds) (Gs : FnOk P w K mg base CX0 1 fs fds ["_law_known"] (spSeen K)) (Du : Def K mg "_law_uses" sUses ["_law_kind_here", "_law_goal", "_law_name"] fu fdu) (Gu : FnOk P w K mg base CX0 5 fu fdu ["_law_kind_here", "_law_goal", "_law_name"] (spUses K 4))
    (Dt : Def K mg "_law_take" sTake ["_law_pool_here", "_law_many_here"] ft fdt) (Gt : FnOk P w K mg base CX0 1 ft fdt ["_law_pool_here", "_law_many_here"] spTake) (ml : mg "len" = none) : FnOk P w K mg base CX0 (8 * r + 14 + 1) f fd ["_law_pool_here", "_law_known", "_law_goal", "_law_room"] (spUsed K r) := by
  have hN := scUsed.nd
  refine fun_ok D.F scUsed (fun vs H Q E h => ?_) (fun cdv A outer s H vs Q E hr h => ?_)
  · obtain ⟨a, kn, xs, row, sc, gv, g, rfl, _⟩ := h; rfl
  obtain ⟨a, kn, xs, row, sc, gv, g, rfl, hA, hL, hx, hg, h4, hm, C, hz, kN, k⟩ := h
  have hka := hA.ne hL (known_ne hx C.ne)
  have hxl := hx.length
  have hrt : Room 1 _ := hr.mono (by omega)
  have hrm : (((r + 1 : Nat) : Int) - 1) = (r : Int) := by omega
  refine s_cons <| s_set 4 hN <| e_lst <| a_nil ⟨size_le (by show 0 ≤ 100000; decide), fun b0 hb0 => ?_⟩
  have s1 := same_new hb0 (.lst [])
  refine s_seq (fun σ' H' => ∃ b zs y z, σ' = [some (.ref a), some (.ref kn), some gv, some (.int ((r + 1 : Nat) : Int)), some (.ref b), y, z, none, none, none] ∧ Same H H' ∧ H b = none ∧ H' b = some (.lst zs) ∧ zs.length ≤ 1000 ∧ ∀ z ∈ zs, SmD K H (row ++ sc.reverse) g none z H')
    (s_for PassesOwn.never rfl (pi_list pe_w) (pg_tup rfl (pgs_cons (pg_name (i := 5) hN rfl (Or.inr rfl)) (pgs_cons (pg_name (i := 6) hN rfl (Or.inl rfl)) pgs_nil))) ?_) ?_
  · refine e_call Gs hrt rfl Ds.m Ds.F.kp Ds.b .nil pass0 <| a_cons <| e_var 1 rfl <| a_nil ⟨kn, xs, row ++ sc.reverse, rfl, s1.seq (SqL.of hL), paired_mono hx fun _ _ t => t.mono (keepT_of s1), by omega, fun H2 gl zl L s2 hgl hGl hzl hlen hlk => ⟨gl, rfl, ⟨zl, SqL.of hGl⟩, ?_⟩⟩
    have s12 := s1.trans s2
    refine for_it (walk_list (K := K) (a := gl) (xs := zl)) (fun i σ' H' => ∃ b zs y z, σ' = [some (.ref a), some (.ref kn), some gv, some (.int ((r + 1 : Nat) : Int)), some (.ref b), y, z, none, none, none] ∧ Same H2 H' ∧ H b = none ∧ H' b = some (.lst zs) ∧ zs.length ≤ i * 10 ∧ ∀ z ∈ zs, SmD K H (row ++ sc.reverse) g none z H')
      ⟨b0, [], none, none, rfl, Same.refl _, hb0, s2 _ _ upd_same, by simp, fun z hz => by simp at hz⟩ (fun i σ' H' _ ⟨_, _, _, _, _, s', _⟩ => s'.seq (SqL.of hGl)) ?_ ?_
    · rintro i v σ' _ H3 hi ⟨b, zs, y, z, rfl, s3, hb, hB, hzl3, hS⟩ ⟨rfl, hvi⟩
      obtain ⟨q, hq, hn⟩ := paired_get hzl hvi
      obtain ⟨qx, qk⟩ := q
      have hlk1 := hlk qx qk (List.mem_of_getElem? hq)
      have hks : leaves qk ≤ 4 ∧ MkK qk := C.ks (qx, qk) (by have := K23.lk_mem hlk1; rwa [List.mem_reverse] at this)
      cases hn with
      | @mk t _ ky _ hT hky =>
        have hT3 := sqT_keep (keepT_of s3) hT
        have hky3 := hky.mono (keepT_of s3)
        have s03 := s12.trans s3
        refine ⟨t, _, rfl, hT3, rfl, _, _, rfl, _, _, rfl, rfl, ?_⟩
        refine s_one <| s_set 4 hN <| e_op op_cat <| e_var 4 rfl ?_
        refine e_mapD 7 (fun D j z H' => SmD K H (row ++ sc.reverse) g (some D) z H') (fun D j y H H' h x hd => h.exc x hd) rfl hN (blkOk_by (N := ["_law_pool_here", "_law_known", "_law_goal", "_law_room", "_law_some", "_law_name", "_law_kind_here", "_law_moves", "_law_found", "_law_move"]) (sc := defScope sUsed) (by decide +kernel)) (fun _ _ _ _ _ => pg_name (i := 7) hN rfl (Or.inl rfl)) ?_
        refine e_call Gu (hr.mono (by omega)) rfl Du.m Du.F.kp Du.b .nil pass0 <| a_cons <| e_var 6 rfl <| a_cons <| e_var 2 rfl <| a_cons <| e_var 5 rfl <| a_nil ⟨ky, gv, qx, qk, g, rfl, hky3, hg.mono (keepT_of s03), deep3 hks.1, by have := deep3 hks.1; omega, by have := hks.1; omega, fun H4 b4 ws s4 hb4 hB4 hU4 hw4 => ⟨b4, ws, rfl, SqL.of hB4, by have := hks.1; omega, fun D j y H5 hy s5 hD hDl => ?_, fun D acc H5 s5 hD hacc hlen5 hall => ?_⟩⟩
        · intro s0 H0 C' cl fp
          obtain ⟨c, ms, rfl, hc0, hmc, hp⟩ := hU4 y (List.mem_of_getElem? hy)
          refine e_tup <| a_cons <| e_var 5 rfl <| a_cons <| e_var 7 rfl <| a_nil ⟨size_le (by show 2 ≤ 100000; decide), fun t5 ht5 => ?_⟩
          have s6 := same_new ht5 (.tup [.str qx, .ref c])
          refine ⟨s6, t5, qx, c, ms, qk, rfl, SqT.of upd_same, s03.free hc0, ?_, hmc.same (s5.trans s6), hp, hlk1⟩
          intro e
          injection e with e
          subst e
          obtain ⟨ys, hc4, _⟩ := hmc
          rw [hc4] at hD
          cases hD
        · have s35 := s4.trans s5
          have s05 := s03.trans s35
          refine ⟨b, D, _, _, rfl, rfl, s35 _ _ hB, hacc, size_le ?_, fun p hp => ?_⟩
          · have := hks.1
            omega
          have s6 := same_new hp (.lst (zs ++ acc))
          refine ⟨p, _, _, _, rfl, s3.trans (s35.trans s6), s05.free hp, upd_same, ?_, fun z hz => ?_⟩
          · rw [List.length_append, hlen5]
            have := hks.1
            omega
          · rcases List.mem_append.mp hz with hz | hz
            · exact (hS z hz).same (s35.trans s6) (.inl rfl)
            · obtain ⟨j, hj⟩ := List.mem_iff_getElem?.mp hz
              exact (hall j z hj).same s6 (.inl rfl)
    · rintro σ' H3 ⟨b, zs, y, z, rfl, s3, hb, hB, hzl3, hS⟩
      exact ⟨b, zs, y, z, rfl, s12.trans s3, hb, hB, by omega, hS⟩
  rintro σ' H1 ⟨b, zs, y, z, rfl, s01, hb, hB, hzl, hS⟩
  have hba : b ≠ a := fun e => by
    obtain ⟨_, _, hA'⟩ := hA
    rw [e, hA'] at hb
    cases hb
  obtain ⟨ds, hds1, hds2, hds3⟩ := dp_each (zs := zs) fun z hz => (hS z hz).dp
  refine s_cons <| s_if <| t_nil (room200 hr) <| e_var 4 rfl ⟨b, zs, ds, rfl, SqL.of hB, hds1, hds2, fun H2 s2 => ?_⟩
  have s02 := s01.trans s2
  by_cases e : zs = []
  · exact if_eq (hds3.mpr e) <| s_one <| s_ret <| e_non <| kN H2 (exc_of s02) (hA.same s02)
  · refine if_ne (fun h => e (hds3.mp h)) <| s_nil ?_
    have hpos : 0 < zs.length := List.length_pos_iff.mpr e
    have hB2 := s2 _ _ hB
    refine s_cons <| s_asg (pg_tup rfl (pgs_cons (pg_name (i := 5) hN rfl (Or.inr rfl)) (pgs_cons (pg_name (i := 7) hN rfl (Or.inl rfl)) pgs_nil))) <| e_ix ix_list (fun _ _ => rfl) <| e_var 4 rfl <| e_call Gt hrt rfl Dt.m Dt.F.kp Dt.b .nil pass0 <| a_cons <| e_var 0 rfl <| a_cons <| e_callB call_len_seq rfl ml PySem.boot_len <| a_cons <| e_var 4 rfl <| a_nil ⟨b, zs, rfl, .inl (SqL.of hB2), a_nil ⟨a, zs.length, rfl, hA.same s02, hpos, hzl, fun j H3 hj x3 hA3 => ?_⟩⟩
    have hA2 := hA.same s02
    have kp3 := hA2.keepT x3
    have hB3 := x3 _ _ hB2 hba
    obtain ⟨t, x, c, ms, kd, ez, hT, hc0, _, ⟨ys, hc, hys⟩, hp, hlk1⟩ := (hS zs[j] (List.getElem_mem hj)).same (D' := none) s2 (.inl rfl)
    have hca : c ≠ a := fun e => by
      obtain ⟨_, _, hA'⟩ := hA
      rw [e, hA'] at hc0
      cases hc0
    have hc3 := x3 _ _ hc hca
    have hys3 : Paired (MvAt K H3) ys ms := paired_mono hys fun _ _ t => t.mono kp3
    have hks := C.ks (x, kd) (by have := K23.lk_mem hlk1; rwa [List.mem_reverse] at this)
    refine ⟨b, zs, _, .ref t, rfl, rfl, SqL.of hB3, atI_nat (by rw [List.getElem?_eq_getElem hj, ez]), t, _, rfl, sqT_keep kp3 hT, rfl, _, _, rfl, _, _, rfl, rfl, ?_⟩
    refine s_cons <| s_set 8 hN <| e_tup <| a_str <| a_cons <| e_var 5 rfl <| a_nil ⟨size_le (by show 2 ≤ 100000; decide), fun t4 ht4 => ?_⟩
    have s4 := same_new ht4 (.tup [.str "name", .str x])
    have x04 := (exc_of s02).trans (x3.trans (exc_of s4))
    have hA4 := hA3.same s4
    have hL4 := x04 _ _ hL hka
    have hx4 : Paired (NAt K _) xs (row ++ sc.reverse) := paired_mono hx fun _ _ t => t.mono (hA.keepT x04)
    rw [← K23.kas_eq] at hlk1
    have hU0 := K23.us_start (P := Dn (rowE row) r (sc.map (·.2))) hlk1 hks.1
    have hl5 := hys.length
    refine s_seq (fun σ' H' => ∃ u p, σ'[8]? = some (some u) ∧ Exc a H H' ∧ PoolAt H' a ∧ PAt K H' u p ∧ ∃ cc, Us (rowE row) (Dn (rowE row) r (sc.map (·.2))) (sc.map (·.2)) cc g (db (sc.map (·.1)) p)) (s_for PassesOwn.never rfl (pi_list pe_w) (pg_name (i := 9) hN rfl (Or.inl rfl)) ?_) ?_
    · refine e_var 7 rfl ⟨c, rfl, ⟨ys, SqL.of (s4 _ _ hc3)⟩, ?_⟩
      refine for_it (walk_list (K := K) (a := c) (xs := ys)) (fun i σ' H' => ∃ u p zz cc kk, σ' = [some (.ref a), some (.ref kn), some gv, some (.int ((r + 1 : Nat) : Int)), some (.ref b), some (.str x), z, some (.ref c), some u, zz] ∧ Exc a (upd H3 t4 (.tup [.str "name", .str x])) H' ∧ PoolAt H' a ∧ PAt K H' u p ∧ Us (rowE row) (Dn (rowE row) r (sc.map (·.2))) (sc.map (·.2)) cc kk (db (sc.map (·.1)) p) ∧ MkK kk ∧ Pth g kk (ms.drop i))
        ⟨_, .name x, none, 0, kd, by rfl, Exc.refl _ _, hA4, .name (SqT.of upd_same), hU0, hks.2, hp⟩ (fun i σ' H' _ ⟨_, _, _, _, _, _, x', _⟩ => SqL.of (x' _ _ (s4 _ _ hc3) hca)) ?_ ?_
      · rintro i v σ' _ H5 hi ⟨u, p, z, cc, kk, rfl, x5, hA5, hu, hU, hmk, hP⟩ ⟨rfl, hvi⟩
        obtain ⟨mv, hmv, hmva⟩ := paired_get hys3 hvi
        have kp5 := hA4.keepT x5
        have hv5 : MvAt K H5 v mv := (hmva.mono (keepT_of s4)).mono kp5
        obtain ⟨hq1, hq2⟩ := List.getElem?_eq_some_iff.mp hmv
        rw [List.drop_eq_getElem_cons hq1, hq2] at hP
        show wS _ _ _ _ _
        cases hP with
        | @one kA kB _ hP =>
          cases hv5 with
          | one =>
            refine s_one <| s_if <| t_or2 <| t_cmp (op_eqP (n := 200) (room200 hr)) (nomark _) <| e_var 9 rfl <| e_int ⟨.int 1, .int 1, .int _, .int _, rfl, rfl, by decide, _, rfl, ifb_t rfl <| iteT ?_⟩
            refine s_one <| s_set 8 hN <| e_tup <| a_cons <| e_ix ix_list (fun _ _ => rfl) <| e_lst <| a_str <| a_str <| a_nil ⟨size_le (by show 2 ≤ 100000; decide), fun l hl => e_op op_sub <| e_var 9 rfl <| e_int ⟨_, _, rfl, rfl, l, _, _, .str "first", rfl, rfl, SqL.of upd_same, atI_nat (j := 0) rfl, a_cons <| e_var 8 rfl <| a_nil ⟨size_le (by show 2 ≤ 100000; decide), fun t6 ht6 => ?_⟩⟩⟩
            have s6 := (same_new hl (.lst [.str "first", .str "second"])).trans (same_new ht6 (.tup [.str "first", u]))
            refine ⟨_, .first p, _, cc + leaves kB, kA, rfl, x5.trans (exc_of s6), hA5.same s6, .first (SqT.of upd_same) (hu.mono (keepT_of s6)), ?_, hmk.1, hP⟩
            simp only [db]
            exact .fst hU
        | @two kA kB _ hP =>
          cases hv5 with
          | two =>
            refine s_one <| s_if <| t_or2 <| t_cmp (op_eqP (n := 200) (room200 hr)) (nomark _) <| e_var 9 rfl <| e_int ⟨.int 2, .int 1, .int _, .int _, rfl, rfl, by decide, _, rfl, ifb_f (by rfl) ?_⟩
            refine t_cmp (op_eqP (n := 200) (room200 hr)) (nomark _) <| e_var 9 rfl <| e_int ⟨.int 2, .int 2, .int _, .int _, rfl, rfl, by decide, _, rfl, ifb_t (by rfl) ?_⟩
            refine s_one <| s_set 8 hN <| e_tup <| a_cons <| e_ix ix_list (fun _ _ => rfl) <| e_lst <| a_str <| a_str <| a_nil ⟨size_le (by show 2 ≤ 100000; decide), fun l hl => e_op op_sub <| e_var 9 rfl <| e_int ⟨_, _, rfl, rfl, l, _, _, .str "second", rfl, rfl, SqL.of upd_same, atI_nat (j := 1) rfl, a_cons <| e_var 8 rfl <| a_nil ⟨size_le (by show 2 ≤ 100000; decide), fun t6 ht6 => ?_⟩⟩⟩
            have s6 := (same_new hl (.lst [.str "first", .str "second"])).trans (same_new ht6 (.tup [.str "second", u]))
            refine ⟨_, .second p, _, cc + leaves kA, kB, rfl, x5.trans (exc_of s6), hA5.same s6, .second (SqT.of upd_same) (hu.mono (keepT_of s6)), ?_, hmk.2, hP⟩
            simp only [db]
            exact .snd hU
        | @arg kA kB _ hP =>
          cases hv5 with
          | arg hv5 =>
            have hc4 := hU.c4
            simp only [leaves] at hc4
            have dA := K23.deepK_leaves kA
            refine s_one <| s_if <| t_or2 <| t_cmp (op_eqP (n := 200) (room200 hr)) (nomark _) <| e_var 9 rfl <| e_int ⟨encK kA, .int 1, hv5.dp, .int _, K23.plain_encK _, rfl, by rw [K23.depth_encK]; omega, _, rfl, ifb_f (eqv_encK_int _ _) ?_⟩
            refine t_cmp (op_eqP (n := 200) (room200 hr)) (nomark _) <| e_var 9 rfl <| e_int ⟨encK kA, .int 2, hv5.dp, .int _, K23.plain_encK _, rfl, by rw [K23.depth_encK]; omega, _, rfl, ifb_f (eqv_encK_int _ _) ?_⟩
            refine s_one <| s_set 8 hN <| e_tup <| a_str <| a_cons <| e_var 8 rfl <| a_cons <| e_call Gp hr rfl Dp.m Dp.F.kp Dp.b .nil pass0 <| a_cons <| e_var 0 rfl <| a_cons <| e_var 1 rfl <| a_cons <| e_var 9 rfl <| a_cons <| e_op op_sub <| e_var 3 rfl <| e_int ⟨_, _, rfl, rfl, a_nil ?_⟩
            refine ⟨a, kn, xs, row, sc, v, kA, by show [V.ref a, V.ref kn, v, V.int (((r + 1 : Nat) : Int) - 1)] = _; rw [hrm], hA5, x5 _ _ hL4 hka, paired_mono hx4 fun _ _ t => t.mono kp5, hv5, by omega, hmk.1, by omega, C, by omega, fun av ap H6 x6 hA6 hav hap => a_nil ⟨size_le (by show 3 ≤ 100000; decide), fun t7 ht7 => ?_⟩⟩
            have s7 := same_new ht7 (.tup [.str "give", u, av])
            refine ⟨_, .give p ap, _, cc + leaves kA, kB, rfl, x5.trans (x6.trans (exc_of s7)), hA6.same s7, .give (SqT.of upd_same) ((hu.mono (hA5.keepT x6)).mono (keepT_of s7)) (hav.mono (keepT_of s7)), ?_, hmk.2, hP⟩
            simp only [db]
            exact .app hU hap
      · rintro σ' H5 ⟨u, p, z, cc, kk, rfl, x5, hA5, hu, hU, hmk, hP⟩
        rw [hl5, List.drop_length] at hP
        obtain rfl := hP.end_
        exact ⟨u, p, rfl, x04.trans x5, hA5, hu, cc, hU⟩
    rintro σ' H5 ⟨u, p, e8, x5, hA5, hu, cc, hU⟩
    exact s_one <| s_ret <| e_var 8 e8 (k u p H5 x5 hA5 hu (Dn.used' hU))
end
end KW

namespace KW
open PySem PySem.Spec L2 PyProof.Rows
open K23 (Kd Pg encK encP leaves deepK lk rowE db Us Dn BN Nx Sm en xn partsP)
abbrev sLawRow : Stmt := top 55
abbrev sLawMany : Stmt := top 56
abbrev sLawWords : Stmt := top 57
abbrev sDrawn : Stmt := top 58
section
variable {P : Program} {w : World} {K : PySem.W.Frag} {mg : Str → Option Value} {base : Heap}
theorem ok_prog_all {f fm fu fs fe fk ft : Addr} {fd fdm fdu fds fde fdk fdt : FuncData} (D : Def K mg "_law_program" sLawProg ["_law_pool_here", "_law_known", "_law_goal", "_law_room"] f fd) (Dm : Def K mg "_law_made" sLawMade ["_law_pool_here", "_law_known", "_law_goal", "_law_room"] fm fdm) (Du : Def K mg "_law_used" sUsed ["_law_pool_here", "_law_known", "_law_goal", "_law_room"] fu fdu)
    (Ds : Def K mg "_law_seen" sSeen ["_law_known"] fs fds) (De : Def K mg "_law_uses" sUses ["_law_kind_here", "_law_goal", "_law_name"] fe fde) (Dk : Def K mg "_law_kind" sLawKind ["_law_pool_here", "_law_leaves", "_law_marks"] fk fdk) (Dt : Def K mg "_law_take" sTake ["_law_pool_here", "_law_many_here"] ft fdt) (mi : mg "int" = none) (ml : mg "len" = none) :
    ∀ (r d : Nat), FnOk P w K mg base CX0 (8 * r + 6 + 2 * d) f fd ["_law_pool_here", "_law_known", "_law_goal", "_law_room"] (spProg K r d)
  | r, 0 => none_left fun vs H Q E ⟨_, _, _, _, _, _, _, _, _, _, _, _, _, _, h, _⟩ => absurd h (by omega)
  | 0, d + 1 => by
    have Gt : FnOk P w K mg base CX0 1 ft fdt ["_law_pool_here", "_law_many_here"] spTake := ok_take Dt
    exact ok_law_prog0 D Dm (ok_law_made Dm D (ok_prog_all D Dm Du Ds De Dk Dt mi ml 0 d) Dt Gt mi) Dt Gt
  | r + 1, d + 1 => by
    have Gt : FnOk P w K mg base CX0 1 ft fdt ["_law_pool_here", "_law_many_here"] spTake := ok_take Dt
    have g4 := ok_prog_all D Dm Du Ds De Dk Dt mi ml r 4
    rw [show 8 * r + 6 + 2 * 4 = 8 * r + 14 by omega] at g4
    have gu := ok_law_used Du D g4 Ds (ok_seen Ds) De (ok_uses De 4) Dt Gt ml
    exact ok_law_prog1 D Dm (ok_law_made Dm D (ok_prog_all D Dm Du Ds De Dk Dt mi ml (r + 1) d) Dt Gt mi) g4 Du gu Dk (ok_law_kind Dk Dt Gt ml 4) Dt Gt
end
/-! ### the row -/
def RowOk (row : List (Str × Kd)) : Prop := ∃ ks : List Kd, row = [(("p" : Str), Kd.mark "a"), (("q" : Str), Kd.mark "ab")] ++ ([("f" : Str), ("g" : Str)].take ks.length).zip ks ∧ ks.length ≤ 2 ∧ ∀ k ∈ ks, leaves k ≤ 4 ∧ MkK k
theorem RowOk.cases {row : List (Str × Kd)} (h : RowOk row) : (row = [(("p" : Str), Kd.mark "a"), (("q" : Str), Kd.mark "ab")]) ∨ (∃ k, row = [(("p" : Str), Kd.mark "a"), (("q" : Str), Kd.mark "ab"), (("f" : Str), k)] ∧ leaves k ≤ 4 ∧ MkK k) ∨ ∃ k k2, row = [(("p" : Str), Kd.mark "a"), (("q" : Str), Kd.mark "ab"), (("f" : Str), k), (("g" : Str), k2)] ∧ (leaves k ≤ 4 ∧ MkK k) ∧ leaves k2 ≤ 4 ∧ MkK k2 := by
  obtain ⟨ks, e, hl, hk⟩ := h
  match ks, hl, e, hk with
  | [], _, e, _ => exact .inl e
  | [k], _, e, hk => exact .inr (.inl ⟨k, e, hk k (by simp)⟩)
  | [k, k2], _, e, hk => exact .inr (.inr ⟨k, k2, e, hk k (by simp), hk k2 (by simp)⟩)
  | _ :: _ :: _ :: _, hl, _, _ => simp at hl
theorem rown : ¬ ("f" : Str) = "p" ∧ ¬ ("g" : Str) = "p" ∧ ¬ ("q" : Str) = "p" ∧ ¬ ("f" : Str) = "q" ∧ ¬ ("g" : Str) = "q" := by decide +kernel
theorem RowOk.ep {row : List (Str × Kd)} (h : RowOk row) : rowE row "p" = some (.mark "a") ∧ rowE row "q" = some (.mark "ab") := by
  obtain ⟨n1, n2, n3, n4, n5⟩ := rown
  rcases h.cases with rfl | ⟨k, rfl, _⟩ | ⟨k, k2, rfl, _⟩
  · exact ⟨by simp only [rowE, List.reverse_cons, List.reverse_nil, List.nil_append, List.cons_append, lk]; rw [if_neg n3, if_pos trivial], by simp only [rowE, List.reverse_cons, List.reverse_nil, List.nil_append, List.cons_append, lk]; rw [if_pos trivial]⟩
  · exact ⟨by simp only [rowE, List.reverse_cons, List.reverse_nil, List.nil_append, List.cons_append, lk]; rw [if_neg n1, if_neg n3, if_pos trivial], by simp only [rowE, List.reverse_cons, List.reverse_nil, List.nil_append, List.cons_append, lk]; rw [if_neg n4, if_pos trivial]⟩
  · exact ⟨by simp only [rowE, List.reverse_cons, List.reverse_nil, List.nil_append, List.cons_append, lk]; rw [if_neg n2, if_neg n1, if_neg n3, if_pos trivial], by simp only [rowE, List.reverse_cons, List.reverse_nil, List.nil_append, List.cons_append, lk]; rw [if_neg n5, if_neg n4, if_pos trivial]⟩
theorem RowOk.ks {row : List (Str × Kd)} (h : RowOk row) : ∀ p ∈ row, (leaves p.2 ≤ 4 ∧ MkK p.2) ∧ (p.1 = "p" ∨ p.1 = "q" ∨ p.1 = "f" ∨ p.1 = "g") := by
  intro p hp
  rcases h.cases with rfl | ⟨k, rfl, hk⟩ | ⟨k, k2, rfl, hk, hk2⟩
  · simp only [List.mem_cons, List.not_mem_nil, or_false] at hp
    rcases hp with rfl | rfl
    · exact ⟨⟨by decide, .inl rfl⟩, .inl rfl⟩
    · exact ⟨⟨by decide, .inr rfl⟩, .inr (.inl rfl)⟩
  · simp only [List.mem_cons, List.not_mem_nil, or_false] at hp
    rcases hp with rfl | rfl | rfl
    · exact ⟨⟨by decide, .inl rfl⟩, .inl rfl⟩
    · exact ⟨⟨by decide, .inr rfl⟩, .inr (.inl rfl)⟩
    · exact ⟨hk, .inr (.inr (.inl rfl))⟩
  · simp only [List.mem_cons, List.not_mem_nil, or_false] at hp
    rcases hp with rfl | rfl | rfl | rfl
    · exact ⟨⟨by decide, .inl rfl⟩, .inl rfl⟩
    · exact ⟨⟨by decide, .inr rfl⟩, .inr (.inl rfl)⟩
    · exact ⟨hk, .inr (.inr (.inl rfl))⟩
    · exact ⟨hk2, .inr (.inr (.inr rfl))⟩
theorem RowOk.len {row : List (Str × Kd)} (h : RowOk row) : row.length ≤ 10 := by
  rcases h.cases with rfl | ⟨k, rfl, _⟩ | ⟨k, k2, rfl, _⟩ <;> simp
theorem RowOk.ctx {row : List (Str × Kd)} (h : RowOk row) : Ctx row [] :=
  ⟨fun p hp => by simp at hp, fun p hp => (h.ks p (by simpa using hp)).1, h.ep.1, h.ep.2⟩
theorem rowE_mem {row : List (Str × Kd)} {x : Str} {k : Kd} (h : rowE row x = some k) : (x, k) ∈ row := by
  have := K23.lk_mem h
  rwa [List.mem_reverse] at this
theorem RowOk.sm {row : List (Str × Kd)} (h : RowOk row) : Sm (rowE row) [] := by
  refine ⟨fun i K e => by simp at e, fun x K e => (h.ks _ (rowE_mem e)).1.1, fun x K e hx => ?_⟩
  have hx' : x = "p" ∨ x = "q" := by
    unfold K23.pq at hx
    rcases Bool.or_eq_true _ _ ▸ hx with g | g
    · exact .inl (eq_of_beq g)
    · exact .inr (eq_of_beq g)
  rcases hx' with rfl | rfl
  · rw [h.ep.1] at e; exact ⟨_, (Option.some.inj e).symm⟩
  · rw [h.ep.2] at e; exact ⟨_, (Option.some.inj e).symm⟩
theorem RowOk.nx {row : List (Str × Kd)} (h : RowOk row) : Nx (rowE row) := by
  have cp : (("p" : Str).cps.toList = [112] ∧ ("q" : Str).cps.toList = [113]) ∧ ("f" : Str).cps.toList = [102] ∧ ("g" : Str).cps.toList = [103] := by decide +kernel
  have key : ∀ (x : Str) (n : Nat) (r : List Nat), x.cps.toList = n :: r → n ≠ 112 → n ≠ 113 → n ≠ 102 → n ≠ 103 → rowE row x = none := by
    intro x n r hx h1 h2 h3 h4
    cases e : rowE row x with
    | none => rfl
    | some k =>
      have := (h.ks _ (rowE_mem e)).2
      rcases this with g | g | g | g
      · simp only at g; subst g; rw [cp.1.1] at hx; injection hx with hx _; exact absurd hx.symm h1
      · simp only at g; subst g; rw [cp.1.2] at hx; injection hx with hx _; exact absurd hx.symm h2
      · simp only at g; subst g; rw [cp.2.1] at hx; injection hx with hx _; exact absurd hx.symm h3
      · simp only at g; subst g; rw [cp.2.2] at hx; injection hx with hx _; exact absurd hx.symm h4
  exact ⟨fun k => key _ _ _ (K23.xn_cps k) (by decide) (by decide) (by decide) (by decide), fun k => key _ _ _ (K23.en_cps k) (by decide) (by decide) (by decide) (by decide)⟩
theorem Exc.mut {a p : Addr} {H H' : Hp} {o : HO} (e : Exc a H H') (h : H p = none) : Exc a H (upd H' p o) := fun b u hb hn => by
  rw [upd_ne (ne_of_none hb h)]
  exact e b u hb hn
def spLawRow (K : PySem.W.Frag) : Sp := fun vs H Q _ => ∃ (a : Addr), vs = [.ref a] ∧ PoolAt H a ∧ ∀ rl xs row H', Exc a H H' → PoolAt H' a → H rl = none → H' rl = some (.lst xs) → Paired (NAt K H') xs row → RowOk row → Q (.ref rl) H'
theorem scLawRow : FnScope ["_law_pool_here", "_law_row_here", "_law_name"] ["_law_pool_here"] (defScope sLawRow) := ⟨rfl, rfl, rfl, by decide +kernel, rfl, by decide +kernel, by decide +kernel⟩
theorem cut_take (xs : List V) (n : Nat) (h : n ≤ xs.length) : cutV xs none (some (n : Int)) = xs.take n := by
  unfold cutV
  simp only [HT.sIx]
  have e : ¬ ((n : Int) < 0) := by omega
  simp [e]
end KW

namespace KW
open PySem PySem.Spec L2 PyProof.Rows
open K23 (Kd Pg encK encP leaves deepK lk rowE db Us Dn BN Nx Sm en xn partsP)
section
variable {P : Program} {w : World} {K : PySem.W.Frag} {mg : Str → Option Value} {base : Heap}
theorem ok_law_row {f fk ft : Addr} {fd fdk fdt : FuncData} (D : Def K mg "_law_row" sLawRow ["_law_pool_here"] f fd) (Dk : Def K mg "_law_kind" sLawKind ["_law_pool_here", "_law_leaves", "_law_marks"] fk fdk) (Gk : FnOk P w K mg base CX0 5 fk fdk ["_law_pool_here", "_law_leaves", "_law_marks"] (spLawKind K 4))
    (Dt : Def K mg "_law_take" sTake ["_law_pool_here", "_law_many_here"] ft fdt) (Gt : FnOk P w K mg base CX0 1 ft fdt ["_law_pool_here", "_law_many_here"] spTake) : FnOk P w K mg base CX0 6 f fd ["_law_pool_here"] (spLawRow K) := by
  have hN := scLawRow.nd
  refine fun_ok D.F scLawRow (fun vs H Q E h => ?_) (fun cdv A outer s H vs Q E hr h => ?_)
  · obtain ⟨a, rfl, _⟩ := h; rfl
  obtain ⟨a, rfl, hA, k⟩ := h
  have hrt : Room 1 _ := hr.mono (by omega)
  refine s_seq (fun σ' H1 => ∃ rl t2 t4, σ' = [some (.ref a), some (.ref rl), none] ∧ Same H H1 ∧ H rl = none ∧ H1 rl = some (.lst [.ref t2, .ref t4]) ∧ Paired (NAt K H1) [.ref t2, .ref t4] [(("p" : Str), Kd.mark "a"), (("q" : Str), Kd.mark "ab")]) (s_set 1 hN <| e_lst <| a_cons <| e_tup <| a_str <| a_cons <| e_tup <| a_str <| a_str <| a_nil ⟨size_le (by show 2 ≤ 100000; decide), fun t1 ht1 => a_nil ⟨size_le (by show 2 ≤ 100000; decide), fun t2 ht2 => ?_⟩⟩) ?_
  · refine a_cons <| e_tup <| a_str <| a_cons <| e_tup <| a_str <| a_str <| a_nil ⟨size_le (by show 2 ≤ 100000; decide), fun t3 ht3 => a_nil ⟨size_le (by show 2 ≤ 100000; decide), fun t4 ht4 => a_nil ⟨size_le (by show 2 ≤ 100000; decide), fun rl hrl => ?_⟩⟩⟩
    have s1 := same_new ht1 (.tup [.str "mark", .str "a"])
    have s2 := same_new ht2 (.tup [.str "p", .ref t1])
    have s3 := same_new ht3 (.tup [.str "mark", .str "ab"])
    have s4 := same_new ht4 (.tup [.str "q", .ref t3])
    have s5 := same_new hrl (.lst [.ref t2, .ref t4])
    refine ⟨rl, t2, t4, rfl, ((s1.trans s2).trans (s3.trans s4)).trans s5, ((s1.trans s2).trans (s3.trans s4)).free hrl, upd_same, .cons ?_ (.cons ?_ .nil)⟩
    · exact .mk (SqT.of (((s3.trans s4).trans s5) _ _ upd_same)) (.mark (SqT.of ((((s2.trans s3).trans s4).trans s5) _ _ upd_same)))
    · exact .mk (SqT.of (s5 _ _ upd_same)) (.mark (SqT.of ((s4.trans s5) _ _ upd_same)))
  rintro σ' H1 ⟨rl, t2, t4, rfl, s05, hr0, hR0, hP0⟩
  have hA1 := hA.same s05
  refine s_seq (fun σ' H' => ∃ xs row y, σ' = [some (.ref a), some (.ref rl), y] ∧ Exc a H H' ∧ PoolAt H' a ∧ H' rl = some (.lst xs) ∧ Paired (NAt K H') xs row ∧ RowOk row) (s_for PassesOwn.never rfl (pi_list pe_w) (pg_name (i := 2) hN rfl (Or.inl rfl)) ?_) ?_
  · refine e_slice sl_list <| e_lst <| a_str <| a_str <| a_nil ⟨size_le (by show 2 ≤ 100000; decide), fun l hl => o_none <| o_some <| e_call Gt hrt rfl Dt.m Dt.F.kp Dt.b .nil pass0 <| a_cons <| e_var 0 rfl <| a_cons <| e_int <| a_nil ⟨a, 3, rfl, hA1.same (same_new hl _), by decide, by decide, fun j H2 hj x2 hA2 => ?_⟩⟩
    have hla : l ≠ a := (hA1.same (same_new hl (.lst [.str "f", .str "g"]))).ne upd_same not_ints
    have x12 := (exc_of (same_new hl (.lst [.str "f", .str "g"]))).trans x2
    refine ⟨j, rfl, l, _, rfl, SqL.of (x2 _ _ upd_same hla), fun c hc => ⟨c, rfl, ⟨_, SqL.of upd_same⟩, ?_⟩⟩
    rw [cut_take _ _ (by show j ≤ 2; omega)]
    have s3' := same_new hc (.lst (([V.str "f", V.str "g"]).take j))
    have x13 := x12.trans (exc_of s3')
    have hA3 := hA2.same s3'
    have hca : c ≠ a := fun e => by
      obtain ⟨_, _, hA'⟩ := hA2
      rw [e, hA'] at hc
      cases hc
    have kp13 := hA1.keepT x13
    have hra : rl ≠ a := hA1.ne hR0 not_refs
    have hcl : c ≠ rl := fun e => by
      rw [e, x12 _ _ hR0 hra] at hc
      cases hc
    have hC : upd H2 c (.lst (([V.str "f", V.str "g"]).take j)) c = some (.lst (([V.str "f", V.str "g"]).take j)) := upd_same
    have hR3 := x13 _ _ hR0 hra
    have hP3 := paired_mono hP0 fun _ _ t => t.mono kp13
    have x03 : Exc a H (upd H2 c (.lst (([V.str "f", V.str "g"]).take j))) := (exc_of s05).trans x13
    generalize upd H2 c (.lst (([V.str "f", V.str "g"]).take j)) = H3 at x03 hA3 hC hR3 hP3 ⊢
    have hlen : (([V.str "f", V.str "g"]).take j).length = j := by rw [List.length_take]; show min j 2 = j; omega
    refine for_it (walk_list (K := K) (a := c) (xs := ([V.str "f", V.str "g"]).take j)) (fun i σ' H' => ∃ xs ks y, σ' = [some (.ref a), some (.ref rl), y] ∧ Exc a H H' ∧ PoolAt H' a ∧ H' c = some (.lst (([V.str "f", V.str "g"]).take j)) ∧ H' rl = some (.lst xs) ∧ Paired (NAt K H') xs ([(("p" : Str), Kd.mark "a"), (("q" : Str), Kd.mark "ab")] ++ ([("f" : Str), ("g" : Str)].take ks.length).zip ks) ∧ ks.length = i ∧ ∀ k ∈ ks, leaves k ≤ 4 ∧ MkK k)
      ⟨_, [], none, rfl, x03, hA3, hC, hR3, by simpa using hP3, rfl, fun k hk => by simp at hk⟩ (fun i σ' H' _ ⟨_, _, _, _, _, _, q, _⟩ => SqL.of q) ?_ ?_
    · rintro i v σ' _ H4 hi ⟨xs, ks, y, rfl, x4, hA4, hC4, hR4, hP4, hki, hks⟩ ⟨rfl, hv⟩
      rw [hlen] at hi
      obtain ⟨nm, e1, e2⟩ : ∃ nm : Str, ([("f" : Str), ("g" : Str)])[i]? = some nm ∧ v = .str nm := by
        rw [List.getElem?_take] at hv
        have h2 : i = 0 ∨ i = 1 := by omega
        rcases h2 with rfl | rfl
        · rw [if_pos (by omega)] at hv
          exact ⟨"f", rfl, (Option.some.inj hv).symm⟩
        · rw [if_pos (by omega)] at hv
          exact ⟨"g", rfl, (Option.some.inj hv).symm⟩
      subst e2
      have hxl := hP4.length
      have hx5 : xs.length ≤ 5 := by
        rw [hxl, List.length_append, List.length_zip, List.length_take]
        show 2 + min (min ks.length 2) ks.length ≤ 5
        omega
      show wS _ _ _ _ _
      refine s_one <| s_expr <| e_bm PySem.F.plainAttrs_list PySem.F.slot_list_append PySem.F.type_list_append mt_append <| e_var 1 rfl ⟨.inl ⟨rfl, _, SqL.of hR4⟩, a_cons <| e_tup <| a_cons <| e_var 2 rfl <| a_cons ?_⟩
      refine e_call Gk hr rfl Dk.m Dk.F.kp Dk.b .nil pass0 <| a_cons <| e_var 0 rfl <| a_cons <| e_op op_add <| e_int <| e_call Gt hrt rfl Dt.m Dt.F.kp Dt.b .nil pass0 <| a_cons <| e_var 0 rfl <| a_cons <| e_int <| a_nil ⟨a, 4, rfl, hA4, by decide, by decide, fun j5 H5 hj5 x5 hA5 => ⟨_, _, rfl, rfl, a_cons <| e_lst <| a_str <| a_str <| a_nil ⟨size_le (by show 2 ≤ 100000; decide), fun mk hmk => a_nil ?_⟩⟩⟩
      have s6 := same_new hmk (.lst [.str "a", .str "ab"])
      refine ⟨a, mk, j5 + 1, by show [V.ref a, V.int ((1 : Int) + (j5 : Int)), V.ref mk] = _; rw [show (1 : Int) + (j5 : Int) = ((j5 + 1 : Nat) : Int) by omega], hA5.same s6, upd_same, by omega, by omega, by omega, fun kv kd H7 x7 hA7 hkv lkd mkd => a_nil ⟨size_le (by show 2 ≤ 100000; decide), fun t8 ht8 => a_nil ?_⟩⟩
      have s8 := same_new ht8 (.tup [.str nm, kv])
      have x48 := x5.trans ((exc_of s6).trans (x7.trans (exc_of s8)))
      have kp48 := hA4.keepT x48
      have hR8 := x48 _ _ hR4 hra
      refine ⟨rl, xs, _, rfl, rfl, hR8, size_lt (by omega), ?_⟩
      have x9 : Exc rl _ (upd (upd H7 t8 (.tup [.str nm, kv])) rl (.lst (xs ++ [.ref t8]))) := exc_upd
      have kp9 := x9.keepT (not_tup_lst hR8)
      refine ⟨_, ks ++ [kd], _, rfl, Exc.mut (x4.trans x48) hr0, ?_, by rw [upd_ne hcl]; exact x48 _ _ hC4 hca, upd_same, ?_, by rw [List.length_append, hki]; rfl, fun k hk => ?_⟩
      · obtain ⟨c1, d1, hq⟩ := hA7.same s8
        exact ⟨c1, d1, by rw [upd_ne hra.symm]; exact hq⟩
      · have ez : ([("f" : Str), ("g" : Str)].take (ks ++ [kd]).length).zip (ks ++ [kd]) = ([("f" : Str), ("g" : Str)].take ks.length).zip ks ++ [(nm, kd)] := by
          have h2 : i = 0 ∨ i = 1 := by omega
          rcases h2 with rfl | rfl
          · obtain rfl : ks = [] := List.length_eq_zero_iff.mp hki
            injection e1 with e1
            subst e1
            rfl
          · match ks, hki with
            | [k0], _ =>
              injection e1 with e1
              subst e1
              rfl
        rw [ez, ← List.append_assoc]
        exact paired_append (paired_mono hP4 fun _ _ t => (t.mono kp48).mono kp9) (.cons (.mk (SqT.of (by rw [upd_ne (fun e => by rw [e, x5.trans ((exc_of s6).trans x7) _ _ hR4 hra] at ht8; cases ht8)]; exact upd_same)) ((hkv.mono (keepT_of s8)).mono kp9)) .nil)
      · rcases List.mem_append.mp hk with hk | hk
        · exact hks k hk
        · obtain rfl : k = kd := by simpa using hk
          exact ⟨by omega, mkd⟩
    · rintro σ' H4 ⟨xs, ks, y, rfl, x4, hA4, hC4, hR4, hP4, hki, hks⟩
      rw [hlen] at hki
      exact ⟨xs, _, y, rfl, x4, hA4, hR4, hP4, ks, rfl, by omega, hks⟩
  rintro σ' H' ⟨xs, row, y, rfl, x, hA', hR', hP', ok⟩
  exact s_one <| s_ret <| e_var 1 rfl (k rl xs row H' x hA' hr0 hR' hP' ok)
end
end KW

namespace KW
open PySem PySem.Spec L2 PyProof.Rows
open K23 (Kd Pg encK encP leaves deepK lk rowE db Us Dn BN Nx Sm partsP)
def wordsL : List Str := ["name", "take", "give", "pair", "first", "second", "thing"]
def spWords (K : PySem.W.Frag) : Sp := fun vs H Q _ => vs = [] ∧ ∀ b H', Same H H' → H' b = some (.lst (wordsL.map V.str)) → Q (.ref b) H'
theorem scWords : FnScope [] [] (defScope sLawWords) := ⟨rfl, rfl, rfl, by decide +kernel, rfl, by decide +kernel, by decide +kernel⟩
def spMany (K : PySem.W.Frag) : Sp := fun vs H Q _ => ∃ (v : V) (p : Pg), vs = [v] ∧ PAt K H v p ∧ partsP p ≤ 9000 ∧ ∀ (n : Int) H', Same H H' → Q (.int n) H'
theorem scMany : FnScope ["_law_program_here", "_law_row_here", "_law_many_here", "_law_one", "_law_part"] ["_law_program_here"] (defScope sLawMany) := ⟨rfl, rfl, rfl, by decide +kernel, rfl, by decide +kernel, by decide +kernel⟩
theorem paired_snoc {α β : Type} {R : α → β → Prop} : ∀ {xs : List α} {ys : List β}, Paired R xs ys → xs ≠ [] → ∃ xs' x ys' y, xs = xs' ++ [x] ∧ ys = ys' ++ [y] ∧ Paired R xs' ys' ∧ R x y
  | _, _, .nil, h => absurd rfl h
  | [x], [y], .cons r .nil, _ => ⟨[], x, [], y, rfl, rfl, .nil, r⟩
  | x :: x2 :: xs, y :: y2 :: ys, .cons r t, _ => by
    obtain ⟨xs', z, ys', w, e1, e2, h1, h2⟩ := paired_snoc t (by simp)
    exact ⟨x :: xs', z, y :: ys', w, by rw [e1]; rfl, by rw [e2]; rfl, .cons r h1, h2⟩
theorem tyx_sqt {K : PySem.W.Frag} {H : Hp} {a : Addr} {xs : List V} (h : SqT K H a xs) : TyX K H (.ref a) (.type "tuple") := by
  rcases h with (h | ⟨o, h⟩) | ⟨o, its, n, h1, h2, _⟩
  · exact .base (.tup h)
  · exact .fTuple h
  · exact .kTuple h1 h2
/-- an item of a program's tuple -/
inductive ItAt (K : PySem.W.Frag) (H : Hp) : V → Option Pg → Prop
  | str {s : Str} : ItAt K H (.str s) none
  | kind {v : V} {k : Kd} : KAt K H v k → ItAt K H v none
  | part {v : V} {p : Pg} : PAt K H v p → ItAt K H v (some p)
theorem ItAt.mono {K : PySem.W.Frag} {H H' : Hp} {v : V} {o : Option Pg} (h : KeepT H H') (q : ItAt K H v o) : ItAt K H' v o := by
  cases q with
  | str => exact .str
  | kind k => exact .kind (k.mono h)
  | part k => exact .part (k.mono h)
theorem PAt.items {K : PySem.W.Frag} {H : Hp} {v : V} {p : Pg} (h : PAt K H v p) : ∃ a xs fl, v = .ref a ∧ SqT K H a xs ∧ xs.length ≤ 4 ∧ Paired (ItAt K H) xs fl ∧ fl.filterMap id = K23.inner p := by
  cases h with
  | name hT => exact ⟨_, _, [none, none], rfl, hT, by simp, .cons .str (.cons .str .nil), rfl⟩
  | take hT k h => exact ⟨_, _, [none, none, none, some _], rfl, hT, by simp, .cons .str (.cons .str (.cons (.kind k) (.cons (.part h) .nil))), rfl⟩
  | give hT h g => exact ⟨_, _, [none, some _, some _], rfl, hT, by simp, .cons .str (.cons (.part h) (.cons (.part g) .nil)), rfl⟩
  | pair hT h g => exact ⟨_, _, [none, some _, some _], rfl, hT, by simp, .cons .str (.cons (.part h) (.cons (.part g) .nil)), rfl⟩
  | first hT h => exact ⟨_, _, [none, some _], rfl, hT, by simp, .cons .str (.cons (.part h) .nil), rfl⟩
  | second hT h => exact ⟨_, _, [none, some _], rfl, hT, by simp, .cons .str (.cons (.part h) .nil), rfl⟩
  | thing hT => exact ⟨_, _, [none], rfl, hT, by simp, .cons .str .nil, rfl⟩
theorem e_bty {X : Cx} {σ : L2.St} {H : Hp} {Q : VK} {x : Str} {T : String} {pos : Pos} (hg : Gl X x) (hm : X.mg x = none) (hv : bootBuiltins x = some (.type T)) (q : Q (.ty T) H) (hn : x ≠ "__name__" := by decide) (hd : (x == ("__debug__" : Str)) = false := by decide) : wE X (.Name x pos) σ H Q :=
  e_mk (pe_bltn hg hm hv (show RelV (.ty T) (.type T) from rfl) hn hd) q
theorem inw_p (p : Pg) : inV (.str (K23.wd p)) (wordsL.map V.str) = true := by
  cases p <;> simp only [K23.wd] <;> decide +kernel
theorem inw_k (k : Kd) : inV (.str (K23.wk k)) (wordsL.map V.str) = false := by
  cases k <;> simp only [K23.wk] <;> decide +kernel
theorem parts_sumL (l : List Pg) : l.length ≤ (l.map partsP).sum := by
  induction l with
  | nil => simp
  | cons p l ih => have := parts_posP p; simp only [List.length_cons, List.map_cons, List.sum_cons]; omega
section
variable {P : Program} {w : World} {K : PySem.W.Frag} {mg : Str → Option Value} {base : Heap}
theorem ok_words {f : Addr} {fd : FuncData} (D : Def K mg "_law_words" sLawWords [] f fd) : FnOk P w K mg base CX0 1 f fd [] (spWords K) := by
  refine fun_ok D.F scWords (fun vs H Q E h => ?_) (fun cdv A outer s H vs Q E hr h => ?_)
  · obtain ⟨rfl, _⟩ := h; rfl
  obtain ⟨rfl, k⟩ := h
  exact s_one <| s_ret <| e_lst <| a_str <| a_str <| a_str <| a_str <| a_str <| a_str <| a_str <| a_nil ⟨size_le (by show 7 ≤ 100000; decide), fun b hb => k b _ (same_new hb _) upd_same⟩
theorem ok_many {f fw : Addr} {fd fdw : FuncData} (D : Def K mg "_law_many" sLawMany ["_law_program_here"] f fd) (Dw : Def K mg "_law_words" sLawWords [] fw fdw) (Gw : FnOk P w K mg base CX0 1 fw fdw [] (spWords K)) (mis : mg "isinstance" = none) (mt : mg "tuple" = none) : FnOk P w K mg base CX0 2 f fd ["_law_program_here"] (spMany K) := by
  have hN := scMany.nd
  refine fun_ok D.F scMany (fun vs H Q E h => ?_) (fun cdv A outer s H vs Q E hr h => ?_)
  · obtain ⟨v, p, rfl, _⟩ := h; rfl
  obtain ⟨v, p, rfl, hp, hz, k⟩ := h
  refine s_cons <| s_set 1 hN <| e_lst <| a_cons <| e_var 0 rfl <| a_nil ⟨size_le (by show 1 ≤ 100000; decide), fun rl hrl => ?_⟩
  have s1 := same_new hrl (.lst [v])
  refine s_cons <| s_set 2 hN <| e_int ?_
  refine s_seq (fun σ' H' => ∃ n : Int, σ'[2]? = some (some (.int n)) ∧ Same H H') ?_ fun σ' H' ⟨n, e, s'⟩ => s_one <| s_ret <| e_var 2 e (k n H' s')
  refine s_while PassesOwn.never ⟨fun m σ H' => ∃ xs ps n y, m = (ps.map partsP).sum ∧ σ = [some v, some (.ref rl), some (.int n), y, none] ∧ Same H H' ∧ H' rl = some (.lst xs) ∧ Paired (PAt K H') xs ps ∧ m ≤ 9000, ⟨_, [v], [p], 0, none, rfl, rfl, s1, upd_same, .cons (hp.mono (keepT_of s1)) .nil, by simpa using hz⟩, ?_⟩
  rintro m σ H2 ⟨xs, ps, n, y, rfl, rfl, s2, hR, hx, hm⟩
  have hxl := hx.length
  have hsl := parts_sumL ps
  refine t_nilN (room200 hr) <| e_var 1 rfl ⟨rl, xs, _, rfl, SqL.of hR, dp_pgs hx, plain_pgs _, fun H3 s3 => ?_⟩
  by_cases e : xs = []
  · subst e
    cases hx with
    | nil => exact ifn_eq rfl ⟨n, rfl, s2.trans s3⟩
  · have e' : ¬ ps.map encP = [] := fun h => e (List.length_eq_zero_iff.mp (by rw [hxl]; exact List.length_eq_zero_iff.mpr (by simpa using h)))
    refine ifn_ne e' ?_
    obtain ⟨xs', x, ps', q, rfl, rfl, hx', hq⟩ := paired_snoc hx e
    have hR3 := s3 _ _ hR
    simp only [List.map_append, List.sum_append, List.map_cons, List.map_nil, List.sum_cons, List.sum_nil, Nat.add_zero] at hm hsl ⊢
    refine ⟨fun σ' H' => ∃ xs ps n y, (ps.map partsP).sum < (ps'.map partsP).sum + partsP q ∧ σ' = [some v, some (.ref rl), some (.int n), y, none] ∧ Same H H' ∧ H' rl = some (.lst xs) ∧ Paired (PAt K H') xs ps, fun σ' H' ⟨xs, ps, n, y, h1, h2, h3, h4, h5⟩ => ⟨_, h1, xs, ps, n, y, rfl, h2, h3, h4, h5, by omega⟩, ?_⟩
    refine s_cons <| s_set 3 hN <| e_bm0 PySem.F.plainAttrs_list PySem.F.slot_list_pop PySem.F.type_list_pop mt_pop <| e_var 1 rfl ⟨.inl ⟨rfl, _, SqL.of hR3⟩, rl, _, x, rfl, rfl, hR3, by simp, ?_⟩
    rw [List.dropLast_concat]
    have x4 : Exc rl H3 (upd H3 rl (.lst xs')) := exc_upd
    have kp4 := x4.keepT (not_tup_lst hR3)
    have s4 : Same H (upd H3 rl (.lst xs')) := Same.mut (s2.trans s3) hrl
    have hR4 : upd H3 rl (.lst xs') rl = some (.lst xs') := upd_same
    have hx4 : Paired (PAt K (upd H3 rl (.lst xs'))) xs' ps' := paired_mono hx' fun _ _ t => (t.mono (keepT_of s3)).mono kp4
    have hq4 := (hq.mono (keepT_of s3)).mono kp4
    generalize upd H3 rl (.lst xs') = H4 at s4 hR4 hx4 hq4 ⊢
    obtain ⟨a, zs, fl, rfl, hT, hzl, hfl, hin⟩ := hq4.items
    refine s_cons <| s_set 2 hN <| e_op op_add <| e_var 2 rfl <| e_int ⟨_, _, rfl, rfl, ?_⟩
    refine s_one <| s_expr <| e_bm PySem.F.plainAttrs_list PySem.F.slot_list_extend PySem.F.type_list_extend mt_extend <| e_var 1 rfl ⟨.inl ⟨rfl, _, SqL.of hR4⟩, a_cons ?_⟩
    refine e_lc (own := [("_law_part", 4)]) (g := gName 4) (tt := wBT _ _ _) rfl hN (pi_tup pe_w) (blkOk_by (N := ["_law_program_here", "_law_row_here", "_law_many_here", "_law_one", "_law_part"]) (sc := defScope sLawMany) (by decide +kernel)) (fun _ _ _ _ _ => pg_name (i := 4) hN rfl (Or.inl rfl)) (fun s H C cl fp => pts_one ⟨fun pins s' σ H' Q I q => q s H C cl fp pins s' I⟩) ?_
    refine e_var 3 rfl ⟨a, rfl, ⟨zs, hT⟩, fun D hD => ?_⟩
    refine lc_it (walk_tup (K := K) (a := a) (xs := zs)) (fun i H5 => Same H4 H5 ∧ ∃ acc, H5 D = some (.lst acc) ∧ acc.length ≤ i ∧ Paired (PAt K H5) acc ((fl.take i).filterMap id)) ⟨same_new hD _, [], upd_same, by simp, by simpa using .nil⟩ (fun i H5 _ ⟨s5, _⟩ => sqT_keep (keepT_of s5) hT) ?_ ?_
    · rintro i z _ H5 hi ⟨s5, acc, hacc, hal, hpa⟩ ⟨rfl, hzi⟩
      obtain ⟨o, ho, hit⟩ := paired_get hfl hzi
      have hit5 := hit.mono (keepT_of s5)
      obtain ⟨ho1, ho2⟩ := List.getElem?_eq_some_iff.mp ho
      have etk : (fl.take (i + 1)).filterMap id = (fl.take i).filterMap id ++ [o].filterMap id := by rw [List.take_succ_eq_append_getElem ho1, ho2, List.filterMap_append]
      refine ⟨rfl, fun s0 H0 C cl fp => ?_⟩
      rw [etk]
      cases hit5 with
      | @str sx =>
        exact t_and2 <| t_val <| e_callB call_isi rfl mis (by decide +kernel) <| a_cons <| e_var 4 rfl <| a_cons <| e_bty rfl mt (by decide +kernel) <| a_nil ⟨.str sx, .ty "tuple", _, _, false, rfl, .ty _, .base (.str _), kit_ty (by decide +kernel), false, rfl, iteF <| iteF ⟨s5, acc, hacc, by omega, by simpa using hpa⟩⟩
      | @kind _ kk hk =>
        obtain ⟨ka, r, rfl, hK⟩ := hk.head
        refine t_and2 <| t_val <| e_callB call_isi rfl mis (by decide +kernel) <| a_cons <| e_var 4 rfl <| a_cons <| e_bty rfl mt (by decide +kernel) <| a_nil ⟨.ref ka, .ty "tuple", _, _, true, rfl, .ty _, tyx_sqt hK, kit_ty (by decide +kernel), true, rfl, iteT ?_⟩
        refine t_cmp op_in_seq rfl <| e_at 4 0 hK <| e_call0 Gw (hr.mono (by omega)) rfl Dw.m Dw.F.kp Dw.b .nil pass0 ⟨rfl, fun b H6 s6 hb => ⟨b, _, rfl, .inl (SqL.of hb), rfl, flat_txts _, _, rfl, ?_⟩⟩
        rw [inw_k]
        exact iteF ⟨s5.trans s6, acc, s6 _ _ hacc, by omega, by simpa using paired_mono hpa fun _ _ t => t.mono (keepT_of s6)⟩
      | @part _ q' hq' =>
        obtain ⟨ka, r, rfl, hK⟩ := hq'.head
        refine t_and2 <| t_val <| e_callB call_isi rfl mis (by decide +kernel) <| a_cons <| e_var 4 rfl <| a_cons <| e_bty rfl mt (by decide +kernel) <| a_nil ⟨.ref ka, .ty "tuple", _, _, true, rfl, .ty _, tyx_sqt hK, kit_ty (by decide +kernel), true, rfl, iteT ?_⟩
        refine t_cmp op_in_seq rfl <| e_at 4 0 hK <| e_call0 Gw (hr.mono (by omega)) rfl Dw.m Dw.F.kp Dw.b .nil pass0 ⟨rfl, fun b H6 s6 hb => ⟨b, _, rfl, .inl (SqL.of hb), rfl, flat_txts _, _, rfl, ?_⟩⟩
        rw [inw_p]
        have x7 : Exc D H6 (upd H6 D (.lst (acc ++ [.ref ka]))) := exc_upd
        have kp7 := x7.keepT (not_tup_lst (s6 _ _ hacc))
        refine iteT fun s0 H0 C cl fp => e_var 4 rfl ⟨acc, s6 _ _ hacc, size_lt (by omega), fun b' o' q' => ?_, _, upd_same, by rw [List.length_append]; simpa using hal, ?_⟩
        · rw [upd_ne (ne_of_none q' hD)]
          exact s6 _ _ (s5 _ _ q')
        · exact paired_append (paired_mono hpa fun _ _ t => (t.mono (keepT_of s6)).mono kp7) (.cons ((hq'.mono (keepT_of s6)).mono kp7) .nil)
    · rintro H5 ⟨s5, acc, hacc, hal, hpa⟩
      have hfl2 := hfl.length
      rw [hfl2, List.take_length, hin] at hpa
      have hDr : D ≠ rl := fun e => by rw [e, hR4] at hD; cases hD
      have hR5 := s5 _ _ hR4
      refine a_nil ⟨rl, D, _, _, rfl, rfl, hR5, hacc, size_le (by have := parts_sumL ps'; have := hx'.length; omega), ?_⟩
      have x6 : Exc rl H5 (upd H5 rl (.lst (xs' ++ acc))) := exc_upd
      have kp6 := x6.keepT (not_tup_lst hR5)
      refine ⟨_, ps' ++ K23.inner q, _, _, ?_, rfl, Same.mut (s4.trans s5) hrl, upd_same, paired_append (paired_mono hx4 fun _ _ t => (t.mono (keepT_of s5)).mono kp6) (paired_mono hpa fun _ _ t => t.mono kp6)⟩
      have := parts_sumN q
      rw [List.map_append, List.sum_append]
      omega
end
end KW

namespace KW
open PySem PySem.Spec L2 PyProof.Rows
open K23 (Kd Pg encK encP leaves deepK lk rowE db Us Dn BN Nx Sm partsP deepP Wh nm)
abbrev sAll : Stmt := top 59
abbrev sForms : Stmt := top 60
def spDrawn (K : PySem.W.Frag) : Sp := fun vs H Q _ => ∃ (a rl : Addr) (m : Int) (xs : List V) (row : List (Str × Kd)), vs = [.ref a, .ref rl, .int m] ∧ PoolAt H a ∧ H rl = some (.lst xs) ∧ Paired (NAt K H) xs row ∧ RowOk row ∧
  ∀ t gv pv g p q r H', Exc a H H' → PoolAt H' a → SqT K H' t [gv, pv] → KAt K H' gv g → PAt K H' pv p → Wh (rowE row) g (db [] p) q r → Q (.ref t) H'
theorem scDrawn : FnScope ["_law_pool_here", "_law_row_here", "_law_most", "_law_goal", "_law_program_here"] ["_law_pool_here", "_law_row_here", "_law_most"] (defScope sDrawn) := ⟨rfl, rfl, rfl, by decide +kernel, rfl, by decide +kernel, by decide +kernel⟩
theorem dn2 {E : Str → Option Kd} {G : List Kd} {g : Kd} {t : K23.Tm} : ∀ {r : Nat}, r ≤ 2 → Dn E r G g t → Dn E 2 G g t
  | 0, _, h => h.up.up
  | 1, _, h => h.up
  | 2, _, h => h
  | _ + 3, h, _ => absurd h (by omega)
theorem wh_parts {E : Str → Option Kd} {g : Kd} {p : Pg} {q r : K23.Tm} (h : Wh E g (db [] p) q r) : partsP p ≤ 1500 := by
  rw [← K23.partsP_db p []]
  exact h.w.fin.parts 0 _ (.nil _)
section
variable {P : Program} {w : World} {K : PySem.W.Frag} {mg : Str → Option Value} {base : Heap}
theorem prog_any {f : Addr} {fd : FuncData} (Gp : ∀ r d, FnOk P w K mg base CX0 (8 * r + 6 + 2 * d) f fd ["_law_pool_here", "_law_known", "_law_goal", "_law_room"] (spProg K r d)) : FnOk P w K mg base CX0 30 f fd ["_law_pool_here", "_law_known", "_law_goal", "_law_room"] (fun vs H Q E => ∃ r, r ≤ 2 ∧ spProg K r 4 vs H Q E) :=
  ⟨fun vs H Q E ⟨r, _, h⟩ => (Gp r 4).len vs H Q E h, fun A outer s H args us vs Q E hr he hb hv ⟨r, h2, h⟩ => (Gp r 4).run A outer s H args us vs Q E (hr.mono (by omega)) he hb hv h⟩
theorem ok_drawn {f fk ft fp fm : Addr} {fd fdk fdt fdp fdm : FuncData} (D : Def K mg "_law_drawn" sDrawn ["_law_pool_here", "_law_row_here", "_law_most"] f fd) (Dk : Def K mg "_law_kind" sLawKind ["_law_pool_here", "_law_leaves", "_law_marks"] fk fdk) (Gk : FnOk P w K mg base CX0 5 fk fdk ["_law_pool_here", "_law_leaves", "_law_marks"] (spLawKind K 4))
    (Dt : Def K mg "_law_take" sTake ["_law_pool_here", "_law_many_here"] ft fdt) (Gt : FnOk P w K mg base CX0 1 ft fdt ["_law_pool_here", "_law_many_here"] spTake) (Dp : Def K mg "_law_program" sLawProg ["_law_pool_here", "_law_known", "_law_goal", "_law_room"] fp fdp) (Gp : ∀ r d, FnOk P w K mg base CX0 (8 * r + 6 + 2 * d) fp fdp ["_law_pool_here", "_law_known", "_law_goal", "_law_room"] (spProg K r d))
    (Dm : Def K mg "_law_many" sLawMany ["_law_program_here"] fm fdm) (Gm : FnOk P w K mg base CX0 2 fm fdm ["_law_program_here"] (spMany K)) (mli : mg "list" = none) : FnOk P w K mg base CX0 31 f fd ["_law_pool_here", "_law_row_here", "_law_most"] (spDrawn K) := by
  have hN := scDrawn.nd
  refine fun_ok D.F scDrawn (fun vs H Q E h => ?_) (fun cdv A outer s H vs Q E hr h => ?_)
  · obtain ⟨a, rl, m, xs, row, rfl, _⟩ := h; rfl
  obtain ⟨a, rl, m, xs, row, rfl, hA, hR, hx, ok, k⟩ := h
  have hrt : Room 1 _ := hr.mono (by omega)
  have C := ok.ctx
  have hne : row ≠ [] := by have := C.ne; simpa using this
  have hra := hA.ne hR (known_ne hx hne)
  have hlen := ok.len
  refine s_cons <| s_set 3 hN <| e_call Gk (hr.mono (by omega)) rfl Dk.m Dk.F.kp Dk.b .nil pass0 <| a_cons <| e_var 0 rfl <| a_cons <| e_op op_add <| e_int <| e_call Gt hrt rfl Dt.m Dt.F.kp Dt.b .nil pass0 <| a_cons <| e_var 0 rfl <| a_cons <| e_int <| a_nil ⟨a, 4, rfl, hA, by decide, by decide, fun j5 H1 hj5 x1 hA1 => ⟨_, _, rfl, rfl, a_cons <| e_lst <| a_str <| a_str <| a_nil ⟨size_le (by show 2 ≤ 100000; decide), fun mk hmk => a_nil ?_⟩⟩⟩
  have s2 := same_new hmk (.lst [.str "a", .str "ab"])
  refine ⟨a, mk, j5 + 1, by show [V.ref a, V.int ((1 : Int) + (j5 : Int)), V.ref mk] = _; rw [show (1 : Int) + (j5 : Int) = ((j5 + 1 : Nat) : Int) by omega], hA1.same s2, upd_same, by omega, by omega, by omega, fun gv g H3 x3 hA3 hg lg mg' => ?_⟩
  have x03 := x1.trans ((exc_of s2).trans x3)
  have kp3 := hA.keepT x03
  have hR3 := x03 _ _ hR hra
  have hx3 : Paired (NAt K H3) xs row := paired_mono hx fun _ _ t => t.mono kp3
  have Ga := prog_any Gp
  refine s_cons <| s_set 4 hN <| e_call Ga hr rfl Dp.m Dp.F.kp Dp.b .nil pass0 <| a_cons <| e_var 0 rfl <| a_cons <| e_callTy call_list_of rfl mli (by decide +kernel) <| a_cons <| e_var 1 rfl <| a_nil ⟨rl, xs, rfl, .inl (SqL.of hR3), fun kn hkn => ?_⟩
  have s4 := same_new hkn (.lst xs)
  have hka : kn ≠ a := (hA3.same s4).ne upd_same (known_ne hx3 hne)
  refine a_cons <| e_var 3 rfl <| a_cons <| e_op op_add <| e_int <| e_call Gt hrt rfl Dt.m Dt.F.kp Dt.b .nil pass0 <| a_cons <| e_var 0 rfl <| a_cons <| e_int <| a_nil ⟨a, 2, rfl, hA3.same s4, by decide, by decide, fun j H5 hj x5 hA5 => ⟨_, _, rfl, rfl, a_nil ?_⟩⟩
  have x35 := (exc_of s4).trans x5
  have kp5 := hA3.keepT x35
  refine ⟨j + 1, by omega, a, kn, xs, row, [], gv, g, by show [V.ref a, V.ref kn, gv, V.int ((1 : Int) + (j : Int))] = _; rw [show (1 : Int) + (j : Int) = ((j + 1 : Nat) : Int) by omega], hA5, x5 _ _ upd_same hka, by simpa using paired_mono hx3 fun _ _ t => t.mono kp5, hg.mono kp5, by omega, mg', deep3 (by omega), C, by simp only [List.reverse_nil, List.append_nil]; omega, fun pv p H6 x6 hA6 hp hdn => ?_⟩
  have hdn2 : Dn (rowE row) 2 [] g (db [] p) := dn2 (by omega) hdn
  have fin : ∀ (pv : V) (p : Pg) (H6 : Hp), Exc a H H6 → PoolAt H6 a → KAt K H6 gv g → PAt K H6 pv p → Dn (rowE row) 2 [] g (db [] p) → wS (cxOf CX0 P w K mg base ["_law_pool_here", "_law_row_here", "_law_most", "_law_goal", "_law_program_here"] "_law_drawn" (defScope sDrawn) f cdv A outer s H E).nox ((defBody sDrawn).drop 3) { nx := fun _ H' => Q .non H', rt := Q } [some (.ref a), some (.ref rl), some (.int m), some gv, some pv] H6 := fun pv p H6 x6 hA6 hg6 hp6 hdn => by
    obtain ⟨q, r, W⟩ := K23.wh ok.sm hdn (by omega)
    refine s_one <| s_ret <| e_tup <| a_cons <| e_var 3 rfl <| a_cons <| e_var 4 rfl <| a_nil ⟨size_le (by show 2 ≤ 100000; decide), fun t ht => ?_⟩
    have s7 := same_new ht (.tup [gv, pv])
    exact k t gv pv g p q r _ (x6.trans (exc_of s7)) (hA6.same s7) (SqT.of upd_same) (hg6.mono (keepT_of s7)) (hp6.mono (keepT_of s7)) W
  have x36 := x35.trans x6
  have x06 := x03.trans x36
  have kp6 := hA3.keepT x36
  obtain ⟨q0, r0, W0⟩ := K23.wh ok.sm hdn2 (by omega)
  have hpp := wh_parts W0
  refine s_cons <| s_if <| t_cmp op_gt (nomark _) <| e_call Gm (hr.mono (by omega)) rfl Dm.m Dm.F.kp Dm.b .nil pass0 <| a_cons <| e_var 4 rfl <| a_nil ⟨pv, p, rfl, hp, by omega, fun n H7 s7 => e_var 2 rfl ⟨_, _, rfl, rfl, _, rfl, ?_⟩⟩
  have x07 := x06.trans (exc_of s7)
  have hA7 := hA6.same s7
  have hg7 := (hg.mono kp6).mono (keepT_of s7)
  by_cases e : m < n
  · refine if_eq e ?_
    have hR7 := x07 _ _ hR hra
    refine s_one <| s_set 4 hN <| e_call Ga hr rfl Dp.m Dp.F.kp Dp.b .nil pass0 <| a_cons <| e_var 0 rfl <| a_cons <| e_callTy call_list_of rfl mli (by decide +kernel) <| a_cons <| e_var 1 rfl <| a_nil ⟨rl, xs, rfl, .inl (SqL.of hR7), fun kn2 hkn2 => a_cons <| e_var 3 rfl <| a_cons <| e_int <| a_nil ?_⟩
    have s8 := same_new hkn2 (.lst xs)
    have kp8 := hA.keepT (x07.trans (exc_of s8))
    refine ⟨0, by omega, a, kn2, xs, row, [], gv, g, rfl, hA7.same s8, upd_same, by simpa using paired_mono hx fun _ _ t => t.mono kp8, hg7.mono (keepT_of s8), by omega, mg', deep3 (by omega), C, by simp only [List.reverse_nil, List.append_nil]; omega, fun pv2 p2 H9 x9 hA9 hp2 hdn' => ?_⟩
    exact fin pv2 p2 H9 (x07.trans ((exc_of s8).trans x9)) hA9 ((hg7.mono (keepT_of s8)).mono ((hA7.same s8).keepT x9)) hp2 (dn2 (by omega) hdn')
  · exact if_ne e <| s_nil <| fin pv p H7 x07 hA7 hg7 (hp.mono (keepT_of s7)) hdn2
end
end KW

namespace KW
open PySem PySem.Spec L2 PyProof.Rows
open K23 (Kd Pg encK encP leaves deepK lk rowE db Nx Sm partsP deepP Wh nm LK Ty Fin Star Nf)
theorem depth_nm : ∀ (t : K23.Tm) (n : Nat), LK t → (encP (nm n t)).depth ≤ K23.dp t + 6
  | .var i, n, _ => by simp [nm, encP, PyData.depth, PyData.depthAll]
  | .free x, n, _ => by simp [nm, encP, PyData.depth, PyData.depthAll]
  | .unit, n, _ => by simp [nm, encP, PyData.depth, PyData.depthAll]
  | .lam A t, n, h => by
    have h1 := depth_nm t (n + 1) h.2
    have h2 := K23.deepK_leaves A
    have h3 := h.1
    simp only [nm, encP, PyData.depth, PyData.depthAll, K23.depth_encK, K23.dp]
    omega
  | .app t u, n, h => by
    have h1 := depth_nm t n h.1
    have h2 := depth_nm u n h.2
    simp only [nm, encP, PyData.depth, PyData.depthAll, K23.dp]
    omega
  | .pair t u, n, h => by
    have h1 := depth_nm t n h.1
    have h2 := depth_nm u n h.2
    simp only [nm, encP, PyData.depth, PyData.depthAll, K23.dp]
    omega
  | .fst t, n, h => by
    have h1 := depth_nm t n h
    simp only [nm, encP, PyData.depth, PyData.depthAll, K23.dp]
    omega
  | .snd t, n, h => by
    have h1 := depth_nm t n h
    simp only [nm, encP, PyData.depth, PyData.depthAll, K23.dp]
    omega
theorem s_try {X : Cx} {body : List Stmt} {h₀ : ExceptHandler} {hs : List ExceptHandler} {pos : Pos} {D : Ends} {σ : L2.St} {H : Hp} (h : wS X.nox body D σ H) : w1 X (.Try body (h₀ :: hs) [] [] pos) D σ H := s1_mk (ps_try_thru0 pss_w) h
/-- two programs that are the same are not unlike -/
theorem t_ne_self {X : Cx} {e1 e2 : Expr} {pos : Pos} {σ : L2.St} {H : Hp} {Q : Bool → Hp → Prop} (hu : X.A.units + 200 < cLine) (h : wE X e1 σ H fun u H1 => wE X e2 σ H1 fun v H2 => ∃ t : K23.Tm, PAt X.K H2 u (nm 0 t) ∧ PAt X.K H2 v (nm 0 t) ∧ LK t ∧ K23.dp t ≤ 80 ∧ Q false H2) : wT X (.Compare e1 [.NotEq] [e2] pos) σ H Q :=
  t_cmp (op_neP (n := 200) hu) (nomark _) <| h.imp fun u H1 q => q.imp fun v H2 ⟨t, h1, h2, l, d, q⟩ => ⟨_, _, h1.dp, h2.dp, K23.plain_encP _, K23.plain_encP _, by have := depth_nm t 0 l; omega, _, rfl, by rw [K23.eqv_encP, decide_eq_true rfl]; exact q⟩
def spAll (K : PySem.W.Frag) : Sp := fun vs H Q _ => ∃ (rl pk : Addr) (row : List (Str × Kd)) (pv : V) (p : Pg) (g : Kd) (q r : K23.Tm) (ns : List Int), vs = [.ref rl, pv, .ref pk] ∧ RowAt K H rl row ∧ PAt K H pv p ∧ Wh (rowE row) g (db [] p) q r ∧ SqL K H pk (ns.map V.int) ∧
  ∀ l u1 u2 u3 H', Same H H' → H' l = some (.lst [u1, u2, u3]) → PAt K H' u1 (nm 0 r) → PAt K H' u2 (nm 0 q) → PAt K H' u3 (nm 0 q) → Q (.ref l) H'
theorem scAll : FnScope ["_law_row_here", "_law_program_here", "_law_picks", "_law_found"] ["_law_row_here", "_law_program_here", "_law_picks"] (defScope sAll) := ⟨rfl, rfl, rfl, by decide +kernel, rfl, by decide +kernel, by decide +kernel⟩
def spForms (K : PySem.W.Frag) : Sp := fun vs H Q _ => ∃ (rl : Addr) (row : List (Str × Kd)) (pv fv : V) (p : Pg) (g : Kd) (q r : K23.Tm), vs = [.ref rl, pv, fv] ∧ RowAt K H rl row ∧ PAt K H pv p ∧ Wh (rowE row) g (db [] p) q r ∧ PAt K H fv (nm 0 r) ∧ ∀ H', Same H H' → Q (.bl true) H'
theorem scForms : FnScope ["_law_row_here", "_law_program_here", "_law_form", "_law_found", "_law_place"] ["_law_row_here", "_law_program_here", "_law_form"] (defScope sForms) := ⟨rfl, rfl, rfl, by decide +kernel, rfl, by decide +kernel, by decide +kernel⟩
section
variable {P : Program} {w : World} {K : PySem.W.Frag} {mg : Str → Option Value} {base : Heap}
theorem ok_all {f fl fr : Addr} {fd fdl fdr : FuncData} (D : Def K mg "_law_all" sAll ["_law_row_here", "_law_program_here", "_law_picks"] f fd) (Dl : Def K mg "long_form" sLongForm ["row", "program"] fl fdl) (Gl : FnOk P w K mg base CX0 165 fl fdl ["row", "program"] (spLongForm K)) (Dr : RunD K mg fr fdr) (Gr : FnOk P w K mg base CX0 95 fr fdr ["program", "picks"] (spRun K)) (mli : mg "list" = none) :
    FnOk P w K mg base CX0 166 f fd ["_law_row_here", "_law_program_here", "_law_picks"] (spAll K) := by
  have hN := scAll.nd
  refine fun_ok D.F scAll (fun vs H Q E h => ?_) (fun cdv A outer s H vs Q E' hr h => ?_)
  · obtain ⟨rl, pk, row, pv, p, g, q, r, ns, rfl, _⟩ := h; rfl
  obtain ⟨rl, pk, row, pv, p, g, q, r, ns, rfl, R, hp, W, hk, k⟩ := h
  have hr95 : Room 95 _ := hr.mono (by omega)
  obtain ⟨ds, hds, hb1⟩ := Dr.b1
  refine s_cons <| s_set 3 hN <| e_non ?_
  refine s_cons <| s_try <| s_one <| s_set 3 hN <| e_lst <| a_cons <| e_call Gl hr rfl Dl.m Dl.F.kp Dl.b .nil pass0 <| a_cons <| e_var 0 rfl <| a_cons <| e_var 1 rfl <| a_nil ⟨rl, row, pv, p, g, q, r, rfl, R, hp, W, fun u1 H1 s1 hu1 => ?_⟩
  refine a_cons <| e_atE 0 <| e_call Gr hr95 rfl Dr.m Dr.F.kp Dr.b2 .nil pass0 <| a_cons <| e_var 1 rfl <| a_cons <| e_callTy call_list_of rfl mli (by decide +kernel) <| a_cons <| e_var 2 rfl <| a_nil ⟨pk, _, rfl, .inl (s1.seq hk), fun c hc => a_nil ?_⟩
  have s2 := s1.trans (same_new hc (.lst (ns.map V.int)))
  refine ⟨pv, p, .ref c, rowE row, g, q, rfl, hp.mono (keepT_of s2), .inr ⟨c, ns, rfl, SqL.of upd_same⟩, R.nx, W.w.ty, W.w.fin, W.w.star, W.w.nf, fun ra lg u2 H3 s3 hra hu2 => ⟨ra, _, rfl, hra, u2, rfl, ?_⟩⟩
  have s13 := (same_new hc (.lst (ns.map V.int))).trans s3
  have s03 := s1.trans s13
  refine a_cons <| e_atE 0 <| e_call Gr hr95 rfl Dr.m Dr.F.kp hb1 hds pass0 <| a_cons <| e_var 1 rfl <| a_nil ⟨pv, p, .non, rowE row, g, q, rfl, hp.mono (keepT_of s03), .inl rfl, R.nx, W.w.ty, W.w.fin, W.w.star, W.w.nf, fun ra2 lg2 u3 H4 s4 hra2 hu3 => ⟨ra2, _, rfl, hra2, u3, rfl, a_nil ⟨size_le (by show 3 ≤ 100000; decide), fun l hl => ?_⟩⟩⟩
  have s5 := same_new hl (.lst [u1, u2, u3])
  exact s_one <| s_ret <| e_var 3 rfl (k l u1 u2 u3 _ (s03.trans (s4.trans s5)) upd_same (hu1.mono (keepT_of (s13.trans (s4.trans s5)))) (hu2.mono (keepT_of (s4.trans s5))) (hu3.mono (keepT_of s5)))
theorem mem_cut {xs : List V} {lo hi : Option Int} {z : V} (h : z ∈ cutV xs lo hi) : z ∈ xs := by
  unfold cutV at h
  exact List.mem_of_mem_drop (List.mem_of_mem_take h)
theorem paired_mem {α β : Type} {R : α → β → Prop} {xs : List α} {ys : List β} {x : α} (h : Paired R xs ys) (hx : x ∈ xs) : ∃ y ∈ ys, R x y := by
  obtain ⟨i, hi⟩ := List.mem_iff_getElem?.mp hx
  obtain ⟨y, h1, h2⟩ := paired_get h hi
  exact ⟨y, List.mem_of_getElem? h1, h2⟩
theorem ok_forms {f fl fs ft : Addr} {fd fdl fds fdt : FuncData} (D : Def K mg "_law_forms" sForms ["_law_row_here", "_law_program_here", "_law_form"] f fd) (Dl : Def K mg "long_form" sLongForm ["row", "program"] fl fdl) (Gl : FnOk P w K mg base CX0 165 fl fdl ["row", "program"] (spLongForm K))
    (Ds : Def K mg "step_places" sStepPlaces ["program"] fs fds) (Gs : FnOk P w K mg base CX0 93 fs fds ["program"] (spPlaces K 90)) (Dt : Def K mg "stepped" sStepped ["program", "place"] ft fdt) (Gt : FnOk P w K mg base CX0 95 ft fdt ["program", "place"] (spStepped K 90)) :
    FnOk P w K mg base CX0 166 f fd ["_law_row_here", "_law_program_here", "_law_form"] (spForms K) := by
  have hN := scForms.nd
  refine fun_ok D.F scForms (fun vs H Q E h => ?_) (fun cdv A outer s H vs Q E' hr h => ?_)
  · obtain ⟨rl, row, pv, fv, p, g, q, r, rfl, _⟩ := h; rfl
  obtain ⟨rl, row, pv, fv, p, g, q, r, rfl, R, hp, W, hf, k⟩ := h
  have dP := Wh.dp W
  have pP := wh_parts W
  refine s_cons <| s_set 3 hN <| e_bl ?_
  refine s_seq (fun σ' H' => ∃ y, σ' = [some (.ref rl), some pv, some fv, some (.bl true), y] ∧ Same H H') (s_try <| s_one <| s_for PassesOwn.never rfl (pi_list pe_w) (pg_name (i := 4) hN rfl (Or.inl rfl)) ?_) ?_
  · refine e_slice sl_list <| e_call Gs (hr.mono (by omega)) rfl Ds.m Ds.F.kp Ds.b .nil pass0 <| a_cons <| e_var 1 rfl <| a_nil ⟨pv, p, rfl, hp, by omega, by omega, by omega, fun H1 gl zs s1 hgl hG hz => o_none <| o_some <| e_int ⟨6, rfl, gl, zs, rfl, SqL.of hG, fun c hc => ⟨c, rfl, ⟨_, SqL.of upd_same⟩, ?_⟩⟩⟩
    have s2 := s1.trans (same_new hc (.lst (cutV zs none (some 6))))
    have hz2 := paired_mono hz fun _ _ t => t.mono (same_new hc (.lst (cutV zs none (some 6))))
    have hC : upd H1 c (.lst (cutV zs none (some 6))) c = some (.lst (cutV zs none (some 6))) := upd_same
    generalize upd H1 c (.lst (cutV zs none (some 6))) = H2 at s2 hz2 hC ⊢
    refine for_it (walk_list (K := K) (a := c) (xs := cutV zs none (some 6))) (fun i σ' H' => ∃ y, σ' = [some (.ref rl), some pv, some fv, some (.bl true), y] ∧ Same H2 H') ⟨none, rfl, Same.refl _⟩ (fun i σ' H' _ ⟨_, _, s'⟩ => s'.seq (SqL.of hC)) ?_ fun σ' H' ⟨y, e, s'⟩ => ⟨y, e, s2.trans s'⟩
    rintro i v σ' _ H3 hi ⟨y, rfl, s3⟩ ⟨rfl, hv⟩
    obtain ⟨l, hl, la, rfl, hla⟩ := paired_mem hz2 (mem_cut (List.mem_of_getElem? hv))
    have s03 := s2.trans s3
    show wS _ _ _ _ _
    refine s_one <| s_if <| t_ne_self (room200 hr) <| e_call Gl hr rfl Dl.m Dl.F.kp Dl.b .nil pass0 <| a_cons <| e_var 0 rfl <| a_cons <| e_call Gt (hr.mono (by omega)) rfl Dt.m Dt.F.kp Dt.b .nil pass0 <| a_cons <| e_var 1 rfl <| a_cons <| e_var 4 rfl <| a_nil
      ⟨pv, p, la, l, rowE row, rfl, hp.mono (keepT_of s03), s3.seq hla, R.nx, W.w.ty.wf, hl, by omega, by omega, fun u st => by have := (W.step st).w.fin.dp 0 u (.nil _); omega, fun t u H4 s4 st ht => a_nil ?_⟩
    have s04 := s03.trans s4
    have hw : Wh (rowE row) g (db [] (nm 0 u)) q r := by rw [K23.db_nm0 R.nx (W.step st).w.ty.wf]; exact W.step st
    refine ⟨rl, row, t, _, g, q, r, rfl, R.same s04, ht, hw, fun u5 H5 s5 hu5 => e_var 2 rfl ⟨r, hu5, hf.mono (keepT_of (s04.trans s5)), W.long.lk, W.w.dp, iteF <| s_nil ⟨_, rfl, s3.trans (s4.trans s5)⟩⟩⟩
  rintro σ' H' ⟨y, rfl, s'⟩
  exact s_one <| s_ret <| e_var 3 rfl (k H' s')
end
end KW

namespace KW
open PySem PySem.Spec L2 PyProof.Rows
open K23 (Kd Pg encK encP leaves deepK lk rowE db Nx Sm partsP deepP Wh nm LK Ty Fin Star Nf)
abbrev sLaw : Stmt := top 61
def spLaw (K : PySem.W.Frag) : Sp := fun vs H Q _ => ∃ (a : Addr) (ns : List Int), vs = [.ref a] ∧ SqL K H a (ns.map V.int) ∧ ns.length ≤ 63 ∧ ∀ H', Q (.bl true) H'
theorem scLaw : FnScope ["_law_script", "_law_k", "_law_pool_here", "_law_row_here", "_law_goal", "_law_program_here", "_law_found", "_law_form", "_law_one", "_law_other", "_law_j"] ["_law_script"] (defScope sLaw) := ⟨rfl, rfl, rfl, by decide +kernel, rfl, by decide +kernel, by decide +kernel⟩
theorem sm_kn (row : List (Str × Kd)) : kn row [] = row := by simp [kn, K23.lvs]
theorem no_places {E : Str → Option Kd} (N : Nx E) {t : K23.Tm} (w : K23.Wf E 0 t) (n : Nf t) : K23.pls (nm 0 t) = [] := by
  rw [← K23.plsT_db _ [], K23.db_nm0 N w]
  exact (K23.nf_pls N w).mp n
section
variable {P : Program} {w : World} {K : PySem.W.Frag} {mg : Str → Option Value} {base : Heap}
theorem ok_law {f f1 f2 f3 f4 f5 f6 f7 f8 f9 fa : Addr} {fd d1 d2 d3 d4 d5 d6 d7 d8 d9 da : FuncData} (D : Def K mg "law" sLaw ["_law_script"] f fd)
    (D1 : Def K mg "_law_pool" sPool ["_law_script", "_law_k"] f1 d1) (G1 : FnOk P w K mg base CX0 1 f1 d1 ["_law_script", "_law_k"] (spPool K))
    (D2 : Def K mg "_law_row" sLawRow ["_law_pool_here"] f2 d2) (G2 : FnOk P w K mg base CX0 6 f2 d2 ["_law_pool_here"] (spLawRow K))
    (D3 : Def K mg "_law_drawn" sDrawn ["_law_pool_here", "_law_row_here", "_law_most"] f3 d3) (G3 : FnOk P w K mg base CX0 31 f3 d3 ["_law_pool_here", "_law_row_here", "_law_most"] (spDrawn K))
    (D4 : Def K mg "_law_all" sAll ["_law_row_here", "_law_program_here", "_law_picks"] f4 d4) (G4 : FnOk P w K mg base CX0 166 f4 d4 ["_law_row_here", "_law_program_here", "_law_picks"] (spAll K))
    (D5 : Def K mg "_law_take" sTake ["_law_pool_here", "_law_many_here"] f5 d5) (G5 : FnOk P w K mg base CX0 1 f5 d5 ["_law_pool_here", "_law_many_here"] spTake)
    (D6 : Def K mg "step_places" sStepPlaces ["program"] f6 d6) (G6 : FnOk P w K mg base CX0 93 f6 d6 ["program"] (spPlaces K 90))
    (D7 : Def K mg "kind_of" sKindOf ["row", "program"] f7 d7) (G7 : FnOk P w K mg base CX0 94 f7 d7 ["row", "program"] (spKindOf K 90))
    (D8 : Def K mg "is_long" sIsLong ["row", "kind", "program"] f8 d8) (G8 : FnOk P w K mg base CX0 165 f8 d8 ["row", "kind", "program"] (spIsLong K 81))
    (D9 : Def K mg "long_form" sLongForm ["row", "program"] f9 d9) (G9 : FnOk P w K mg base CX0 165 f9 d9 ["row", "program"] (spLongForm K))
    (Da : Def K mg "_law_forms" sForms ["_law_row_here", "_law_program_here", "_law_form"] fa da) (Ga : FnOk P w K mg base CX0 166 fa da ["_law_row_here", "_law_program_here", "_law_form"] (spForms K))
    (mr : mg "range" = none) (mx : mg "max" = none) (mn : mg "min" = none) (ml : mg "len" = none) : FnOk P w K mg base CX0 167 f fd ["_law_script"] (spLaw K) := by
  have hN := scLaw.nd
  refine fun_ok D.F scLaw (fun vs H Q E h => ?_) (fun cdv A outer s H vs Q E' hr h => ?_)
  · obtain ⟨a, ns, rfl, _⟩ := h; rfl
  obtain ⟨a, ns, rfl, hL, hlen, k⟩ := h
  have hrt : Room 1 _ := hr.mono (by omega)
  refine s_seq (fun _ _ => True) (s_for PassesOwn.never rfl (pi_range1 rfl mr pa_w) (pg_name (i := 1) hN rfl (Or.inl rfl)) ?_) fun _ H' _ => s_one <| s_ret <| e_bl (k H')
  refine a_cons <| e_callB (call_max2 rfl) rfl mx (by decide +kernel) <| a_cons <| e_int <| a_cons <| e_callB (call_min2 rfl) rfl mn (by decide +kernel) <| a_cons <| e_callB call_len_seq rfl ml PySem.boot_len <| a_cons <| e_var 0 rfl <| a_nil ⟨a, _, rfl, .inl hL, a_cons <| e_int <| a_nil ⟨_, _, rfl, a_nil ⟨_, _, rfl, a_nil ⟨_, rfl, ?_, ?_, ?_⟩⟩⟩⟩
  · split <;> split <;> omega
  · split <;> split <;> omega
  generalize hn : Int.toNat _ = n
  have hn8 : n ≤ 8 := by
    rw [← hn]
    split <;> split <;> omega
  clear hn
  refine for_it walk_range (fun i σ' H' => ∃ y1 y2 y3 y4 y5 y6 y7 y8 y9, σ' = [some (.ref a), y1, y2, y3, y4, y5, y6, y7, y8, y9, none] ∧ Same H H') ⟨none, none, none, none, none, none, none, none, none, rfl, Same.refl H⟩ (fun _ _ _ _ _ => trivial) ?_ fun _ _ _ => trivial
  rintro i v σ' _ H0 hi ⟨y1, y2, y3, y4, y5, y6, y7, y8, y9, rfl, s0⟩ ⟨rfl, rfl⟩
  show wS _ _ _ _ _
  refine s_cons <| s_set 2 hN <| e_call G1 hrt rfl D1.m D1.F.kp D1.b .nil pass0 <| a_cons <| e_var 0 rfl <| a_cons <| e_var 1 rfl <| a_nil ⟨a, ns, i, by show [V.ref a, V.int (0 + (i : Int))] = _; rw [Int.zero_add], s0.seq hL, by omega, fun p H1 s1 hp0 hA1 => ?_⟩
  refine s_cons <| s_set 3 hN <| e_call G2 (hr.mono (by omega)) rfl D2.m D2.F.kp D2.b .nil pass0 <| a_cons <| e_var 2 rfl <| a_nil ⟨p, rfl, hA1, fun rl xs row H2 x2 hA2 hrl0 hR2 hx2 ok => ?_⟩
  have hrow : row ≠ [] := by have := ok.ctx.ne; simpa using this
  have hrp := hA2.ne hR2 (known_ne hx2 hrow)
  refine s_cons <| s_asg (pg_tup rfl (pgs_cons (pg_name (i := 4) hN rfl (Or.inl rfl)) (pgs_cons (pg_name (i := 5) hN rfl (Or.inl rfl)) pgs_nil))) <| e_call G3 (hr.mono (by omega)) rfl D3.m D3.F.kp D3.b .nil pass0 <| a_cons <| e_var 2 rfl <| a_cons <| e_var 3 rfl <| a_cons <| e_int <| a_nil ⟨p, rl, 50, xs, row, rfl, hA2, hR2, hx2, ok, fun t gv pv g pg q r H3 x3 hA3 hT3 hg3 hp3 W => ⟨t, _, rfl, hT3, rfl, _, _, rfl, _, _, rfl, rfl, ?_⟩⟩
  have hR3 := x3 _ _ hR2 hrp
  have hx3 : Paired (NAt K H3) xs row := paired_mono hx2 fun _ _ t => t.mono (hA2.keepT x3)
  have x13 := (x2.trans x3)
  have s03 : Same H H3 := s0.trans fun b o hb => x13 _ _ (s1 _ _ hb) (ne_of_none hb hp0)
  refine s_seq (fun σ' H' => ∃ l u1 u2 u3, σ' = [some (.ref a), some (.int (0 + (i : Int))), some (.ref p), some (.ref rl), some gv, some pv, some (.ref l), y7, y8, y9, none] ∧ Exc p H3 H' ∧ PoolAt H' p ∧ H' l = some (.lst [u1, u2, u3]) ∧ PAt K H' u1 (nm 0 r) ∧ PAt K H' u2 (nm 0 q) ∧ PAt K H' u3 (nm 0 q))
    (s_set 6 hN <| e_call G4 hr rfl D4.m D4.F.kp D4.b .nil pass0 <| a_cons <| e_var 3 rfl <| a_cons <| e_var 5 rfl <| a_cons ?_) ?_
  · refine e_lc (own := [("_law_j", 10)]) (g := gName 10) (tt := tYes) rfl hN (pi_range1 rfl mr pa_w) (blkOk_by (N := ["_law_script", "_law_k", "_law_pool_here", "_law_row_here", "_law_goal", "_law_program_here", "_law_found", "_law_form", "_law_one", "_law_other", "_law_j"]) (sc := defScope sLaw) (by decide +kernel)) (fun _ _ _ _ _ => pg_name (i := 10) hN rfl (Or.inl rfl)) (fun _ _ _ _ _ => pts_nil) ?_
    refine a_cons <| e_op op_add <| e_int <| e_call G5 hrt rfl D5.m D5.F.kp D5.b .nil pass0 <| a_cons <| e_var 2 rfl <| a_cons <| e_int <| a_nil ⟨p, 7, rfl, hA3, by decide, by decide, fun j H4 hj x4 hA4 => ⟨_, _, rfl, rfl, a_nil ⟨_, rfl, by omega, by omega, fun Dl hDl => ?_⟩⟩⟩
    have hDp : Dl ≠ p := fun e => by
      obtain ⟨_, _, hA'⟩ := hA4
      rw [e, hA'] at hDl
      cases hDl
    generalize hm : Int.toNat _ = m
    have hm8 : m ≤ 8 := by rw [← hm]; omega
    clear hm
    refine lc_it (walk_range (lo := 0) (n := m)) (fun i H5 => Exc p H4 H5 ∧ PoolAt H5 p ∧ ∃ ks : List Int, H5 Dl = some (.lst (ks.map V.int)) ∧ ks.length ≤ i) ⟨exc_of (same_new hDl _), hA4.same (same_new hDl _), [], upd_same, by simp⟩ (fun _ _ _ _ => trivial) ?_ ?_
    · rintro i5 v5 _ H5 hi5 ⟨x5, hA5, ks, hks, hkl⟩ ⟨rfl, rfl⟩
      refine ⟨rfl, fun s0' H0' C cl fp => ?_⟩
      refine e_call G5 hrt rfl D5.m D5.F.kp D5.b .nil pass0 <| a_cons <| e_var 2 rfl <| a_cons <| e_int <| a_nil ⟨p, 100, rfl, hA5, by decide, by decide, fun j6 H6 hj6 x6 hA6 => ⟨_, x6 _ _ hks hDp, size_lt (by rw [List.length_map]; omega), (x5.trans x6).mut hDl, ?_, ks ++ [(j6 : Int)], by rw [upd_same, List.map_append]; rfl, by rw [List.length_append]; simpa using hkl⟩⟩
      obtain ⟨c1, c2, hA'⟩ := hA6
      exact ⟨c1, c2, by rw [upd_ne hDp.symm]; exact hA'⟩
    · rintro H5 ⟨x5, hA5, ks, hks, hkl⟩
      have x35 := x4.trans x5
      have kp5 := hA3.keepT x35
      have R5 : RowAt K H5 rl row := ⟨⟨xs, SqL.of (x35 _ _ hR3 hrp), paired_mono hx3 fun _ _ t => t.mono kp5⟩, ok.nx, ok.len⟩
      exact a_nil ⟨rl, Dl, row, pv, pg, g, q, r, ks, rfl, R5, hp3.mono kp5, W, SqL.of hks, fun l u1 u2 u3 H6 s6 hl h1 h2 h3 => ⟨l, u1, u2, u3, rfl, x35.trans (exc_of s6), hA5.same s6, hl, h1, h2, h3⟩⟩
  rintro σ' H4 ⟨l, u1, u2, u3, rfl, x4, hA4, hl4, hu1, hu2, hu3⟩
  have kp4 := hA3.keepT x4
  have hR4 := x4 _ _ hR3 hrp
  have hx4 : Paired (NAt K H4) xs row := paired_mono hx3 fun _ _ t => t.mono kp4
  have R4 : RowAt K H4 rl row := ⟨⟨xs, SqL.of hR4, hx4⟩, ok.nx, ok.len⟩
  have s04 : Same H H4 := s0.trans fun b o hb => (x13.trans x4) _ _ (s1 _ _ hb) (ne_of_none hb hp0)
  have hg4 := hg3.mono kp4
  have hp4 := hp3.mono kp4
  have Wq : Wh (rowE row) g (db [] (nm 0 q)) q r := by rw [K23.db_nm0 ok.nx W.plain.w.ty.wf]; exact W.plain
  have Wr : Wh (rowE row) g (db [] (nm 0 r)) r r := by rw [K23.db_nm0 ok.nx W.long.w.ty.wf]; exact W.long
  have dq := Wh.dp Wq
  have dr := Wh.dp Wr
  have pq := wh_parts Wq
  have pr := wh_parts Wr
  have nq := no_places ok.nx W.plain.w.ty.wf W.w.nf
  have nr := no_places ok.nx W.long.w.ty.wf W.long.w.nf
  have hlen10 := ok.len
  have hxl := hx4.length
  refine s_cons <| s_if <| t_and2 <| t_isN <| e_var 6 rfl <| if_ne (by intro z; cases z) <| iteF <| s_nil ?_
  refine s_one <| s_if <| t_notN <| e_var 6 rfl <| ifn_ne (by intro z; cases z) ?_
  refine s_cons <| s_asg (pg_unl rfl (pgs_cons (pg_name (i := 7) hN rfl (Or.inl rfl)) (pgs_cons (pg_name (i := 8) hN rfl (Or.inl rfl)) (pgs_cons (pg_name (i := 9) hN rfl (Or.inl rfl)) pgs_nil)))) <| e_var 6 rfl ⟨l, _, rfl, SqL.of hl4, rfl, _, _, rfl, _, _, rfl, _, _, rfl, rfl, ?_⟩
  refine s_cons <| s_if <| t_or3 <| t_ne_self (room200 hr) <| e_var 8 rfl <| e_var 9 rfl ⟨q, hu2, hu3, W.plain.lk, (Wh.dq W).1, iteF ?_⟩
  refine t_nilN (room200 hr) <| e_call G6 (hr.mono (by omega)) rfl D6.m D6.F.kp D6.b .nil pass0 <| a_cons <| e_var 8 rfl <| a_nil ⟨u2, _, rfl, hu2, by omega, by omega, by omega, fun H5 g5 z5 s5 _ hG5 hz5 => ⟨g5, z5, _, rfl, SqL.of hG5, dp_ls hz5, plain_ls _, fun H6 s6 => ?_⟩⟩
  rw [nq]
  refine iteF ?_
  have s46 := s5.trans s6
  refine t_nilN (room200 hr) <| e_call G6 (hr.mono (by omega)) rfl D6.m D6.F.kp D6.b .nil pass0 <| a_cons <| e_var 7 rfl <| a_nil ⟨u1, _, rfl, hu1.mono (keepT_of s46), by omega, by omega, by omega, fun H7 g7 z7 s7 _ hG7 hz7 => ⟨g7, z7, _, rfl, SqL.of hG7, dp_ls hz7, plain_ls _, fun H8 s8 => ?_⟩⟩
  rw [nr]
  refine iteF <| s_nil ?_
  have s48 := s46.trans (s7.trans s8)
  have k8 := keepT_of s48
  refine s_cons <| s_if <| t_or3 <| t_cmp (op_neP (n := 200) (room200 hr)) (nomark _) <| e_call G7 (hr.mono (by omega)) rfl D7.m D7.F.kp D7.b .nil pass0 <| a_cons <| e_var 3 rfl <| a_cons <| e_var 7 rfl <| a_nil ⟨rl, xs, row, u1, _, g, rfl, s48.seq (SqL.of hR4), paired_mono hx4 fun _ _ t => t.mono k8, hu1.mono k8, by omega, by omega, Wh.typ Wr, fun kv H9 s9 hkv => e_var 4 rfl ⟨_, _, hkv.dp, (hg4.mono (keepT_of (s48.trans s9))).dp, K23.plain_encK _, K23.plain_encK _, by rw [K23.depth_encK]; have := deep3 W.k4; omega, _, rfl, ?_⟩⟩
  rw [K23.eqv_encK, decide_eq_true rfl]
  refine iteF ?_
  have s49 := s48.trans s9
  have k9 := keepT_of s49
  have ln : LnP row 0 g (nm 0 r) := by
    have := mk_ln ok.nx W.w.mkd W.s W.k4
    rwa [sm_kn] at this
  refine t_cmp op_notBl (nomark _) <| e_call G8 (hr.mono (by omega)) rfl D8.m D8.F.kp D8.b .nil pass0 <| a_cons <| e_var 3 rfl <| a_cons <| e_var 4 rfl <| a_cons <| e_var 7 rfl <| a_nil ⟨rl, xs, row, gv, g, u1, _, rfl, s49.seq (SqL.of hR4), paired_mono hx4 fun _ _ t => t.mono k9, hg4.mono k9, hu1.mono k9, ln, by omega, by omega, fun H10 s10 => e_bl ⟨true, true, rfl, rfl, _, rfl, iteF ?_⟩⟩
  have s410 := s49.trans s10
  refine t_ne_self (room200 hr) <| e_call G9 (hr.mono (by omega)) rfl D9.m D9.F.kp D9.b .nil pass0 <| a_cons <| e_var 3 rfl <| a_cons <| e_var 7 rfl <| a_nil ⟨rl, row, u1, _, g, r, r, rfl, R4.same s410, hu1.mono (keepT_of s410), Wr, fun v11 H11 s11 hv11 => e_var 7 rfl ⟨r, hv11, hu1.mono (keepT_of (s410.trans s11)), W.long.lk, W.w.dp, iteF <| s_nil ?_⟩⟩
  have s411 := s410.trans s11
  refine s_one <| s_if <| t_or2 <| t_ne_self (room200 hr) <| e_call G9 (hr.mono (by omega)) rfl D9.m D9.F.kp D9.b .nil pass0 <| a_cons <| e_var 3 rfl <| a_cons <| e_var 8 rfl <| a_nil ⟨rl, row, u2, _, g, q, r, rfl, R4.same s411, hu2.mono (keepT_of s411), Wq, fun v12 H12 s12 hv12 => e_var 7 rfl ⟨r, hv12, hu1.mono (keepT_of (s411.trans s12)), W.long.lk, W.w.dp, iteF ?_⟩⟩
  have s412 := s411.trans s12
  refine t_not <| t_val <| e_call Ga hr rfl Da.m Da.F.kp Da.b .nil pass0 <| a_cons <| e_var 3 rfl <| a_cons <| e_var 5 rfl <| a_cons <| e_var 7 rfl <| a_nil ⟨rl, row, pv, u1, pg, g, q, r, rfl, R4.same s412, hp4.mono (keepT_of s412), W, hu1.mono (keepT_of s412), fun H13 s13 => ⟨true, rfl, iteF <| s_nil ?_⟩⟩
  exact ⟨_, _, _, _, _, _, _, _, _, rfl, s04.trans (s412.trans s13)⟩
end
end KW

namespace KW
open PySem PySem.Spec L2 PyProof.Rows
theorem def_mk {K : PySem.W.Frag} {mg : Str → Option Value} {h : Heap} (X : K.In h) (G : h.Ns mainGlobals mg) {x : Str} {st : Stmt} {ps : List Str} {f : Addr} {oc : Value} {od an : Option Addr} {osl : Array (Option Value)} {kV doc pm cdv ct : Value} (a : PySem.W.nsIn K mainGlobals x = some (some (.ref f)))
    (l : K.lookup f = some ⟨oc, od, .func (PySem.W.fnOf x x (defArgs st) (defBody st) (defScope st) .none kV doc pm an cdv ct), osl⟩) (c : PySem.W.codeIn K cdv x = true) (k : PySem.W.keepIn K (.ref f) = true)
    (hb : ∀ (kV doc pm : Value) (an : Option Addr) (cdv ct : Value) (us : List Value), us.length = ps.length → bindArgs (PySem.W.fnOf x x (defArgs st) (defBody st) (defScope st) .none kV doc pm an cdv ct) ⟨us, []⟩ = pure (ps.zip us)) : Def K mg x st ps f (PySem.W.fnOf x x (defArgs st) (defBody st) (defScope st) .none kV doc pm an cdv ct) :=
  ⟨fun_mk l c k, PySem.W.mg_of X G a, (fun_mk l c k).binds hb⟩
theorem defm_mk {K : PySem.W.Frag} {C : Addr} {x q : Str} {st : Stmt} {ps : List Str} {f : Addr} {oc : Value} {od an : Option Addr} {osl : Array (Option Value)} {kV doc pm cdv ct : Value} (a : PySem.W.findIn K (.ref C) x = some (some (.ref f))) (i : PySem.W.isFn K (.ref f) = true)
    (l : K.lookup f = some ⟨oc, od, .func (PySem.W.fnOf x q (defArgs st) (defBody st) (defScope st) .none kV doc pm an cdv ct), osl⟩) (c : PySem.W.codeIn K cdv q = true) (k : PySem.W.keepIn K (.ref f) = true)
    (hb : ∀ (kV doc pm : Value) (an : Option Addr) (cdv ct : Value) (us : List Value), us.length = ps.length → bindArgs (PySem.W.fnOf x q (defArgs st) (defBody st) (defScope st) .none kV doc pm an cdv ct) ⟨us, []⟩ = pure (ps.zip us)) : DefM K C x q st ps f (PySem.W.fnOf x q (defArgs st) (defBody st) (defScope st) .none kV doc pm an cdv ct) :=
  ⟨fun_mk l c k, ⟨a, i, k⟩, (fun_mk l c k).binds hb⟩
theorem sqt_k {K : PySem.W.Frag} {a : Addr} {od : Option Addr} {x : Str} {t : Tok} {n : Nat} {sl : Array (Option Value)} (l : K.lookup a = some ⟨.type "tuple", od, .seq #[.str x t] n, sl⟩) (H : Hp) : SqT K H a [.str x] :=
  .inr ⟨_, _, _, l, rfl, rfl, size_le (by show 1 ≤ 100000; decide), .cons ⟨t, rfl⟩ .nil⟩
theorem run_mk {K : PySem.W.Frag} {mg : Str → Option Value} {h : Heap} (X : K.In h) (G : h.Ns mainGlobals mg) {f dT : Addr} {oc : Value} {od an odD : Option Addr} {osl slD : Array (Option Value)} {kV doc pm cdv ct ocD : Value} {nD : Nat} (a : PySem.W.nsIn K mainGlobals "run" = some (some (.ref f)))
    (l : K.lookup f = some ⟨oc, od, .func (PySem.W.fnOf "run" "run" (defArgs sRun) (defBody sRun) (defScope sRun) (.ref dT) kV doc pm an cdv ct), osl⟩) (lD : K.lookup dT = some ⟨ocD, odD, .seq #[.none] nD, slD⟩) (c : PySem.W.codeIn K cdv "run" = true) (k : PySem.W.keepIn K (.ref f) = true) :
    RunD K mg f (PySem.W.fnOf "run" "run" (defArgs sRun) (defBody sRun) (defScope sRun) (.ref dT) kV doc pm an cdv ct) := by
  have F : FunD K "run" "run" (defArgs sRun) (defBody sRun) (defScope sRun) [.non] [] f (PySem.W.fnOf "run" "run" (defArgs sRun) (defBody sRun) (defScope sRun) (.ref dT) kV doc pm an cdv ct) :=
    ⟨⟨oc, od, .ref dT, kV, doc, pm, an, cdv, ct, osl, rfl, l, c, .inr ⟨by simp, dT, _, [.none], nD, rfl, lD, rfl, .cons rfl .nil⟩, .inl rfl⟩, k⟩
  refine ⟨F, PySem.W.mg_of X G a, F.binds1 1 0 (by simp) rfl (fun T kV doc pm an cdv ct us its h1 h2 => match us, h1, its, h2 with | [_], _, [_], _ => ⟨_, rfl, rfl⟩), ?_⟩
  obtain ⟨ds, v, b⟩ := F.binds1 2 1 (ps := ["program", "picks"]) (by simp) rfl (fun T kV doc pm an cdv ct us its h1 h2 => match us, h1, its, h2 with | [_, _], _, [_], _ => ⟨_, rfl, rfl⟩)
  cases v
  exact b
theorem all_mk {l : PySem.W.OpenLaw} {w : World} {K : PySem.W.Frag} {h : Heap} {mg : Str → Option Value} {fa : Addr} {f8 f9 f10 f11 f12 f13 f15 f16 f17 f18 f19 f20 f22 f23 f24 f29 f30 f31 f32 f33 f34 f35 f40 f41 f42 f43 f45 f47 f48 f49 f50 f51 f52 f53 f54 f55 f56 f57 f58 f59 f60 f61 f100 f101 f102 f103 f36 C cO cT dT : Addr} {od8 an8 od9 an9 od10 an10 od11 an11 od12 an12 od13 an13 od15 an15 od16 an16 od17 an17 od18 an18 od19 an19 od20 an20 od22 an22 od23 an23 od24 an24 od29 an29 od30 an30 od31 an31 od32 an32 od33 an33 od34 an34 od35 an35 od40 an40 od41 an41 od42 an42 od43 an43 od45 an45 od47 an47 od48 an48 od49 an49 od50 an50 od51 an51 od52 an52 od53 an53 od54 an54 od55 an55 od56 an56 od57 an57 od58 an58 od59 an59 od60 an60 od61 an61 od100 an100 od101 an101 od102 an102 od103 an103 od36 an36 odO odT odD : Option Addr} {sl8 sl9 sl10 sl11 sl12 sl13 sl15 sl16 sl17 sl18 sl19 sl20 sl22 sl23 sl24 sl29 sl30 sl31 sl32 sl33 sl34 sl35 sl40 sl41 sl42 sl43 sl45 sl47 sl48 sl49 sl50 sl51 sl52 sl53 sl54 sl55 sl56 sl57 sl58 sl59 sl60 sl61 sl100 sl101 sl102 sl103 sl36 slO slT slD : Array (Option Value)} {oc8 kV8 dc8 pm8 cd8 ct8 oc9 kV9 dc9 pm9 cd9 ct9 oc10 kV10 dc10 pm10 cd10 ct10 oc11 kV11 dc11 pm11 cd11 ct11 oc12 kV12 dc12 pm12 cd12 ct12 oc13 kV13 dc13 pm13 cd13 ct13 oc15 kV15 dc15 pm15 cd15 ct15 oc16 kV16 dc16 pm16 cd16 ct16 oc17 kV17 dc17 pm17 cd17 ct17 oc18 kV18 dc18 pm18 cd18 ct18 oc19 kV19 dc19 pm19 cd19 ct19 oc20 kV20 dc20 pm20 cd20 ct20 oc22 kV22 dc22 pm22 cd22 ct22 oc23 kV23 dc23 pm23 cd23 ct23 oc24 kV24 dc24 pm24 cd24 ct24 oc29 kV29 dc29 pm29 cd29 ct29 oc30 kV30 dc30 pm30 cd30 ct30 oc31 kV31 dc31 pm31 cd31 ct31 oc32 kV32 dc32 pm32 cd32 ct32 oc33 kV33 dc33 pm33 cd33 ct33 oc34 kV34 dc34 pm34 cd34 ct34 oc35 kV35 dc35 pm35 cd35 ct35 oc40 kV40 dc40 pm40 cd40 ct40 oc41 kV41 dc41 pm41 cd41 ct41 oc42 kV42 dc42 pm42 cd42 ct42 oc43 kV43 dc43 pm43 cd43 ct43 oc45 kV45 dc45 pm45 cd45 ct45 oc47 kV47 dc47 pm47 cd47 ct47 oc48 kV48 dc48 pm48 cd48 ct48 oc49 kV49 dc49 pm49 cd49 ct49 oc50 kV50 dc50 pm50 cd50 ct50 oc51 kV51 dc51 pm51 cd51 ct51 oc52 kV52 dc52 pm52 cd52 ct52 oc53 kV53 dc53 pm53 cd53 ct53 oc54 kV54 dc54 pm54 cd54 ct54 oc55 kV55 dc55 pm55 cd55 ct55 oc56 kV56 dc56 pm56 cd56 ct56 oc57 kV57 dc57 pm57 cd57 ct57 oc58 kV58 dc58 pm58 cd58 ct58 oc59 kV59 dc59 pm59 cd59 ct59 oc60 kV60 dc60 pm60 cd60 ct60 oc61 kV61 dc61 pm61 cd61 ct61 oc100 kV100 dc100 pm100 cd100 ct100 oc101 kV101 dc101 pm101 cd101 ct101 oc102 kV102 dc102 pm102 cd102 ct102 oc103 kV103 dc103 pm103 cd103 ct103 oc36 kV36 dc36 pm36 cd36 ct36 ocD : Value} {tO tT t0 t1 t2 t3 t4 : Tok} {nO nT nD : Nat} (X : K.In h) (G : h.Ns mainGlobals mg) (hfa : mg "law" = some (.ref fa))
    (a8 : PySem.W.nsIn K mainGlobals "inner" = some (some (.ref f8)))
    (l8 : K.lookup f8 = some ⟨oc8, od8, .func (PySem.W.fnOf "inner" "inner" (defArgs sInner) (defBody sInner) (defScope sInner) .none kV8 dc8 pm8 an8 cd8 ct8), sl8⟩)
    (c8 : PySem.W.codeIn K cd8 "inner" = true)
    (k8 : PySem.W.keepIn K (.ref f8) = true)
    (a9 : PySem.W.nsIn K mainGlobals "parts_of" = some (some (.ref f9)))
    (l9 : K.lookup f9 = some ⟨oc9, od9, .func (PySem.W.fnOf "parts_of" "parts_of" (defArgs sParts) (defBody sParts) (defScope sParts) .none kV9 dc9 pm9 an9 cd9 ct9), sl9⟩)
    (c9 : PySem.W.codeIn K cd9 "parts_of" = true)
    (k9 : PySem.W.keepIn K (.ref f9) = true)
    (a10 : PySem.W.nsIn K mainGlobals "deep_of" = some (some (.ref f10)))
    (l10 : K.lookup f10 = some ⟨oc10, od10, .func (PySem.W.fnOf "deep_of" "deep_of" (defArgs sDeep) (defBody sDeep) (defScope sDeep) .none kV10 dc10 pm10 an10 cd10 ct10), sl10⟩)
    (c10 : PySem.W.codeIn K cd10 "deep_of" = true)
    (k10 : PySem.W.keepIn K (.ref f10) = true)
    (a11 : PySem.W.nsIn K mainGlobals "part_at" = some (some (.ref f11)))
    (l11 : K.lookup f11 = some ⟨oc11, od11, .func (PySem.W.fnOf "part_at" "part_at" (defArgs sPartAt) (defBody sPartAt) (defScope sPartAt) .none kV11 dc11 pm11 an11 cd11 ct11), sl11⟩)
    (c11 : PySem.W.codeIn K cd11 "part_at" = true)
    (k11 : PySem.W.keepIn K (.ref f11) = true)
    (a12 : PySem.W.nsIn K mainGlobals "with_inner" = some (some (.ref f12)))
    (l12 : K.lookup f12 = some ⟨oc12, od12, .func (PySem.W.fnOf "with_inner" "with_inner" (defArgs sWithInner) (defBody sWithInner) (defScope sWithInner) .none kV12 dc12 pm12 an12 cd12 ct12), sl12⟩)
    (c12 : PySem.W.codeIn K cd12 "with_inner" = true)
    (k12 : PySem.W.keepIn K (.ref f12) = true)
    (a13 : PySem.W.nsIn K mainGlobals "with_part" = some (some (.ref f13)))
    (l13 : K.lookup f13 = some ⟨oc13, od13, .func (PySem.W.fnOf "with_part" "with_part" (defArgs sWithPart) (defBody sWithPart) (defScope sWithPart) .none kV13 dc13 pm13 an13 cd13 ct13), sl13⟩)
    (c13 : PySem.W.codeIn K cd13 "with_part" = true)
    (k13 : PySem.W.keepIn K (.ref f13) = true)
    (a15 : PySem.W.nsIn K mainGlobals "known_as" = some (some (.ref f15)))
    (l15 : K.lookup f15 = some ⟨oc15, od15, .func (PySem.W.fnOf "known_as" "known_as" (defArgs sKnownAs) (defBody sKnownAs) (defScope sKnownAs) .none kV15 dc15 pm15 an15 cd15 ct15), sl15⟩)
    (c15 : PySem.W.codeIn K cd15 "known_as" = true)
    (k15 : PySem.W.keepIn K (.ref f15) = true)
    (a16 : PySem.W.nsIn K mainGlobals "kind_here" = some (some (.ref f16)))
    (l16 : K.lookup f16 = some ⟨oc16, od16, .func (PySem.W.fnOf "kind_here" "kind_here" (defArgs sKindHere) (defBody sKindHere) (defScope sKindHere) .none kV16 dc16 pm16 an16 cd16 ct16), sl16⟩)
    (c16 : PySem.W.codeIn K cd16 "kind_here" = true)
    (k16 : PySem.W.keepIn K (.ref f16) = true)
    (a17 : PySem.W.nsIn K mainGlobals "kind_within" = some (some (.ref f17)))
    (l17 : K.lookup f17 = some ⟨oc17, od17, .func (PySem.W.fnOf "kind_within" "kind_within" (defArgs sKindWithin) (defBody sKindWithin) (defScope sKindWithin) .none kV17 dc17 pm17 an17 cd17 ct17), sl17⟩)
    (c17 : PySem.W.codeIn K cd17 "kind_within" = true)
    (k17 : PySem.W.keepIn K (.ref f17) = true)
    (a18 : PySem.W.nsIn K mainGlobals "kind_of" = some (some (.ref f18)))
    (l18 : K.lookup f18 = some ⟨oc18, od18, .func (PySem.W.fnOf "kind_of" "kind_of" (defArgs sKindOf) (defBody sKindOf) (defScope sKindOf) .none kV18 dc18 pm18 an18 cd18 ct18), sl18⟩)
    (c18 : PySem.W.codeIn K cd18 "kind_of" = true)
    (k18 : PySem.W.keepIn K (.ref f18) = true)
    (a19 : PySem.W.nsIn K mainGlobals "tidied_within" = some (some (.ref f19)))
    (l19 : K.lookup f19 = some ⟨oc19, od19, .func (PySem.W.fnOf "tidied_within" "tidied_within" (defArgs sTidiedWithin) (defBody sTidiedWithin) (defScope sTidiedWithin) .none kV19 dc19 pm19 an19 cd19 ct19), sl19⟩)
    (c19 : PySem.W.codeIn K cd19 "tidied_within" = true)
    (k19 : PySem.W.keepIn K (.ref f19) = true)
    (a20 : PySem.W.nsIn K mainGlobals "tidied" = some (some (.ref f20)))
    (l20 : K.lookup f20 = some ⟨oc20, od20, .func (PySem.W.fnOf "tidied" "tidied" (defArgs sTidied) (defBody sTidied) (defScope sTidied) .none kV20 dc20 pm20 an20 cd20 ct20), sl20⟩)
    (c20 : PySem.W.codeIn K cd20 "tidied" = true)
    (k20 : PySem.W.keepIn K (.ref f20) = true)
    (a22 : PySem.W.nsIn K mainGlobals "can_step" = some (some (.ref f22)))
    (l22 : K.lookup f22 = some ⟨oc22, od22, .func (PySem.W.fnOf "can_step" "can_step" (defArgs sCanStep) (defBody sCanStep) (defScope sCanStep) .none kV22 dc22 pm22 an22 cd22 ct22), sl22⟩)
    (c22 : PySem.W.codeIn K cd22 "can_step" = true)
    (k22 : PySem.W.keepIn K (.ref f22) = true)
    (a23 : PySem.W.nsIn K mainGlobals "put_places" = some (some (.ref f23)))
    (l23 : K.lookup f23 = some ⟨oc23, od23, .func (PySem.W.fnOf "put_places" "put_places" (defArgs sPutPlaces) (defBody sPutPlaces) (defScope sPutPlaces) .none kV23 dc23 pm23 an23 cd23 ct23), sl23⟩)
    (c23 : PySem.W.codeIn K cd23 "put_places" = true)
    (k23 : PySem.W.keepIn K (.ref f23) = true)
    (a24 : PySem.W.nsIn K mainGlobals "step_places" = some (some (.ref f24)))
    (l24 : K.lookup f24 = some ⟨oc24, od24, .func (PySem.W.fnOf "step_places" "step_places" (defArgs sStepPlaces) (defBody sStepPlaces) (defScope sStepPlaces) .none kV24 dc24 pm24 an24 cd24 ct24), sl24⟩)
    (c24 : PySem.W.codeIn K cd24 "step_places" = true)
    (k24 : PySem.W.keepIn K (.ref f24) = true)
    (a29 : PySem.W.nsIn K mainGlobals "name_count" = some (some (.ref f29)))
    (l29 : K.lookup f29 = some ⟨oc29, od29, .func (PySem.W.fnOf "name_count" "name_count" (defArgs sNameCount) (defBody sNameCount) (defScope sNameCount) .none kV29 dc29 pm29 an29 cd29 ct29), sl29⟩)
    (c29 : PySem.W.codeIn K cd29 "name_count" = true)
    (k29 : PySem.W.keepIn K (.ref f29) = true)
    (a30 : PySem.W.nsIn K mainGlobals "with_given" = some (some (.ref f30)))
    (l30 : K.lookup f30 = some ⟨oc30, od30, .func (PySem.W.fnOf "with_given" "with_given" (defArgs sWithGiven) (defBody sWithGiven) (defScope sWithGiven) .none kV30 dc30 pm30 an30 cd30 ct30), sl30⟩)
    (c30 : PySem.W.codeIn K cd30 "with_given" = true)
    (k30 : PySem.W.keepIn K (.ref f30) = true)
    (a31 : PySem.W.nsIn K mainGlobals "what_comes" = some (some (.ref f31)))
    (l31 : K.lookup f31 = some ⟨oc31, od31, .func (PySem.W.fnOf "what_comes" "what_comes" (defArgs sWhatComes) (defBody sWhatComes) (defScope sWhatComes) .none kV31 dc31 pm31 an31 cd31 ct31), sl31⟩)
    (c31 : PySem.W.codeIn K cd31 "what_comes" = true)
    (k31 : PySem.W.keepIn K (.ref f31) = true)
    (a32 : PySem.W.nsIn K mainGlobals "parts_that_come" = some (some (.ref f32)))
    (l32 : K.lookup f32 = some ⟨oc32, od32, .func (PySem.W.fnOf "parts_that_come" "parts_that_come" (defArgs sPartsThat) (defBody sPartsThat) (defScope sPartsThat) .none kV32 dc32 pm32 an32 cd32 ct32), sl32⟩)
    (c32 : PySem.W.codeIn K cd32 "parts_that_come" = true)
    (k32 : PySem.W.keepIn K (.ref f32) = true)
    (a33 : PySem.W.nsIn K mainGlobals "done_at" = some (some (.ref f33)))
    (l33 : K.lookup f33 = some ⟨oc33, od33, .func (PySem.W.fnOf "done_at" "done_at" (defArgs sDoneAt) (defBody sDoneAt) (defScope sDoneAt) .none kV33 dc33 pm33 an33 cd33 ct33), sl33⟩)
    (c33 : PySem.W.codeIn K cd33 "done_at" = true)
    (k33 : PySem.W.keepIn K (.ref f33) = true)
    (a34 : PySem.W.nsIn K mainGlobals "stepped" = some (some (.ref f34)))
    (l34 : K.lookup f34 = some ⟨oc34, od34, .func (PySem.W.fnOf "stepped" "stepped" (defArgs sStepped) (defBody sStepped) (defScope sStepped) .none kV34 dc34 pm34 an34 cd34 ct34), sl34⟩)
    (c34 : PySem.W.codeIn K cd34 "stepped" = true)
    (k34 : PySem.W.keepIn K (.ref f34) = true)
    (a35 : PySem.W.nsIn K mainGlobals "next_place" = some (some (.ref f35)))
    (l35 : K.lookup f35 = some ⟨oc35, od35, .func (PySem.W.fnOf "next_place" "next_place" (defArgs sNextPlace) (defBody sNextPlace) (defScope sNextPlace) .none kV35 dc35 pm35 an35 cd35 ct35), sl35⟩)
    (c35 : PySem.W.codeIn K cd35 "next_place" = true)
    (k35 : PySem.W.keepIn K (.ref f35) = true)
    (a40 : PySem.W.nsIn K mainGlobals "taken_name" = some (some (.ref f40)))
    (l40 : K.lookup f40 = some ⟨oc40, od40, .func (PySem.W.fnOf "taken_name" "taken_name" (defArgs sTakenName) (defBody sTakenName) (defScope sTakenName) .none kV40 dc40 pm40 an40 cd40 ct40), sl40⟩)
    (c40 : PySem.W.codeIn K cd40 "taken_name" = true)
    (k40 : PySem.W.keepIn K (.ref f40) = true)
    (a41 : PySem.W.nsIn K mainGlobals "is_long_here" = some (some (.ref f41)))
    (l41 : K.lookup f41 = some ⟨oc41, od41, .func (PySem.W.fnOf "is_long_here" "is_long_here" (defArgs sIsLongHere) (defBody sIsLongHere) (defScope sIsLongHere) .none kV41 dc41 pm41 an41 cd41 ct41), sl41⟩)
    (c41 : PySem.W.codeIn K cd41 "is_long_here" = true)
    (k41 : PySem.W.keepIn K (.ref f41) = true)
    (a42 : PySem.W.nsIn K mainGlobals "gone_along" = some (some (.ref f42)))
    (l42 : K.lookup f42 = some ⟨oc42, od42, .func (PySem.W.fnOf "gone_along" "gone_along" (defArgs sGoneAlong) (defBody sGoneAlong) (defScope sGoneAlong) .none kV42 dc42 pm42 an42 cd42 ct42), sl42⟩)
    (c42 : PySem.W.codeIn K cd42 "gone_along" = true)
    (k42 : PySem.W.keepIn K (.ref f42) = true)
    (a43 : PySem.W.nsIn K mainGlobals "is_long" = some (some (.ref f43)))
    (l43 : K.lookup f43 = some ⟨oc43, od43, .func (PySem.W.fnOf "is_long" "is_long" (defArgs sIsLong) (defBody sIsLong) (defScope sIsLong) .none kV43 dc43 pm43 an43 cd43 ct43), sl43⟩)
    (c43 : PySem.W.codeIn K cd43 "is_long" = true)
    (k43 : PySem.W.keepIn K (.ref f43) = true)
    (a45 : PySem.W.nsIn K mainGlobals "long_form" = some (some (.ref f45)))
    (l45 : K.lookup f45 = some ⟨oc45, od45, .func (PySem.W.fnOf "long_form" "long_form" (defArgs sLongForm) (defBody sLongForm) (defScope sLongForm) .none kV45 dc45 pm45 an45 cd45 ct45), sl45⟩)
    (c45 : PySem.W.codeIn K cd45 "long_form" = true)
    (k45 : PySem.W.keepIn K (.ref f45) = true)
    (a47 : PySem.W.nsIn K mainGlobals "_law_pool" = some (some (.ref f47)))
    (l47 : K.lookup f47 = some ⟨oc47, od47, .func (PySem.W.fnOf "_law_pool" "_law_pool" (defArgs sPool) (defBody sPool) (defScope sPool) .none kV47 dc47 pm47 an47 cd47 ct47), sl47⟩)
    (c47 : PySem.W.codeIn K cd47 "_law_pool" = true)
    (k47 : PySem.W.keepIn K (.ref f47) = true)
    (a48 : PySem.W.nsIn K mainGlobals "_law_take" = some (some (.ref f48)))
    (l48 : K.lookup f48 = some ⟨oc48, od48, .func (PySem.W.fnOf "_law_take" "_law_take" (defArgs sTake) (defBody sTake) (defScope sTake) .none kV48 dc48 pm48 an48 cd48 ct48), sl48⟩)
    (c48 : PySem.W.codeIn K cd48 "_law_take" = true)
    (k48 : PySem.W.keepIn K (.ref f48) = true)
    (a49 : PySem.W.nsIn K mainGlobals "_law_kind" = some (some (.ref f49)))
    (l49 : K.lookup f49 = some ⟨oc49, od49, .func (PySem.W.fnOf "_law_kind" "_law_kind" (defArgs sLawKind) (defBody sLawKind) (defScope sLawKind) .none kV49 dc49 pm49 an49 cd49 ct49), sl49⟩)
    (c49 : PySem.W.codeIn K cd49 "_law_kind" = true)
    (k49 : PySem.W.keepIn K (.ref f49) = true)
    (a50 : PySem.W.nsIn K mainGlobals "_law_seen" = some (some (.ref f50)))
    (l50 : K.lookup f50 = some ⟨oc50, od50, .func (PySem.W.fnOf "_law_seen" "_law_seen" (defArgs sSeen) (defBody sSeen) (defScope sSeen) .none kV50 dc50 pm50 an50 cd50 ct50), sl50⟩)
    (c50 : PySem.W.codeIn K cd50 "_law_seen" = true)
    (k50 : PySem.W.keepIn K (.ref f50) = true)
    (a51 : PySem.W.nsIn K mainGlobals "_law_uses" = some (some (.ref f51)))
    (l51 : K.lookup f51 = some ⟨oc51, od51, .func (PySem.W.fnOf "_law_uses" "_law_uses" (defArgs sUses) (defBody sUses) (defScope sUses) .none kV51 dc51 pm51 an51 cd51 ct51), sl51⟩)
    (c51 : PySem.W.codeIn K cd51 "_law_uses" = true)
    (k51 : PySem.W.keepIn K (.ref f51) = true)
    (a52 : PySem.W.nsIn K mainGlobals "_law_used" = some (some (.ref f52)))
    (l52 : K.lookup f52 = some ⟨oc52, od52, .func (PySem.W.fnOf "_law_used" "_law_used" (defArgs sUsed) (defBody sUsed) (defScope sUsed) .none kV52 dc52 pm52 an52 cd52 ct52), sl52⟩)
    (c52 : PySem.W.codeIn K cd52 "_law_used" = true)
    (k52 : PySem.W.keepIn K (.ref f52) = true)
    (a53 : PySem.W.nsIn K mainGlobals "_law_made" = some (some (.ref f53)))
    (l53 : K.lookup f53 = some ⟨oc53, od53, .func (PySem.W.fnOf "_law_made" "_law_made" (defArgs sLawMade) (defBody sLawMade) (defScope sLawMade) .none kV53 dc53 pm53 an53 cd53 ct53), sl53⟩)
    (c53 : PySem.W.codeIn K cd53 "_law_made" = true)
    (k53 : PySem.W.keepIn K (.ref f53) = true)
    (a54 : PySem.W.nsIn K mainGlobals "_law_program" = some (some (.ref f54)))
    (l54 : K.lookup f54 = some ⟨oc54, od54, .func (PySem.W.fnOf "_law_program" "_law_program" (defArgs sLawProg) (defBody sLawProg) (defScope sLawProg) .none kV54 dc54 pm54 an54 cd54 ct54), sl54⟩)
    (c54 : PySem.W.codeIn K cd54 "_law_program" = true)
    (k54 : PySem.W.keepIn K (.ref f54) = true)
    (a55 : PySem.W.nsIn K mainGlobals "_law_row" = some (some (.ref f55)))
    (l55 : K.lookup f55 = some ⟨oc55, od55, .func (PySem.W.fnOf "_law_row" "_law_row" (defArgs sLawRow) (defBody sLawRow) (defScope sLawRow) .none kV55 dc55 pm55 an55 cd55 ct55), sl55⟩)
    (c55 : PySem.W.codeIn K cd55 "_law_row" = true)
    (k55 : PySem.W.keepIn K (.ref f55) = true)
    (a56 : PySem.W.nsIn K mainGlobals "_law_many" = some (some (.ref f56)))
    (l56 : K.lookup f56 = some ⟨oc56, od56, .func (PySem.W.fnOf "_law_many" "_law_many" (defArgs sLawMany) (defBody sLawMany) (defScope sLawMany) .none kV56 dc56 pm56 an56 cd56 ct56), sl56⟩)
    (c56 : PySem.W.codeIn K cd56 "_law_many" = true)
    (k56 : PySem.W.keepIn K (.ref f56) = true)
    (a57 : PySem.W.nsIn K mainGlobals "_law_words" = some (some (.ref f57)))
    (l57 : K.lookup f57 = some ⟨oc57, od57, .func (PySem.W.fnOf "_law_words" "_law_words" (defArgs sLawWords) (defBody sLawWords) (defScope sLawWords) .none kV57 dc57 pm57 an57 cd57 ct57), sl57⟩)
    (c57 : PySem.W.codeIn K cd57 "_law_words" = true)
    (k57 : PySem.W.keepIn K (.ref f57) = true)
    (a58 : PySem.W.nsIn K mainGlobals "_law_drawn" = some (some (.ref f58)))
    (l58 : K.lookup f58 = some ⟨oc58, od58, .func (PySem.W.fnOf "_law_drawn" "_law_drawn" (defArgs sDrawn) (defBody sDrawn) (defScope sDrawn) .none kV58 dc58 pm58 an58 cd58 ct58), sl58⟩)
    (c58 : PySem.W.codeIn K cd58 "_law_drawn" = true)
    (k58 : PySem.W.keepIn K (.ref f58) = true)
    (a59 : PySem.W.nsIn K mainGlobals "_law_all" = some (some (.ref f59)))
    (l59 : K.lookup f59 = some ⟨oc59, od59, .func (PySem.W.fnOf "_law_all" "_law_all" (defArgs sAll) (defBody sAll) (defScope sAll) .none kV59 dc59 pm59 an59 cd59 ct59), sl59⟩)
    (c59 : PySem.W.codeIn K cd59 "_law_all" = true)
    (k59 : PySem.W.keepIn K (.ref f59) = true)
    (a60 : PySem.W.nsIn K mainGlobals "_law_forms" = some (some (.ref f60)))
    (l60 : K.lookup f60 = some ⟨oc60, od60, .func (PySem.W.fnOf "_law_forms" "_law_forms" (defArgs sForms) (defBody sForms) (defScope sForms) .none kV60 dc60 pm60 an60 cd60 ct60), sl60⟩)
    (c60 : PySem.W.codeIn K cd60 "_law_forms" = true)
    (k60 : PySem.W.keepIn K (.ref f60) = true)
    (a61 : PySem.W.nsIn K mainGlobals "law" = some (some (.ref f61)))
    (l61 : K.lookup f61 = some ⟨oc61, od61, .func (PySem.W.fnOf "law" "law" (defArgs sLaw) (defBody sLaw) (defScope sLaw) .none kV61 dc61 pm61 an61 cd61 ct61), sl61⟩)
    (c61 : PySem.W.codeIn K cd61 "law" = true)
    (k61 : PySem.W.keepIn K (.ref f61) = true)
    (a36 : PySem.W.nsIn K mainGlobals "run" = some (some (.ref f36)))
    (l36 : K.lookup f36 = some ⟨oc36, od36, .func (PySem.W.fnOf "run" "run" (defArgs sRun) (defBody sRun) (defScope sRun) (.ref dT) kV36 dc36 pm36 an36 cd36 ct36), sl36⟩)
    (lD : K.lookup dT = some ⟨ocD, odD, .seq #[.none] nD, slD⟩)
    (c36 : PySem.W.codeIn K cd36 "run" = true)
    (k36 : PySem.W.keepIn K (.ref f36) = true)
    (aC : PySem.W.nsIn K mainGlobals "Longer" = some (some (.ref C)))
    (a100 : PySem.W.findIn K (.ref C) "__init__" = some (some (.ref f100)))
    (i100 : PySem.W.isFn K (.ref f100) = true)
    (l100 : K.lookup f100 = some ⟨oc100, od100, .func (PySem.W.fnOf "__init__" "Longer.__init__" (defArgs sLoInit) (defBody sLoInit) (defScope sLoInit) .none kV100 dc100 pm100 an100 cd100 ct100), sl100⟩)
    (c100 : PySem.W.codeIn K cd100 "Longer.__init__" = true)
    (k100 : PySem.W.keepIn K (.ref f100) = true)
    (a101 : PySem.W.findIn K (.ref C) "spend" = some (some (.ref f101)))
    (i101 : PySem.W.isFn K (.ref f101) = true)
    (l101 : K.lookup f101 = some ⟨oc101, od101, .func (PySem.W.fnOf "spend" "Longer.spend" (defArgs sSpend) (defBody sSpend) (defScope sSpend) .none kV101 dc101 pm101 an101 cd101 ct101), sl101⟩)
    (c101 : PySem.W.codeIn K cd101 "Longer.spend" = true)
    (k101 : PySem.W.keepIn K (.ref f101) = true)
    (a102 : PySem.W.findIn K (.ref C) "made" = some (some (.ref f102)))
    (i102 : PySem.W.isFn K (.ref f102) = true)
    (l102 : K.lookup f102 = some ⟨oc102, od102, .func (PySem.W.fnOf "made" "Longer.made" (defArgs sMade) (defBody sMade) (defScope sMade) .none kV102 dc102 pm102 an102 cd102 ct102), sl102⟩)
    (c102 : PySem.W.codeIn K cd102 "Longer.made" = true)
    (k102 : PySem.W.keepIn K (.ref f102) = true)
    (a103 : PySem.W.findIn K (.ref C) "along" = some (some (.ref f103)))
    (i103 : PySem.W.isFn K (.ref f103) = true)
    (l103 : K.lookup f103 = some ⟨oc103, od103, .func (PySem.W.fnOf "along" "Longer.along" (defArgs sAlong) (defBody sAlong) (defScope sAlong) .none kV103 dc103 pm103 an103 cd103 ct103), sl103⟩)
    (c103 : PySem.W.codeIn K cd103 "Longer.along" = true)
    (k103 : PySem.W.keepIn K (.ref f103) = true)
    (pg : PySem.W.plainGet K C Str.empty = true)
    (hd : PySem.W.hasDictIn K C = true)
    (po : PySem.W.plainOver K C = true)
    (sa : PySem.W.findIn K (.ref C) "__setattr__" = some (some (.builtin "object.__setattr__")))
    (mk : PySem.W.makesIn K C = true)
    (kc : PySem.W.keepIn K (.ref C) = true)
    (nL : PySem.W.findIn K (.ref C) "left" = some none)
    (aO : PySem.W.nsIn K mainGlobals "ONE" = some (some (.ref cO)))
    (lO : K.lookup cO = some ⟨.type "tuple", odO, .seq #[.str "one" tO] nO, slO⟩)
    (aT : PySem.W.nsIn K mainGlobals "THING" = some (some (.ref cT)))
    (lT : K.lookup cT = some ⟨.type "tuple", odT, .seq #[.str "thing" tT] nT, slT⟩)
    (q0 : PySem.W.nsIn K mainGlobals "MOST_STEPS" = some (some (.int 200 t0)))
    (q1 : PySem.W.nsIn K mainGlobals "MOST_PARTS_steps" = some (some (.int 1500 t1)))
    (q2 : PySem.W.nsIn K mainGlobals "MOST_DEEP_steps" = some (some (.int 100 t2)))
    (q3 : PySem.W.nsIn K mainGlobals "MOST_PARTS_longs" = some (some (.int 1500 t3)))
    (q4 : PySem.W.nsIn K mainGlobals "MOST_DEEP_longs" = some (some (.int 100 t4)))
    (z_len : PySem.W.nsIn K mainGlobals "len" = some none)
    (z_reversed : PySem.W.nsIn K mainGlobals "reversed" = some none)
    (z_range : PySem.W.nsIn K mainGlobals "range" = some none)
    (z_enumerate : PySem.W.nsIn K mainGlobals "enumerate" = some none)
    (z_str : PySem.W.nsIn K mainGlobals "str" = some none)
    (z_int : PySem.W.nsIn K mainGlobals "int" = some none)
    (z_list : PySem.W.nsIn K mainGlobals "list" = some none)
    (z_isinstance : PySem.W.nsIn K mainGlobals "isinstance" = some none)
    (z_tuple : PySem.W.nsIn K mainGlobals "tuple" = some none)
    (z_max : PySem.W.nsIn K mainGlobals "max" = some none)
    (z_min : PySem.W.nsIn K mainGlobals "min" = some none)
    (z_sum : PySem.W.nsIn K mainGlobals "sum" = some none)
    : ∃ fd : FuncData, (∀ (s : Shared) (v : Value), BindsTo s fd ⟨[v], []⟩ [("_law_script", v)]) ∧ ∀ base : Heap, K.In base → base.Ns mainGlobals mg → FnOk l.prog w K mg base CX0 167 fa fd ["_law_script"] (spLaw K) := by
  have e := hfa.symm.trans (PySem.W.mg_of X G a61)
  cases e
  have D8 : Def K mg "inner" sInner ["program"] f8 _ := def_mk X G (ps := ["program"]) a8 l8 c8 k8 fun _ _ _ _ _ _ us hl => match us, hl with | [_], _ => rfl
  have D9 : Def K mg "parts_of" sParts ["program"] f9 _ := def_mk X G (ps := ["program"]) a9 l9 c9 k9 fun _ _ _ _ _ _ us hl => match us, hl with | [_], _ => rfl
  have D10 : Def K mg "deep_of" sDeep ["program"] f10 _ := def_mk X G (ps := ["program"]) a10 l10 c10 k10 fun _ _ _ _ _ _ us hl => match us, hl with | [_], _ => rfl
  have D11 : Def K mg "part_at" sPartAt ["program", "place"] f11 _ := def_mk X G (ps := ["program", "place"]) a11 l11 c11 k11 fun _ _ _ _ _ _ us hl => match us, hl with | [_, _], _ => rfl
  have D12 : Def K mg "with_inner" sWithInner ["program", "some"] f12 _ := def_mk X G (ps := ["program", "some"]) a12 l12 c12 k12 fun _ _ _ _ _ _ us hl => match us, hl with | [_, _], _ => rfl
  have D13 : Def K mg "with_part" sWithPart ["program", "place", "part"] f13 _ := def_mk X G (ps := ["program", "place", "part"]) a13 l13 c13 k13 fun _ _ _ _ _ _ us hl => match us, hl with | [_, _, _], _ => rfl
  have D15 : Def K mg "known_as" sKnownAs ["known", "name"] f15 _ := def_mk X G (ps := ["known", "name"]) a15 l15 c15 k15 fun _ _ _ _ _ _ us hl => match us, hl with | [_, _], _ => rfl
  have D16 : Def K mg "kind_here" sKindHere ["known", "program", "some"] f16 _ := def_mk X G (ps := ["known", "program", "some"]) a16 l16 c16 k16 fun _ _ _ _ _ _ us hl => match us, hl with | [_, _, _], _ => rfl
  have D17 : Def K mg "kind_within" sKindWithin ["known", "program", "place"] f17 _ := def_mk X G (ps := ["known", "program", "place"]) a17 l17 c17 k17 fun _ _ _ _ _ _ us hl => match us, hl with | [_, _, _], _ => rfl
  have D18 : Def K mg "kind_of" sKindOf ["row", "program"] f18 _ := def_mk X G (ps := ["row", "program"]) a18 l18 c18 k18 fun _ _ _ _ _ _ us hl => match us, hl with | [_, _], _ => rfl
  have D19 : Def K mg "tidied_within" sTidiedWithin ["program", "taken"] f19 _ := def_mk X G (ps := ["program", "taken"]) a19 l19 c19 k19 fun _ _ _ _ _ _ us hl => match us, hl with | [_, _], _ => rfl
  have D20 : Def K mg "tidied" sTidied ["program"] f20 _ := def_mk X G (ps := ["program"]) a20 l20 c20 k20 fun _ _ _ _ _ _ us hl => match us, hl with | [_], _ => rfl
  have D22 : Def K mg "can_step" sCanStep ["part"] f22 _ := def_mk X G (ps := ["part"]) a22 l22 c22 k22 fun _ _ _ _ _ _ us hl => match us, hl with | [_], _ => rfl
  have D23 : Def K mg "put_places" sPutPlaces ["part", "place", "found"] f23 _ := def_mk X G (ps := ["part", "place", "found"]) a23 l23 c23 k23 fun _ _ _ _ _ _ us hl => match us, hl with | [_, _, _], _ => rfl
  have D24 : Def K mg "step_places" sStepPlaces ["program"] f24 _ := def_mk X G (ps := ["program"]) a24 l24 c24 k24 fun _ _ _ _ _ _ us hl => match us, hl with | [_], _ => rfl
  have D29 : Def K mg "name_count" sNameCount ["part", "name"] f29 _ := def_mk X G (ps := ["part", "name"]) a29 l29 c29 k29 fun _ _ _ _ _ _ us hl => match us, hl with | [_, _], _ => rfl
  have D30 : Def K mg "with_given" sWithGiven ["part", "name", "given"] f30 _ := def_mk X G (ps := ["part", "name", "given"]) a30 l30 c30 k30 fun _ _ _ _ _ _ us hl => match us, hl with | [_, _, _], _ => rfl
  have D31 : Def K mg "what_comes" sWhatComes ["part"] f31 _ := def_mk X G (ps := ["part"]) a31 l31 c31 k31 fun _ _ _ _ _ _ us hl => match us, hl with | [_], _ => rfl
  have D32 : Def K mg "parts_that_come" sPartsThat ["program", "part"] f32 _ := def_mk X G (ps := ["program", "part"]) a32 l32 c32 k32 fun _ _ _ _ _ _ us hl => match us, hl with | [_, _], _ => rfl
  have D33 : Def K mg "done_at" sDoneAt ["program", "place"] f33 _ := def_mk X G (ps := ["program", "place"]) a33 l33 c33 k33 fun _ _ _ _ _ _ us hl => match us, hl with | [_, _], _ => rfl
  have D34 : Def K mg "stepped" sStepped ["program", "place"] f34 _ := def_mk X G (ps := ["program", "place"]) a34 l34 c34 k34 fun _ _ _ _ _ _ us hl => match us, hl with | [_, _], _ => rfl
  have D35 : Def K mg "next_place" sNextPlace ["places", "picks", "number"] f35 _ := def_mk X G (ps := ["places", "picks", "number"]) a35 l35 c35 k35 fun _ _ _ _ _ _ us hl => match us, hl with | [_, _, _], _ => rfl
  have D40 : Def K mg "taken_name" sTakenName ["takes"] f40 _ := def_mk X G (ps := ["takes"]) a40 l40 c40 k40 fun _ _ _ _ _ _ us hl => match us, hl with | [_], _ => rfl
  have D41 : Def K mg "is_long_here" sIsLongHere ["known", "kind", "program", "takes"] f41 _ := def_mk X G (ps := ["known", "kind", "program", "takes"]) a41 l41 c41 k41 fun _ _ _ _ _ _ us hl => match us, hl with | [_, _, _, _], _ => rfl
  have D42 : Def K mg "gone_along" sGoneAlong ["known", "program", "takes"] f42 _ := def_mk X G (ps := ["known", "program", "takes"]) a42 l42 c42 k42 fun _ _ _ _ _ _ us hl => match us, hl with | [_, _, _], _ => rfl
  have D43 : Def K mg "is_long" sIsLong ["row", "kind", "program"] f43 _ := def_mk X G (ps := ["row", "kind", "program"]) a43 l43 c43 k43 fun _ _ _ _ _ _ us hl => match us, hl with | [_, _, _], _ => rfl
  have D45 : Def K mg "long_form" sLongForm ["row", "program"] f45 _ := def_mk X G (ps := ["row", "program"]) a45 l45 c45 k45 fun _ _ _ _ _ _ us hl => match us, hl with | [_, _], _ => rfl
  have D47 : Def K mg "_law_pool" sPool ["_law_script", "_law_k"] f47 _ := def_mk X G (ps := ["_law_script", "_law_k"]) a47 l47 c47 k47 fun _ _ _ _ _ _ us hl => match us, hl with | [_, _], _ => rfl
  have D48 : Def K mg "_law_take" sTake ["_law_pool_here", "_law_many_here"] f48 _ := def_mk X G (ps := ["_law_pool_here", "_law_many_here"]) a48 l48 c48 k48 fun _ _ _ _ _ _ us hl => match us, hl with | [_, _], _ => rfl
  have D49 : Def K mg "_law_kind" sLawKind ["_law_pool_here", "_law_leaves", "_law_marks"] f49 _ := def_mk X G (ps := ["_law_pool_here", "_law_leaves", "_law_marks"]) a49 l49 c49 k49 fun _ _ _ _ _ _ us hl => match us, hl with | [_, _, _], _ => rfl
  have D50 : Def K mg "_law_seen" sSeen ["_law_known"] f50 _ := def_mk X G (ps := ["_law_known"]) a50 l50 c50 k50 fun _ _ _ _ _ _ us hl => match us, hl with | [_], _ => rfl
  have D51 : Def K mg "_law_uses" sUses ["_law_kind_here", "_law_goal", "_law_name"] f51 _ := def_mk X G (ps := ["_law_kind_here", "_law_goal", "_law_name"]) a51 l51 c51 k51 fun _ _ _ _ _ _ us hl => match us, hl with | [_, _, _], _ => rfl
  have D52 : Def K mg "_law_used" sUsed ["_law_pool_here", "_law_known", "_law_goal", "_law_room"] f52 _ := def_mk X G (ps := ["_law_pool_here", "_law_known", "_law_goal", "_law_room"]) a52 l52 c52 k52 fun _ _ _ _ _ _ us hl => match us, hl with | [_, _, _, _], _ => rfl
  have D53 : Def K mg "_law_made" sLawMade ["_law_pool_here", "_law_known", "_law_goal", "_law_room"] f53 _ := def_mk X G (ps := ["_law_pool_here", "_law_known", "_law_goal", "_law_room"]) a53 l53 c53 k53 fun _ _ _ _ _ _ us hl => match us, hl with | [_, _, _, _], _ => rfl
  have D54 : Def K mg "_law_program" sLawProg ["_law_pool_here", "_law_known", "_law_goal", "_law_room"] f54 _ := def_mk X G (ps := ["_law_pool_here", "_law_known", "_law_goal", "_law_room"]) a54 l54 c54 k54 fun _ _ _ _ _ _ us hl => match us, hl with | [_, _, _, _], _ => rfl
  have D55 : Def K mg "_law_row" sLawRow ["_law_pool_here"] f55 _ := def_mk X G (ps := ["_law_pool_here"]) a55 l55 c55 k55 fun _ _ _ _ _ _ us hl => match us, hl with | [_], _ => rfl
  have D56 : Def K mg "_law_many" sLawMany ["_law_program_here"] f56 _ := def_mk X G (ps := ["_law_program_here"]) a56 l56 c56 k56 fun _ _ _ _ _ _ us hl => match us, hl with | [_], _ => rfl
  have D57 : Def K mg "_law_words" sLawWords [] f57 _ := def_mk X G (ps := []) a57 l57 c57 k57 fun _ _ _ _ _ _ us hl => match us, hl with | [], _ => rfl
  have D58 : Def K mg "_law_drawn" sDrawn ["_law_pool_here", "_law_row_here", "_law_most"] f58 _ := def_mk X G (ps := ["_law_pool_here", "_law_row_here", "_law_most"]) a58 l58 c58 k58 fun _ _ _ _ _ _ us hl => match us, hl with | [_, _, _], _ => rfl
  have D59 : Def K mg "_law_all" sAll ["_law_row_here", "_law_program_here", "_law_picks"] f59 _ := def_mk X G (ps := ["_law_row_here", "_law_program_here", "_law_picks"]) a59 l59 c59 k59 fun _ _ _ _ _ _ us hl => match us, hl with | [_, _, _], _ => rfl
  have D60 : Def K mg "_law_forms" sForms ["_law_row_here", "_law_program_here", "_law_form"] f60 _ := def_mk X G (ps := ["_law_row_here", "_law_program_here", "_law_form"]) a60 l60 c60 k60 fun _ _ _ _ _ _ us hl => match us, hl with | [_, _, _], _ => rfl
  have D61 : Def K mg "law" sLaw ["_law_script"] fa _ := def_mk X G (ps := ["_law_script"]) a61 l61 c61 k61 fun _ _ _ _ _ _ us hl => match us, hl with | [_], _ => rfl
  have D100 : DefM K C "__init__" "Longer.__init__" sLoInit ["self"] f100 _ := defm_mk (ps := ["self"]) a100 i100 l100 c100 k100 fun _ _ _ _ _ _ us hl => match us, hl with | [_], _ => rfl
  have D101 : DefM K C "spend" "Longer.spend" sSpend ["self", "nest"] f101 _ := defm_mk (ps := ["self", "nest"]) a101 i101 l101 c101 k101 fun _ _ _ _ _ _ us hl => match us, hl with | [_, _], _ => rfl
  have D102 : DefM K C "made" "Longer.made" sMade ["self", "known", "kind", "program", "nest"] f102 _ := defm_mk (ps := ["self", "known", "kind", "program", "nest"]) a102 i102 l102 c102 k102 fun _ _ _ _ _ _ us hl => match us, hl with | [_, _, _, _, _], _ => rfl
  have D103 : DefM K C "along" "Longer.along" sAlong ["self", "known", "program", "nest"] f103 _ := defm_mk (ps := ["self", "known", "program", "nest"]) a103 i103 l103 c103 k103 fun _ _ _ _ _ _ us hl => match us, hl with | [_, _, _, _], _ => rfl
  have Dr := run_mk X G a36 l36 lD c36 k36
  have T : LoT K mg C := ⟨⟨pg, hd, po, sa⟩, nL, PySem.W.mg_of X G aC⟩
  have hO := sqt_k lO
  have hT := sqt_k lT
  have mO := PySem.W.mg_of X G aO
  have mT := PySem.W.mg_of X G aT
  have m_len := PySem.W.mg_none_of X G z_len
  have m_reversed := PySem.W.mg_none_of X G z_reversed
  have m_range := PySem.W.mg_none_of X G z_range
  have m_enumerate := PySem.W.mg_none_of X G z_enumerate
  have m_str := PySem.W.mg_none_of X G z_str
  have m_int := PySem.W.mg_none_of X G z_int
  have m_list := PySem.W.mg_none_of X G z_list
  have m_isinstance := PySem.W.mg_none_of X G z_isinstance
  have m_tuple := PySem.W.mg_none_of X G z_tuple
  have m_max := PySem.W.mg_none_of X G z_max
  have m_min := PySem.W.mg_none_of X G z_min
  have m_sum := PySem.W.mg_none_of X G z_sum
  have c_0 := PySem.W.mg_of X G q0
  have c_1 := PySem.W.mg_of X G q1
  have c_2 := PySem.W.mg_of X G q2
  have c_3 := PySem.W.mg_of X G q3
  have c_4 := PySem.W.mg_of X G q4
  refine ⟨PySem.W.fnOf "law" "law" (defArgs sLaw) (defBody sLaw) (defScope sLaw) .none kV61 dc61 pm61 an61 cd61 ct61, fun s v => .of_eq rfl, fun base _ _ => ?_⟩
  have Gi := ok_inner (P := l.prog) (w := w) (base := base) D8 m_list
  have Gparts := ok_parts D9 D8 Gi m_sum 90
  have Gdeep := ok_deep D10 D8 Gi m_max 90
  have Gpa := ok_part_at D11 D8 Gi m_len
  have Gwi := ok_with_inner (P := l.prog) (w := w) (base := base) D12 m_tuple
  have Gwp := ok_with_part D13 D8 Gi D12 Gwi 90
  have Gka := ok_known_as (P := l.prog) (w := w) (base := base) D15 m_reversed
  have Gkh := ok_kind_here D16 D15 Gka mO hO m_int
  have Gko := ok_kind_of D18 D17 (ok_kind_within D17 D8 Gi D16 Gkh m_enumerate 90) m_list
  have Gt := ok_tidied D20 D19 (ok_tidW D19 D8 Gi D12 Gwi m_reversed m_range m_len m_str 90)
  have Gcs := ok_can_step (P := l.prog) (w := w) (base := base) D22
  have Gsp := ok_places D24 D23 (ok_put D23 D8 Gi D22 Gcs m_enumerate 90)
  have Gnc := ok_count D29 D8 Gi m_sum 90
  have Gwc := ok_comes D31 D30 (ok_given D30 D8 Gi D12 Gwi 90) m_int
  have Gpt := ok_pthat D32 D9 Gparts D31 Gwc D29 Gnc
  have Gd := ok_done D33 D20 Gt D13 Gwp D31 Gwc D11 Gpa
  have Gst := ok_stepped D34 D20 Gt D11 Gpa D22 Gcs D33 Gd
  have Gnx := ok_next (P := l.prog) (w := w) (base := base) D35 m_len
  have Grun := ok_run Dr.F D20 Gt D24 Gsp D35 Gnx D32 Gpt D11 Gpa D33 Gd D10 Gdeep m_len c_0 c_1 c_2
  have Gtn := ok_taken (P := l.prog) (w := w) (base := base) D40 m_str
  have Gil := ok_is_long D43 D41 (ok_long_all D41 D42 D40 Gtn mT hT D15 Gka m_int 82 81 (by omega)).2 m_list
  have Gsd := ok_spend (P := l.prog) (w := w) (base := base) D101 T c_4
  have Gin := ok_lo_init (P := l.prog) (w := w) (base := base) D100.F T c_3
  have Gmd := (ok_lo_all D102 D103 T D101 Gsd mT hT m_len m_str D15 Gka m_int 82 81 (by omega)).2
  have Glf := ok_long_form D45 D18 Gko Dr Grun D20 Gt D102 Gmd T ⟨mk, a100, i100, kc⟩ D100.b Gin D9 Gparts D10 Gdeep m_list c_3 c_4
  have Gpool := ok_pool (P := l.prog) (w := w) (base := base) D47 m_len
  have Gtk := ok_take (P := l.prog) (w := w) (K := K) (base := base) D48
  have Gk := ok_law_kind D49 D48 Gtk m_len 4
  have Gpg := ok_prog_all (P := l.prog) (w := w) (base := base) D54 D53 D52 D50 D51 D49 D48 m_int m_len
  have Grow := ok_law_row D55 D49 Gk D48 Gtk
  have Gwd := ok_words (P := l.prog) (w := w) (base := base) D57
  have Gmn := ok_many D56 D57 Gwd m_isinstance m_tuple
  have Gdr := ok_drawn D58 D49 Gk D48 Gtk D54 Gpg D56 Gmn m_list
  have Gal := ok_all D59 D45 Glf Dr Grun m_list
  have Gfm := ok_forms D60 D45 Glf D24 Gsp D34 Gst
  exact ok_law D61 D47 Gpool D55 Grow D58 Gdr D59 Gal D48 Gtk D24 Gsp D18 Gko D43 Gil D45 Glf D60 Gfm m_range m_max m_min m_len
theorem walk {l : PySem.W.OpenLaw} {q : Program} {loose : List Str} {XP : (Str → Option Value) → Heap → Prop} {YP : World → Heap → Prop} {d : DefRec} {K : Params → PySem.W.Frag} (hn : l.most = some 63) (hdf : d.params.defaults = [])
    (hY : ∀ (w : World) (h : Heap), YP w h → (K w.params).In h)
    (F : ∀ (w : World) (mg : Str → Option Value) (fa : Addr) (h : Heap), (K w.params).In h → h.Ns mainGlobals mg → mg d.name = some (.ref fa) →
      ∃ fd : FuncData, (∀ (s : Shared) (u : Value), BindsTo s fd ⟨[u], []⟩ [("_law_script", u)]) ∧ ∀ base : Heap, (K w.params).In base → base.Ns mainGlobals mg → FnOk l.prog w (K w.params) mg base CX0 167 fa fd ["_law_script"] (spLaw (K w.params))) :
    PySem.W.WalkO q loose XP YP l.row.toRowW d [] (fun f vs => PySem.call f vs) :=
  L2.walk_of (n := 63) (k := 167) (x := "_law_script") (CX := fun _ => CX0) (sp := fun w => spLaw (K w.params)) hn (by decide) hdf ⟨rfl, by decide, by decide⟩ hY F (fun _ _ a ns hl _ hS => ⟨a, ns, rfl, hS, hl, fun _ => rfl⟩) fun _ _ _ _ _ z => z
end KW

open PySem PySem.W PyProof.Rows
set_option maxRecDepth 100000 in
set_option maxHeartbeats 0 in
theorem PySem.Challenge.cw_kindfill_k23_whole_forms_by_any_steps_holds : PySem.Challenge.rw_kindfill_k23_whole_forms_by_any_steps.Holds := by
  w_on; o_law; k_head; (case hw => w_witness2)
  k_fill
  refine KW.walk (l := PySem.Challenge.rw_kindfill_k23_whole_forms_by_any_steps) rfl rfl (fun w h Y => PySem.W.kIn_of Y) ?F
  case F =>
    intro w mg fa h KX G hmg
    refine' KW.all_mk KX G hmg ?a8 ?l8 ?c8 ?k8 ?a9 ?l9 ?c9 ?k9 ?a10 ?l10 ?c10 ?k10 ?a11 ?l11 ?c11 ?k11 ?a12 ?l12 ?c12 ?k12 ?a13 ?l13 ?c13 ?k13 ?a15 ?l15 ?c15 ?k15 ?a16 ?l16 ?c16 ?k16 ?a17 ?l17 ?c17 ?k17 ?a18 ?l18 ?c18 ?k18 ?a19 ?l19 ?c19 ?k19 ?a20 ?l20 ?c20 ?k20 ?a22 ?l22 ?c22 ?k22 ?a23 ?l23 ?c23 ?k23 ?a24 ?l24 ?c24 ?k24 ?a29 ?l29 ?c29 ?k29 ?a30 ?l30 ?c30 ?k30 ?a31 ?l31 ?c31 ?k31 ?a32 ?l32 ?c32 ?k32 ?a33 ?l33 ?c33 ?k33 ?a34 ?l34 ?c34 ?k34 ?a35 ?l35 ?c35 ?k35 ?a40 ?l40 ?c40 ?k40 ?a41 ?l41 ?c41 ?k41 ?a42 ?l42 ?c42 ?k42 ?a43 ?l43 ?c43 ?k43 ?a45 ?l45 ?c45 ?k45 ?a47 ?l47 ?c47 ?k47 ?a48 ?l48 ?c48 ?k48 ?a49 ?l49 ?c49 ?k49 ?a50 ?l50 ?c50 ?k50 ?a51 ?l51 ?c51 ?k51 ?a52 ?l52 ?c52 ?k52 ?a53 ?l53 ?c53 ?k53 ?a54 ?l54 ?c54 ?k54 ?a55 ?l55 ?c55 ?k55 ?a56 ?l56 ?c56 ?k56 ?a57 ?l57 ?c57 ?k57 ?a58 ?l58 ?c58 ?k58 ?a59 ?l59 ?c59 ?k59 ?a60 ?l60 ?c60 ?k60 ?a61 ?l61 ?c61 ?k61 ?a36 ?l36 ?lD ?c36 ?k36 ?aC ?a100 ?i100 ?l100 ?c100 ?k100 ?a101 ?i101 ?l101 ?c101 ?k101 ?a102 ?i102 ?l102 ?c102 ?k102 ?a103 ?i103 ?l103 ?c103 ?k103 ?pg ?hd ?po ?sa ?mk ?kc ?nL ?aO ?lO ?aT ?lT ?q0 ?q1 ?q2 ?q3 ?q4 ?z_len ?z_reversed ?z_range ?z_enumerate ?z_str ?z_int ?z_list ?z_isinstance ?z_tuple ?z_max ?z_min ?z_sum
    (case a8 => k_is); (case l8 => k_is); (case c8 => k_is); (case k8 => k_is); (case a9 => k_is); (case l9 => k_is); (case c9 => k_is); (case k9 => k_is)
    (case a10 => k_is); (case l10 => k_is); (case c10 => k_is); (case k10 => k_is); (case a11 => k_is); (case l11 => k_is); (case c11 => k_is); (case k11 => k_is)
    (case a12 => k_is); (case l12 => k_is); (case c12 => k_is); (case k12 => k_is); (case a13 => k_is); (case l13 => k_is); (case c13 => k_is); (case k13 => k_is)
    (case a15 => k_is); (case l15 => k_is); (case c15 => k_is); (case k15 => k_is); (case a16 => k_is); (case l16 => k_is); (case c16 => k_is); (case k16 => k_is)
    (case a17 => k_is); (case l17 => k_is); (case c17 => k_is); (case k17 => k_is); (case a18 => k_is); (case l18 => k_is); (case c18 => k_is); (case k18 => k_is)
    (case a19 => k_is); (case l19 => k_is); (case c19 => k_is); (case k19 => k_is); (case a20 => k_is); (case l20 => k_is); (case c20 => k_is); (case k20 => k_is)
    (case a22 => k_is); (case l22 => k_is); (case c22 => k_is); (case k22 => k_is); (case a23 => k_is); (case l23 => k_is); (case c23 => k_is); (case k23 => k_is)
    (case a24 => k_is); (case l24 => k_is); (case c24 => k_is); (case k24 => k_is); (case a29 => k_is); (case l29 => k_is); (case c29 => k_is); (case k29 => k_is)
    (case a30 => k_is); (case l30 => k_is); (case c30 => k_is); (case k30 => k_is); (case a31 => k_is); (case l31 => k_is); (case c31 => k_is); (case k31 => k_is)
    (case a32 => k_is); (case l32 => k_is); (case c32 => k_is); (case k32 => k_is); (case a33 => k_is); (case l33 => k_is); (case c33 => k_is); (case k33 => k_is)
    (case a34 => k_is); (case l34 => k_is); (case c34 => k_is); (case k34 => k_is); (case a35 => k_is); (case l35 => k_is); (case c35 => k_is); (case k35 => k_is)
    (case a40 => k_is); (case l40 => k_is); (case c40 => k_is); (case k40 => k_is); (case a41 => k_is); (case l41 => k_is); (case c41 => k_is); (case k41 => k_is)
    (case a42 => k_is); (case l42 => k_is); (case c42 => k_is); (case k42 => k_is); (case a43 => k_is); (case l43 => k_is); (case c43 => k_is); (case k43 => k_is)
    (case a45 => k_is); (case l45 => k_is); (case c45 => k_is); (case k45 => k_is); (case a47 => k_is); (case l47 => k_is); (case c47 => k_is); (case k47 => k_is)
    (case a48 => k_is); (case l48 => k_is); (case c48 => k_is); (case k48 => k_is); (case a49 => k_is); (case l49 => k_is); (case c49 => k_is); (case k49 => k_is)
    (case a50 => k_is); (case l50 => k_is); (case c50 => k_is); (case k50 => k_is); (case a51 => k_is); (case l51 => k_is); (case c51 => k_is); (case k51 => k_is)
    (case a52 => k_is); (case l52 => k_is); (case c52 => k_is); (case k52 => k_is); (case a53 => k_is); (case l53 => k_is); (case c53 => k_is); (case k53 => k_is)
    (case a54 => k_is); (case l54 => k_is); (case c54 => k_is); (case k54 => k_is); (case a55 => k_is); (case l55 => k_is); (case c55 => k_is); (case k55 => k_is)
    (case a56 => k_is); (case l56 => k_is); (case c56 => k_is); (case k56 => k_is); (case a57 => k_is); (case l57 => k_is); (case c57 => k_is); (case k57 => k_is)
    (case a58 => k_is); (case l58 => k_is); (case c58 => k_is); (case k58 => k_is); (case a59 => k_is); (case l59 => k_is); (case c59 => k_is); (case k59 => k_is)
    (case a60 => k_is); (case l60 => k_is); (case c60 => k_is); (case k60 => k_is); (case a61 => k_is); (case l61 => k_is); (case c61 => k_is); (case k61 => k_is)
    (case a36 => k_is); (case l36 => k_is); (case lD => k_is); (case c36 => k_is); (case k36 => k_is); (case aC => k_is); (case a100 => k_is); (case i100 => k_is)
    (case l100 => k_is); (case c100 => k_is); (case k100 => k_is); (case a101 => k_is); (case i101 => k_is); (case l101 => k_is); (case c101 => k_is); (case k101 => k_is)
    (case a102 => k_is); (case i102 => k_is); (case l102 => k_is); (case c102 => k_is); (case k102 => k_is); (case a103 => k_is); (case i103 => k_is); (case l103 => k_is)
    (case c103 => k_is); (case k103 => k_is); (case pg => k_is); (case hd => k_is); (case po => k_is); (case sa => k_is); (case mk => k_is); (case kc => k_is)
    (case nL => k_is); (case aO => k_is); (case lO => k_is); (case aT => k_is); (case lT => k_is); (case q0 => k_is); (case q1 => k_is); (case q2 => k_is)
    (case q3 => k_is); (case q4 => k_is); (case z_len => k_is); (case z_reversed => k_is); (case z_range => k_is); (case z_enumerate => k_is); (case z_str => k_is); (case z_int => k_is)
    (case z_list => k_is); (case z_isinstance => k_is); (case z_tuple => k_is); (case z_max => k_is); (case z_min => k_is); (case z_sum => k_is)
