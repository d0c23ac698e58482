import PyProof.Rows.All
import Wide.All
import OpenK.AllK
import Wide.FinOn
import HandS.ForMost
import HandS.Evl
import HandS.IsInst
import HandS.Style
import HandS.Zip
import HandS.Walk
import HandS.TupAny
import HandS.TupMul
import HandS.SortRule
import HandS.Wide
import HandS.Flow
import HandS.Defaults
import KE.GoesMore
import KE.DataMinMax
import HandS.Conv
import HandS.Ends
import HandS.HeadEnd
import HandS.EndBits
import PyProof.ReprRoads
import PyProof.ReprBulk
import PyProof.FitsInt
import KE.KStateDown
import Lean
import HandS.Base
import HandS.Call
import HandS.More
import HandS.Words
import HandS.WordsExc
import HandS.Head0
import HandS.Head1
import HandS.Head2
import HandS.HeadHook1
import HandS.HeadHook2
import HandS.HeadHook3
import HandS.HeadHook4
import PySem.Challenge.RW_roomprofile_k30_whole_small_jobs
set_option Elab.async false
set_option linter.all false
set_option maxRecDepth 100000
set_option maxHeartbeats 0
namespace K30m
/-! pairs (capacity, usage), valleys, the descending list of a list of pairs -/
abbrev Pr := Int × Int
def Strict (D : List Pr) : Prop := D.Pairwise (fun p q => p.1 < q.1 ∧ q.2 < p.2)
def Valleys (D : List Pr) : Prop := D ≠ [] ∧ Strict D
def Covers (P Q : List Pr) : Prop := ∀ q ∈ Q, ∃ p ∈ P, p.1 ≤ q.1 ∧ p.2 ≤ q.2
theorem Covers.refl (P : List Pr) : Covers P P := fun q h => ⟨q, h, Int.le_refl _, Int.le_refl _⟩
theorem Covers.trans {P Q R : List Pr} (a : Covers P Q) (b : Covers Q R) : Covers P R := fun r h => by
  obtain ⟨q, hq, q1, q2⟩ := b r h
  obtain ⟨p, hp, p1, p2⟩ := a q hq
  exact ⟨p, hp, by omega, by omega⟩
theorem Covers.of_sub {P Q : List Pr} (h : ∀ q ∈ Q, q ∈ P) : Covers P Q := fun q hq => ⟨q, h q hq, Int.le_refl _, Int.le_refl _⟩
theorem Covers.append {P Q R : List Pr} (a : Covers P Q) (b : Covers P R) : Covers P (Q ++ R) := fun q h => by
  rcases List.mem_append.mp h with h | h
  · exact a q h
  · exact b q h
/-- in a strict list one pair that lies under another is that one -/
theorem Strict.anti : ∀ {D : List Pr}, Strict D → ∀ p ∈ D, ∀ q ∈ D, p.1 ≤ q.1 → p.2 ≤ q.2 → p = q
  | [], _, p, hp, _, _, _, _ => by cases hp
  | d :: D, h, p, hp, q, hq, h1, h2 => by
    have hd := (List.pairwise_cons.mp h).1
    have hD := (List.pairwise_cons.mp h).2
    rcases List.mem_cons.mp hp with rfl | hp
    · rcases List.mem_cons.mp hq with rfl | hq
      · rfl
      · have := hd q hq; omega
    · rcases List.mem_cons.mp hq with e | hq
      · have := hd p hp; subst e; omega
      · exact Strict.anti hD p hp q hq h1 h2
theorem Strict.sub_of_covers {D E : List Pr} (hD : Strict D) (a : Covers D E) (b : Covers E D) : ∀ d ∈ D, d ∈ E := fun d hd => by
  obtain ⟨e, he, e1, e2⟩ := b d hd
  obtain ⟨d', hd', f1, f2⟩ := a e he
  have := hD.anti d' hd' d hd (by omega) (by omega)
  subst this
  have : e = d' := by
    cases e; cases d'
    simp only [Prod.mk.injEq] at *
    omega
  rw [← this]; exact he
theorem strict_eq : ∀ {D E : List Pr}, Strict D → Strict E → (∀ d ∈ D, d ∈ E) → (∀ e ∈ E, e ∈ D) → D = E
  | [], [], _, _, _, _ => rfl
  | [], e :: E, _, _, _, b => by have := b e List.mem_cons_self; cases this
  | d :: D, [], _, _, a, _ => by have := a d List.mem_cons_self; cases this
  | d :: D, e :: E, hD, hE, a, b => by
    have hd := (List.pairwise_cons.mp hD).1
    have he := (List.pairwise_cons.mp hE).1
    have hde : d = e := by
      rcases List.mem_cons.mp (a d List.mem_cons_self) with h | h
      · exact h
      · rcases List.mem_cons.mp (b e List.mem_cons_self) with h' | h'
        · exact h'.symm
        · have := he d h; have := hd e h'; omega
    subst hde
    have hr : D = E := strict_eq (List.pairwise_cons.mp hD).2 (List.pairwise_cons.mp hE).2
      (fun x hx => by
        rcases List.mem_cons.mp (a x (List.mem_cons_of_mem _ hx)) with h | h
        · have := hd x hx; subst h; omega
        · exact h)
      (fun x hx => by
        rcases List.mem_cons.mp (b x (List.mem_cons_of_mem _ hx)) with h | h
        · have := he x hx; subst h; omega
        · exact h)
    rw [hr]
/-- UNIQUE: two strict lists that cover each other are one -/
theorem Strict.uniq {D E : List Pr} (hD : Strict D) (hE : Strict E) (a : Covers D E) (b : Covers E D) : D = E :=
  strict_eq hD hE (hD.sub_of_covers a b) (hE.sub_of_covers b a)
/-! the scan -/
def stepD (F : List Pr) (p : Pr) : List Pr := match F.getLast? with
  | none => F ++ [p]
  | some q => if p.2 < q.2 then F ++ [p] else F
def scanD (ys : List Pr) : List Pr := ys.foldl stepD []
def lle (p q : Pr) : Bool := decide (p.1 < q.1) || (decide (p.1 = q.1) && decide (p.2 ≤ q.2))
def sortP (P : List Pr) : List Pr := P.mergeSort lle
def desc (P : List Pr) : List Pr := scanD (sortP P)
theorem lle_iff {p q : Pr} : lle p q = true ↔ p.1 < q.1 ∨ (p.1 = q.1 ∧ p.2 ≤ q.2) := by
  simp [lle]
theorem lle_trans (a b c : Pr) (h : lle a b = true) (h' : lle b c = true) : lle a c = true := by
  rw [lle_iff] at *; omega
theorem lle_total (a b : Pr) : (lle a b || lle b a) = true := by
  rw [Bool.or_eq_true, lle_iff, lle_iff]; omega
theorem sortP_perm (P : List Pr) : (sortP P).Perm P := List.mergeSort_perm P lle
theorem sortP_sorted (P : List Pr) : (sortP P).Pairwise (fun p q => lle p q = true) := List.pairwise_mergeSort lle_trans lle_total P
theorem mem_sortP {P : List Pr} {p : Pr} : p ∈ sortP P ↔ p ∈ P := (sortP_perm P).mem_iff
theorem getLast?_concat {α : Type} (F : List α) (p : α) : (F ++ [p]).getLast? = some p := by simp
theorem pw_concat {α : Type} {R : α → α → Prop} {l : List α} {x : α} : (l ++ [x]).Pairwise R ↔ l.Pairwise R ∧ ∀ y ∈ l, R y x := by
  rw [List.pairwise_append]
  constructor
  · rintro ⟨a, _, c⟩; exact ⟨a, fun y hy => c y hy x (by simp)⟩
  · rintro ⟨a, c⟩
    refine ⟨a, List.pairwise_singleton _ _, fun y hy z hz => ?_⟩
    have : z = x := by simpa using hz
    subst this; exact c y hy
/-- what the scan keeps -/
structure ScanOk (ys F : List Pr) : Prop where
  sub : ∀ p ∈ F, p ∈ ys
  cov : Covers F ys
  str : Strict F
theorem Strict.last_le {F : List Pr} {q : Pr} (h : Strict F) (hq : F.getLast? = some q) : ∀ p ∈ F, p.1 ≤ q.1 ∧ q.2 ≤ p.2 := by
  obtain ⟨G, rfl⟩ := List.getLast?_eq_some_iff.mp hq
  intro p hp
  rcases List.mem_append.mp hp with hp | hp
  · have := (pw_concat.mp h).2 p hp; omega
  · have : p = q := by simpa using hp
    subst this; omega
theorem scan_step {ys F : List Pr} {p : Pr} (ok : ScanOk ys F) (hs : ∀ y ∈ ys, lle y p = true) : ScanOk (ys ++ [p]) (stepD F p) := by
  unfold stepD
  cases hl : F.getLast? with
  | none =>
    have hF : F = [] := List.getLast?_eq_none_iff.mp hl
    subst hF
    refine ⟨fun q hq => ?_, fun q hq => ?_, List.pairwise_singleton _ _⟩
    · have : q = p := by simpa using hq
      subst this; simp
    · rcases List.mem_append.mp hq with hq | hq
      · obtain ⟨_, h, _⟩ := ok.cov q hq; cases h
      · have : q = p := by simpa using hq
        subst this; exact ⟨q, by simp, Int.le_refl _, Int.le_refl _⟩
  | some q =>
    have hqF : q ∈ F := List.mem_of_getLast? hl
    have hll := ok.str.last_le hl
    dsimp only
    split
    · rename_i hlt
      refine ⟨fun r hr => ?_, fun r hr => ?_, pw_concat.mpr ⟨ok.str, fun r hr => ?_⟩⟩
      · rcases List.mem_append.mp hr with hr | hr
        · exact List.mem_append_left _ (ok.sub r hr)
        · exact List.mem_append_right _ hr
      · rcases List.mem_append.mp hr with hr | hr
        · obtain ⟨d, hd, e⟩ := ok.cov r hr; exact ⟨d, List.mem_append_left _ hd, e⟩
        · exact ⟨r, List.mem_append_right _ hr, Int.le_refl _, Int.le_refl _⟩
      · have h1 := hll r hr
        have h2 := lle_iff.mp (hs r (ok.sub r hr))
        omega
    · rename_i hlt
      refine ⟨fun r hr => List.mem_append_left _ (ok.sub r hr), fun r hr => ?_, ok.str⟩
      rcases List.mem_append.mp hr with hr | hr
      · exact ok.cov r hr
      · have : r = p := by simpa using hr
        subst this
        have h2 := lle_iff.mp (hs q (ok.sub q hqF))
        exact ⟨q, hqF, by omega, by omega⟩
theorem scan_ok : ∀ (ys : List Pr), ys.Pairwise (fun p q => lle p q = true) → ScanOk ys (scanD ys) := by
  intro ys
  have key : ∀ (zs ys F : List Pr), (ys ++ zs).Pairwise (fun p q => lle p q = true) → ScanOk ys F → ScanOk (ys ++ zs) (zs.foldl stepD F) := by
    intro zs
    induction zs with
    | nil => intro ys F _ ok; simpa using ok
    | cons z zs ih =>
      intro ys F hs ok
      have e : ys ++ z :: zs = (ys ++ [z]) ++ zs := by simp
      rw [e] at hs ⊢
      have hz : ∀ y ∈ ys, lle y z = true := (pw_concat.mp (List.pairwise_append.mp hs).1).2
      exact ih (ys ++ [z]) (stepD F z) hs (scan_step ok hz)
  intro h
  exact key ys [] [] h ⟨by simp, (fun q hq => by cases hq), List.Pairwise.nil⟩
theorem desc_ok (P : List Pr) : ScanOk P (desc P) := by
  have ok := scan_ok (sortP P) (sortP_sorted P)
  exact ⟨fun p hp => mem_sortP.mp (ok.sub p hp), fun q hq => ok.cov q (mem_sortP.mpr hq), ok.str⟩
theorem desc_strict (P : List Pr) : Strict (desc P) := (desc_ok P).str
theorem desc_sub {P : List Pr} : ∀ p ∈ desc P, p ∈ P := (desc_ok P).sub
theorem desc_cov (P : List Pr) : Covers (desc P) P := (desc_ok P).cov
theorem cov_desc (P : List Pr) : Covers P (desc P) := .of_sub (desc_ok P).sub
theorem desc_ne {P : List Pr} (h : P ≠ []) : desc P ≠ [] := fun e => by
  cases P with
  | nil => exact h rfl
  | cons p P =>
    obtain ⟨d, hd, _⟩ := desc_cov (p :: P) p List.mem_cons_self
    rw [e] at hd; cases hd
theorem desc_valleys {P : List Pr} (h : P ≠ []) : Valleys (desc P) := ⟨desc_ne h, desc_strict P⟩
theorem desc_of_strict {D P : List Pr} (h : Strict D) (a : Covers D P) (b : Covers P D) : desc P = D :=
  (desc_strict P).uniq h ((desc_cov P).trans b) (a.trans (cov_desc P))
theorem desc_id {D : List Pr} (h : Strict D) : desc D = D := desc_of_strict h (.refl D) (.refl D)
theorem desc_congr {P Q : List Pr} (a : Covers P Q) (b : Covers Q P) : desc P = desc Q :=
  desc_of_strict (desc_strict Q) ((desc_cov Q).trans b) (a.trans (cov_desc Q))
/-- the sorted list, whoever sorted it -/
theorem sorted_uniq {ys P : List Pr} (hp : ys.Perm P) (hs : ys.Pairwise (fun p q => lle p q = true)) : ys = sortP P := by
  refine List.Perm.eq_of_pairwise (fun a b _ _ h h' => ?_) hs (sortP_sorted P) (hp.trans (sortP_perm P).symm)
  rw [lle_iff] at h h'
  cases a; cases b; simp only [Prod.mk.injEq] at *; omega
theorem length_le_of_sub {α : Type} [DecidableEq α] : ∀ {D P : List α}, D.Nodup → (∀ d ∈ D, d ∈ P) → D.length ≤ P.length
  | [], _, _, _ => Nat.zero_le _
  | d :: D, P, h, s => by
    have hd : d ∈ P := s d List.mem_cons_self
    have hn := List.nodup_cons.mp h
    have := length_le_of_sub (D := D) (P := P.erase d) hn.2 (fun x hx => (List.mem_erase_of_ne (fun e => hn.1 (by rw [← e]; exact hx))).mpr (s x (List.mem_cons_of_mem _ hx)))
    rw [List.length_erase_of_mem hd] at this
    have : 0 < P.length := List.length_pos_of_mem hd
    simp only [List.length_cons]; omega
theorem Strict.nodup {D : List Pr} (h : Strict D) : D.Nodup := h.imp fun {a b} q e => by subst e; omega
theorem desc_length {P Q : List Pr} (a : Covers P Q) (b : Covers Q P) : (desc P).length ≤ Q.length := by
  rw [desc_congr a b]
  exact length_le_of_sub (desc_strict Q).nodup desc_sub
/-! moving -/
def mv (D : List Pr) (k : Int) : List Pr := D.map fun p => (p.1 + k, p.2 + k)
theorem mem_mv {D : List Pr} {k : Int} {p : Pr} : p ∈ mv D k ↔ (p.1 - k, p.2 - k) ∈ D := by
  unfold mv
  rw [List.mem_map]
  constructor
  · rintro ⟨q, hq, rfl⟩
    have : ((q.1 + k) - k, (q.2 + k) - k) = q := by cases q; simp only [Prod.mk.injEq]; omega
    rw [this]; exact hq
  · intro h
    exact ⟨_, h, by cases p; simp only [Prod.mk.injEq]; omega⟩
theorem mv_mv (D : List Pr) (k j : Int) : mv (mv D k) j = mv D (k + j) := by
  unfold mv; rw [List.map_map]; apply List.map_congr_left; intro p _; simp only [Function.comp, Prod.mk.injEq]; omega
theorem mv_zero (D : List Pr) : mv D 0 = D := by
  unfold mv
  have : (fun p : Pr => (p.1 + 0, p.2 + 0)) = id := by funext p; cases p; simp
  rw [this, List.map_id]
theorem mv_inv (D : List Pr) (k : Int) : mv (mv D k) (-k) = D := by rw [mv_mv]; have : k + -k = 0 := by omega
                                                                    rw [this, mv_zero]
theorem mv_inv' (D : List Pr) (k : Int) : mv (mv D (-k)) k = D := by rw [mv_mv]; have : -k + k = 0 := by omega
                                                                     rw [this, mv_zero]
theorem mv_length (D : List Pr) (k : Int) : (mv D k).length = D.length := List.length_map _
theorem mv_ne {D : List Pr} {k : Int} (h : D ≠ []) : mv D k ≠ [] := fun e => h (by cases D <;> simp_all [mv])
theorem mv_append (D E : List Pr) (k : Int) : mv (D ++ E) k = mv D k ++ mv E k := List.map_append
theorem mv_strict {D : List Pr} {k : Int} (h : Strict D) : Strict (mv D k) := by
  unfold Strict mv; rw [List.pairwise_map]; exact h.imp fun {a b} q => by dsimp only; omega
theorem mv_valleys {D : List Pr} {k : Int} (h : Valleys D) : Valleys (mv D k) := ⟨mv_ne h.1, mv_strict h.2⟩
theorem mv_covers {P Q : List Pr} {k : Int} (h : Covers P Q) : Covers (mv P k) (mv Q k) := fun q hq => by
  obtain ⟨p, hp, p1, p2⟩ := h _ (mem_mv.mp hq)
  refine ⟨(p.1 + k, p.2 + k), mem_mv.mpr (by dsimp only; have : (p.1 + k - k, p.2 + k - k) = p := by cases p; simp only [Prod.mk.injEq]; omega
                                             rw [this]; exact hp), ?_, ?_⟩ <;> dsimp only at * <;> omega
theorem mv_desc (P : List Pr) (k : Int) : desc (mv P k) = mv (desc P) k :=
  desc_of_strict (mv_strict (desc_strict P)) (mv_covers (desc_cov P)) (mv_covers (cov_desc P))
/-! first and last -/
def hd (D : List Pr) : Pr := D.headD (0, 0)
def lt (D : List Pr) : Pr := D.getLastD (0, 0)
theorem hd_mem {D : List Pr} (h : D ≠ []) : hd D ∈ D := by cases D with | nil => exact absurd rfl h | cons d D => simp [hd]
theorem lt_eq {D : List Pr} (h : D ≠ []) : D.getLast? = some (lt D) := by
  unfold lt
  cases D with
  | nil => exact absurd rfl h
  | cons d D => simp only [List.getLastD]; exact List.getLast?_eq_getLast (by simp)
theorem lt_mem {D : List Pr} (h : D ≠ []) : lt D ∈ D := List.mem_of_getLast? (lt_eq h)
theorem Valleys.last_le {D : List Pr} (h : Valleys D) : ∀ p ∈ D, p.1 ≤ (lt D).1 ∧ (lt D).2 ≤ p.2 := h.2.last_le (lt_eq h.1)
theorem Valleys.first_le {D : List Pr} (h : Valleys D) : ∀ p ∈ D, (hd D).1 ≤ p.1 ∧ p.2 ≤ (hd D).2 := by
  cases D with
  | nil => exact absurd rfl h.1
  | cons d D =>
    intro p hp
    rcases List.mem_cons.mp hp with rfl | hp
    · exact ⟨Int.le_refl _, Int.le_refl _⟩
    · have := (List.pairwise_cons.mp h.2).1 p hp
      show d.1 ≤ p.1 ∧ p.2 ≤ d.2
      omega
theorem lt_mv {D : List Pr} (h : D ≠ []) (k : Int) : lt (mv D k) = ((lt D).1 + k, (lt D).2 + k) := by
  have e : (mv D k).getLast? = some ((lt D).1 + k, (lt D).2 + k) := by
    unfold mv; rw [List.getLast?_map, lt_eq h]; rfl
  rw [lt_eq (mv_ne h)] at e
  exact Option.some.inj e
theorem hd_mv {D : List Pr} (h : D ≠ []) (k : Int) : hd (mv D k) = ((hd D).1 + k, (hd D).2 + k) := by
  cases D with | nil => exact absurd rfl h | cons d D => rfl
end K30m
namespace K30m
/-! systems of states -/
structure Sys where
  S : Type
  u : S → Int
  st : S → S → Prop
  bot : S
  top : S
inductive Reach (A : Sys) (R : Int) : A.S → A.S → Prop
  | refl {a : A.S} : A.u a ≤ R → Reach A R a a
  | tail {a b c : A.S} : Reach A R a b → A.st b c → A.u c ≤ R → Reach A R a c
section
variable {A : Sys} {R R' : Int} {a b c : A.S}
theorem Reach.last (h : Reach A R a b) : A.u b ≤ R := by cases h <;> assumption
theorem Reach.first (h : Reach A R a b) : A.u a ≤ R := by induction h <;> assumption
theorem Reach.mono (h : Reach A R a b) (l : R ≤ R') : Reach A R' a b := by
  induction h with
  | refl h => exact .refl (by omega)
  | tail _ s h ih => exact .tail ih s (by omega)
theorem Reach.trans (h : Reach A R a b) (h' : Reach A R b c) : Reach A R a c := by
  induction h' with
  | refl _ => exact h
  | tail _ s l ih => exact .tail ih s l
theorem Reach.head {x y : A.S} (s : A.st x y) (l : A.u x ≤ R) (h : Reach A R y c) : Reach A R x c :=
  (Reach.tail (.refl l) s h.first).trans h
end
/-- lattice laws: the usage is modular, single steps stay single steps (or vanish) under sup and inf -/
structure Lat (A : Sys) where
  sup : A.S → A.S → A.S
  inf : A.S → A.S → A.S
  mod : ∀ x y, A.u (sup x y) + A.u (inf x y) = A.u x + A.u y
  sup_comm : ∀ x y, sup x y = sup y x
  inf_comm : ∀ x y, inf x y = inf y x
  sup_assoc : ∀ x y z, sup (sup x y) z = sup x (sup y z)
  inf_assoc : ∀ x y z, inf (inf x y) z = inf x (inf y z)
  sup_inf : ∀ x y, sup x (inf x y) = x
  inf_sup : ∀ x y, inf x (sup x y) = x
  lift : ∀ x y z, A.st x y → sup x z = sup y z ∨ A.st (sup x z) (sup y z)
  cut : ∀ x y z, A.st x y → inf x z = inf y z ∨ A.st (inf x z) (inf y z)
  le : ∀ x y, A.st x y → inf x y = x
  bot_sup : ∀ z, sup A.bot z = z
  top_inf : ∀ z, inf A.top z = z
  here : ∀ x, ∃ R, Reach A R A.bot x
  there : ∀ x, ∃ R, Reach A R x A.top
  low : ∃ B, ∀ x, B ≤ A.u x
  zero : A.u A.bot = 0
section
variable {A : Sys} (L : Lat A)
include L
theorem Lat.bot_inf (z : A.S) : L.inf A.bot z = A.bot := by
  have := L.inf_sup A.bot z; rw [L.bot_sup] at this; exact this
theorem Lat.top_sup (z : A.S) : L.sup A.top z = A.top := by
  have := L.sup_inf A.top z; rw [L.top_inf] at this; exact this
theorem Lat.inf_self (x : A.S) : L.inf x x = x := by
  have h := L.inf_sup x (L.inf x x); rw [L.sup_inf] at h; exact h
theorem Lat.sup_self (x : A.S) : L.sup x x = x := by
  have h := L.sup_inf x (L.sup x x); rw [L.inf_sup] at h; exact h
def Lat.Le (x y : A.S) : Prop := L.inf x y = x
theorem Lat.le_sup {x y : A.S} (h : L.Le x y) : L.sup x y = y := by
  have : L.sup y (L.inf y x) = y := L.sup_inf y x
  rw [L.inf_comm, h, L.sup_comm] at this; exact this
theorem Lat.le_of_sup {x y : A.S} (h : L.sup x y = y) : L.Le x y := by
  have := L.inf_sup x y; rw [h] at this; exact this
theorem Lat.le_trans {x y z : A.S} (h : L.Le x y) (h' : L.Le y z) : L.Le x z := by
  unfold Lat.Le at *
  rw [← h, L.inf_assoc, h']
theorem Lat.reach_le {R : Int} {a b : A.S} (h : Reach A R a b) : L.Le a b := by
  induction h with
  | refl _ => exact L.inf_self _
  | tail _ s _ ih => exact L.le_trans ih (L.le _ _ s)
def Lat.DownMin (x : A.S) : Prop := ∀ y, A.u x ≤ A.u (L.inf y x)
def Lat.UpMin (x : A.S) : Prop := ∀ y, A.u x ≤ A.u (L.sup y x)
theorem Lat.lift_reach {R : Int} {a b x : A.S} (h : Reach A R a b) (hx : L.DownMin x) : Reach A R (L.sup a x) (L.sup b x) := by
  have key : ∀ z, A.u z ≤ R → A.u (L.sup z x) ≤ R := fun z hz => by
    have := L.mod z x; have := hx z; omega
  induction h with
  | refl h => exact .refl (key _ h)
  | tail _ s l ih =>
    rcases L.lift _ _ x s with e | e
    · rw [← e]; exact ih
    · exact .tail ih e (key _ l)
theorem Lat.cut_reach {R : Int} {a b x : A.S} (h : Reach A R a b) (hx : ∀ z, L.Le z b → A.u x ≤ A.u (L.sup z x)) : Reach A R (L.inf a x) (L.inf b x) := by
  have key : ∀ z, A.u z ≤ R → A.u x ≤ A.u (L.sup z x) → A.u (L.inf z x) ≤ R := fun z hz h => by
    have := L.mod z x; omega
  induction h with
  | refl h => exact .refl (key _ h (hx _ (L.inf_self _)))
  | tail r s l ih =>
    have ih' := ih fun z hz => hx z (L.le_trans hz (L.le _ _ s))
    rcases L.cut _ _ x s with e | e
    · rw [← e]; exact ih'
    · exact .tail ih' e (key _ l (hx _ (L.inf_self _)))
theorem Lat.cut_up {R : Int} {a b x : A.S} (h : Reach A R a b) (hx : L.UpMin x) : Reach A R (L.inf a x) (L.inf b x) := L.cut_reach h fun z _ => hx z
omit L in
theorem exists_min {S : Type} {u : S → Int} {p : S → Prop} {B : Int} (hB : ∀ x, B ≤ u x) : ∀ {x : S}, p x → ∃ y, p y ∧ ∀ z, p z → u y ≤ u z := by
  have key : ∀ (n : Nat) (x : S), p x → (u x - B).toNat ≤ n → ∃ y, p y ∧ ∀ z, p z → u y ≤ u z := by
    intro n
    induction n with
    | zero =>
      intro x hx hn
      refine ⟨x, hx, fun z _ => ?_⟩
      have := hB z; have := hB x; omega
    | succ n ih =>
      intro x hx hn
      by_cases h : ∃ z, p z ∧ u z < u x
      · obtain ⟨z, hz, hl⟩ := h
        have := hB z; have := hB x
        exact ih z hz (by omega)
      · refine ⟨x, hx, fun z hz => ?_⟩
        by_cases hl : u z < u x
        · exact absurd ⟨z, hz, hl⟩ h
        · omega
  intro x hx
  exact key _ x hx (Nat.le_refl _)
/-- a state of least usage within a capacity is least below itself -/
theorem Lat.downMin_of {c : Int} {x : A.S} (hr : Reach A c A.bot x) (hm : ∀ z, Reach A c A.bot z → A.u x ≤ A.u z) : L.DownMin x := by
  obtain ⟨B, hB⟩ := L.low
  obtain ⟨y, ⟨w, hy⟩, hmin⟩ := exists_min (p := fun y => ∃ w, y = L.inf w x) hB (x := L.inf x x) ⟨x, rfl⟩
  have hyx : L.Le y x := by
    unfold Lat.Le; rw [hy, L.inf_assoc, L.inf_self]
  have hc : Reach A c (L.inf A.bot y) (L.inf x y) := L.cut_reach hr fun z hz => by
    have h1 : L.Le (L.sup z y) x := L.le_of_sup (by rw [L.sup_assoc, L.le_sup hyx, L.le_sup hz])
    exact hmin _ ⟨L.sup z y, h1.symm⟩
  have e1 : L.inf A.bot y = A.bot := L.bot_inf y
  have e2 : L.inf x y = y := by rw [L.inf_comm]; exact hyx
  rw [e1, e2] at hc
  intro z
  exact Int.le_trans (hm y hc) (hmin _ ⟨z, rfl⟩)
theorem Lat.sup_downMin {x w : A.S} (hx : L.DownMin x) (hw : L.DownMin w) : L.DownMin (L.sup w x) := by
  intro y
  have e1 : L.Le (L.inf y (L.sup w x)) (L.sup w x) := by unfold Lat.Le; rw [L.inf_assoc, L.inf_self]
  generalize hy : L.inf y (L.sup w x) = y1 at e1
  have h1 : A.u (L.sup y1 x) ≤ A.u y1 := by have := L.mod y1 x; have := hx y1; omega
  have h2 : A.u (L.sup (L.sup y1 x) w) ≤ A.u (L.sup y1 x) := by have := L.mod (L.sup y1 x) w; have := hw (L.sup y1 x); omega
  have e2 : L.sup (L.sup y1 x) w = L.sup w x := by
    rw [L.sup_assoc, L.sup_comm x w]; exact L.le_sup e1
  rw [e2] at h2
  omega
omit L in
/-- least of all -/
def Least (A : Sys) (x : A.S) : Prop := ∀ y, A.u x ≤ A.u y
theorem Lat.least_down {x : A.S} (h : Least A x) : L.DownMin x := fun y => h _
theorem Lat.least_up {x : A.S} (h : Least A x) : L.UpMin x := fun y => h _
theorem Lat.least_exists : ∃ x, Least A x := by
  obtain ⟨B, hB⟩ := L.low
  obtain ⟨y, _, h⟩ := exists_min (p := fun _ : A.S => True) hB (x := A.bot) trivial
  exact ⟨y, fun z => h z trivial⟩
theorem Lat.least_sup {x y : A.S} (hx : Least A x) (hy : Least A y) : Least A (L.sup x y) := fun z => by
  have := L.mod x y; have := hx y; have := hy x; have := hx (L.inf x y); have := hx z; omega
/-- the least state is reached by every complete run's peak -/
theorem Lat.least_reach {R : Int} {x : A.S} (h : Reach A R A.bot A.top) (hx : Least A x) : Reach A R A.bot x := by
  have := L.cut_up h (L.least_up hx)
  rw [L.bot_inf, L.top_inf] at this; exact this
theorem Lat.from_least {R : Int} {x : A.S} (h : Reach A R A.bot A.top) (hx : Least A x) : Reach A R x A.top := by
  have := L.lift_reach h (L.least_down hx)
  rw [L.bot_sup, L.top_sup] at this; exact this
/-- from one least state up to another, joined -/
theorem Lat.least_between {R : Int} {x y : A.S} (h : Reach A R A.bot A.top) (hx : Least A x) (hy : Least A y) : Reach A R x (L.sup x y) := by
  have h1 := L.cut_up h (L.least_up (L.least_sup hx hy))
  rw [L.bot_inf, L.top_inf] at h1
  have h2 := L.lift_reach h1 (L.least_down hx)
  rw [L.bot_sup] at h2
  have e : L.sup (L.sup x y) x = L.sup x y := by rw [L.sup_comm, ← L.sup_assoc, L.sup_self]
  rw [e] at h2; exact h2
end
/-! reversal -/
def op (A : Sys) : Sys := ⟨A.S, fun x => A.u x - A.u A.top, fun x y => A.st y x, A.top, A.bot⟩
theorem Reach.op {A : Sys} {R : Int} {a b : A.S} (h : Reach A R a b) : Reach (op A) (R - A.u A.top) b a := by
  induction h with
  | refl h => exact .refl (show A.u _ - A.u A.top ≤ _ by omega)
  | @tail b c r s l ih => exact Reach.head (A := K30m.op A) s (show A.u _ - A.u A.top ≤ _ by omega) ih
theorem Reach.unop {A : Sys} {R : Int} {a b : (K30m.op A).S} (h : Reach (K30m.op A) R a b) : Reach A (R + A.u A.top) b a := by
  induction h with
  | refl h => exact Reach.refl (A := A) (by have h' : A.u a - A.u A.top ≤ R := h; omega)
  | @tail b c r s l ih => exact Reach.head (A := A) s (by have h' : A.u c - A.u A.top ≤ R := l; omega) ih
theorem reach_op {A : Sys} {R : Int} {a b : A.S} : Reach (op A) R a b ↔ Reach A (R + A.u A.top) b a :=
  ⟨fun h => Reach.unop h, fun h => by
    have h2 := Reach.op h
    have e : R + A.u A.top - A.u A.top = R := by omega
    rw [e] at h2
    exact h2⟩
def Lat.op {A : Sys} (L : Lat A) : Lat (K30m.op A) where
  sup := L.inf
  inf := L.sup
  mod := fun x y => by
    show (A.u _ - _) + (A.u _ - _) = (A.u _ - _) + (A.u _ - _)
    have := L.mod x y; omega
  sup_comm := L.inf_comm
  inf_comm := L.sup_comm
  sup_assoc := L.inf_assoc
  inf_assoc := L.sup_assoc
  sup_inf := L.inf_sup
  inf_sup := L.sup_inf
  lift := fun x y z s => by
    rcases L.cut y x z s with e | e
    · exact .inl e.symm
    · exact .inr e
  cut := fun x y z s => by
    rcases L.lift y x z s with e | e
    · exact .inl e.symm
    · exact .inr e
  le := fun (x y : A.S) s => (L.sup_comm x y).trans (L.le_sup (L.le y x s))
  bot_sup := L.top_inf
  top_inf := L.bot_sup
  here := fun x => let ⟨R, h⟩ := L.there x; ⟨_, h.op⟩
  there := fun x => let ⟨R, h⟩ := L.here x; ⟨_, h.op⟩
  low := let ⟨B, h⟩ := L.low; ⟨B - A.u A.top, fun x => by show _ ≤ A.u x - A.u A.top; have := h x; omega⟩
  zero := by show A.u A.top - A.u A.top = 0; omega
/-! what is the same up to names -/
structure Iso (A B : Sys) where
  f : A.S → B.S
  g : B.S → A.S
  fg : ∀ y, f (g y) = y
  gf : ∀ x, g (f x) = x
  hu : ∀ x, B.u (f x) = A.u x
  hs : ∀ x y, A.st x y ↔ B.st (f x) (f y)
  hb : f A.bot = B.bot
  ht : f A.top = B.top
def Iso.symm {A B : Sys} (i : Iso A B) : Iso B A where
  f := i.g
  g := i.f
  fg := i.gf
  gf := i.fg
  hu := fun y => by have := i.hu (i.g y); rw [i.fg] at this; exact this.symm
  hs := fun x y => by rw [i.hs, i.fg, i.fg]
  hb := by rw [← i.hb, i.gf]
  ht := by rw [← i.ht, i.gf]
def Iso.trans {A B C : Sys} (i : Iso A B) (j : Iso B C) : Iso A C where
  f := fun x => j.f (i.f x)
  g := fun x => i.g (j.g x)
  fg := fun y => by rw [i.fg, j.fg]
  gf := fun y => by rw [j.gf, i.gf]
  hu := fun x => by rw [j.hu, i.hu]
  hs := fun x y => by rw [i.hs, j.hs]
  hb := by rw [i.hb, j.hb]
  ht := by rw [i.ht, j.ht]
def Iso.refl (A : Sys) : Iso A A := ⟨id, id, fun _ => rfl, fun _ => rfl, fun _ => rfl, fun _ _ => Iff.rfl, rfl, rfl⟩
theorem Iso.reach {A B : Sys} (i : Iso A B) {R : Int} {a b : A.S} (h : Reach A R a b) : Reach B R (i.f a) (i.f b) := by
  induction h with
  | refl h => exact .refl (by rw [i.hu]; exact h)
  | tail _ s l ih => exact .tail ih ((i.hs _ _).mp s) (by rw [i.hu]; exact l)
def Iso.op {A B : Sys} (i : Iso A B) : Iso (K30m.op A) (K30m.op B) where
  f := i.f
  g := i.g
  fg := i.fg
  gf := i.gf
  hu := fun (x : A.S) => by
    have h1 := i.hu x
    have h2 := i.hu A.top
    rw [i.ht] at h2
    show B.u (i.f x) - B.u B.top = A.u x - A.u A.top
    omega
  hs := fun x y => i.hs y x
  hb := i.ht
  ht := i.hb
def Iso.opop {A : Sys} (h : A.u A.bot = 0) : Iso A (K30m.op (K30m.op A)) where
  f := id
  g := id
  fg := fun _ => rfl
  gf := fun _ => rfl
  hu := fun x => by show A.u x - A.u A.top - (A.u A.bot - A.u A.top) = A.u x; omega
  hs := fun _ _ => Iff.rfl
  hb := rfl
  ht := rfl
def Iso.lat {A B : Sys} (i : Iso A B) (L : Lat A) : Lat B where
  sup := fun x y => i.f (L.sup (i.g x) (i.g y))
  inf := fun x y => i.f (L.inf (i.g x) (i.g y))
  mod := fun x y => by rw [i.hu, i.hu, L.mod]; have := i.symm.hu x; have := i.symm.hu y; dsimp only [Iso.symm] at *; omega
  sup_comm := fun x y => by rw [L.sup_comm]
  inf_comm := fun x y => by rw [L.inf_comm]
  sup_assoc := fun x y z => by rw [i.gf, i.gf, L.sup_assoc]
  inf_assoc := fun x y z => by rw [i.gf, i.gf, L.inf_assoc]
  sup_inf := fun x y => by rw [i.gf, L.sup_inf, i.fg]
  inf_sup := fun x y => by rw [i.gf, L.inf_sup, i.fg]
  lift := fun x y z s => by
    rcases L.lift (i.g x) (i.g y) (i.g z) ((i.symm.hs _ _).mp s) with e | e
    · exact .inl (by rw [e])
    · exact .inr ((i.hs _ _).mp e)
  cut := fun x y z s => by
    rcases L.cut (i.g x) (i.g y) (i.g z) ((i.symm.hs _ _).mp s) with e | e
    · exact .inl (by rw [e])
    · exact .inr ((i.hs _ _).mp e)
  le := fun x y s => by have := L.le (i.g x) (i.g y) ((i.symm.hs _ _).mp s); rw [this, i.fg]
  bot_sup := fun z => by have : i.g B.bot = A.bot := i.symm.hb
                         rw [this, L.bot_sup, i.fg]
  top_inf := fun z => by have : i.g B.top = A.top := i.symm.ht
                         rw [this, L.top_inf, i.fg]
  here := fun x => by
    obtain ⟨R, h⟩ := L.here (i.g x)
    have := i.reach h; rw [i.fg, i.hb] at this; exact ⟨R, this⟩
  there := fun x => by
    obtain ⟨R, h⟩ := L.there (i.g x)
    have := i.reach h; rw [i.fg, i.ht] at this; exact ⟨R, this⟩
  low := by obtain ⟨B', h⟩ := L.low
            exact ⟨B', fun x => by have := h (i.g x); have e := i.symm.hu x; dsimp only [Iso.symm] at e; omega⟩
  zero := by rw [← i.hb, i.hu, L.zero]
end K30m
namespace K30m
/-! generating pairs, profiles -/
theorem ilt (a b : Int) : a < b ∨ b ≤ a := by omega
theorem Strict.eq_fst {D : List Pr} (h : Strict D) (p : Pr) (hp : p ∈ D) (q : Pr) (hq : q ∈ D) (e : p.1 = q.1) : p = q := by
  rcases ilt p.2 q.2 with l | l
  · exact h.anti p hp q hq (by omega) (by omega)
  · exact (h.anti q hq p hp (by omega) (by omega)).symm
theorem Strict.eq_snd {D : List Pr} (h : Strict D) (p : Pr) (hp : p ∈ D) (q : Pr) (hq : q ∈ D) (e : p.2 = q.2) : p = q := by
  rcases ilt p.1 q.1 with l | l
  · exact h.anti p hp q hq (by omega) (by omega)
  · exact (h.anti q hq p hp (by omega) (by omega)).symm
structure Gen (A : Sys) (P : List Pr) : Prop where
  sound : ∀ p ∈ P, ∃ z, Reach A p.1 A.bot z ∧ A.u z ≤ p.2
  full : ∀ R z, Reach A R A.bot z → ∃ p ∈ P, p.1 ≤ R ∧ p.2 ≤ A.u z
structure IsPeak (A : Sys) (k : Int) : Prop where
  runs : Reach A k A.bot A.top
  least : ∀ R, Reach A R A.bot A.top → k ≤ R
/-- a profile -/
structure Pf where
  n : Int
  k : Int
  s : List Pr
  e : List Pr
structure IsPf (A : Sys) (p : Pf) : Prop where
  net : p.n = A.u A.top
  peak : IsPeak A p.k
  vs : Valleys p.s
  gs : Gen A p.s
  ve : Valleys p.e
  ge : Gen (op A) (mv p.e (-p.n))
theorem Gen.covers {A : Sys} {P Q : List Pr} (g : Gen A P) (h : Gen A Q) : Covers P Q := fun q hq => by
  obtain ⟨z, hz, hu⟩ := h.sound q hq
  obtain ⟨p, hp, h1, h2⟩ := g.full _ _ hz
  exact ⟨p, hp, h1, by omega⟩
theorem Gen.of_covers {A : Sys} {P Q : List Pr} (g : Gen A P) (a : Covers P Q) (b : Covers Q P) : Gen A Q where
  sound := fun q hq => by
    obtain ⟨p, hp, h1, h2⟩ := a q hq
    obtain ⟨z, hz, hu⟩ := g.sound p hp
    exact ⟨z, hz.mono h1, by omega⟩
  full := fun R z hz => by
    obtain ⟨p, hp, h1, h2⟩ := g.full R z hz
    obtain ⟨q, hq, h3, h4⟩ := b p hp
    exact ⟨q, hq, by omega, by omega⟩
theorem Gen.desc {A : Sys} {P : List Pr} (g : Gen A P) : Gen A (desc P) := g.of_covers (cov_desc P) (desc_cov P)
theorem Gen.uniq {A : Sys} {P Q : List Pr} (g : Gen A P) (h : Gen A Q) : K30m.desc P = K30m.desc Q := desc_congr (g.covers h) (h.covers g)
theorem IsPeak.uniq {A : Sys} {k j : Int} (a : IsPeak A k) (b : IsPeak A j) : k = j := by
  have := a.least _ b.runs; have := b.least _ a.runs; omega
theorem IsPf.uniq {A : Sys} {p q : Pf} (a : IsPf A p) (b : IsPf A q) : p = q := by
  have en : p.n = q.n := a.net.trans b.net.symm
  have ek := a.peak.uniq b.peak
  have es : p.s = q.s := by rw [← desc_id a.vs.2, ← desc_id b.vs.2]; exact a.gs.uniq b.gs
  have ee : mv p.e (-p.n) = mv q.e (-q.n) := by
    rw [← desc_id (mv_strict (k := -p.n) a.ve.2), ← desc_id (mv_strict (k := -q.n) b.ve.2)]; exact a.ge.uniq b.ge
  have ee' : p.e = q.e := by
    have := congrArg (fun D => mv D p.n) ee
    rw [mv_inv', en, mv_inv'] at this; exact this
  cases p; cases q; simp only [Pf.mk.injEq] at *; exact ⟨en, ek, es, ee'⟩
theorem Iso.gen {A B : Sys} (i : Iso A B) {P : List Pr} (g : Gen A P) : Gen B P where
  sound := fun p hp => by
    obtain ⟨z, hz, hu⟩ := g.sound p hp
    have := i.reach hz; rw [i.hb] at this
    exact ⟨i.f z, this, by rw [i.hu]; exact hu⟩
  full := fun R z hz => by
    have h := i.symm.reach hz; rw [i.symm.hb] at h
    obtain ⟨p, hp, h1, h2⟩ := g.full _ _ h
    exact ⟨p, hp, h1, by rw [i.symm.hu] at h2; exact h2⟩
theorem Iso.peak {A B : Sys} (i : Iso A B) {k : Int} (g : IsPeak A k) : IsPeak B k where
  runs := by have := i.reach g.runs; rw [i.hb, i.ht] at this; exact this
  least := fun R h => g.least R (by have := i.symm.reach h; rw [i.symm.hb, i.symm.ht] at this; exact this)
theorem Iso.pf {A B : Sys} (i : Iso A B) {p : Pf} (g : IsPf A p) : IsPf B p :=
  ⟨by rw [← i.ht, i.hu]; exact g.net, i.peak g.peak, g.vs, i.gen g.gs, g.ve, i.op.gen g.ge⟩
/-! reversal -/
def opP (p : Pf) : Pf := ⟨-p.n, p.k - p.n, mv p.e (-p.n), mv p.s (-p.n)⟩
theorem opP_opP (p : Pf) : opP (opP p) = p := by
  cases p with
  | mk n k s e =>
    simp only [opP, Pf.mk.injEq, mv_mv]
    refine ⟨by omega, by omega, ?_, ?_⟩
    · rw [show -n + - -n = 0 by omega, mv_zero]
    · rw [show -n + - -n = 0 by omega, mv_zero]
theorem IsPeak.op {A : Sys} {k : Int} (h : IsPeak A k) : IsPeak (K30m.op A) (k - A.u A.top) where
  runs := Reach.op h.runs
  least := fun R r => by have := h.least _ (reach_op.mp r); omega
theorem IsPf.op {A : Sys} {p : Pf} (h0 : A.u A.bot = 0) (h : IsPf A p) : IsPf (K30m.op A) (opP p) where
  net := by
    show -p.n = A.u A.bot - A.u A.top
    have := h.net; omega
  peak := by
    show IsPeak (K30m.op A) (p.k - p.n)
    rw [h.net]; exact h.peak.op
  vs := mv_valleys h.ve
  gs := h.ge
  ve := mv_valleys h.vs
  ge := by
    show Gen (K30m.op (K30m.op A)) (mv (mv p.s (-p.n)) (- -p.n))
    rw [mv_mv, show -p.n + - -p.n = 0 by omega, mv_zero]
    exact (Iso.opop h0).gen h.gs
/-! facts -/
section
variable {A : Sys} (L : Lat A) {P : List Pr}
include L
theorem Gen.first (g : Gen A P) (v : Valleys P) : (hd P).1 = 0 ∧ (hd P).2 ≤ 0 := by
  obtain ⟨z, hz, _⟩ := g.sound _ (hd_mem v.1)
  have h0 := hz.first
  rw [L.zero] at h0
  obtain ⟨p, hp, h1, h2⟩ := g.full 0 A.bot (.refl (by rw [L.zero]; exact Int.le_refl _))
  rw [L.zero] at h2
  have h3 := v.first_le p hp
  obtain ⟨z', hz', _⟩ := g.sound p hp
  have h4 := hz'.first
  rw [L.zero] at h4
  have : p = hd P := v.2.eq_fst p hp (hd P) (hd_mem v.1) (by omega)
  subst this
  exact ⟨by omega, by omega⟩
theorem Gen.least (g : Gen A P) (v : Valleys P) : ∃ x, Least A x ∧ A.u x = (lt P).2 ∧ Reach A (lt P).1 A.bot x := by
  obtain ⟨x, hx⟩ := L.least_exists
  obtain ⟨z, hz, hu⟩ := g.sound _ (lt_mem v.1)
  obtain ⟨R, hR⟩ := L.here x
  obtain ⟨p, hp, _, h2⟩ := g.full R x hR
  have h3 := (v.last_le p hp).2
  have h4 := hx z
  refine ⟨z, fun y => ?_, by omega, hz⟩
  have := hx y; omega
theorem Gen.low (g : Gen A P) (v : Valleys P) (y : A.S) : (lt P).2 ≤ A.u y := by
  obtain ⟨x, hx, e, _⟩ := g.least L v
  rw [← e]; exact hx y
theorem Gen.last_peak (g : Gen A P) (v : Valleys P) {k : Int} (h : IsPeak A k) : (lt P).1 ≤ k := by
  obtain ⟨x, hx, e, _⟩ := g.least L v
  obtain ⟨p, hp, h1, h2⟩ := g.full _ _ (L.least_reach h.runs hx)
  have h3 := v.last_le p hp
  have h4 : p = lt P := v.2.eq_snd p hp (lt P) (lt_mem v.1) (by omega)
  rw [h4] at h1; exact h1
theorem IsPf.facts {p : Pf} (h : IsPf A p) : (hd p.s).1 = 0 ∧ (hd p.s).2 ≤ 0 ∧ (hd p.e).1 = p.n ∧ (hd p.e).2 ≤ p.n ∧ (lt p.s).2 = (lt p.e).2 ∧ 0 ≤ p.k ∧ p.n ≤ p.k ∧ (lt p.s).1 ≤ p.k ∧ (lt p.e).1 ≤ p.k := by
  have f1 := h.gs.first L h.vs
  have f2 := h.ge.first L.op (mv_valleys h.ve)
  rw [hd_mv h.ve.1] at f2
  dsimp only at f2
  obtain ⟨x, hx, ex, _⟩ := h.gs.least L h.vs
  obtain ⟨y, hy, ey, _⟩ := h.ge.least L.op (mv_valleys h.ve)
  rw [lt_mv h.ve.1] at ey
  dsimp only at ey
  have hn := h.net
  have ey' : A.u y - A.u A.top = (lt p.e).2 + -p.n := ey
  have q1 := hx y
  have q2 : A.u y - A.u A.top ≤ A.u x - A.u A.top := hy x
  have k1 := h.peak.runs.first
  have k2 := h.peak.runs.last
  rw [L.zero] at k1
  have l1 := h.gs.last_peak L h.vs h.peak
  have l2 := h.ge.last_peak L.op (mv_valleys h.ve) h.peak.op
  rw [lt_mv h.ve.1] at l2
  dsimp only at l2
  refine ⟨f1.1, f1.2, by omega, by omega, by omega, by omega, by omega, l1, by omega⟩
end
/-! in sequence -/
def seqS (A B : Sys) : Sys where
  S := { p : A.S × B.S // p.1 = A.top ∨ p.2 = B.bot }
  u := fun p => A.u p.1.1 + B.u p.1.2
  st := fun p q => (A.st p.1.1 q.1.1 ∧ p.1.2 = B.bot ∧ q.1.2 = B.bot) ∨ (p.1.1 = A.top ∧ q.1.1 = A.top ∧ B.st p.1.2 q.1.2)
  bot := ⟨(A.bot, B.bot), .inr rfl⟩
  top := ⟨(A.top, B.top), .inl rfl⟩
def inlS {A B : Sys} (a : A.S) : (seqS A B).S := ⟨(a, B.bot), .inr rfl⟩
def inrS {A B : Sys} (b : B.S) : (seqS A B).S := ⟨(A.top, b), .inl rfl⟩
section
variable {A B : Sys}
theorem seq_ext {p q : (seqS A B).S} (h1 : p.1.1 = q.1.1) (h2 : p.1.2 = q.1.2) : p = q := Subtype.ext (Prod.ext h1 h2)
theorem seq_left {R : Int} {a b : A.S} (hB : B.u B.bot = 0) (h : Reach A R a b) : Reach (seqS A B) R (inlS a) (inlS b) := by
  induction h with
  | refl h => exact .refl (show A.u a + B.u B.bot ≤ R by omega)
  | @tail x y _ s l ih => exact .tail ih (.inl ⟨s, rfl, rfl⟩) (show A.u y + B.u B.bot ≤ R by omega)
theorem seq_right {R : Int} {a b : B.S} (h : Reach B R a b) : Reach (seqS A B) (A.u A.top + R) (inrS a) (inrS b) := by
  induction h with
  | refl h => exact .refl (show A.u A.top + B.u a ≤ A.u A.top + R by omega)
  | @tail x y _ s l ih => exact .tail ih (.inr ⟨rfl, rfl, s⟩) (show A.u A.top + B.u y ≤ A.u A.top + R by omega)
theorem inl_inr : (inlS A.top : (seqS A B).S) = inrS B.bot := rfl
theorem seq_inv {R : Int} {z : (seqS A B).S} (hB : B.u B.bot = 0) (h : Reach (seqS A B) R (seqS A B).bot z) :
    (z.1.2 = B.bot ∧ Reach A R A.bot z.1.1) ∨ (z.1.1 = A.top ∧ Reach A R A.bot A.top ∧ Reach B (R - A.u A.top) B.bot z.1.2) := by
  have key : ∀ {a b : (seqS A B).S}, Reach (seqS A B) R a b → a = (seqS A B).bot → (b.1.2 = B.bot ∧ Reach A R A.bot b.1.1) ∨ (b.1.1 = A.top ∧ Reach A R A.bot A.top ∧ Reach B (R - A.u A.top) B.bot b.1.2) := by
    intro a b h
    induction h with
    | refl h =>
      rintro rfl
      have h' : A.u A.bot + B.u B.bot ≤ R := h
      exact .inl ⟨rfl, .refl (by show A.u A.bot ≤ R; omega)⟩
    | @tail b c _ s l ih =>
      intro e
      have l' : A.u c.1.1 + B.u c.1.2 ≤ R := l
      have s' : (A.st b.1.1 c.1.1 ∧ b.1.2 = B.bot ∧ c.1.2 = B.bot) ∨ (b.1.1 = A.top ∧ c.1.1 = A.top ∧ B.st b.1.2 c.1.2) := s
      rcases s' with ⟨s1, s2, s3⟩ | ⟨s1, s2, s3⟩
      · rw [s3, hB] at l'
        refine .inl ⟨s3, ?_⟩
        rcases ih e with ⟨_, r⟩ | ⟨e1, r, _⟩
        · exact .tail r s1 (by omega)
        · rw [← e1] at r; exact .tail r s1 (by omega)
      · rw [s2] at l'
        refine .inr ⟨s2, ?_⟩
        rcases ih e with ⟨e2, r⟩ | ⟨_, r, r2⟩
        · rw [s1] at r
          have := r.last
          have s4 : B.st B.bot c.1.2 := by
            have h := s3
            generalize c.1.2 = y at h ⊢
            rw [e2] at h; exact h
          exact ⟨r, .tail (.refl (by omega)) s4 (by omega)⟩
        · exact ⟨r, .tail r2 s3 (by omega)⟩
  exact key h rfl
theorem seq_peak {k j : Int} (hB : B.u B.bot = 0) (h : IsPeak A k) (h' : IsPeak B j) : IsPeak (seqS A B) (max k (A.u A.top + j)) where
  runs := ((seq_left hB h.runs).mono (by omega)).trans (by rw [inl_inr]; exact (seq_right h'.runs).mono (by omega))
  least := fun R r => by
    rcases seq_inv hB r with ⟨e, r1⟩ | ⟨_, r1, r2⟩
    · have e' : B.top = B.bot := e
      have q1 := h.least R r1
      have q2 := h'.least 0 (by rw [e']; exact .refl (by omega))
      have := r1.last
      have : A.u A.top ≤ R := this
      omega
    · have q1 := h.least R r1
      have q2 := h'.least _ r2
      omega
def startPairs (n k : Int) (s s2 : List Pr) : List Pr := s.filter (fun p => decide (p.1 < k)) ++ [(k, (lt s).2)] ++ (mv s2 n).map fun q => (max k q.1, q.2)
theorem seq_gen {P Q : List Pr} {k : Int} (hB : B.u B.bot = 0) (g : Gen A P) (v : Valleys P) (hk : IsPeak A k) (hl : (lt P).1 ≤ k) (g' : Gen B Q) : Gen (seqS A B) (startPairs (A.u A.top) k P Q) where
  sound := fun p hp => by
    unfold startPairs at hp
    rcases List.mem_append.mp hp with hp | hp
    · rcases List.mem_append.mp hp with hp | hp
      · obtain ⟨z, hz, hu⟩ := g.sound p (List.mem_filter.mp hp).1
        exact ⟨inlS z, seq_left hB hz, show A.u z + B.u B.bot ≤ _ by omega⟩
      · have e : p = (k, (lt P).2) := by simpa using hp
        subst e
        obtain ⟨z, hz, hu⟩ := g.sound _ (lt_mem v.1)
        exact ⟨inlS z, (seq_left hB hz).mono hl, show A.u z + B.u B.bot ≤ (lt P).2 by omega⟩
    · obtain ⟨q, hq, rfl⟩ := List.mem_map.mp hp
      have hq' := mem_mv.mp hq
      obtain ⟨z, hz, hu⟩ := g'.sound _ hq'
      dsimp only at hz hu
      refine ⟨inrS z, ((seq_left hB hk.runs).mono (Int.le_max_left _ _)).trans (by rw [inl_inr]; exact (seq_right hz).mono (by omega)), ?_⟩
      show A.u A.top + B.u z ≤ q.2
      omega
  full := fun R z hz => by
    unfold startPairs
    have hr := hz.last
    have hr' : A.u z.1.1 + B.u z.1.2 ≤ R := hr
    rcases seq_inv hB hz with ⟨e, r⟩ | ⟨e, r, r2⟩
    · obtain ⟨p, hp, h1, h2⟩ := g.full _ _ r
      have hu : (seqS A B).u z = A.u z.1.1 := by show A.u z.1.1 + B.u z.1.2 = _; rw [e, hB]; omega
      by_cases hlt : p.1 < k
      · exact ⟨p, List.mem_append_left _ (List.mem_append_left _ (List.mem_filter.mpr ⟨hp, by simpa using hlt⟩)), h1, by rw [hu]; exact h2⟩
      · refine ⟨(k, (lt P).2), List.mem_append_left _ (List.mem_append_right _ (by simp)), by dsimp only; omega, ?_⟩
        have := v.last_le p hp
        rw [hu]; dsimp only; omega
    · obtain ⟨p, hp, h1, h2⟩ := g'.full _ _ r2
      have hk' := hk.least _ r
      refine ⟨(max k (p.1 + A.u A.top), p.2 + A.u A.top), List.mem_append_right _ (List.mem_map.mpr ⟨(p.1 + A.u A.top, p.2 + A.u A.top), List.mem_map.mpr ⟨p, hp, rfl⟩, rfl⟩), ?_, ?_⟩
      · dsimp only; omega
      · show p.2 + A.u A.top ≤ A.u z.1.1 + B.u z.1.2
        rw [e]; omega
def seq_op (A B : Sys) : Iso (op (seqS A B)) (seqS (op B) (op A)) where
  f := fun (p : (seqS A B).S) => ⟨(p.1.2, p.1.1), p.2.elim .inr .inl⟩
  g := fun (p : (seqS (op B) (op A)).S) => (⟨(p.1.2, p.1.1), p.2.elim .inr .inl⟩ : (seqS A B).S)
  fg := fun _ => rfl
  gf := fun _ => rfl
  hu := fun (p : (seqS A B).S) => by
    show (B.u p.1.2 - B.u B.top) + (A.u p.1.1 - A.u A.top) = (A.u p.1.1 + B.u p.1.2) - (A.u A.top + B.u B.top)
    omega
  hs := fun (p q : (seqS A B).S) => by
    show ((A.st q.1.1 p.1.1 ∧ q.1.2 = B.bot ∧ p.1.2 = B.bot) ∨ (q.1.1 = A.top ∧ p.1.1 = A.top ∧ B.st q.1.2 p.1.2)) ↔
      ((B.st q.1.2 p.1.2 ∧ p.1.1 = A.top ∧ q.1.1 = A.top) ∨ (p.1.2 = B.bot ∧ q.1.2 = B.bot ∧ A.st q.1.1 p.1.1))
    constructor
    · rintro (⟨a, b, c⟩ | ⟨a, b, c⟩)
      · exact .inr ⟨c, b, a⟩
      · exact .inl ⟨c, b, a⟩
    · rintro (⟨a, b, c⟩ | ⟨a, b, c⟩)
      · exact .inr ⟨c, b, a⟩
      · exact .inl ⟨c, b, a⟩
  hb := rfl
  ht := rfl
end
/-! the program's functions -/
def startBehind (p q : Pf) : List Pr := desc (p.s.filter (fun c => decide (c.1 < p.k)) ++ [(p.k, (lt p.s).2)] ++ (mv q.s p.n).map fun c => (max p.k c.1, c.2))
def endBehind (p q : Pf) : List Pr := desc ((mv q.e p.n).filter (fun c => decide (c.1 < p.n + q.k)) ++ [(p.n + q.k, p.n + (lt q.e).2)] ++ p.e.map fun c => (max (p.n + q.k) c.1, c.2))
def two (p q : Pf) : Pf := ⟨p.n + q.n, max p.k (p.n + q.k), startBehind p q, endBehind p q⟩
theorem endBehind_eq {p q : Pf} (hq : q.e ≠ []) : endBehind p q = mv (startBehind (opP q) (opP p)) (p.n + q.n) := by
  unfold endBehind startBehind
  rw [← mv_desc]
  congr 1
  rw [mv_append, mv_append]
  congr 1
  · congr 1
    · show List.filter _ (mv q.e p.n) = mv ((mv q.e (-q.n)).filter fun c => decide (c.1 < q.k - q.n)) (p.n + q.n)
      unfold mv
      rw [List.filter_map, List.filter_map, List.map_map]
      have : ((fun c : Pr => decide (c.1 < p.n + q.k)) ∘ fun p_1 : Pr => (p_1.1 + p.n, p_1.2 + p.n)) = ((fun c : Pr => decide (c.1 < q.k - q.n)) ∘ fun p : Pr => (p.1 + -q.n, p.2 + -q.n)) := by
        funext c; simp only [Function.comp]; apply decide_eq_decide.mpr; omega
      rw [this]
      apply List.map_congr_left; intro c _; simp only [Function.comp, Prod.mk.injEq]; omega
    · show [_] = mv [(q.k - q.n, (lt (mv q.e (-q.n))).2)] (p.n + q.n)
      rw [lt_mv hq]
      simp only [mv, List.map_cons, List.map_nil, List.cons.injEq, Prod.mk.injEq, and_true]; omega
  · show _ = mv ((mv (mv p.e (-p.n)) (-q.n)).map fun c => (max (q.k - q.n) c.1, c.2)) (p.n + q.n)
    unfold mv
    rw [List.map_map, List.map_map, List.map_map]
    apply List.map_congr_left; intro c _; simp only [Function.comp, Prod.mk.injEq]; omega
theorem startBehind_eq (p q : Pf) : startBehind p q = desc (startPairs p.n p.k p.s q.s) := rfl
theorem startPairs_ne (n k : Int) (s t : List Pr) : startPairs n k s t ≠ [] := by unfold startPairs; simp
/-- TWO IN SEQUENCE -/
theorem two_ok {A B : Sys} (LA : Lat A) (LB : Lat B) {p q : Pf} (hp : IsPf A p) (hq : IsPf B q) : IsPf (seqS A B) (two p q) := by
  have fp := hp.facts LA
  have fq := hq.facts LB
  have gs : Gen (seqS A B) (startBehind p q) := by
    rw [startBehind_eq, hp.net]
    exact (seq_gen LB.zero hp.gs hp.vs hp.peak fp.2.2.2.2.2.2.2.1 hq.gs).desc
  have ho := hp.op LA.zero
  have ho' := hq.op LB.zero
  have fo := ho'.facts LB.op
  have ge : Gen (seqS (op B) (op A)) (startBehind (opP q) (opP p)) := by
    rw [startBehind_eq, ho'.net]
    exact (seq_gen LA.op.zero ho'.gs ho'.vs ho'.peak fo.2.2.2.2.2.2.2.1 ho.gs).desc
  refine ⟨?_, ?_, desc_valleys (startPairs_ne _ _ _ _), gs, ?_, ?_⟩
  · show p.n + q.n = A.u A.top + B.u B.top
    rw [hp.net, hq.net]
  · show IsPeak _ (max p.k (p.n + q.k))
    rw [hp.net]; exact seq_peak LB.zero hp.peak hq.peak
  · show Valleys (endBehind p q)
    rw [endBehind_eq hq.ve.1]
    exact mv_valleys (desc_valleys (startPairs_ne _ _ _ _))
  · show Gen (op (seqS A B)) (mv (endBehind p q) (-(p.n + q.n)))
    rw [endBehind_eq hq.ve.1, mv_inv]
    exact (seq_op A B).symm.gen ge
end K30m
namespace K30m
/-! in parallel -/
def unitS : Sys := ⟨Unit, fun _ => 0, fun _ _ => False, (), ()⟩
def parS (A B : Sys) : Sys where
  S := A.S × B.S
  u := fun p => A.u p.1 + B.u p.2
  st := fun p q => (A.st p.1 q.1 ∧ p.2 = q.2) ∨ (p.1 = q.1 ∧ B.st p.2 q.2)
  bot := (A.bot, B.bot)
  top := (A.top, B.top)
def parL : List Sys → Sys
  | [] => unitS
  | A :: l => parS A (parL l)
section
variable {A B A' B' : Sys} {R : Int}
theorem par_left {a b : A.S} (y : B.S) (h : Reach A R a b) : Reach (parS A B) (R + B.u y) (a, y) (b, y) := by
  induction h with
  | refl h => exact .refl (show A.u a + B.u y ≤ R + B.u y by omega)
  | @tail x z _ s l ih => exact .tail ih (.inl ⟨s, rfl⟩) (show A.u z + B.u y ≤ R + B.u y by omega)
theorem par_right {a b : B.S} (x : A.S) (h : Reach B R a b) : Reach (parS A B) (R + A.u x) (x, a) (x, b) := by
  induction h with
  | refl h => exact .refl (show A.u x + B.u a ≤ R + A.u x by omega)
  | @tail y z _ s l ih => exact .tail ih (.inr ⟨rfl, s⟩) (show A.u x + B.u z ≤ R + A.u x by omega)
theorem proj_left {b : Int} (hb : ∀ y, b ≤ B.u y) {p q : (parS A B).S} (h : Reach (parS A B) R p q) : Reach A (R - b) p.1 q.1 := by
  induction h with
  | refl h =>
    have h' : A.u p.1 + B.u p.2 ≤ R := h
    have := hb p.2
    exact .refl (by omega)
  | @tail x z _ s l ih =>
    have l' : A.u z.1 + B.u z.2 ≤ R := l
    have := hb z.2
    have s' : (A.st x.1 z.1 ∧ x.2 = z.2) ∨ (x.1 = z.1 ∧ B.st x.2 z.2) := s
    rcases s' with ⟨s, _⟩ | ⟨e, _⟩
    · exact .tail ih s (by omega)
    · rw [← e]; exact ih
theorem proj_right {a : Int} (ha : ∀ x, a ≤ A.u x) {p q : (parS A B).S} (h : Reach (parS A B) R p q) : Reach B (R - a) p.2 q.2 := by
  induction h with
  | refl h =>
    have h' : A.u p.1 + B.u p.2 ≤ R := h
    have := ha p.1
    exact .refl (by omega)
  | @tail x z _ s l ih =>
    have l' : A.u z.1 + B.u z.2 ≤ R := l
    have := ha z.1
    have s' : (A.st x.1 z.1 ∧ x.2 = z.2) ∨ (x.1 = z.1 ∧ B.st x.2 z.2) := s
    rcases s' with ⟨_, e⟩ | ⟨_, s⟩
    · rw [← e]; exact ih
    · exact .tail ih s (by omega)
def Lat.unit : Lat unitS where
  sup := fun _ _ => ()
  inf := fun _ _ => ()
  mod := fun _ _ => rfl
  sup_comm := fun _ _ => rfl
  inf_comm := fun _ _ => rfl
  sup_assoc := fun _ _ _ => rfl
  inf_assoc := fun _ _ _ => rfl
  sup_inf := fun _ _ => rfl
  inf_sup := fun _ _ => rfl
  lift := fun _ _ _ h => h.elim
  cut := fun _ _ _ h => h.elim
  le := fun _ _ h => h.elim
  bot_sup := fun _ => rfl
  top_inf := fun _ => rfl
  here := fun _ => ⟨0, .refl (Int.le_refl 0)⟩
  there := fun _ => ⟨0, .refl (Int.le_refl 0)⟩
  low := ⟨0, fun _ => Int.le_refl 0⟩
  zero := rfl
def Lat.par (L : Lat A) (M : Lat B) : Lat (parS A B) where
  sup := fun p q => (L.sup p.1 q.1, M.sup p.2 q.2)
  inf := fun p q => (L.inf p.1 q.1, M.inf p.2 q.2)
  mod := fun p q => by
    show (A.u (L.sup p.1 q.1) + B.u (M.sup p.2 q.2)) + (A.u (L.inf p.1 q.1) + B.u (M.inf p.2 q.2)) = (A.u p.1 + B.u p.2) + (A.u q.1 + B.u q.2)
    have := L.mod p.1 q.1; have := M.mod p.2 q.2; omega
  sup_comm := fun p q => by rw [L.sup_comm, M.sup_comm]
  inf_comm := fun p q => by rw [L.inf_comm, M.inf_comm]
  sup_assoc := fun p q r => by rw [L.sup_assoc, M.sup_assoc]
  inf_assoc := fun p q r => by rw [L.inf_assoc, M.inf_assoc]
  sup_inf := fun p q => Prod.ext (L.sup_inf p.1 q.1) (M.sup_inf p.2 q.2)
  inf_sup := fun p q => Prod.ext (L.inf_sup p.1 q.1) (M.inf_sup p.2 q.2)
  lift := fun p q r s => by
    have s' : (A.st p.1 q.1 ∧ p.2 = q.2) ∨ (p.1 = q.1 ∧ B.st p.2 q.2) := s
    rcases s' with ⟨s, e⟩ | ⟨e, s⟩
    · rcases L.lift _ _ r.1 s with z | z
      · exact .inl (by rw [z, e])
      · exact .inr (.inl ⟨z, by dsimp only; rw [e]⟩)
    · rcases M.lift _ _ r.2 s with z | z
      · exact .inl (by rw [z, e])
      · exact .inr (.inr ⟨by dsimp only; rw [e], z⟩)
  cut := fun p q r s => by
    have s' : (A.st p.1 q.1 ∧ p.2 = q.2) ∨ (p.1 = q.1 ∧ B.st p.2 q.2) := s
    rcases s' with ⟨s, e⟩ | ⟨e, s⟩
    · rcases L.cut _ _ r.1 s with z | z
      · exact .inl (by rw [z, e])
      · exact .inr (.inl ⟨z, by dsimp only; rw [e]⟩)
    · rcases M.cut _ _ r.2 s with z | z
      · exact .inl (by rw [z, e])
      · exact .inr (.inr ⟨by dsimp only; rw [e], z⟩)
  le := fun p q s => by
    have s' : (A.st p.1 q.1 ∧ p.2 = q.2) ∨ (p.1 = q.1 ∧ B.st p.2 q.2) := s
    rcases s' with ⟨s, e⟩ | ⟨e, s⟩
    · have h1 := L.le _ _ s
      have h2 := M.inf_self p.2
      exact Prod.ext h1 (by dsimp only; rw [← e]; exact h2)
    · have h1 := L.inf_self p.1
      have h2 := M.le _ _ s
      exact Prod.ext (by dsimp only; rw [← e]; exact h1) h2
  bot_sup := fun z => by
    have h1 := L.bot_sup z.1
    have h2 := M.bot_sup z.2
    exact Prod.ext h1 h2
  top_inf := fun z => by
    have h1 := L.top_inf z.1
    have h2 := M.top_inf z.2
    exact Prod.ext h1 h2
  here := fun p => by
    obtain ⟨R, h⟩ := L.here p.1
    obtain ⟨R', h'⟩ := M.here p.2
    exact ⟨_, ((par_left B.bot h).mono (Int.le_max_left _ (R' + A.u p.1))).trans ((par_right p.1 h').mono (Int.le_max_right _ _))⟩
  there := fun p => by
    obtain ⟨R, h⟩ := L.there p.1
    obtain ⟨R', h'⟩ := M.there p.2
    exact ⟨_, ((par_left p.2 h).mono (Int.le_max_left _ (R' + A.u A.top))).trans ((par_right A.top h').mono (Int.le_max_right _ _))⟩
  low := by
    obtain ⟨b, h⟩ := L.low
    obtain ⟨b', h'⟩ := M.low
    exact ⟨b + b', fun p => by show _ ≤ A.u p.1 + B.u p.2; have := h p.1; have := h' p.2; omega⟩
  zero := by show A.u A.bot + B.u B.bot = 0; rw [L.zero, M.zero] <;> rfl
def Iso.par (i : Iso A A') (j : Iso B B') : Iso (parS A B) (parS A' B') where
  f := fun p => (i.f p.1, j.f p.2)
  g := fun p => (i.g p.1, j.g p.2)
  fg := fun p => Prod.ext (i.fg p.1) (j.fg p.2)
  gf := fun p => Prod.ext (i.gf p.1) (j.gf p.2)
  hu := fun p => by show A'.u _ + B'.u _ = A.u _ + B.u _; rw [i.hu, j.hu]
  hs := fun p q => by
    show ((A.st p.1 q.1 ∧ p.2 = q.2) ∨ (p.1 = q.1 ∧ B.st p.2 q.2)) ↔ ((A'.st (i.f p.1) (i.f q.1) ∧ j.f p.2 = j.f q.2) ∨ (i.f p.1 = i.f q.1 ∧ B'.st (j.f p.2) (j.f q.2)))
    have e1 : j.f p.2 = j.f q.2 ↔ p.2 = q.2 := ⟨fun h => by have := congrArg j.g h; rwa [j.gf, j.gf] at this, fun h => by rw [h]⟩
    have e2 : i.f p.1 = i.f q.1 ↔ p.1 = q.1 := ⟨fun h => by have := congrArg i.g h; rwa [i.gf, i.gf] at this, fun h => by rw [h]⟩
    rw [e1, e2, ← i.hs, ← j.hs]
  hb := Prod.ext i.hb j.hb
  ht := Prod.ext i.ht j.ht
def par_op (A B : Sys) : Iso (op (parS A B)) (parS (op A) (op B)) where
  f := fun p => p
  g := fun p => p
  fg := fun _ => rfl
  gf := fun _ => rfl
  hu := fun (p : A.S × B.S) => by
    show (A.u p.1 - A.u A.top) + (B.u p.2 - B.u B.top) = (A.u p.1 + B.u p.2) - (A.u A.top + B.u B.top)
    omega
  hs := fun (p q : A.S × B.S) => by
    show ((A.st q.1 p.1 ∧ q.2 = p.2) ∨ (q.1 = p.1 ∧ B.st q.2 p.2)) ↔ ((A.st q.1 p.1 ∧ p.2 = q.2) ∨ (p.1 = q.1 ∧ B.st q.2 p.2))
    rw [eq_comm (a := q.2), eq_comm (a := q.1)]
  hb := rfl
  ht := rfl
def unit_op : Iso (op unitS) unitS := ⟨fun _ => (), fun _ => (), fun _ => rfl, fun _ => rfl, fun _ => rfl, fun _ _ => Iff.rfl, rfl, rfl⟩
def parL_op : (l : List Sys) → Iso (op (parL l)) (parL (l.map op))
  | [] => unit_op
  | A :: l => (par_op A (parL l)).trans ((Iso.refl _).par (parL_op l))
end
/-! laws of a list of systems -/
def Lats : List Sys → Type
  | [] => Unit
  | A :: l => Lat A × Lats l
def Lats.par : (l : List Sys) → Lats l → Lat (parL l)
  | [], _ => Lat.unit
  | _ :: l, L => L.1.par (Lats.par l L.2)
def Lats.op : (l : List Sys) → Lats l → Lats (l.map op)
  | [], _ => ()
  | _ :: l, L => (L.1.op, Lats.op l L.2)
/-! a bound from below -/
def LBx : List Sys → List Int → Int → Prop
  | [], [], _ => True
  | A :: l, a :: ls, R => a ≤ 0 ∧ (∀ z, Reach A (R - ls.sum) A.bot z → a ≤ A.u z) ∧ LBx l ls (R - a)
  | _, _, _ => False
theorem lb2 {A B : Sys} {a b R : Int} (hA : A.u A.bot = 0) (hB : B.u B.bot = 0) (ha : a ≤ 0) (hb : b ≤ 0) (hx : ∀ z, Reach A (R - b) A.bot z → a ≤ A.u z) (hy : ∀ z, Reach B (R - a) B.bot z → b ≤ B.u z) :
    ∀ {p q : (parS A B).S}, Reach (parS A B) R p q → p = (parS A B).bot → Reach A (R - b) A.bot q.1 ∧ Reach B (R - a) B.bot q.2 := by
  intro p q h
  induction h with
  | refl h =>
    rintro rfl
    have h' : A.u A.bot + B.u B.bot ≤ R := h
    exact ⟨.refl (by omega), .refl (by omega)⟩
  | @tail x z _ s l ih =>
    intro e
    obtain ⟨h1, h2⟩ := ih e
    have l' : A.u z.1 + B.u z.2 ≤ R := l
    have s' : (A.st x.1 z.1 ∧ x.2 = z.2) ∨ (x.1 = z.1 ∧ B.st x.2 z.2) := s
    rcases s' with ⟨s, e⟩ | ⟨e, s⟩
    · have := hy _ h2
      rw [e] at this
      exact ⟨.tail h1 s (by omega), by rw [← e]; exact h2⟩
    · have := hx _ h1
      rw [e] at this
      exact ⟨by rw [← e]; exact h1, .tail h2 s (by omega)⟩
theorem lb_all : ∀ (l : List Sys) (ls : List Int) (R : Int), Lats l → LBx l ls R → ls.sum ≤ 0 ∧ ∀ z, Reach (parL l) R (parL l).bot z → ls.sum ≤ (parL l).u z
  | [], [], _, _, _ => ⟨Int.le_refl 0, fun _ _ => Int.le_refl 0⟩
  | [], _ :: _, _, _, h => h.elim
  | _ :: _, [], _, _, h => h.elim
  | A :: l, a :: ls, R, L, h => by
    obtain ⟨h1, h2, h3⟩ := h
    obtain ⟨i1, i2⟩ := lb_all l ls (R - a) L.2 h3
    refine ⟨by rw [List.sum_cons]; omega, fun z hz => ?_⟩
    obtain ⟨r1, r2⟩ := lb2 L.1.zero (Lats.par l L.2).zero h1 i1 h2 i2 hz rfl
    have q1 := h2 _ r1
    have q2 := i2 _ r2
    show (a :: ls).sum ≤ A.u z.1 + (parL l).u z.2
    rw [List.sum_cons]; omega
/-! lows that are attained -/
def At : (l : List Sys) → Lats l → List Int → (parL l).S → Prop
  | [], _, [], _ => True
  | _ :: l, L, a :: ls, z => L.1.DownMin z.1 ∧ Sys.u _ z.1 ≤ a ∧ At l L.2 ls z.2
  | _, _, _, _ => False
theorem at_sum : ∀ (l : List Sys) (L : Lats l) (ls : List Int) (z : (parL l).S), At l L ls z → (parL l).u z ≤ ls.sum
  | [], _, [], _, _ => Int.le_refl 0
  | [], _, _ :: _, _, h => h.elim
  | _ :: _, _, [], _, h => h.elim
  | A :: l, L, a :: ls, z, h => by
    have := at_sum l L.2 ls z.2 h.2.2
    have := h.2.1
    show A.u z.1 + (parL l).u z.2 ≤ (a :: ls).sum
    rw [List.sum_cons]; omega
theorem at_move : ∀ (l : List Sys) (L : Lats l) (ls : List Int) (z : (parL l).S) (i : Nat) (A : Sys) (a a' c R : Int) (w : A.S), At l L ls z → l[i]? = some A → ls[i]? = some a →
    Reach A c A.bot w → (∀ v, Reach A c A.bot v → A.u w ≤ A.u v) → A.u w ≤ a' → c + (ls.sum - a) ≤ R → ∃ z', Reach (parL l) R z z' ∧ At l L (ls.set i a') z'
  | [], _, _, _, i, _, _, _, _, _, _, _, h, _, _, _, _, _ => by simp at h
  | _ :: _, _, [], _, _, _, _, _, _, _, _, h, _, _, _, _, _, _ => h.elim
  | A :: l, L, b :: ls, z, 0, A', a, a', c, R, w, h, e1, e2, hr, hm, hu, hc => by
    have e : A = A' := by simpa using e1
    subst e
    have eb : b = a := by simpa using e2
    subst eb
    have hd : L.1.DownMin w := L.1.downMin_of hr hm
    have hl := L.1.lift_reach hr h.1
    rw [L.1.bot_sup] at hl
    have hs := at_sum l L.2 ls z.2 h.2.2
    rw [List.sum_cons] at hc
    refine ⟨(L.1.sup w z.1, z.2), (par_left z.2 hl).mono (by omega), L.1.sup_downMin h.1 hd, ?_, h.2.2⟩
    have := L.1.mod w z.1
    have := h.1 w
    show A.u (L.1.sup w z.1) ≤ a'
    omega
  | A :: l, L, b :: ls, z, i + 1, A', a, a', c, R, w, h, e1, e2, hr, hm, hu, hc => by
    rw [List.sum_cons] at hc
    have hb := h.2.1
    obtain ⟨y, hy, ha⟩ := at_move l L.2 ls z.2 i A' a a' c (R - A.u z.1) w h.2.2 (by simpa using e1) (by simpa using e2) hr hm hu (by omega)
    refine ⟨(z.1, y), (par_right z.1 hy).mono (by omega), h.1, h.2.1, ha⟩
/-! attained lows and closed lows, of valleys -/
inductive Att (parts : List (List Pr)) : Int → List Int → Prop
  | init : Att parts 0 (parts.map fun v => (hd v).2)
  | drop {R R' : Int} {lows : List Int} {i : Nat} {v : List Pr} {q : Pr} {a : Int} : Att parts R lows → parts[i]? = some v → q ∈ v → lows[i]? = some a → R ≤ R' → q.1 + (lows.sum - a) ≤ R' → Att parts R' (lows.set i q.2)
def Closed (parts : List (List Pr)) (R : Int) (lows : List Int) : Prop :=
  lows.length = parts.length ∧ ∀ (i : Nat) v a, parts[i]? = some v → lows[i]? = some a → a ≤ 0 ∧ ∀ q ∈ v, q.1 ≤ R - (lows.sum - a) → a ≤ q.2
structure JointOk (parts : List (List Pr)) (pairs : List Pr) : Prop where
  sound : ∀ p ∈ pairs, ∃ lows, Att parts p.1 lows ∧ lows.sum ≤ p.2
  full : ∀ R, 0 ≤ R → ∃ p ∈ pairs, p.1 ≤ R ∧ ∃ lows, Closed parts R lows ∧ p.2 ≤ lows.sum
/-- systems with these start valleys -/
def Gens : List Sys → List (List Pr) → Prop
  | [], [] => True
  | A :: l, v :: vs => Gen A v ∧ Gens l vs
  | _, _ => False
theorem Gens.length : ∀ {l : List Sys} {vs : List (List Pr)}, Gens l vs → l.length = vs.length
  | [], [], _ => rfl
  | [], _ :: _, h => h.elim
  | _ :: _, [], h => h.elim
  | _ :: _, _ :: _, h => by rw [List.length_cons, List.length_cons, Gens.length h.2]
theorem Gens.get : ∀ {l : List Sys} {vs : List (List Pr)} {i : Nat} {v : List Pr}, Gens l vs → vs[i]? = some v → ∃ A, l[i]? = some A ∧ Gen A v
  | [], [], _, _, _, e => by simp at e
  | [], _ :: _, _, _, h, _ => h.elim
  | _ :: _, [], _, _, h, _ => h.elim
  | A :: l, v :: vs, 0, w, h, e => by
    have : v = w := by simpa using e
    subst this; exact ⟨A, rfl, h.1⟩
  | A :: l, v :: vs, i + 1, w, h, e => by
    obtain ⟨B, h1, h2⟩ := Gens.get (i := i) h.2 (by simpa using e)
    exact ⟨B, by simpa using h1, h2⟩
theorem Gen.least_in {A : Sys} (L : Lat A) {c : Int} (h : Reach A c A.bot A.bot) : ∃ w, Reach A c A.bot w ∧ ∀ v, Reach A c A.bot v → A.u w ≤ A.u v := by
  obtain ⟨B, hB⟩ := L.low
  exact exists_min (p := fun w => Reach A c A.bot w) hB h
theorem Reach.start {A : Sys} {R : Int} {a b : A.S} (h : Reach A R a b) : Reach A R a a := .refl h.first
theorem lats_get : ∀ {l : List Sys} {i : Nat} {A : Sys}, Lats l → l[i]? = some A → Nonempty (Lat A)
  | [], _, _, _, e => by simp at e
  | A :: l, 0, B, L, e => by
    have : A = B := by simpa using e
    subst this; exact ⟨L.1⟩
  | A :: l, i + 1, B, L, e => lats_get (i := i) L.2 (by simpa using e)
/-- the first lows are reached within 0 -/
theorem at_init : ∀ (l : List Sys) (L : Lats l) (parts : List (List Pr)), Gens l parts → (∀ v ∈ parts, v ≠ [] ∧ (hd v).1 = 0 ∧ (hd v).2 ≤ 0) → ∃ z, Reach (parL l) 0 (parL l).bot z ∧ At l L (parts.map fun v => (hd v).2) z
  | [], _, [], _, _ => ⟨_, .refl (Int.le_refl 0), trivial⟩
  | [], _, _ :: _, h, _ => h.elim
  | _ :: _, _, [], h, _ => h.elim
  | A :: l, L, v :: vs, h, hv => by
    obtain ⟨v1, v2, v3⟩ := hv v List.mem_cons_self
    obtain ⟨w0, hw0, hu0⟩ := h.1.sound _ (hd_mem v1)
    obtain ⟨w, hw, hm⟩ := Gen.least_in L.1 hw0.start
    have hm0 := hm w0 hw0
    rw [v2] at hw hm
    obtain ⟨z, hz, ha⟩ := at_init l L.2 vs h.2 fun x hx => hv x (List.mem_cons_of_mem _ hx)
    have r1 := par_left (B := parL l) (parL l).bot hw
    have r2 := par_right (A := A) w hz
    rw [(Lats.par l L.2).zero] at r1
    exact ⟨(w, z), (r1.mono (by omega)).trans (r2.mono (by omega)), L.1.downMin_of hw hm, by show A.u w ≤ (hd v).2; omega, ha⟩
theorem att_at {l : List Sys} (L : Lats l) {parts : List (List Pr)} (g : Gens l parts) (hv : ∀ v ∈ parts, v ≠ [] ∧ (hd v).1 = 0 ∧ (hd v).2 ≤ 0) {R : Int} {lows : List Int} (h : Att parts R lows) : ∃ z, Reach (parL l) R (parL l).bot z ∧ At l L lows z := by
  induction h with
  | init => exact at_init l L parts g hv
  | @drop R R' lows i v q a _ h1 h2 h3 h4 h5 ih =>
    obtain ⟨z, hz, ha⟩ := ih
    obtain ⟨A, hA, gA⟩ := g.get h1
    obtain ⟨LA⟩ := lats_get L hA
    obtain ⟨w0, hw0, hu0⟩ := gA.sound q h2
    obtain ⟨w, hw, hm⟩ := Gen.least_in LA hw0.start
    have := hm w0 hw0
    obtain ⟨z', hz', ha'⟩ := at_move l L lows z i A a q.2 q.1 R' w ha hA h3 hw hm (by omega) h5
    exact ⟨z', (hz.mono h4).trans hz', ha'⟩
theorem lbx_of : ∀ (l : List Sys) (parts : List (List Pr)) (R : Int) (lows : List Int), Gens l parts → lows.length = parts.length →
    (∀ (i : Nat) v a, parts[i]? = some v → lows[i]? = some a → a ≤ 0 ∧ ∀ q ∈ v, q.1 ≤ R - (lows.sum - a) → a ≤ q.2) → LBx l lows R
  | [], [], _, [], _, _, _ => trivial
  | [], [], _, _ :: _, _, h, _ => by simp at h
  | [], _ :: _, _, _, h, _, _ => h.elim
  | _ :: _, [], _, _, h, _, _ => h.elim
  | _ :: _, _ :: _, _, [], _, h, _ => by simp at h
  | A :: l, v :: vs, R, a :: ls, g, hl, h => by
    refine ⟨(h 0 v a rfl rfl).1, fun z hz => ?_, lbx_of l vs (R - a) ls g.2 (by simpa using hl) fun i w b e1 e2 => ?_⟩
    · obtain ⟨p, hp, h1, h2⟩ := g.1.full _ _ hz
      have := (h 0 v a rfl rfl).2 p hp (by rw [List.sum_cons]; omega)
      omega
    · have := h (i + 1) w b (by simpa using e1) (by simpa using e2)
      rw [List.sum_cons] at this
      refine ⟨this.1, fun q hq hc => this.2 q hq (by omega)⟩
/-- PARALLEL: the start valleys -/
theorem joint_gen {l : List Sys} (L : Lats l) {parts : List (List Pr)} {pairs : List Pr} (g : Gens l parts) (hv : ∀ v ∈ parts, v ≠ [] ∧ (hd v).1 = 0 ∧ (hd v).2 ≤ 0) (j : JointOk parts pairs) : Gen (parL l) pairs where
  sound := fun p hp => by
    obtain ⟨lows, ha, hs⟩ := j.sound p hp
    obtain ⟨z, hz, hat⟩ := att_at L g hv ha
    have := at_sum l L lows z hat
    exact ⟨z, hz, by omega⟩
  full := fun R z hz => by
    have h0 := hz.first
    rw [(Lats.par l L).zero] at h0
    obtain ⟨p, hp, h1, lows, hc, h2⟩ := j.full R h0
    have := (lb_all l lows R L (lbx_of l parts R lows g hc.1 hc.2)).2 z hz
    exact ⟨p, hp, h1, by omega⟩
/-! the peak of parallel systems -/
def Mins : List Sys → List Int → Prop
  | [], [] => True
  | A :: l, a :: ls => (∃ x, Least A x ∧ A.u x = a) ∧ Mins l ls
  | _, _ => False
theorem mins_low : ∀ {l : List Sys} {ls : List Int}, Mins l ls → ∀ z, ls.sum ≤ (parL l).u z
  | [], [], _, _ => Int.le_refl 0
  | [], _ :: _, h, _ => h.elim
  | _ :: _, [], h, _ => h.elim
  | A :: l, a :: ls, h, z => by
    obtain ⟨x, hx, e⟩ := h.1
    have := hx z.1
    have := mins_low h.2 z.2
    show (a :: ls).sum ≤ A.u z.1 + (parL l).u z.2
    rw [List.sum_cons]; omega
def PeaksLe : List Sys → List Int → List Int → Int → Prop
  | [], [], [], _ => True
  | A :: l, k :: ks, a :: ls, R => IsPeak A k ∧ k + ls.sum ≤ R ∧ PeaksLe l ks ls (R - a)
  | _, _, _, _ => False
theorem par_between : ∀ (l : List Sys) (L : Lats l) (ks ls : List Int) (R : Int) (x y : (parL l).S), Mins l ls → PeaksLe l ks ls R → ls.sum ≤ R → (parL l).u x = ls.sum → Least (parL l) x → Least (parL l) y → Reach (parL l) R x ((Lats.par l L).sup x y)
  | [], _, [], [], R, x, y, _, _, h, _, _, _ => .refl (show (0 : Int) ≤ R from h)
  | [], _, _ :: _, _, _, _, _, _, h, _, _, _, _ => by cases h
  | [], _, [], _ :: _, _, _, _, h, _, _, _, _, _ => by cases h
  | _ :: _, _, _, [], _, _, _, h, _, _, _, _, _ => by cases h
  | _ :: _, _, [], _ :: _, _, _, _, _, h, _, _, _, _ => by cases h
  | A :: l, L, k :: ks, a :: ls, R, x, y, hm, hp, hR, hu, hx, hy => by
    have lx1 : Least A x.1 := fun z => by
      have h : A.u x.1 + (parL l).u x.2 ≤ A.u z + (parL l).u x.2 := hx (z, x.2)
      omega
    have lx2 : Least (parL l) x.2 := fun z => by
      have h : A.u x.1 + (parL l).u x.2 ≤ A.u x.1 + (parL l).u z := hx (x.1, z)
      omega
    have ly1 : Least A y.1 := fun z => by
      have h : A.u y.1 + (parL l).u y.2 ≤ A.u z + (parL l).u y.2 := hy (z, y.2)
      omega
    have ly2 : Least (parL l) y.2 := fun z => by
      have h : A.u y.1 + (parL l).u y.2 ≤ A.u y.1 + (parL l).u z := hy (y.1, z)
      omega
    obtain ⟨x0, h0, e0⟩ := hm.1
    have q1 := lx1 x0
    have q2 := h0 x.1
    have hu' : A.u x.1 + (parL l).u x.2 = (a :: ls).sum := hu
    rw [List.sum_cons] at hu' hR
    have r1 := par_left (B := parL l) x.2 (L.1.least_between hp.1.runs lx1 ly1)
    have q3 := L.1.least_sup lx1 ly1
    have q4 := q3 x.1
    have q5 := lx1 (L.1.sup x.1 y.1)
    have hp2 := hp.2.1
    have r2 := par_right (A := A) (L.1.sup x.1 y.1) (par_between l L.2 ks ls (R - a) x.2 y.2 hm.2 hp.2.2 (by omega) (by omega) lx2 ly2)
    exact (r1.mono (by omega)).trans (r2.mono (by omega))
theorem par_runs {l : List Sys} (L : Lats l) {ks ls : List Int} {R : Int} {z1 z2 : (parL l).S} (hm : Mins l ls) (hp : PeaksLe l ks ls R) (h1 : Least (parL l) z1) (h2 : Least (parL l) z2) (e1 : (parL l).u z1 = ls.sum)
    (r1 : Reach (parL l) R (parL l).bot z1) (r2 : Reach (parL l) R z2 (parL l).top) : Reach (parL l) R (parL l).bot (parL l).top := by
  have := r1.last
  have b := par_between l L ks ls R z1 z2 hm hp (by omega) e1 h1 h2
  have t := (Lats.par l L).lift_reach r2 ((Lats.par l L).least_down h1)
  rw [(Lats.par l L).top_sup, (Lats.par l L).sup_comm] at t
  exact (r1.trans b).trans t
theorem par_peaks : ∀ (l : List Sys) (ks ls : List Int) (R : Int), Mins l ls → (∀ (i : Nat) A k, l[i]? = some A → ks[i]? = some k → IsPeak A k) → ks.length = l.length → ls.length = l.length → Reach (parL l) R (parL l).bot (parL l).top → PeaksLe l ks ls R
  | [], [], [], _, _, _, _, _, _ => trivial
  | [], _ :: _, _, _, _, _, h, _, _ => by simp at h
  | [], [], _ :: _, _, h, _, _, _, _ => h.elim
  | _ :: _, [], _, _, _, _, h, _, _ => by simp at h
  | _ :: _, _ :: _, [], _, h, _, _, _, _ => h.elim
  | A :: l, k :: ks, a :: ls, R, hm, hk, h1, h2, r => by
    have hp := hk 0 A k rfl rfl
    have low := mins_low hm.2
    obtain ⟨x, hx, e⟩ := hm.1
    have q := hp.least _ (proj_left (A := A) (B := parL l) low r)
    refine ⟨hp, by omega, par_peaks l ks ls (R - a) hm.2 (fun i B j e1 e2 => hk (i + 1) B j (by simpa using e1) (by simpa using e2)) (by simpa using h1) (by simpa using h2) ?_⟩
    exact proj_right (A := A) (B := parL l) (fun z => by rw [← e]; exact hx z) r
end K30m
namespace K30m
theorem Strict.at_le {D : List Pr} (h : Strict D) {m k : Nat} {q r : Pr} (hq : D[m]? = some q) (hr : D[k]? = some r) (l : m ≤ k) : q.1 ≤ r.1 ∧ r.2 ≤ q.2 := by
  rcases Nat.lt_or_eq_of_le l with l | l
  · obtain ⟨h1, e1⟩ := List.getElem?_eq_some_iff.mp hq
    obtain ⟨h2, e2⟩ := List.getElem?_eq_some_iff.mp hr
    have := List.pairwise_iff_getElem.mp h m k h1 h2 l
    rw [e1, e2] at this; omega
  · subst l
    rw [hq] at hr; cases hr; omega
theorem sum_set' : ∀ {l : List Int} {i : Nat} {a b : Int}, l[i]? = some a → (l.set i b).sum = l.sum - a + b
  | [], _, _, _, h => by simp at h
  | x :: l, 0, a, b, h => by
    have : x = a := by simpa using h
    subst this
    rw [List.set_cons_zero, List.sum_cons, List.sum_cons]; omega
  | x :: l, i + 1, a, b, h => by
    rw [List.set_cons_succ, List.sum_cons, List.sum_cons, sum_set' (i := i) (a := a) (by simpa using h)]; omega
/-! the loop of joint -/
structure JInv (parts : List (List Pr)) (places : List Nat) (lows : List Int) (cap : Int) (pairs : List Pr) : Prop where
  lenP : places.length = parts.length
  lenL : lows.length = parts.length
  pos : ∀ (i : Nat) v k a, parts[i]? = some v → places[i]? = some k → lows[i]? = some a → ∃ q, v[k]? = some q ∧ a = q.2
  att : Att parts cap lows
  neg : ∀ (i : Nat) a, lows[i]? = some a → a ≤ 0
  cap0 : 0 ≤ cap
  sound : ∀ p ∈ pairs, ∃ ls, Att parts p.1 ls ∧ ls.sum ≤ p.2
  last : (cap, lows.sum) ∈ pairs
  full : ∀ R, 0 ≤ R → R < cap → ∃ p ∈ pairs, p.1 ≤ R ∧ ∃ ls, Closed parts R ls ∧ p.2 ≤ ls.sum
  cnt : pairs.length = 1 + places.sum
/-- no part falls below R -/
def NoDrop (parts : List (List Pr)) (places : List Nat) (lows : List Int) (R : Int) : Prop :=
  ∀ (j : Nat) v k a q, parts[j]? = some v → places[j]? = some k → lows[j]? = some a → v[k + 1]? = some q → R < q.1 + lows.sum - a
theorem JInv.closed {parts places lows cap pairs} (h : JInv parts places lows cap pairs) (hv : ∀ v ∈ parts, Valleys v) {R : Int} (hn : NoDrop parts places lows R) : Closed parts R lows := by
  refine ⟨h.lenL, fun i v a e1 e2 => ⟨h.neg i a e2, fun q hq hc => ?_⟩⟩
  have hi : i < places.length := by
    rw [h.lenP]; exact (List.getElem?_eq_some_iff.mp e1).1
  have e3 : places[i]? = some places[i] := List.getElem?_eq_getElem hi
  generalize places[i] = k at e3
  obtain ⟨r, hr, ha⟩ := h.pos i v k a e1 e3 e2
  obtain ⟨m, hm⟩ := List.getElem?_of_mem hq
  have hs := (hv v (List.mem_of_getElem? e1)).2
  rcases Nat.lt_or_ge k m with l | l
  · have hlt : k + 1 < v.length := by have := (List.getElem?_eq_some_iff.mp hm).1; omega
    have e4 : v[k + 1]? = some v[k + 1] := List.getElem?_eq_getElem hlt
    have h1 := hn i v k a _ e1 e3 e2 e4
    have h2 := hs.at_le e4 hm l
    omega
  · have := hs.at_le hm hr l
    omega
theorem jinit {parts : List (List Pr)} (hv : ∀ v ∈ parts, v ≠ [] ∧ (hd v).1 = 0 ∧ (hd v).2 ≤ 0) : JInv parts (parts.map fun _ => 0) (parts.map fun v => (hd v).2) 0 [(0, (parts.map fun v => (hd v).2).sum)] where
  lenP := List.length_map _
  lenL := List.length_map _
  pos := fun i v k a e1 e2 e3 => by
    rw [List.getElem?_map, e1] at e2 e3
    have h2 : 0 = k := by simpa using e2
    have h3 : (hd v).2 = a := by simpa using e3
    subst h2; subst h3
    refine ⟨hd v, ?_, rfl⟩
    cases v with
    | nil => exact absurd rfl (hv [] (List.mem_of_getElem? e1)).1
    | cons x v => rfl
  att := .init
  neg := fun i a e => by
    rw [List.getElem?_map] at e
    cases h : parts[i]? with
    | none => rw [h] at e; simp at e
    | some v =>
      rw [h] at e
      have : (hd v).2 = a := by simpa using e
      have := (hv v (List.mem_of_getElem? h)).2.2
      omega
  cap0 := Int.le_refl 0
  sound := fun p hp => by
    have : p = (0, (parts.map fun v => (hd v).2).sum) := by simpa using hp
    subst this
    exact ⟨_, .init, Int.le_refl _⟩
  last := by simp
  full := fun R h1 h2 => by omega
  cnt := by
    have : (parts.map fun _ => 0).sum = 0 := by
      induction parts with
      | nil => rfl
      | cons x l ih => rw [List.map_cons, List.sum_cons, ih fun v h => hv v (List.mem_cons_of_mem _ h)]
    rw [this]; rfl
theorem natsum_set : ∀ {l : List Nat} {i k : Nat}, l[i]? = some k → (l.set i (k + 1)).sum = l.sum + 1
  | [], _, _, h => by simp at h
  | x :: l, 0, k, h => by
    have : x = k := by simpa using h
    subst this
    rw [List.set_cons_zero, List.sum_cons, List.sum_cons]; omega
  | x :: l, i + 1, k, h => by
    rw [List.set_cons_succ, List.sum_cons, List.sum_cons, natsum_set (i := i) (by simpa using h)]; omega
theorem jstep {parts places lows cap pairs} (h : JInv parts places lows cap pairs) (hv : ∀ v ∈ parts, Valleys v) {i : Nat} {v : List Pr} {k : Nat} {a : Int} {q : Pr} (e1 : parts[i]? = some v) (e2 : places[i]? = some k) (e3 : lows[i]? = some a) (e4 : v[k + 1]? = some q)
    (hm : ∀ (j : Nat) v' k' a' q', parts[j]? = some v' → places[j]? = some k' → lows[j]? = some a' → v'[k' + 1]? = some q' → q.1 + lows.sum - a ≤ q'.1 + lows.sum - a') :
    JInv parts (places.set i (k + 1)) (lows.set i q.2) (max cap (q.1 + lows.sum - a)) (pairs ++ [(max cap (q.1 + lows.sum - a), (lows.set i q.2).sum)]) := by
  have hi : i < places.length := (List.getElem?_eq_some_iff.mp e2).1
  have hi' : i < lows.length := (List.getElem?_eq_some_iff.mp e3).1
  have hs := (hv v (List.mem_of_getElem? e1)).2
  obtain ⟨r, hr, har⟩ := h.pos i v k a e1 e2 e3
  have hle := hs.at_le hr e4 (Nat.le_succ k)
  have hat : Att parts (max cap (q.1 + lows.sum - a)) (lows.set i q.2) := h.att.drop e1 (List.mem_of_getElem? e4) e3 (Int.le_max_left _ _) (by omega)
  have hc0 := h.cap0
  refine ⟨by simpa using h.lenP, by simpa using h.lenL, fun j v' k' a' f1 f2 f3 => ?_, hat, fun j a' f => ?_, by omega, fun p hp => ?_, by simp, fun R h0 hR => ?_, ?_⟩
  · by_cases hj : j = i
    · subst hj
      rw [e1] at f1; cases f1
      rw [List.getElem?_set_self hi] at f2; cases f2
      rw [List.getElem?_set_self hi'] at f3; cases f3
      exact ⟨q, e4, rfl⟩
    · rw [List.getElem?_set_ne (Ne.symm hj)] at f2 f3
      exact h.pos j v' k' a' f1 f2 f3
  · by_cases hj : j = i
    · subst hj
      rw [List.getElem?_set_self hi'] at f; cases f
      have := h.neg j a e3; omega
    · rw [List.getElem?_set_ne (Ne.symm hj)] at f
      exact h.neg j a' f
  · rcases List.mem_append.mp hp with hp | hp
    · exact h.sound p hp
    · have : p = (max cap (q.1 + lows.sum - a), (lows.set i q.2).sum) := by simpa using hp
      subst this
      exact ⟨_, hat, Int.le_refl _⟩
  · by_cases hc : R < cap
    · obtain ⟨p, hp, h1, ls, h2, h3⟩ := h.full R h0 hc
      exact ⟨p, List.mem_append_left _ hp, h1, ls, h2, h3⟩
    · refine ⟨_, List.mem_append_left _ h.last, by dsimp only; omega, lows, h.closed hv fun j v' k' a' q' f1 f2 f3 f4 => ?_, Int.le_refl _⟩
      have := hm j v' k' a' q' f1 f2 f3 f4
      omega
  · rw [List.length_append, h.cnt, natsum_set e2]; simp; omega
theorem jend {parts places lows cap pairs} (h : JInv parts places lows cap pairs) (hv : ∀ v ∈ parts, Valleys v) (hn : ∀ (j : Nat) v k, parts[j]? = some v → places[j]? = some k → v.length ≤ k + 1) : JointOk parts pairs where
  sound := h.sound
  full := fun R h0 => by
    by_cases hc : R < cap
    · exact h.full R h0 hc
    · refine ⟨_, h.last, by dsimp only; omega, lows, h.closed hv fun j v' k' a' q' f1 f2 f3 f4 => ?_, Int.le_refl _⟩
      have := hn j v' k' f1 f2
      have := (List.getElem?_eq_some_iff.mp f4).1
      omega
/-- how many turns there can be -/
theorem places_sum : ∀ {parts : List (List Pr)} {places : List Nat}, places.length = parts.length → (∀ (i : Nat) v k, parts[i]? = some v → places[i]? = some k → k < v.length) → places.sum + parts.length ≤ (parts.map List.length).sum
  | [], [], _, _ => by simp
  | [], _ :: _, h, _ => by simp at h
  | _ :: _, [], h, _ => by simp at h
  | v :: parts, k :: places, h, hk => by
    have h1 := hk 0 v k rfl rfl
    have h2 := places_sum (parts := parts) (places := places) (by simpa using h) fun i w j e1 e2 => hk (i + 1) w j (by simpa using e1) (by simpa using e2)
    rw [List.map_cons, List.sum_cons, List.sum_cons, List.length_cons]; omega
theorem JInv.places_sum {parts places lows cap pairs} (h : JInv parts places lows cap pairs) : places.sum + parts.length ≤ (parts.map List.length).sum :=
  K30m.places_sum h.lenP fun i v k e1 e2 => by
    have hi : i < lows.length := by rw [h.lenL]; exact (List.getElem?_eq_some_iff.mp e1).1
    obtain ⟨q, hq, _⟩ := h.pos i v k _ e1 e2 (List.getElem?_eq_getElem hi)
    exact (List.getElem?_eq_some_iff.mp hq).1
/-! copies -/
theorem sum_rep (n : Nat) (a : Int) : (List.replicate n a).sum = n * a := by
  induction n with
  | zero => simp
  | succ n ih =>
    rw [List.replicate_succ, List.sum_cons, ih]
    have : ((n + 1 : Nat) : Int) * a = n * a + a := by rw [Int.natCast_add, Int.add_mul]; simp
    omega
theorem set_rep (i m : Nat) (a b : Int) : (List.replicate i b ++ List.replicate (m + 1) a).set i b = List.replicate (i + 1) b ++ List.replicate m a := by
  rw [List.set_append]
  simp only [List.length_replicate, Nat.lt_irrefl, if_false, Nat.sub_self]
  rw [List.replicate_succ, List.set_cons_zero, List.replicate_succ', List.append_assoc, List.singleton_append]
theorem att_copies {n : Nat} (n0 : 0 < n) {v : List Pr} {cap cap' low : Int} {q : Pr} (h : Att (List.replicate n v) cap (List.replicate n low)) (hq : q ∈ v) (hl : q.2 ≤ low) (hc : cap ≤ cap') (hn : q.1 + (n - 1) * low ≤ cap') : Att (List.replicate n v) cap' (List.replicate n q.2) := by
  have key : ∀ i, i ≤ n → Att (List.replicate n v) (if i = 0 then cap else cap') (List.replicate i q.2 ++ List.replicate (n - i) low) := by
    intro i
    induction i with
    | zero => intro _; simpa using h
    | succ i ih =>
      intro hi
      have h1 := ih (by omega)
      obtain ⟨m, hm⟩ : ∃ m, n - i = m + 1 := ⟨n - i - 1, by omega⟩
      rw [hm] at h1
      have h2 : Att (List.replicate n v) cap' ((List.replicate i q.2 ++ List.replicate (m + 1) low).set i q.2) := by
        refine h1.drop (v := v) (a := low) ?_ hq ?_ ?_ ?_
        · rw [List.getElem?_replicate]; rw [if_pos (by omega)]
        · rw [List.getElem?_append_right (by simp)]; simp
        · split <;> omega
        · rw [List.sum_append, sum_rep, sum_rep]
          have e1 : ((m + 1 : Nat) : Int) * low = m * low + low := by rw [Int.natCast_add, Int.add_mul]; simp
          have e2 : (i : Int) * q.2 ≤ i * low := Int.mul_le_mul_of_nonneg_left hl (by omega)
          have e3 : ((n : Int) - 1) * low = i * low + m * low := by
            have : (n : Int) - 1 = i + m := by omega
            rw [this, Int.add_mul]
          omega
      rw [set_rep] at h2
      have e : n - (i + 1) = m := by omega
      rw [e, if_neg (by omega)]
      exact h2
  have := key n (Nat.le_refl _)
  rw [Nat.sub_self] at this
  simp only [List.replicate_zero, List.append_nil] at this
  rw [if_neg (by omega)] at this
  exact this
theorem closed_copies {n : Nat} {v : List Pr} {low R : Int} (h0 : low ≤ 0) (h : ∀ q ∈ v, q.1 ≤ R - (n - 1) * low → low ≤ q.2) : Closed (List.replicate n v) R (List.replicate n low) := by
  refine ⟨by simp, fun i w a e1 e2 => ?_⟩
  rw [List.getElem?_replicate] at e1 e2
  split at e1
  · rename_i hi
    rw [if_pos hi] at e2
    cases e1; cases e2
    refine ⟨h0, fun q hq hc => h q hq ?_⟩
    rw [sum_rep] at hc
    have : ((n : Int) - 1) * low = n * low - low := by rw [Int.sub_mul]; simp
    omega
  · cases e1
structure CInv (n : Nat) (v : List Pr) (k : Nat) (cap low : Int) (pairs : List Pr) : Prop where
  zero : k = 0 → cap = 0 ∧ low = 0
  at_ : ∀ j q, k = j + 1 → v[j]? = some q → low = q.2
  att : 0 < k → Att (List.replicate n v) cap (List.replicate n low)
  neg : low ≤ 0
  cap0 : 0 ≤ cap
  sound : ∀ p ∈ pairs, ∃ ls, Att (List.replicate n v) p.1 ls ∧ ls.sum ≤ p.2
  last : 0 < k → (cap, n * low) ∈ pairs
  full : ∀ R, 0 ≤ R → R < cap → ∃ p ∈ pairs, p.1 ≤ R ∧ ∃ ls, Closed (List.replicate n v) R ls ∧ p.2 ≤ ls.sum
  cnt : pairs.length = k
theorem cinit (n : Nat) (v : List Pr) : CInv n v 0 0 0 [] :=
  ⟨fun _ => ⟨rfl, rfl⟩, fun j q h => by omega, fun h => by omega, Int.le_refl _, Int.le_refl _, fun p h => by simp at h, fun h => by omega, fun R h h' => by omega, rfl⟩
theorem cstep {n : Nat} (n0 : 0 < n) {v : List Pr} (hv : Valleys v) (h1 : (hd v).1 = 0) (h2 : (hd v).2 ≤ 0) {k : Nat} {cap low : Int} {pairs : List Pr} (h : CInv n v k cap low pairs) {q : Pr} (hq : v[k]? = some q) :
    CInv n v (k + 1) (max cap (q.1 + (n - 1) * low)) q.2 (pairs ++ [(max cap (q.1 + (n - 1) * low), n * q.2)]) := by
  have hneg : q.2 ≤ 0 := by
    have := (hv.first_le q (List.mem_of_getElem? hq)).2; omega
  have hc0 := h.cap0
  have att : Att (List.replicate n v) (max cap (q.1 + (n - 1) * low)) (List.replicate n q.2) := by
    cases k with
    | zero =>
      obtain ⟨z1, z2⟩ := h.zero rfl
      have e : q = hd v := by
        cases v with
        | nil => simp at hq
        | cons x v => simpa [hd] using hq.symm
      subst e; subst z1; subst z2
      rw [h1]
      have : Att (List.replicate n v) 0 ((List.replicate n v).map fun v => (hd v).2) := .init
      rw [List.map_replicate] at this
      simpa using this
    | succ k =>
      have hk : k < v.length := by have := (List.getElem?_eq_some_iff.mp hq).1; omega
      have e := h.at_ k _ rfl (List.getElem?_eq_getElem hk)
      have := hv.2.at_le (List.getElem?_eq_getElem hk) hq (Nat.le_succ k)
      exact att_copies n0 (h.att (by omega)) (List.mem_of_getElem? hq) (by omega) (Int.le_max_left _ _) (Int.le_max_right _ _)
  refine ⟨fun z => by omega, fun j r ej hr => ?_, fun _ => att, hneg, by omega, fun p hp => ?_, fun _ => by simp, fun R r0 hR => ?_, by simp [h.cnt]⟩
  · have : j = k := by omega
    subst this
    rw [hq] at hr; cases hr; rfl
  · rcases List.mem_append.mp hp with hp | hp
    · exact h.sound p hp
    · have : p = (max cap (q.1 + (n - 1) * low), n * q.2) := by simpa using hp
      subst this
      exact ⟨_, att, by rw [sum_rep]; exact Int.le_refl _⟩
  · by_cases hc : R < cap
    · obtain ⟨p, hp, g1, ls, g2, g3⟩ := h.full R r0 hc
      exact ⟨p, List.mem_append_left _ hp, g1, ls, g2, g3⟩
    · have k0 : 0 < k := by
        rcases Nat.eq_zero_or_pos k with e | e
        · exfalso
          subst e
          obtain ⟨z1, z2⟩ := h.zero rfl
          have e : q = hd v := by
            cases v with
            | nil => simp at hq
            | cons x v => simpa [hd] using hq.symm
          subst e; subst z2
          rw [h1] at hR
          simp at hR; omega
        · exact e
      refine ⟨_, List.mem_append_left _ (h.last k0), by dsimp only; omega, _, closed_copies h.neg fun r hr hc2 => ?_, by rw [sum_rep]; exact Int.le_refl _⟩
      obtain ⟨j, rfl⟩ : ∃ j, k = j + 1 := ⟨k - 1, by omega⟩
      have hj : j < v.length := by have := (List.getElem?_eq_some_iff.mp hq).1; omega
      have e := h.at_ j _ rfl (List.getElem?_eq_getElem hj)
      obtain ⟨m, hm⟩ := List.getElem?_of_mem hr
      rcases Nat.lt_or_ge j m with l | l
      · have := hv.2.at_le hq hm l
        omega
      · have := hv.2.at_le hm (List.getElem?_eq_getElem hj) l
        omega
theorem cend {n : Nat} {v : List Pr} (hv : Valleys v) {cap low : Int} {pairs : List Pr} (h : CInv n v v.length cap low pairs) : JointOk (List.replicate n v) pairs where
  sound := h.sound
  full := fun R h0 => by
    have l0 : 0 < v.length := List.length_pos_iff.mpr hv.1
    by_cases hc : R < cap
    · exact h.full R h0 hc
    · refine ⟨_, h.last l0, by dsimp only; omega, _, closed_copies h.neg fun r hr _ => ?_, by rw [sum_rep]; exact Int.le_refl _⟩
      have hj : v.length - 1 < v.length := by omega
      have e := h.at_ (v.length - 1) _ (by omega) (List.getElem?_eq_getElem hj)
      obtain ⟨m, hm⟩ := List.getElem?_of_mem hr
      have hml := (List.getElem?_eq_some_iff.mp hm).1
      have := hv.2.at_le hm (List.getElem?_eq_getElem hj) (by omega)
      omega
/-! steps, empty, lists in sequence and in parallel -/
def stepS (v : Int) : Sys := ⟨Bool, fun b => if b then v else 0, fun a b => a = false ∧ b = true, false, true⟩
def Lat.step (v : Int) : Lat (stepS v) where
  sup := fun a b => a || b
  inf := fun a b => a && b
  mod := fun a b => by cases a <;> cases b <;> simp [stepS]
  sup_comm := fun a b => Bool.or_comm a b
  inf_comm := fun a b => Bool.and_comm a b
  sup_assoc := fun a b c => Bool.or_assoc a b c
  inf_assoc := fun a b c => Bool.and_assoc a b c
  sup_inf := fun a b => by cases a <;> cases b <;> rfl
  inf_sup := fun a b => by cases a <;> cases b <;> rfl
  lift := fun a b c h => by obtain ⟨rfl, rfl⟩ := h; cases c <;> simp [stepS]
  cut := fun a b c h => by obtain ⟨rfl, rfl⟩ := h; cases c <;> simp [stepS]
  le := fun a b h => by obtain ⟨rfl, rfl⟩ := h; rfl
  bot_sup := fun z => Bool.false_or z
  top_inf := fun z => Bool.true_and z
  here := fun z => by
    cases z with
    | false => exact ⟨0, .refl (Int.le_refl 0)⟩
    | true => exact ⟨max 0 v, .tail (.refl (show (0 : Int) ≤ max 0 v by omega)) ⟨rfl, rfl⟩ (show v ≤ max 0 v by omega)⟩
  there := fun z => by
    cases z with
    | true => exact ⟨v, .refl (show v ≤ v from Int.le_refl _)⟩
    | false => exact ⟨max 0 v, .tail (.refl (show (0 : Int) ≤ max 0 v by omega)) ⟨rfl, rfl⟩ (show v ≤ max 0 v by omega)⟩
  low := ⟨min 0 v, fun z => by cases z <;> simp [stepS] <;> omega⟩
  zero := rfl
theorem step_reach {v R : Int} {z : Bool} (h : Reach (stepS v) R false z) : z = false ∨ (z = true ∧ v ≤ R) := by
  cases z with
  | false => exact .inl rfl
  | true => exact .inr ⟨rfl, h.last⟩
theorem step_gen (v : Int) : Gen (stepS v) [(0, 0), (max 0 v, v)] where
  sound := fun p hp => by
    rcases List.mem_cons.mp hp with rfl | hp
    · exact ⟨false, .refl (Int.le_refl 0), Int.le_refl 0⟩
    · have : p = (max 0 v, v) := by simpa using hp
      subst this
      exact ⟨true, .tail (.refl (show (0 : Int) ≤ max 0 v by omega)) ⟨rfl, rfl⟩ (show v ≤ max 0 v by omega), Int.le_refl v⟩
  full := fun R z hz => by
    have h0 : (0 : Int) ≤ R := hz.first
    rcases step_reach hz with rfl | ⟨rfl, h⟩
    · exact ⟨(0, 0), by simp, h0, Int.le_refl 0⟩
    · exact ⟨(max 0 v, v), by simp, by dsimp only; omega, Int.le_refl v⟩
theorem step_peak (v : Int) : IsPeak (stepS v) (max 0 v) where
  runs := .tail (.refl (show (0 : Int) ≤ max 0 v by omega)) ⟨rfl, rfl⟩ (show v ≤ max 0 v by omega)
  least := fun R h => by
    have h1 : (0 : Int) ≤ R := h.first
    have h2 : v ≤ R := h.last
    omega
def step_op (v : Int) : Iso (op (stepS v)) (stepS (-v)) where
  f := fun (b : Bool) => !b
  g := fun (b : Bool) => !b
  fg := fun b => Bool.not_not b
  gf := fun b => Bool.not_not b
  hu := fun (b : Bool) => by
    show (if (!b) = true then -v else 0) = (if b = true then v else 0) - (if true = true then v else 0)
    cases b <;> simp
  hs := fun (a b : Bool) => by
    show (b = false ∧ a = true) ↔ ((!a) = false ∧ (!b) = true)
    cases a <;> cases b <;> simp
  hb := rfl
  ht := rfl
def stepP (v : Int) : Pf := if 0 < v then ⟨v, v, [(0, 0)], [(v, 0)]⟩ else ⟨v, 0, [(0, v)], [(v, v)]⟩
theorem step_ok (v : Int) : IsPf (stepS v) (stepP v) := by
  have e : ∀ w : Int, (if 0 < w then [((0, 0) : Pr)] else [(0, w)]) = desc [(0, 0), (max 0 w, w)] := by
    intro w
    split
    · rename_i h
      refine (desc_of_strict (List.pairwise_singleton _ _) (fun q hq => ⟨(0, 0), by simp, ?_⟩) (fun q hq => ⟨q, ?_, by omega, by omega⟩)).symm
      · rcases List.mem_cons.mp hq with rfl | hq
        · exact ⟨Int.le_refl _, Int.le_refl _⟩
        · have : q = (max 0 w, w) := by simpa using hq
          subst this; dsimp only; omega
      · have : q = (0, 0) := by simpa using hq
        subst this; simp
    · rename_i h
      have hm : max 0 w = 0 := by omega
      rw [hm]
      refine (desc_of_strict (List.pairwise_singleton _ _) (fun q hq => ⟨(0, w), by simp, ?_⟩) (fun q hq => ⟨q, ?_, by omega, by omega⟩)).symm
      · rcases List.mem_cons.mp hq with rfl | hq
        · dsimp only; omega
        · have : q = (0, w) := by simpa using hq
          subst this; dsimp only; omega
      · have : q = (0, w) := by simpa using hq
        subst this; simp
  have g := (step_gen v).desc
  have g' := (step_op v).symm.gen (step_gen (-v)).desc
  rw [← e] at g g'
  unfold stepP
  by_cases h : 0 < v
  · rw [if_pos h] at g ⊢
    rw [if_neg (by omega)] at g'
    refine ⟨rfl, ?_, ⟨by simp, List.pairwise_singleton _ _⟩, g, ⟨by simp, List.pairwise_singleton _ _⟩, ?_⟩
    · have := step_peak v
      rw [show max 0 v = v by omega] at this; exact this
    · have e2 : mv [((v, 0) : Pr)] (-v) = [(0, -v)] := by simp [mv]; omega
      show Gen (op (stepS v)) (mv [(v, 0)] (-v))
      rw [e2]; exact g'
  · rw [if_neg h] at g ⊢
    refine ⟨rfl, ?_, ⟨by simp, List.pairwise_singleton _ _⟩, g, ⟨by simp, List.pairwise_singleton _ _⟩, ?_⟩
    · have := step_peak v
      rw [show max 0 v = 0 by omega] at this; exact this
    · have e2 : mv [((v, v) : Pr)] (-v) = [(0, 0)] := by simp [mv]; omega
      show Gen (op (stepS v)) (mv [(v, v)] (-v))
      rw [e2]
      by_cases h2 : 0 < -v
      · rw [if_pos h2] at g'; exact g'
      · rw [if_neg h2] at g'
        have : v = 0 := by omega
        subst this; exact g'
def emptyP : Pf := ⟨0, 0, [(0, 0)], [(0, 0)]⟩
theorem unit_gen : Gen unitS [(0, 0)] where
  sound := fun p hp => by
    have : p = (0, 0) := by simpa using hp
    subst this; exact ⟨(), .refl (Int.le_refl 0), Int.le_refl 0⟩
  full := fun R z hz => ⟨(0, 0), by simp, hz.first, Int.le_refl 0⟩
theorem empty_ok : IsPf unitS emptyP := by
  refine ⟨rfl, ⟨.refl (Int.le_refl 0), fun R h => h.first⟩, ⟨by simp [emptyP], List.pairwise_singleton _ _⟩, unit_gen, ⟨by simp [emptyP], List.pairwise_singleton _ _⟩, ?_⟩
  exact unit_op.symm.gen unit_gen
def seqL (l : List Sys) : Sys := l.foldl seqS unitS
def seqP (ps : List Pf) : Pf := ps.foldl two emptyP
end K30m
namespace K30m
def Lat.seq {A B : Sys} (L : Lat A) (M : Lat B) : Lat (seqS A B) where
  sup := fun p q => ⟨(L.sup p.1.1 q.1.1, M.sup p.1.2 q.1.2), by
    rcases p.2 with h | h
    · exact .inl (by dsimp only; rw [h, L.top_sup])
    · rcases q.2 with h' | h'
      · exact .inl (by dsimp only; rw [h', L.sup_comm, L.top_sup])
      · exact .inr (by dsimp only; rw [h, h', M.bot_sup])⟩
  inf := fun p q => ⟨(L.inf p.1.1 q.1.1, M.inf p.1.2 q.1.2), by
    rcases p.2 with h | h
    · rcases q.2 with h' | h'
      · exact .inl (by dsimp only; rw [h, h', L.top_inf])
      · exact .inr (by dsimp only; rw [h', M.inf_comm, M.bot_inf])
    · exact .inr (by dsimp only; rw [h, M.bot_inf])⟩
  mod := fun p q => by
    show (A.u (L.sup p.1.1 q.1.1) + B.u (M.sup p.1.2 q.1.2)) + (A.u (L.inf p.1.1 q.1.1) + B.u (M.inf p.1.2 q.1.2)) = (A.u p.1.1 + B.u p.1.2) + (A.u q.1.1 + B.u q.1.2)
    have := L.mod p.1.1 q.1.1; have := M.mod p.1.2 q.1.2; omega
  sup_comm := fun p q => seq_ext (L.sup_comm _ _) (M.sup_comm _ _)
  inf_comm := fun p q => seq_ext (L.inf_comm _ _) (M.inf_comm _ _)
  sup_assoc := fun p q r => seq_ext (L.sup_assoc _ _ _) (M.sup_assoc _ _ _)
  inf_assoc := fun p q r => seq_ext (L.inf_assoc _ _ _) (M.inf_assoc _ _ _)
  sup_inf := fun p q => seq_ext (L.sup_inf _ _) (M.sup_inf _ _)
  inf_sup := fun p q => seq_ext (L.inf_sup _ _) (M.inf_sup _ _)
  lift := fun p q r s => by
    have s' : (A.st p.1.1 q.1.1 ∧ p.1.2 = B.bot ∧ q.1.2 = B.bot) ∨ (p.1.1 = A.top ∧ q.1.1 = A.top ∧ B.st p.1.2 q.1.2) := s
    rcases s' with ⟨s1, s2, s3⟩ | ⟨s1, s2, s3⟩
    · rcases r.2 with h | h
      · refine .inl (seq_ext ?_ ?_)
        · dsimp only; rw [h, L.sup_comm, L.top_sup, L.sup_comm, L.top_sup]
        · dsimp only; rw [s2, s3]
      · rcases L.lift _ _ r.1.1 s1 with e | e
        · exact .inl (seq_ext e (by dsimp only; rw [s2, s3]))
        · exact .inr (.inl ⟨e, by dsimp only; rw [s2, h, M.bot_sup], by dsimp only; rw [s3, h, M.bot_sup]⟩)
    · rcases M.lift _ _ r.1.2 s3 with e | e
      · exact .inl (seq_ext (by dsimp only; rw [s1, s2]) e)
      · exact .inr (.inr ⟨by dsimp only; rw [s1, L.top_sup], by dsimp only; rw [s2, L.top_sup], e⟩)
  cut := fun p q r s => by
    have s' : (A.st p.1.1 q.1.1 ∧ p.1.2 = B.bot ∧ q.1.2 = B.bot) ∨ (p.1.1 = A.top ∧ q.1.1 = A.top ∧ B.st p.1.2 q.1.2) := s
    rcases s' with ⟨s1, s2, s3⟩ | ⟨s1, s2, s3⟩
    · rcases L.cut _ _ r.1.1 s1 with e | e
      · exact .inl (seq_ext e (by dsimp only; rw [s2, s3]))
      · exact .inr (.inl ⟨e, by dsimp only; rw [s2, M.bot_inf], by dsimp only; rw [s3, M.bot_inf]⟩)
    · rcases r.2 with h | h
      · rcases M.cut _ _ r.1.2 s3 with e | e
        · exact .inl (seq_ext (by dsimp only; rw [s1, s2]) e)
        · exact .inr (.inr ⟨by dsimp only; rw [s1, h, L.top_inf], by dsimp only; rw [s2, h, L.top_inf], e⟩)
      · refine .inl (seq_ext ?_ ?_)
        · dsimp only; rw [s1, s2]
        · dsimp only; rw [h, M.inf_comm, M.bot_inf, M.inf_comm, M.bot_inf]
  le := fun p q s => by
    have s' : (A.st p.1.1 q.1.1 ∧ p.1.2 = B.bot ∧ q.1.2 = B.bot) ∨ (p.1.1 = A.top ∧ q.1.1 = A.top ∧ B.st p.1.2 q.1.2) := s
    rcases s' with ⟨s1, s2, s3⟩ | ⟨s1, s2, s3⟩
    · exact seq_ext (L.le _ _ s1) (by dsimp only; rw [s2, M.bot_inf])
    · exact seq_ext (by dsimp only; rw [s1, s2, L.top_inf]) (M.le _ _ s3)
  bot_sup := fun z => seq_ext (L.bot_sup _) (M.bot_sup _)
  top_inf := fun z => seq_ext (L.top_inf _) (M.top_inf _)
  here := fun z => by
    rcases z.2 with h | h
    · obtain ⟨R, r⟩ := L.here A.top
      obtain ⟨R', r'⟩ := M.here z.1.2
      refine ⟨max R (A.u A.top + R'), ?_⟩
      have e : z = inrS z.1.2 := seq_ext h rfl
      rw [e]
      exact ((seq_left (B := B) M.zero r).mono (Int.le_max_left _ _)).trans (by rw [inl_inr]; exact (seq_right r').mono (Int.le_max_right _ _))
    · obtain ⟨R, r⟩ := L.here z.1.1
      have e : z = inlS z.1.1 := seq_ext rfl h
      exact ⟨R, by rw [e]; exact seq_left (B := B) M.zero r⟩
  there := fun z => by
    rcases z.2 with h | h
    · obtain ⟨R', r'⟩ := M.there z.1.2
      have e : z = inrS z.1.2 := seq_ext h rfl
      exact ⟨_, by rw [e]; exact seq_right r'⟩
    · obtain ⟨R, r⟩ := L.there z.1.1
      obtain ⟨R', r'⟩ := M.here B.top
      have e : z = inlS z.1.1 := seq_ext rfl h
      refine ⟨max R (A.u A.top + R'), ?_⟩
      rw [e]
      exact ((seq_left (B := B) M.zero r).mono (Int.le_max_left _ _)).trans (by rw [inl_inr]; exact (seq_right r').mono (Int.le_max_right _ _))
  low := by
    obtain ⟨b, h⟩ := L.low
    obtain ⟨b', h'⟩ := M.low
    exact ⟨b + b', fun p => by show _ ≤ A.u p.1.1 + B.u p.1.2; have := h p.1.1; have := h' p.1.2; omega⟩
  zero := by
    show A.u A.bot + B.u B.bot = 0
    have := L.zero; have := M.zero; omega
/-! lists of profiles -/
def Pfs : List Sys → List Pf → Prop
  | [], [] => True
  | A :: l, p :: ps => IsPf A p ∧ Pfs l ps
  | _, _ => False
def Lats.foldl : (l : List Sys) → (A : Sys) → Lats l → Lat A → Lat (l.foldl seqS A)
  | [], _, _, M => M
  | B :: l, A, L, M => Lats.foldl l (seqS A B) L.2 (M.seq L.1)
def Lats.seqL {l : List Sys} (L : Lats l) : Lat (seqL l) := Lats.foldl l unitS L Lat.unit
theorem seq_fold : ∀ (l : List Sys) (ps : List Pf) (A : Sys) (p : Pf), Lats l → Lat A → Pfs l ps → IsPf A p → IsPf (l.foldl seqS A) (ps.foldl two p)
  | [], [], _, _, _, _, _, h => h
  | [], _ :: _, _, _, _, _, h, _ => h.elim
  | _ :: _, [], _, _, _, _, h, _ => h.elim
  | B :: l, q :: ps, A, p, L, M, h, hp => seq_fold l ps (seqS A B) (two p q) L.2 (M.seq L.1) h.2 (two_ok M L.1 hp h.1)
theorem seqL_ok {l : List Sys} (L : Lats l) {ps : List Pf} (h : Pfs l ps) : IsPf (seqL l) (seqP ps) := seq_fold l ps unitS emptyP L Lat.unit h empty_ok
theorem Pfs.length : ∀ {l : List Sys} {ps : List Pf}, Pfs l ps → l.length = ps.length
  | [], [], _ => rfl
  | [], _ :: _, h => h.elim
  | _ :: _, [], h => h.elim
  | _ :: _, _ :: _, h => by rw [List.length_cons, List.length_cons, Pfs.length h.2]
theorem Pfs.get : ∀ {l : List Sys} {ps : List Pf} {i : Nat} {A : Sys} {p : Pf}, Pfs l ps → l[i]? = some A → ps[i]? = some p → IsPf A p
  | [], [], _, _, _, _, e, _ => by simp at e
  | [], _ :: _, _, _, _, h, _, _ => h.elim
  | _ :: _, [], _, _, _, h, _, _ => h.elim
  | A :: l, p :: ps, 0, B, q, h, e1, e2 => by
    have e1 : A = B := by simpa using e1
    have e2 : p = q := by simpa using e2
    subst e1; subst e2; exact h.1
  | A :: l, p :: ps, i + 1, B, q, h, e1, e2 => Pfs.get (i := i) h.2 (by simpa using e1) (by simpa using e2)
theorem pfs_all : ∀ {l : List Sys} {ps : List Pf}, Lats l → Pfs l ps → ∀ p ∈ ps, ∃ A, Nonempty (Lat A) ∧ IsPf A p
  | [], [], _, _, p, hp => by cases hp
  | [], _ :: _, _, h, _, _ => h.elim
  | _ :: _, [], _, h, _, _ => h.elim
  | A :: l, q :: ps, L, h, p, hp => by
    rcases List.mem_cons.mp hp with rfl | hp
    · exact ⟨A, ⟨L.1⟩, h.1⟩
    · exact pfs_all L.2 h.2 p hp
theorem gens_of : ∀ {l : List Sys} {ps : List Pf}, Pfs l ps → Gens l (ps.map (·.s))
  | [], [], _ => trivial
  | [], _ :: _, h => h.elim
  | _ :: _, [], h => h.elim
  | _ :: _, _ :: _, h => ⟨h.1.gs, gens_of h.2⟩
theorem gens_op : ∀ {l : List Sys} {ps : List Pf}, Pfs l ps → Gens (l.map op) (ps.map fun p => mv p.e (-p.n))
  | [], [], _ => trivial
  | [], _ :: _, h => h.elim
  | _ :: _, [], h => h.elim
  | _ :: _, _ :: _, h => ⟨h.1.ge, gens_op h.2⟩
theorem mins_of : ∀ {l : List Sys} {ps : List Pf}, Lats l → Pfs l ps → Mins l (ps.map fun p => (lt p.s).2)
  | [], [], _, _ => trivial
  | [], _ :: _, _, h => h.elim
  | _ :: _, [], _, h => h.elim
  | _ :: _, _ :: _, L, h => ⟨let ⟨x, h1, h2, _⟩ := h.1.gs.least L.1 h.1.vs; ⟨x, h1, h2⟩, mins_of L.2 h.2⟩
theorem net_of : ∀ {l : List Sys} {ps : List Pf}, Pfs l ps → (parL l).u (parL l).top = (ps.map (·.n)).sum
  | [], [], _ => rfl
  | [], _ :: _, h => h.elim
  | _ :: _, [], h => h.elim
  | A :: l, p :: ps, h => by
    show A.u A.top + (parL l).u (parL l).top = _
    rw [net_of h.2, List.map_cons, List.sum_cons, h.1.net]
theorem valid_of {l : List Sys} {ps : List Pf} (L : Lats l) (h : Pfs l ps) : (∀ v ∈ ps.map (·.s), v ≠ [] ∧ (hd v).1 = 0 ∧ (hd v).2 ≤ 0) ∧ (∀ v ∈ ps.map (·.s), Valleys v) ∧ (∀ v ∈ ps.map (fun p => mv p.e (-p.n)), v ≠ [] ∧ (hd v).1 = 0 ∧ (hd v).2 ≤ 0) ∧ (∀ v ∈ ps.map (fun p => mv p.e (-p.n)), Valleys v) := by
  refine ⟨fun v hv => ?_, fun v hv => ?_, fun v hv => ?_, fun v hv => ?_⟩ <;> obtain ⟨p, hp, rfl⟩ := List.mem_map.mp hv <;> obtain ⟨A, ⟨M⟩, hA⟩ := pfs_all L h p hp <;> have f := hA.facts M
  · exact ⟨hA.vs.1, f.1, f.2.1⟩
  · exact hA.vs
  · refine ⟨mv_ne hA.ve.1, ?_⟩
    rw [hd_mv hA.ve.1]; dsimp only; omega
  · exact mv_valleys hA.ve
/-- PARALLEL: the whole profile; S, E the pairs of the two joints -/
theorem par_ok {l : List Sys} (L : Lats l) {ps : List Pf} (h : Pfs l ps) {S E : List Pr} {k : Int} (jS : JointOk (ps.map (·.s)) S) (jE : JointOk (ps.map fun p => mv p.e (-p.n)) E)
    (k1 : (lt (desc S)).1 ≤ k) (k2 : (lt (mv (desc E) (ps.map (·.n)).sum)).1 ≤ k) (k3 : ∀ p ∈ ps, p.k + (ps.map fun p => (lt p.s).2).sum - (lt p.s).2 ≤ k)
    (k4 : k = (lt (desc S)).1 ∨ k = (lt (mv (desc E) (ps.map (·.n)).sum)).1 ∨ ∃ p ∈ ps, k = p.k + (ps.map fun p => (lt p.s).2).sum - (lt p.s).2) :
    IsPf (parL l) ⟨(ps.map (·.n)).sum, k, desc S, mv (desc E) (ps.map (·.n)).sum⟩ := by
  obtain ⟨v1, v2, v3, v4⟩ := valid_of L h
  have gS : Gen (parL l) (desc S) := (joint_gen L (gens_of h) v1 jS).desc
  have gE : Gen (op (parL l)) (desc E) := (parL_op l).symm.gen (joint_gen (Lats.op l L) (gens_op h) v3 jE).desc
  have nS : S ≠ [] := by
    obtain ⟨p, hp, _⟩ := jS.full 0 (Int.le_refl 0)
    exact List.ne_nil_of_mem hp
  have nE : E ≠ [] := by
    obtain ⟨p, hp, _⟩ := jE.full 0 (Int.le_refl 0)
    exact List.ne_nil_of_mem hp
  have vS := desc_valleys nS
  have vE := desc_valleys nE
  have hnet := net_of h
  have LP := Lats.par l L
  have hmins := mins_of L h
  have hks : ∀ (i : Nat) A k, l[i]? = some A → (ps.map (·.k))[i]? = some k → IsPeak A k := fun i A k e1 e2 => by
    rw [List.getElem?_map] at e2
    cases e : ps[i]? with
    | none => rw [e] at e2; simp at e2
    | some p =>
      rw [e] at e2
      have : p.k = k := by simpa using e2
      subst this
      exact (h.get e1 e).peak
  -- the peaks beside the others' lows
  have toPeaks : ∀ (l : List Sys) (ps : List Pf) (R : Int), Pfs l ps → (∀ p ∈ ps, p.k + (ps.map fun p => (lt p.s).2).sum - (lt p.s).2 ≤ R) → PeaksLe l (ps.map (·.k)) (ps.map fun p => (lt p.s).2) R := by
    intro l
    induction l with
    | nil =>
      intro ps R h hk
      cases ps with
      | nil => trivial
      | cons _ _ => exact h.elim
    | cons A l ih =>
      intro ps R h hk
      cases ps with
      | nil => exact h.elim
      | cons p ps =>
        have h0 := hk p List.mem_cons_self
        rw [List.map_cons, List.sum_cons] at h0
        refine ⟨h.1.peak, by show p.k + _ ≤ R; omega, ih ps _ h.2 fun q hq => ?_⟩
        have := hk q (List.mem_cons_of_mem _ hq)
        rw [List.map_cons, List.sum_cons] at this
        show q.k + _ - _ ≤ R - (lt p.s).2
        omega
  have fromPeaks : ∀ (l : List Sys) (ps : List Pf) (R : Int), PeaksLe l (ps.map (·.k)) (ps.map fun p => (lt p.s).2) R → ∀ p ∈ ps, p.k + (ps.map fun p => (lt p.s).2).sum - (lt p.s).2 ≤ R := by
    intro l
    induction l with
    | nil =>
      intro ps R h p hp
      cases ps with
      | nil => cases hp
      | cons _ _ => exact h.elim
    | cons A l ih =>
      intro ps R h p hp
      cases ps with
      | nil => exact h.elim
      | cons q ps =>
        rw [List.map_cons, List.sum_cons]
        have h2 : q.k + (ps.map fun p => (lt p.s).2).sum ≤ R := h.2.1
        rcases List.mem_cons.mp hp with rfl | hp
        · omega
        · have := ih ps (R - (lt q.s).2) h.2.2 p hp
          omega
  have pk : IsPeak (parL l) k := by
    refine ⟨?_, fun R r => ?_⟩
    · obtain ⟨z1, hz1, e1, r1⟩ := gS.least LP vS
      obtain ⟨z2, hz2, e2, r2⟩ := gE.least LP.op vE
      have r2' := reach_op.mp r2
      have eq1 : (parL l).u z1 = (ps.map fun p => (lt p.s).2).sum := by
        have q1 := mins_low hmins z1
        -- the sum is attained
        have : ∀ (l : List Sys) (ls : List Int), Mins l ls → ∃ z, (parL l).u z = ls.sum := by
          intro l
          induction l with
          | nil =>
            intro ls h
            cases ls with
            | nil => exact ⟨(), rfl⟩
            | cons _ _ => exact h.elim
          | cons A l ih =>
            intro ls h
            cases ls with
            | nil => exact h.elim
            | cons a ls =>
              obtain ⟨x, _, ex⟩ := h.1
              obtain ⟨y, ey⟩ := ih ls h.2
              exact ⟨(x, y), by show A.u x + (parL l).u y = _; rw [ex, ey, List.sum_cons]⟩
        obtain ⟨z, ez⟩ := this l _ hmins
        have := hz1 z
        omega
      have hz2' : Least (parL l) z2 := fun y => by
        have h : (parL l).u z2 - (parL l).u (parL l).top ≤ (parL l).u y - (parL l).u (parL l).top := hz2 y
        omega
      refine par_runs L hmins (toPeaks l ps k h k3) hz1 hz2' eq1 (r1.mono k1) (r2'.mono ?_)
      rw [lt_mv vE.1] at k2
      rw [hnet]
      exact k2
    · have q := par_peaks l _ _ R hmins hks (by rw [List.length_map, h.length]) (by rw [List.length_map, h.length]) r
      have q3 := fromPeaks l ps R q
      have full : IsPeak (parL l) ((parL l).u (parL l).top) ∨ True := .inr trivial
      obtain ⟨z1, hz1, e1, r1⟩ := gS.least LP vS
      rcases k4 with e | e | ⟨p, hp, e⟩
      · -- the start's last capacity
        rw [e]
        obtain ⟨p, hp, h1, h2⟩ := gS.full _ _ (LP.least_reach r hz1)
        have h3 := vS.last_le p hp
        have : p = lt (desc S) := vS.2.eq_snd p hp _ (lt_mem vS.1) (by omega)
        rw [this] at h1; exact h1
      · rw [e]
        have ro := Reach.op r
        obtain ⟨z2, hz2, e2, r2⟩ := gE.least LP.op vE
        obtain ⟨p, hp, h1, h2⟩ := gE.full _ _ (LP.op.least_reach ro hz2)
        have h3 := vE.last_le p hp
        have : p = lt (desc E) := vE.2.eq_snd p hp _ (lt_mem vE.1) (by omega)
        rw [this] at h1
        rw [lt_mv vE.1, ← hnet]; dsimp only; omega
      · rw [e]; exact q3 p hp
  refine ⟨hnet.symm, pk, vS, gS, mv_valleys vE, ?_⟩
  show Gen (op (parL l)) (mv (mv (desc E) (ps.map (·.n)).sum) (-(ps.map (·.n)).sum))
  rw [mv_inv]; exact gE
/-! repeats -/
def earlyP (k : Int) (s : List Pr) : List Pr := s.filter fun p => decide (p.1 < k)
/-- z stands for (count - 1) * net -/
def RSz (z n k : Int) (s : List Pr) : List Pr := if 0 ≤ n then s else desc (earlyP k s ++ [(k, z + (lt s).2)])
theorem mem_early {k : Int} {s : List Pr} {p : Pr} : p ∈ earlyP k s ↔ p ∈ s ∧ p.1 < k := by
  unfold earlyP; rw [List.mem_filter]; simp
theorem mem_startPairs {n k : Int} {s t : List Pr} {p : Pr} : p ∈ startPairs n k s t ↔ (p ∈ s ∧ p.1 < k) ∨ p = (k, (lt s).2) ∨ ∃ q ∈ t, p = (max k (q.1 + n), q.2 + n) := by
  unfold startPairs
  rw [List.mem_append, List.mem_append, List.mem_filter, List.mem_map]
  constructor
  · rintro ((⟨h1, h2⟩ | h) | ⟨q, hq, rfl⟩)
    · exact .inl ⟨h1, by simpa using h2⟩
    · exact .inr (.inl (by simpa using h))
    · obtain ⟨r, hr, rfl⟩ := List.mem_map.mp hq
      exact .inr (.inr ⟨r, hr, rfl⟩)
  · rintro (⟨h1, h2⟩ | h | ⟨q, hq, rfl⟩)
    · exact .inl (.inl ⟨h1, by simpa using h2⟩)
    · exact .inl (.inr (by simpa using h))
    · exact .inr ⟨_, List.mem_map.mpr ⟨q, hq, rfl⟩, rfl⟩
theorem early_cov (z k : Int) (s : List Pr) : Covers (desc (earlyP k s ++ [(k, z + (lt s).2)])) (earlyP k s ++ [(k, z + (lt s).2)]) ∧ Covers (earlyP k s ++ [(k, z + (lt s).2)]) (desc (earlyP k s ++ [(k, z + (lt s).2)])) := ⟨desc_cov _, cov_desc _⟩
theorem RSz_one {n k : Int} {s : List Pr} (v : Valleys s) (hl : (lt s).1 ≤ k) : Covers s (RSz 0 n k s) ∧ Covers (RSz 0 n k s) s := by
  unfold RSz
  split
  · exact ⟨.refl s, .refl s⟩
  · constructor
    · refine Covers.trans ?_ (cov_desc _)
      intro p hp
      rcases List.mem_append.mp hp with hp | hp
      · exact ⟨p, (mem_early.mp hp).1, Int.le_refl _, Int.le_refl _⟩
      · have : p = (k, 0 + (lt s).2) := by simpa using hp
        subst this
        exact ⟨lt s, lt_mem v.1, hl, by dsimp only; omega⟩
    · refine (desc_cov _).trans ?_
      intro p hp
      by_cases h : p.1 < k
      · exact ⟨p, List.mem_append_left _ (mem_early.mpr ⟨hp, h⟩), Int.le_refl _, Int.le_refl _⟩
      · have := v.last_le p hp
        exact ⟨(k, 0 + (lt s).2), List.mem_append_right _ (by simp), by dsimp only; omega, by dsimp only; omega⟩
/-- one round more behind -/
theorem RSz_left {z n k : Int} {s : List Pr} (v : Valleys s) (hl : (lt s).1 ≤ k) (hz : 0 ≤ n → 0 ≤ z) (hz' : n < 0 → z ≤ 0) :
    Covers (startPairs (z + n) (k + max 0 z) (RSz z n k s) s) (RSz (z + n) n k s) ∧ Covers (RSz (z + n) n k s) (startPairs (z + n) (k + max 0 z) (RSz z n k s) s) := by
  by_cases hn : 0 ≤ n
  · have e1 : RSz z n k s = s := if_pos hn
    have e2 : RSz (z + n) n k s = s := if_pos hn
    rw [e1, e2]
    have := hz hn
    constructor
    · intro p hp
      by_cases h : p.1 < k + max 0 z
      · exact ⟨p, mem_startPairs.mpr (.inl ⟨hp, h⟩), Int.le_refl _, Int.le_refl _⟩
      · have := v.last_le p hp
        exact ⟨_, mem_startPairs.mpr (.inr (.inl rfl)), by dsimp only; omega, by dsimp only; omega⟩
    · intro p hp
      rcases mem_startPairs.mp hp with ⟨h, _⟩ | rfl | ⟨q, hq, rfl⟩
      · exact ⟨p, h, Int.le_refl _, Int.le_refl _⟩
      · exact ⟨lt s, lt_mem v.1, by dsimp only; omega, Int.le_refl _⟩
      · have := v.last_le q hq
        exact ⟨lt s, lt_mem v.1, by dsimp only; omega, by dsimp only; omega⟩
  · have hz2 := hz' (by omega)
    have ek : k + max 0 z = k := by omega
    rw [ek]
    have e1 : RSz z n k s = desc (earlyP k s ++ [(k, z + (lt s).2)]) := if_neg hn
    have e2 : RSz (z + n) n k s = desc (earlyP k s ++ [(k, (z + n) + (lt s).2)]) := if_neg hn
    rw [e2]
    obtain ⟨c1, c2⟩ := early_cov z k s
    rw [← e1] at c1 c2
    have low : ∀ d ∈ RSz z n k s, z + (lt s).2 ≤ d.2 := fun d hd => by
      rw [e1] at hd
      rcases List.mem_append.mp (desc_sub d hd) with h | h
      · have := v.last_le d (mem_early.mp h).1; omega
      · have : d = (k, z + (lt s).2) := by simpa using h
        subst this; exact Int.le_refl _
    have ne : RSz z n k s ≠ [] := by rw [e1]; exact desc_ne (by simp)
    constructor
    · refine Covers.trans ?_ (cov_desc _)
      intro p hp
      rcases List.mem_append.mp hp with hp | hp
      · obtain ⟨d, hd, d1, d2⟩ := c1 p (List.mem_append_left _ hp)
        have := (mem_early.mp hp).2
        exact ⟨d, mem_startPairs.mpr (.inl ⟨hd, by omega⟩), d1, d2⟩
      · have : p = (k, (z + n) + (lt s).2) := by simpa using hp
        subst this
        exact ⟨_, mem_startPairs.mpr (.inr (.inr ⟨lt s, lt_mem v.1, rfl⟩)), by dsimp only; omega, by dsimp only; omega⟩
    · refine (desc_cov _).trans ?_
      intro p hp
      rcases mem_startPairs.mp hp with ⟨h, h'⟩ | rfl | ⟨q, hq, rfl⟩
      · rw [e1] at h
        rcases List.mem_append.mp (desc_sub p h) with h | h
        · exact ⟨p, List.mem_append_left _ h, Int.le_refl _, Int.le_refl _⟩
        · have : p = (k, z + (lt s).2) := by simpa using h
          subst this; dsimp only at h'; omega
      · have := low _ (lt_mem ne)
        exact ⟨(k, (z + n) + (lt s).2), List.mem_append_right _ (by simp), by dsimp only; omega, by dsimp only; omega⟩
      · have := v.last_le q hq
        exact ⟨(k, (z + n) + (lt s).2), List.mem_append_right _ (by simp), by dsimp only; omega, by dsimp only; omega⟩
/-- one round more ahead -/
theorem RSz_right {z n k : Int} {s : List Pr} (v : Valleys s) (hl : (lt s).1 ≤ k) (hz : 0 ≤ n → 0 ≤ z) (hz' : n < 0 → z ≤ 0) :
    Covers (startPairs n k s (RSz z n k s)) (RSz (z + n) n k s) ∧ Covers (RSz (z + n) n k s) (startPairs n k s (RSz z n k s)) := by
  by_cases hn : 0 ≤ n
  · have e1 : RSz z n k s = s := if_pos hn
    have e2 : RSz (z + n) n k s = s := if_pos hn
    rw [e1, e2]
    constructor
    · intro p hp
      by_cases h : p.1 < k
      · exact ⟨p, mem_startPairs.mpr (.inl ⟨hp, h⟩), Int.le_refl _, Int.le_refl _⟩
      · have := v.last_le p hp
        exact ⟨_, mem_startPairs.mpr (.inr (.inl rfl)), by dsimp only; omega, by dsimp only; omega⟩
    · intro p hp
      rcases mem_startPairs.mp hp with ⟨h, _⟩ | rfl | ⟨q, hq, rfl⟩
      · exact ⟨p, h, Int.le_refl _, Int.le_refl _⟩
      · exact ⟨lt s, lt_mem v.1, by dsimp only; omega, Int.le_refl _⟩
      · have := v.last_le q hq
        exact ⟨lt s, lt_mem v.1, by dsimp only; omega, by dsimp only; omega⟩
  · have hz2 := hz' (by omega)
    have e1 : RSz z n k s = desc (earlyP k s ++ [(k, z + (lt s).2)]) := if_neg hn
    have e2 : RSz (z + n) n k s = desc (earlyP k s ++ [(k, (z + n) + (lt s).2)]) := if_neg hn
    rw [e2]
    obtain ⟨c1, c2⟩ := early_cov z k s
    rw [← e1] at c1 c2
    have low : ∀ d ∈ RSz z n k s, z + (lt s).2 ≤ d.2 := fun d hd => by
      rw [e1] at hd
      rcases List.mem_append.mp (desc_sub d hd) with h | h
      · have := v.last_le d (mem_early.mp h).1; omega
      · have : d = (k, z + (lt s).2) := by simpa using h
        subst this; exact Int.le_refl _
    constructor
    · refine Covers.trans ?_ (cov_desc _)
      intro p hp
      rcases List.mem_append.mp hp with hp | hp
      · have := mem_early.mp hp
        exact ⟨p, mem_startPairs.mpr (.inl this), Int.le_refl _, Int.le_refl _⟩
      · have : p = (k, (z + n) + (lt s).2) := by simpa using hp
        subst this
        obtain ⟨d, hd, d1, d2⟩ := c1 (k, z + (lt s).2) (List.mem_append_right _ (by simp))
        dsimp only at d1 d2
        exact ⟨_, mem_startPairs.mpr (.inr (.inr ⟨d, hd, rfl⟩)), by dsimp only; omega, by dsimp only; omega⟩
    · refine (desc_cov _).trans ?_
      intro p hp
      rcases mem_startPairs.mp hp with ⟨h, h'⟩ | rfl | ⟨q, hq, rfl⟩
      · exact ⟨p, List.mem_append_left _ (mem_early.mpr ⟨h, h'⟩), Int.le_refl _, Int.le_refl _⟩
      · exact ⟨(k, (z + n) + (lt s).2), List.mem_append_right _ (by simp), by dsimp only; omega, by dsimp only; omega⟩
      · have := low q hq
        exact ⟨(k, (z + n) + (lt s).2), List.mem_append_right _ (by simp), by dsimp only; omega, by dsimp only; omega⟩
/-- the profile of rounds (one or more); z = (count - 1) * net -/
def repZ (z : Int) (p : Pf) : Pf := ⟨z + p.n, p.k + max 0 z, RSz z p.n p.k p.s, mv (RSz (-z) (-p.n) (p.k - p.n) (mv p.e (-p.n))) (z + p.n)⟩
def seq_unit (A : Sys) : Iso A (seqS unitS A) where
  f := fun a => ⟨((), a), .inl rfl⟩
  g := fun p => p.1.2
  fg := fun p => seq_ext rfl rfl
  gf := fun _ => rfl
  hu := fun a => by show (0 : Int) + A.u a = A.u a; omega
  hs := fun a b => by
    show A.st a b ↔ ((False ∧ a = A.bot ∧ b = A.bot) ∨ (() = () ∧ () = () ∧ A.st a b))
    simp
  hb := rfl
  ht := rfl
def Lats.rep {A : Sys} (L : Lat A) : (n : Nat) → Lats (List.replicate n A)
  | 0 => ()
  | n + 1 => (L, Lats.rep L n)
theorem seqL_succ (n : Nat) (A : Sys) : seqL (List.replicate (n + 1) A) = seqS (seqL (List.replicate n A)) A := by
  unfold seqL; rw [List.replicate_succ', List.foldl_append]; rfl
theorem rep_ok {A : Sys} (L : Lat A) {p : Pf} (h : IsPf A p) : ∀ m : Nat, IsPf (seqL (List.replicate (m + 1) A)) (repZ (m * p.n) p) := by
  have f := h.facts L
  have ho := h.op L.zero
  have fo := ho.facts L.op
  have vs := h.vs
  have ve : Valleys (mv p.e (-p.n)) := mv_valleys h.ve
  have lk : (lt p.s).1 ≤ p.k := f.2.2.2.2.2.2.2.1
  have lk' : (lt (mv p.e (-p.n))).1 ≤ p.k - p.n := fo.2.2.2.2.2.2.2.1
  have valid : ∀ z n k s, Valleys s → Valleys (RSz z n k s) := fun z n k s v => by
    unfold RSz; split
    · exact v
    · exact desc_valleys (by simp)
  -- it is enough to know the two lists of valleys, the net and the peak
  have key : ∀ m : Nat, (seqL (List.replicate (m + 1) A)).u (seqL (List.replicate (m + 1) A)).top = m * p.n + p.n ∧ IsPeak (seqL (List.replicate (m + 1) A)) (p.k + max 0 (m * p.n)) ∧
      Gen (seqL (List.replicate (m + 1) A)) (RSz (m * p.n) p.n p.k p.s) ∧ Gen (op (seqL (List.replicate (m + 1) A))) (RSz (-(m * p.n)) (-p.n) (p.k - p.n) (mv p.e (-p.n))) := by
    intro m
    induction m with
    | zero =>
      have e0 : ((0 : Nat) : Int) * p.n = 0 := by simp
      have i : Iso A (seqL (List.replicate 1 A)) := seq_unit A
      rw [e0]
      refine ⟨?_, ?_, ?_, ?_⟩
      · rw [← i.ht, i.hu, ← h.net]; omega
      · have := i.peak h.peak
        rw [show p.k + max 0 0 = p.k by omega]; exact this
      · exact (i.gen h.gs).of_covers (RSz_one vs lk).1 (RSz_one vs lk).2
      · rw [show -(0 : Int) = 0 by omega]
        exact (i.op.gen h.ge).of_covers (RSz_one ve lk').1 (RSz_one ve lk').2
    | succ m ih =>
      obtain ⟨i1, i2, i3, i4⟩ := ih
      have LX : Lat (seqL (List.replicate (m + 1) A)) := Lats.seqL (Lats.rep L (m + 1))
      rw [seqL_succ]
      generalize hX : seqL (List.replicate (m + 1) A) = X at *
      have ez : ((m + 1 : Nat) : Int) * p.n = m * p.n + p.n := by rw [Int.natCast_add, Int.add_mul]; simp
      have sg : (0 ≤ p.n → 0 ≤ (m : Int) * p.n) ∧ (p.n ≤ 0 → (m : Int) * p.n ≤ 0) := by
        refine ⟨fun q => Int.mul_nonneg (by omega) q, fun q => ?_⟩
        exact Int.mul_nonpos_of_nonneg_of_nonpos (by omega) q
      rw [ez]
      generalize (m : Int) * p.n = z at *
      have l1 : (lt (RSz z p.n p.k p.s)).1 ≤ p.k + max 0 z := i3.last_peak LX (valid _ _ _ _ vs) i2
      refine ⟨?_, ?_, ?_, ?_⟩
      · show X.u X.top + A.u A.top = _
        rw [i1, ← h.net]
      · have := seq_peak (B := A) L.zero i2 h.peak
        rw [i1] at this
        rw [show p.k + max 0 (z + p.n) = max (p.k + max 0 z) (z + p.n + p.k) by
          by_cases q : 0 ≤ p.n
          · have := sg.1 q; omega
          · have := sg.2 (by omega); omega]
        exact this
      · have g := seq_gen (B := A) L.zero i3 (valid _ _ _ _ vs) i2 l1 h.gs
        rw [i1] at g
        have c := RSz_left (z := z) (n := p.n) vs lk sg.1 fun q => sg.2 (by omega)
        exact g.of_covers c.1 c.2
      · have g := seq_gen (A := op A) (B := op X) LX.op.zero h.ge ve ho.peak lk' i4
        have hn : (op A).u (op A).top = -p.n := ho.net.symm
        rw [hn] at g
        have c := RSz_right (z := -z) (n := -p.n) (k := p.k - p.n) ve lk' (fun q => by have := sg.2 (by omega); omega) (fun q => by have := sg.1 (by omega); omega)
        rw [show -z + -p.n = -(z + p.n) by omega] at c
        exact (seq_op X A).symm.gen (g.of_covers c.1 c.2)
  intro m
  obtain ⟨k1, k2, k3, k4⟩ := key m
  refine ⟨k1.symm, k2, valid _ _ _ _ vs, k3, mv_valleys (valid _ _ _ _ ve), ?_⟩
  show Gen _ (mv (mv (RSz (-(m * p.n)) (-p.n) (p.k - p.n) (mv p.e (-p.n))) (m * p.n + p.n)) (-(m * p.n + p.n)))
  rw [mv_inv]; exact k4
end K30m
namespace K30m
/-! copies -/
theorem pfs_rep {A : Sys} {p : Pf} (h : IsPf A p) : ∀ n, Pfs (List.replicate n A) (List.replicate n p)
  | 0 => trivial
  | n + 1 => ⟨h, pfs_rep h n⟩
theorem cop_ok {A : Sys} (L : Lat A) {p : Pf} (h : IsPf A p) {n : Nat} (n0 : 0 < n) {S E : List Pr} (jS : JointOk (List.replicate n p.s) S) (jE : JointOk (List.replicate n (mv p.e (-p.n))) E) :
    IsPf (parL (List.replicate n A)) ⟨n * p.n, max (p.k + (n - 1) * (lt p.s).2) (max (lt (desc S)).1 (lt (mv (desc E) (n * p.n))).1), desc S, mv (desc E) (n * p.n)⟩ := by
  have e1 : ((List.replicate n p).map (·.n)).sum = n * p.n := by rw [List.map_replicate, sum_rep]
  have e2 : ((List.replicate n p).map fun p => (lt p.s).2).sum = n * (lt p.s).2 := by rw [List.map_replicate, sum_rep]
  have e3 : ((n : Int) - 1) * (lt p.s).2 = n * (lt p.s).2 - (lt p.s).2 := by rw [Int.sub_mul]; simp
  have := par_ok (Lats.rep L n) (pfs_rep h n) (S := S) (E := E) (k := max (p.k + (n - 1) * (lt p.s).2) (max (lt (desc S)).1 (lt (mv (desc E) (n * p.n))).1)) (by rw [List.map_replicate]; exact jS) (by rw [List.map_replicate]; exact jE)
    (by omega) (by rw [e1]; omega) (fun q hq => by
      have : q = p := List.eq_of_mem_replicate hq
      subst this
      rw [e2, e3]; omega) (by
      rw [e1, e2, e3]
      have hp : p ∈ List.replicate n p := List.mem_replicate.mpr ⟨by omega, rfl⟩
      by_cases c1 : max (lt (desc S)).1 (lt (mv (desc E) (n * p.n))).1 ≤ p.k + (n * (lt p.s).2 - (lt p.s).2)
      · exact .inr (.inr ⟨p, hp, by omega⟩)
      · by_cases c2 : (lt (mv (desc E) (n * p.n))).1 ≤ (lt (desc S)).1
        · exact .inl (by omega)
        · exact .inr (.inl (by omega)))
  rw [e1] at this
  exact this
/-! more isos -/
def Iso.seq {A A' B B' : Sys} (i : Iso A A') (j : Iso B B') : Iso (seqS A B) (seqS A' B') where
  f := fun p => ⟨(i.f p.1.1, j.f p.1.2), by
    rcases p.2 with h | h
    · exact .inl (by dsimp only; rw [h, i.ht])
    · exact .inr (by dsimp only; rw [h, j.hb])⟩
  g := fun p => ⟨(i.g p.1.1, j.g p.1.2), by
    rcases p.2 with h | h
    · exact .inl (by dsimp only; rw [h]; exact i.symm.ht)
    · exact .inr (by dsimp only; rw [h]; exact j.symm.hb)⟩
  fg := fun p => seq_ext (i.fg _) (j.fg _)
  gf := fun p => seq_ext (i.gf _) (j.gf _)
  hu := fun p => by
    show A'.u (i.f p.1.1) + B'.u (j.f p.1.2) = A.u p.1.1 + B.u p.1.2
    rw [i.hu, j.hu]
  hs := fun p q => by
    show ((A.st p.1.1 q.1.1 ∧ p.1.2 = B.bot ∧ q.1.2 = B.bot) ∨ (p.1.1 = A.top ∧ q.1.1 = A.top ∧ B.st p.1.2 q.1.2)) ↔
      ((A'.st (i.f p.1.1) (i.f q.1.1) ∧ j.f p.1.2 = B'.bot ∧ j.f q.1.2 = B'.bot) ∨ (i.f p.1.1 = A'.top ∧ i.f q.1.1 = A'.top ∧ B'.st (j.f p.1.2) (j.f q.1.2)))
    have e1 : ∀ x, j.f x = B'.bot ↔ x = B.bot := fun x => by rw [← j.hb]; exact ⟨fun h => by have := congrArg j.g h; rwa [j.gf, j.gf] at this, fun h => by rw [h]⟩
    have e2 : ∀ x, i.f x = A'.top ↔ x = A.top := fun x => by rw [← i.ht]; exact ⟨fun h => by have := congrArg i.g h; rwa [i.gf, i.gf] at this, fun h => by rw [h]⟩
    rw [e1, e1, e2, e2, ← i.hs, ← j.hs]
  hb := seq_ext i.hb j.hb
  ht := seq_ext i.ht j.ht
def seq_unit_r (A : Sys) : Iso A (seqS A unitS) where
  f := fun a => ⟨(a, ()), .inr rfl⟩
  g := fun p => p.1.1
  fg := fun p => seq_ext rfl rfl
  gf := fun _ => rfl
  hu := fun a => by show A.u a + (0 : Int) = A.u a; omega
  hs := fun a b => by
    show A.st a b ↔ ((A.st a b ∧ () = () ∧ () = ()) ∨ (a = A.top ∧ b = A.top ∧ False))
    simp
  hb := rfl
  ht := rfl
def seq_assoc (A B C : Sys) : Iso (seqS (seqS A B) C) (seqS A (seqS B C)) where
  f := fun p => ⟨(p.1.1.1.1, ⟨(p.1.1.1.2, p.1.2), by
      rcases p.2 with h | h
      · exact .inl (by have := congrArg (fun q : (seqS A B).S => q.1.2) h; exact this)
      · exact .inr h⟩), by
    rcases p.2 with h | h
    · exact .inl (by have := congrArg (fun q : (seqS A B).S => q.1.1) h; exact this)
    · rcases p.1.1.2 with h' | h'
      · exact .inl h'
      · exact .inr (seq_ext h' h)⟩
  g := fun p => ⟨(⟨(p.1.1, p.1.2.1.1), by
      rcases p.2 with h | h
      · exact .inl h
      · exact .inr (by have := congrArg (fun q : (seqS B C).S => q.1.1) h; exact this)⟩, p.1.2.1.2), by
    rcases p.1.2.2 with h | h
    · rcases p.2 with h' | h'
      · exact .inl (seq_ext h' h)
      · exact .inr (by have := congrArg (fun q : (seqS B C).S => q.1.2) h'; exact this)
    · exact .inr h⟩
  fg := fun p => rfl
  gf := fun p => rfl
  hu := fun p => by
    show A.u p.1.1.1.1 + (B.u p.1.1.1.2 + C.u p.1.2) = (A.u p.1.1.1.1 + B.u p.1.1.1.2) + C.u p.1.2
    omega
  hs := fun p q => by
    obtain ⟨⟨⟨⟨a, b⟩, hab⟩, c⟩, hp⟩ := p
    obtain ⟨⟨⟨⟨a', b'⟩, hab'⟩, c'⟩, hq⟩ := q
    have x1 : ∀ (a : A.S) (b : B.S) h, ((⟨(a, b), h⟩ : (seqS A B).S) = (seqS A B).top) ↔ (a = A.top ∧ b = B.top) := fun a b h =>
      ⟨fun e => ⟨congrArg (fun q : (seqS A B).S => q.1.1) e, congrArg (fun q : (seqS A B).S => q.1.2) e⟩, fun e => seq_ext e.1 e.2⟩
    have x2 : ∀ (b : B.S) (c : C.S) h, ((⟨(b, c), h⟩ : (seqS B C).S) = (seqS B C).bot) ↔ (b = B.bot ∧ c = C.bot) := fun b c h =>
      ⟨fun e => ⟨congrArg (fun q : (seqS B C).S => q.1.1) e, congrArg (fun q : (seqS B C).S => q.1.2) e⟩, fun e => seq_ext e.1 e.2⟩
    show ((((A.st a a' ∧ b = B.bot ∧ b' = B.bot) ∨ (a = A.top ∧ a' = A.top ∧ B.st b b')) ∧ c = C.bot ∧ c' = C.bot) ∨ ((⟨(a, b), hab⟩ : (seqS A B).S) = (seqS A B).top ∧ (⟨(a', b'), hab'⟩ : (seqS A B).S) = (seqS A B).top ∧ C.st c c')) ↔
      ((A.st a a' ∧ (⟨(b, c), _⟩ : (seqS B C).S) = (seqS B C).bot ∧ (⟨(b', c'), _⟩ : (seqS B C).S) = (seqS B C).bot) ∨ (a = A.top ∧ a' = A.top ∧ ((B.st b b' ∧ c = C.bot ∧ c' = C.bot) ∨ (b = B.top ∧ b' = B.top ∧ C.st c c'))))
    rw [x1, x1, x2, x2]
    constructor
    · rintro (⟨⟨h1, h2, h3⟩ | ⟨h1, h2, h3⟩, h4, h5⟩ | ⟨⟨h1, h2⟩, ⟨h3, h4⟩, h5⟩)
      · exact .inl ⟨h1, ⟨h2, h4⟩, ⟨h3, h5⟩⟩
      · exact .inr ⟨h1, h2, .inl ⟨h3, h4, h5⟩⟩
      · exact .inr ⟨h1, h3, .inr ⟨h2, h4, h5⟩⟩
    · rintro (⟨h1, ⟨h2, h4⟩, ⟨h3, h5⟩⟩ | ⟨h1, h2, ⟨h3, h4, h5⟩ | ⟨h3, h4, h5⟩⟩)
      · exact .inl ⟨.inl ⟨h1, h2, h3⟩, h4, h5⟩
      · exact .inl ⟨.inr ⟨h1, h2, h3⟩, h4, h5⟩
      · exact .inr ⟨⟨h1, h3⟩, ⟨h2, h4⟩, h5⟩
  hb := rfl
  ht := rfl
def seqR : List Sys → Sys
  | [] => unitS
  | A :: l => seqS A (seqR l)
def fold_seqR : (l : List Sys) → (X : Sys) → Iso (l.foldl seqS X) (seqS X (seqR l))
  | [], X => seq_unit_r X
  | A :: l, X => (fold_seqR l (seqS X A)).trans (seq_assoc X A (seqR l))
def seqL_R (l : List Sys) : Iso (seqL l) (seqR l) := (fold_seqR l unitS).trans (seq_unit (seqR l)).symm
theorem seqL_concat (l : List Sys) (A : Sys) : seqL (l ++ [A]) = seqS (seqL l) A := by unfold seqL; rw [List.foldl_append]; rfl
def Iso.cast {A B : Sys} (h : A = B) : Iso A B := h ▸ Iso.refl A
theorem seqL_op : ∀ (l : List Sys), Nonempty (Iso (op (seqL l.reverse)) (seqR (l.map op)))
  | [] => ⟨unit_op⟩
  | A :: l => by
    obtain ⟨i⟩ := seqL_op l
    refine ⟨(Iso.cast ?_).trans ((seq_op (seqL l.reverse) A).trans ((Iso.refl (op A)).seq i))⟩
    rw [List.reverse_cons, seqL_concat]
theorem seqL_op' (l : List Sys) : Nonempty (Iso (op (seqL l)) (seqL (l.reverse.map op))) := by
  obtain ⟨i⟩ := seqL_op l.reverse
  rw [List.reverse_reverse] at i
  exact ⟨i.trans (seqL_R _).symm⟩
/-- lists of systems, one by one the same -/
def Isos : List Sys → List Sys → Prop
  | [], [] => True
  | A :: l, B :: m => Nonempty (Iso A B) ∧ Isos l m
  | _, _ => False
theorem Isos.append : ∀ {l m l' m' : List Sys}, Isos l m → Isos l' m' → Isos (l ++ l') (m ++ m')
  | [], [], _, _, _, h => h
  | [], _ :: _, _, _, h, _ => h.elim
  | _ :: _, [], _, _, h, _ => h.elim
  | _ :: _, _ :: _, _, _, h, h' => ⟨h.1, h.2.append h'⟩
theorem Isos.reverse : ∀ {l m : List Sys}, Isos l m → Isos l.reverse m.reverse
  | [], [], h => h
  | [], _ :: _, h => h.elim
  | _ :: _, [], h => h.elim
  | _ :: _, _ :: _, h => by
    rw [List.reverse_cons, List.reverse_cons]
    exact h.2.reverse.append ⟨h.1, trivial⟩
theorem Isos.foldl : ∀ {l m : List Sys} {X Y : Sys}, Isos l m → Nonempty (Iso X Y) → Nonempty (Iso (l.foldl seqS X) (m.foldl seqS Y))
  | [], [], _, _, _, h => h
  | [], _ :: _, _, _, h, _ => h.elim
  | _ :: _, [], _, _, h, _ => h.elim
  | A :: l, B :: m, X, Y, h, ⟨i⟩ => by
    obtain ⟨j⟩ := h.1
    exact Isos.foldl (l := l) (m := m) (X := seqS X A) (Y := seqS Y B) h.2 ⟨i.seq j⟩
theorem Isos.seqL {l m : List Sys} (h : Isos l m) : Nonempty (Iso (seqL l) (seqL m)) := Isos.foldl h ⟨Iso.refl _⟩
theorem Isos.parL : ∀ {l m : List Sys}, Isos l m → Nonempty (Iso (parL l) (parL m))
  | [], [], _ => ⟨Iso.refl _⟩
  | [], _ :: _, h => h.elim
  | _ :: _, [], h => h.elim
  | _ :: _, _ :: _, h => let ⟨i⟩ := h.1; let ⟨j⟩ := Isos.parL h.2; ⟨i.par j⟩
theorem Isos.rep {A B : Sys} (i : Iso A B) : ∀ n, Isos (List.replicate n A) (List.replicate n B)
  | 0 => trivial
  | n + 1 => ⟨⟨i⟩, Isos.rep i n⟩
/-! jobs -/
inductive Job where
  | step (v : Int)
  | seq (ps : List Job)
  | par (ps : List Job)
  | rep (n : Nat) (j : Job)
  | cop (n : Nat) (j : Job)
mutual
  def jobS : Job → Sys
    | .step v => stepS v
    | .seq ps => seqL (jobsS ps)
    | .par ps => parL (jobsS ps)
    | .rep n j => seqL (List.replicate n (jobS j))
    | .cop n j => parL (List.replicate n (jobS j))
  def jobsS : List Job → List Sys
    | [] => []
    | j :: js => jobS j :: jobsS js
end
mutual
  def jobLat : (j : Job) → Lat (jobS j)
    | .step v => Lat.step v
    | .seq ps => Lats.seqL (jobLats ps)
    | .par ps => Lats.par _ (jobLats ps)
    | .rep n j => Lats.seqL (Lats.rep (jobLat j) n)
    | .cop n j => Lats.par _ (Lats.rep (jobLat j) n)
  def jobLats : (js : List Job) → Lats (jobsS js)
    | [] => ()
    | j :: js => (jobLat j, jobLats js)
end
mutual
  def mirrorJ : Job → Job
    | .step v => .step (-v)
    | .seq ps => .seq (mirrorJs ps).reverse
    | .par ps => .par (mirrorJs ps)
    | .rep n j => .rep n (mirrorJ j)
    | .cop n j => .cop n (mirrorJ j)
  def mirrorJs : List Job → List Job
    | [] => []
    | j :: js => mirrorJ j :: mirrorJs js
end
theorem jobsS_map (js : List Job) : jobsS js = js.map jobS := by
  induction js with
  | nil => rfl
  | cons j js ih => rw [List.map_cons, ← ih]; rfl
theorem jobsS_reverse (js : List Job) : jobsS js.reverse = (jobsS js).reverse := by
  rw [jobsS_map, jobsS_map, List.map_reverse]
mutual
  theorem mirror_iso : ∀ j : Job, Nonempty (Iso (jobS (mirrorJ j)) (op (jobS j)))
    | .step v => ⟨(step_op v).symm⟩
    | .seq ps => by
      have h := mirrors_iso ps
      obtain ⟨i⟩ := seqL_op' (jobsS ps)
      obtain ⟨k⟩ := Isos.seqL h.reverse
      have e : jobS (mirrorJ (.seq ps)) = seqL (jobsS (mirrorJs ps)).reverse := by
        show seqL (jobsS (mirrorJs ps).reverse) = _
        rw [jobsS_reverse]
      have e2 : ((jobsS ps).map op).reverse = (jobsS ps).reverse.map op := List.map_reverse.symm
      rw [e2] at k
      exact ⟨(Iso.cast e).trans (k.trans i.symm)⟩
    | .par ps => by
      have h := mirrors_iso ps
      obtain ⟨k⟩ := Isos.parL h
      exact ⟨k.trans (parL_op (jobsS ps)).symm⟩
    | .rep n j => by
      obtain ⟨i⟩ := mirror_iso j
      obtain ⟨k⟩ := Isos.seqL (Isos.rep i n)
      obtain ⟨q⟩ := seqL_op' (List.replicate n (jobS j))
      have e2 : (List.replicate n (jobS j)).reverse.map op = List.replicate n (op (jobS j)) := by rw [List.reverse_replicate, List.map_replicate]
      rw [e2] at q
      exact ⟨k.trans q.symm⟩
    | .cop n j => by
      obtain ⟨i⟩ := mirror_iso j
      obtain ⟨k⟩ := Isos.parL (Isos.rep i n)
      have q := parL_op (List.replicate n (jobS j))
      have e2 : (List.replicate n (jobS j)).map op = List.replicate n (op (jobS j)) := by rw [List.map_replicate]
      rw [e2] at q
      exact ⟨k.trans q.symm⟩
  theorem mirrors_iso : ∀ js : List Job, Isos (jobsS (mirrorJs js)) ((jobsS js).map op)
    | [] => trivial
    | j :: js => ⟨mirror_iso j, mirrors_iso js⟩
end
end K30m
namespace K30m
/-! masks of bits -/
abbrev Row := Int × Nat
def Sub (b x : Nat) : Prop := ∀ j, b.testBit j = true → x.testBit j = true
theorem sub_iff {b x : Nat} : b &&& x = b ↔ Sub b x := by
  constructor
  · intro h j hj
    rw [← h, Nat.testBit_and] at hj
    simp at hj; exact hj.2
  · intro h
    refine Nat.eq_of_testBit_eq fun j => ?_
    rw [Nat.testBit_and]
    cases e : b.testBit j with
    | false => rfl
    | true => rw [h j e]; rfl
def WF (rs : List Row) : Prop := ∀ (i : Nat) r, rs[i]? = some r → ∀ j, r.2.testBit j = true → j < i
structure Cl (rs : List Row) (x : Nat) : Prop where
  small : ∀ j, x.testBit j = true → j < rs.length
  down : ∀ (i : Nat) r, rs[i]? = some r → x.testBit i = true → Sub r.2 x
def val : Nat → List Row → Nat → Int
  | _, [], _ => 0
  | k, r :: rs, x => (if x.testBit k then r.1 else 0) + val (k + 1) rs x
theorem val_congr : ∀ (rs : List Row) (k k' x y : Nat), (∀ j, j < rs.length → x.testBit (k + j) = y.testBit (k' + j)) → val k rs x = val k' rs y
  | [], _, _, _, _, _ => rfl
  | r :: rs, k, k', x, y, h => by
    have h0 := h 0 (by simp)
    have h1 := val_congr rs (k + 1) (k' + 1) x y fun j hj => by
      have := h (j + 1) (by simp; omega)
      rw [show k + 1 + j = k + (j + 1) by omega, show k' + 1 + j = k' + (j + 1) by omega]; exact this
    simp only [Nat.add_zero] at h0
    simp only [val, h0, h1]
theorem val_append : ∀ (a b : List Row) (k x : Nat), val k (a ++ b) x = val k a x + val (k + a.length) b x
  | [], b, k, x => by simp [val]
  | r :: a, b, k, x => by
    have := val_append a b (k + 1) x
    simp only [List.cons_append, val, this, List.length_cons]
    rw [show k + 1 + a.length = k + (a.length + 1) by omega]; omega
theorem val_map (f : Row → Row) (hf : ∀ r, (f r).1 = r.1) : ∀ (b : List Row) (k x : Nat), val k (b.map f) x = val k b x
  | [], _, _ => rfl
  | r :: b, k, x => by simp only [List.map_cons, val, hf, val_map f hf b]
theorem val_zero : ∀ (rs : List Row) (k : Nat), val k rs 0 = 0
  | [], _ => rfl
  | r :: rs, k => by simp [val, val_zero rs]
theorem val_add : ∀ (rs : List Row) (k x i : Nat) (r : Row), rs[i]? = some r → x.testBit (k + i) = false → val k rs (x ||| 2 ^ (k + i)) = val k rs x + r.1
  | [], _, _, _, _, h, _ => by simp at h
  | r :: rs, k, x, 0, q, h, hx => by
    have e : r = q := by simpa using h
    subst e
    rw [Nat.add_zero] at *
    have : val (k + 1) rs (x ||| 2 ^ k) = val (k + 1) rs x := val_congr rs _ _ _ _ fun j _ => by
      rw [Nat.testBit_or, Nat.testBit_two_pow]
      rw [decide_eq_false (by omega)]; simp
    simp only [val, this, Nat.testBit_or, hx, Nat.testBit_two_pow]
    simp; omega
  | r :: rs, k, x, i + 1, q, h, hx => by
    have h' : rs[i]? = some q := by simpa using h
    rw [show k + (i + 1) = k + 1 + i by omega] at *
    have := val_add rs (k + 1) x i q h' hx
    simp only [val, this]
    have e : (x ||| 2 ^ (k + 1 + i)).testBit k = x.testBit k := by
      rw [Nat.testBit_or, Nat.testBit_two_pow, decide_eq_false (by omega)]; simp
    rw [e]; omega
theorem cl_zero (rs : List Row) : Cl rs 0 := ⟨fun j h => by simp at h, fun i r _ h => by simp at h⟩
def full (n : Nat) : Nat := 2 ^ n - 1
theorem testBit_full (n j : Nat) : (full n).testBit j = decide (j < n) := Nat.testBit_two_pow_sub_one n j
theorem cl_full {rs : List Row} (h : WF rs) : Cl rs (full rs.length) where
  small := fun j hj => by rw [testBit_full] at hj; simpa using hj
  down := fun i r hr _ j hj => by
    have := h i r hr j hj
    have := (List.getElem?_eq_some_iff.mp hr).1
    rw [testBit_full]; simp; omega
def maskS (rs : List Row) (h : WF rs) : Sys where
  S := { x : Nat // Cl rs x }
  u := fun x => val 0 rs x.1
  st := fun x y => ∃ i, i < rs.length ∧ x.1.testBit i = false ∧ y.1 = x.1 ||| 2 ^ i
  bot := ⟨0, cl_zero rs⟩
  top := ⟨full rs.length, cl_full h⟩
/-! putting masks together -/
def lo (m x : Nat) : Nat := x % 2 ^ m
def hiB (m x : Nat) : Nat := x >>> m
def comb (m p q : Nat) : Nat := p ||| (q <<< m)
theorem testBit_lo (m x j : Nat) : (lo m x).testBit j = (decide (j < m) && x.testBit j) := Nat.testBit_mod_two_pow x m j
theorem testBit_hi (m x j : Nat) : (hiB m x).testBit j = x.testBit (m + j) := Nat.testBit_shiftRight x
theorem testBit_comb (m p q j : Nat) : (comb m p q).testBit j = (p.testBit j || (decide (m ≤ j) && q.testBit (j - m))) := by
  unfold comb; rw [Nat.testBit_or, Nat.testBit_shiftLeft]
theorem comb_lo_hi (m x : Nat) : comb m (lo m x) (hiB m x) = x := by
  refine Nat.eq_of_testBit_eq fun j => ?_
  rw [testBit_comb, testBit_lo, testBit_hi]
  by_cases h : j < m
  · simp [h]; intro h2; omega
  · have : m + (j - m) = j := by omega
    simp [h, this]; intro; omega
theorem lo_comb {m p q : Nat} (hp : ∀ j, p.testBit j = true → j < m) : lo m (comb m p q) = p := by
  refine Nat.eq_of_testBit_eq fun j => ?_
  rw [testBit_lo, testBit_comb]
  by_cases h : j < m
  · simp [h]; intro h2; omega
  · have : p.testBit j = false := by
      cases e : p.testBit j with
      | false => rfl
      | true => exact absurd (hp j e) h
    simp [h, this]
theorem hi_comb {m p q : Nat} (hp : ∀ j, p.testBit j = true → j < m) : hiB m (comb m p q) = q := by
  refine Nat.eq_of_testBit_eq fun j => ?_
  rw [testBit_hi, testBit_comb]
  have : p.testBit (m + j) = false := by
    cases e : p.testBit (m + j) with
    | false => rfl
    | true => have := hp _ e; omega
  simp [this]
/-! rows one behind another -/
def shR (m : Nat) (more : Nat) (r : Row) : Row := (r.1, (r.2 <<< m) ||| more)
def seqRows (a b : List Row) : List Row := a ++ b.map (shR a.length (full a.length))
def parRows (a b : List Row) : List Row := a ++ b.map (shR a.length 0)
theorem rows_get_lt {a b : List Row} {f : Row → Row} {i : Nat} (h : i < a.length) : (a ++ b.map f)[i]? = a[i]? := List.getElem?_append_left h
theorem rows_get_ge {a b : List Row} {f : Row → Row} {i : Nat} (h : a.length ≤ i) : (a ++ b.map f)[i]? = (b[i - a.length]?).map f := by
  rw [List.getElem?_append_right h, List.getElem?_map]
section
variable {a b : List Row} {more : Nat}
theorem wf_rows (ha : WF a) (hb : WF b) (hm : ∀ j, more.testBit j = true → j < a.length) : WF (a ++ b.map (shR a.length more)) := by
  intro i r hr j hj
  by_cases h : i < a.length
  · rw [rows_get_lt h] at hr; exact ha i r hr j hj
  · rw [rows_get_ge (by omega)] at hr
    cases e : b[i - a.length]? with
    | none => rw [e] at hr; simp at hr
    | some q =>
      rw [e] at hr
      have : shR a.length more q = r := by simpa using hr
      subst this
      simp only [shR, Nat.testBit_or, Nat.testBit_shiftLeft, Bool.or_eq_true, Bool.and_eq_true, decide_eq_true_eq] at hj
      rcases hj with ⟨h1, h2⟩ | h2
      · have := hb _ q e _ h2; omega
      · have := hm j h2; omega
theorem cl_lo {x : Nat} (ha : WF a) (h : Cl (a ++ b.map (shR a.length more)) x) : Cl a (lo a.length x) where
  small := fun j hj => by rw [testBit_lo] at hj; simp at hj; exact hj.1
  down := fun i r hr hx j hj => by
    rw [testBit_lo] at hx ⊢
    simp at hx ⊢
    have := h.down i r (by rw [rows_get_lt hx.1]; exact hr) hx.2 j hj
    have := ha i r hr j hj
    exact ⟨by omega, by assumption⟩
theorem cl_hi {x : Nat} (h : Cl (a ++ b.map (shR a.length more)) x) : Cl b (hiB a.length x) where
  small := fun j hj => by
    rw [testBit_hi] at hj
    have := h.small _ hj
    simp at this; exact this
  down := fun i r hr hx j hj => by
    rw [testBit_hi] at hx ⊢
    have e : (a ++ b.map (shR a.length more))[a.length + i]? = some (shR a.length more r) := by
      rw [rows_get_ge (by omega)]
      rw [show a.length + i - a.length = i by omega, hr]; rfl
    refine h.down _ _ e hx _ ?_
    simp only [shR, Nat.testBit_or, Nat.testBit_shiftLeft]
    rw [show a.length + j - a.length = j by omega, hj]
    simp
theorem cl_more {x i : Nat} (h : Cl (a ++ b.map (shR a.length more)) x) (hi : (hiB a.length x).testBit i = true) : Sub more x := by
  intro j hj
  rw [testBit_hi] at hi
  have hs := h.small _ hi
  simp at hs
  have hr : b[i]? = some b[i] := List.getElem?_eq_getElem hs
  have e : (a ++ b.map (shR a.length more))[a.length + i]? = some (shR a.length more b[i]) := by
    rw [rows_get_ge (by omega)]
    rw [show a.length + i - a.length = i by omega, hr]; rfl
  refine h.down _ _ e hi j ?_
  simp only [shR, Nat.testBit_or, hj]; simp
theorem cl_comb {p q : Nat} (hp : Cl a p) (hq : Cl b q) (hm : ∀ i, q.testBit i = true → Sub more p) : Cl (a ++ b.map (shR a.length more)) (comb a.length p q) where
  small := fun j hj => by
    rw [testBit_comb] at hj
    simp only [List.length_append, List.length_map]
    simp only [Bool.or_eq_true, Bool.and_eq_true, decide_eq_true_eq] at hj
    rcases hj with h | ⟨h1, h2⟩
    · have := hp.small j h; omega
    · have := hq.small _ h2; omega
  down := fun i r hr hx j hj => by
    rw [testBit_comb] at hx ⊢
    simp only [Bool.or_eq_true, Bool.and_eq_true, decide_eq_true_eq] at hx ⊢
    rcases hx with h | ⟨h1, h2⟩
    · have hi := hp.small i h
      rw [rows_get_lt hi] at hr
      exact .inl (hp.down i r hr h j hj)
    · rw [rows_get_ge h1] at hr
      cases e : b[i - a.length]? with
      | none => rw [e] at hr; simp at hr
      | some s =>
        rw [e] at hr
        have : shR a.length more s = r := by simpa using hr
        subst this
        simp only [shR, Nat.testBit_or, Nat.testBit_shiftLeft, Bool.or_eq_true, Bool.and_eq_true, decide_eq_true_eq] at hj
        rcases hj with ⟨g1, g2⟩ | g
        · exact .inr ⟨g1, hq.down _ s e h2 _ g2⟩
        · exact .inl (hm _ h2 j g)
theorem val_rows (x : Nat) : val 0 (a ++ b.map (shR a.length more)) x = val 0 a (lo a.length x) + val 0 b (hiB a.length x) := by
  rw [val_append, val_map (shR a.length more) (fun r => rfl)]
  congr 1
  · refine val_congr a 0 0 _ _ fun j hj => ?_
    rw [testBit_lo]; simp; intro _; omega
  · refine val_congr b _ 0 _ _ fun j hj => ?_
    rw [testBit_hi]; simp
theorem lo_or {m x i : Nat} (h : i < m) : lo m (x ||| 2 ^ i) = lo m x ||| 2 ^ i := by
  refine Nat.eq_of_testBit_eq fun j => ?_
  rw [testBit_lo, Nat.testBit_or, Nat.testBit_or, testBit_lo, Nat.testBit_two_pow]
  by_cases h2 : i = j
  · subst h2; simp [h]
  · simp [h2]
theorem hi_or_lt {m x i : Nat} (h : i < m) : hiB m (x ||| 2 ^ i) = hiB m x := by
  refine Nat.eq_of_testBit_eq fun j => ?_
  rw [testBit_hi, testBit_hi, Nat.testBit_or, Nat.testBit_two_pow]
  simp; omega
theorem lo_or_ge {m x i : Nat} (h : m ≤ i) : lo m (x ||| 2 ^ i) = lo m x := by
  refine Nat.eq_of_testBit_eq fun j => ?_
  rw [testBit_lo, testBit_lo, Nat.testBit_or, Nat.testBit_two_pow]
  by_cases h2 : j < m
  · simp [h2]; omega
  · simp [h2]
theorem hi_or_ge {m x i : Nat} (h : m ≤ i) : hiB m (x ||| 2 ^ i) = hiB m x ||| 2 ^ (i - m) := by
  refine Nat.eq_of_testBit_eq fun j => ?_
  rw [testBit_hi, Nat.testBit_or, Nat.testBit_or, testBit_hi, Nat.testBit_two_pow, Nat.testBit_two_pow]
  by_cases h2 : i = m + j
  · subst h2; simp
  · simp [h2]; intro h3; omega
theorem comb_zero (m : Nat) : comb m 0 0 = 0 := by unfold comb; simp
theorem lo_full (m n : Nat) : lo m (full (m + n)) = full m := by
  refine Nat.eq_of_testBit_eq fun j => ?_
  rw [testBit_lo, testBit_full, testBit_full]
  by_cases h : j < m
  · simp [h]; omega
  · simp [h]
theorem hi_full (m n : Nat) : hiB m (full (m + n)) = full n := by
  refine Nat.eq_of_testBit_eq fun j => ?_
  rw [testBit_hi, testBit_full, testBit_full]
  by_cases h : j < n
  · simp [h]
  · simp [h]
theorem eq_full {m x : Nat} (h : ∀ j, x.testBit j = true → j < m) (h2 : Sub (full m) x) : x = full m := by
  refine Nat.eq_of_testBit_eq fun j => ?_
  rw [testBit_full]
  by_cases hj : j < m
  · rw [h2 j (by rw [testBit_full]; simp [hj])]; simp [hj]
  · cases e : x.testBit j with
    | false => simp [hj]
    | true => exact absurd (h j e) hj
theorem eq_zero_or (x : Nat) : x = 0 ∨ ∃ i, x.testBit i = true := by
  by_cases h : ∃ i, x.testBit i = true
  · exact .inr h
  · refine .inl (Nat.eq_of_testBit_eq fun j => ?_)
    rw [Nat.zero_testBit]
    cases e : x.testBit j with
    | false => rfl
    | true => exact absurd ⟨j, e⟩ h
end
theorem wf_par {a b : List Row} (ha : WF a) (hb : WF b) : WF (parRows a b) := wf_rows ha hb fun j h => by simp at h
theorem wf_seq {a b : List Row} (ha : WF a) (hb : WF b) : WF (seqRows a b) := wf_rows ha hb fun j h => by rw [testBit_full] at h; simpa using h
theorem full_len {a b : List Row} {m : Nat} : full (a ++ b.map (shR a.length m)).length = full (a.length + b.length) := by
  rw [List.length_append, List.length_map]
def par_mask {a b : List Row} (ha : WF a) (hb : WF b) : Iso (maskS (parRows a b) (wf_par ha hb)) (parS (maskS a ha) (maskS b hb)) where
  f := fun x => (⟨lo a.length x.1, cl_lo ha x.2⟩, ⟨hiB a.length x.1, cl_hi x.2⟩)
  g := fun p => ⟨comb a.length p.1.1 p.2.1, cl_comb p.1.2 p.2.2 fun i _ j h => by simp at h⟩
  fg := fun p => Prod.ext (Subtype.ext (lo_comb p.1.2.small)) (Subtype.ext (hi_comb p.1.2.small))
  gf := fun x => Subtype.ext (comb_lo_hi _ _)
  hu := fun x => (val_rows x.1).symm
  hs := fun x y => by
    show (∃ i, i < (parRows a b).length ∧ x.1.testBit i = false ∧ y.1 = x.1 ||| 2 ^ i) ↔
      (((∃ i, i < a.length ∧ (lo a.length x.1).testBit i = false ∧ lo a.length y.1 = lo a.length x.1 ||| 2 ^ i) ∧ (⟨hiB a.length x.1, _⟩ : { x : Nat // Cl b x }) = ⟨hiB a.length y.1, _⟩) ∨
       ((⟨lo a.length x.1, _⟩ : { x : Nat // Cl a x }) = ⟨lo a.length y.1, _⟩ ∧ (∃ i, i < b.length ∧ (hiB a.length x.1).testBit i = false ∧ hiB a.length y.1 = hiB a.length x.1 ||| 2 ^ i)))
    have hl : (parRows a b).length = a.length + b.length := by unfold parRows; rw [List.length_append, List.length_map]
    rw [hl]
    constructor
    · rintro ⟨i, hi, hx, hy⟩
      by_cases h : i < a.length
      · refine .inl ⟨⟨i, h, by rw [testBit_lo, hx]; simp, by rw [hy, lo_or h]⟩, Subtype.ext ?_⟩
        dsimp only; rw [hy, hi_or_lt h]
      · refine .inr ⟨Subtype.ext ?_, i - a.length, by omega, ?_, by rw [hy, hi_or_ge (by omega)]⟩
        · dsimp only; rw [hy, lo_or_ge (by omega)]
        · rw [testBit_hi, show a.length + (i - a.length) = i by omega]; exact hx
    · rintro (⟨⟨i, hi, hx, hy⟩, e⟩ | ⟨e, i, hi, hx, hy⟩)
      · have e' : hiB a.length x.1 = hiB a.length y.1 := congrArg Subtype.val e
        refine ⟨i, by omega, ?_, ?_⟩
        · rw [testBit_lo] at hx; simpa [hi] using hx
        · rw [← comb_lo_hi a.length y.1, ← comb_lo_hi a.length (x.1 ||| 2 ^ i), lo_or hi, hi_or_lt hi, hy, e']
      · have e' : lo a.length x.1 = lo a.length y.1 := congrArg Subtype.val e
        refine ⟨a.length + i, by omega, ?_, ?_⟩
        · rw [testBit_hi] at hx; exact hx
        · rw [← comb_lo_hi a.length y.1, ← comb_lo_hi a.length (x.1 ||| 2 ^ (a.length + i)), lo_or_ge (by omega), hi_or_ge (by omega), hy, e', show a.length + i - a.length = i by omega]
  hb := Prod.ext (Subtype.ext (by show lo _ 0 = 0; unfold lo; simp)) (Subtype.ext (by show hiB _ 0 = 0; unfold hiB; simp))
  ht := Prod.ext (Subtype.ext (by show lo _ (full (parRows a b).length) = _; unfold parRows; rw [full_len, lo_full]; rfl)) (Subtype.ext (by show hiB _ (full (parRows a b).length) = _; unfold parRows; rw [full_len, hi_full]; rfl))
def seq_mask {a b : List Row} (ha : WF a) (hb : WF b) : Iso (maskS (seqRows a b) (wf_seq ha hb)) (seqS (maskS a ha) (maskS b hb)) where
  f := fun x => ⟨(⟨lo a.length x.1, cl_lo ha x.2⟩, ⟨hiB a.length x.1, cl_hi x.2⟩), by
    rcases eq_zero_or (hiB a.length x.1) with h | ⟨i, h⟩
    · exact .inr (Subtype.ext h)
    · refine .inl (Subtype.ext (eq_full (cl_lo ha x.2).small fun j hj => ?_))
      have := cl_more x.2 h j hj
      rw [testBit_full] at hj
      rw [testBit_lo, this]; simpa using hj⟩
  g := fun p => ⟨comb a.length p.1.1.1 p.1.2.1, cl_comb p.1.1.2 p.1.2.2 fun i hi j h => by
    rcases p.2 with e | e
    · have e' : p.1.1.1 = full a.length := congrArg Subtype.val e
      rw [e']; exact h
    · have e' : p.1.2.1 = 0 := congrArg Subtype.val e
      rw [e'] at hi; simp at hi⟩
  fg := fun p => seq_ext (Subtype.ext (lo_comb p.1.1.2.small)) (Subtype.ext (hi_comb p.1.1.2.small))
  gf := fun x => Subtype.ext (comb_lo_hi _ _)
  hu := fun x => (val_rows x.1).symm
  hs := fun x y => by
    show (∃ i, i < (seqRows a b).length ∧ x.1.testBit i = false ∧ y.1 = x.1 ||| 2 ^ i) ↔
      (((∃ i, i < a.length ∧ (lo a.length x.1).testBit i = false ∧ lo a.length y.1 = lo a.length x.1 ||| 2 ^ i) ∧ (⟨hiB a.length x.1, _⟩ : { x : Nat // Cl b x }) = ⟨0, _⟩ ∧ (⟨hiB a.length y.1, _⟩ : { x : Nat // Cl b x }) = ⟨0, _⟩) ∨
       ((⟨lo a.length x.1, _⟩ : { x : Nat // Cl a x }) = ⟨full a.length, _⟩ ∧ (⟨lo a.length y.1, _⟩ : { x : Nat // Cl a x }) = ⟨full a.length, _⟩ ∧ (∃ i, i < b.length ∧ (hiB a.length x.1).testBit i = false ∧ hiB a.length y.1 = hiB a.length x.1 ||| 2 ^ i)))
    have hl : (seqRows a b).length = a.length + b.length := by unfold seqRows; rw [List.length_append, List.length_map]
    rw [hl]
    have full_of : ∀ (z : { x : Nat // Cl (seqRows a b) x }) (i : Nat), (hiB a.length z.1).testBit i = true → lo a.length z.1 = full a.length := fun z i h =>
      eq_full (cl_lo ha z.2).small fun j hj => by
        have := cl_more z.2 h j hj
        rw [testBit_full] at hj
        rw [testBit_lo, this]; simpa using hj
    constructor
    · rintro ⟨i, hi, hx, hy⟩
      by_cases h : i < a.length
      · have h0 : hiB a.length x.1 = 0 := by
          rcases eq_zero_or (hiB a.length x.1) with e | ⟨j, e⟩
          · exact e
          · have := full_of x j e
            have h1 : (lo a.length x.1).testBit i = true := by rw [this, testBit_full]; simp [h]
            rw [testBit_lo, hx] at h1; simp at h1
        refine .inl ⟨⟨i, h, by rw [testBit_lo, hx]; simp, by rw [hy, lo_or h]⟩, Subtype.ext h0, Subtype.ext ?_⟩
        dsimp only; rw [hy, hi_or_lt h, h0]
      · have h1 : (hiB a.length y.1).testBit (i - a.length) = true := by
          rw [hy, hi_or_ge (by omega), Nat.testBit_or, Nat.testBit_two_pow]; simp
        have h2 := full_of y _ h1
        refine .inr ⟨Subtype.ext ?_, Subtype.ext h2, i - a.length, by omega, ?_, by rw [hy, hi_or_ge (by omega)]⟩
        · dsimp only; rw [hy, lo_or_ge (by omega)] at h2; exact h2
        · rw [testBit_hi, show a.length + (i - a.length) = i by omega]; exact hx
    · rintro (⟨⟨i, hi, hx, hy⟩, e1, e2⟩ | ⟨e1, e2, i, hi, hx, hy⟩)
      · have f1 : hiB a.length x.1 = 0 := congrArg Subtype.val e1
        have f2 : hiB a.length y.1 = 0 := congrArg Subtype.val e2
        refine ⟨i, by omega, ?_, ?_⟩
        · rw [testBit_lo] at hx; simpa [hi] using hx
        · rw [← comb_lo_hi a.length y.1, ← comb_lo_hi a.length (x.1 ||| 2 ^ i), lo_or hi, hi_or_lt hi, hy, f1, f2]
      · have f1 : lo a.length x.1 = full a.length := congrArg Subtype.val e1
        have f2 : lo a.length y.1 = full a.length := congrArg Subtype.val e2
        refine ⟨a.length + i, by omega, ?_, ?_⟩
        · rw [testBit_hi] at hx; exact hx
        · rw [← comb_lo_hi a.length y.1, ← comb_lo_hi a.length (x.1 ||| 2 ^ (a.length + i)), lo_or_ge (by omega), hi_or_ge (by omega), hy, f1, f2, show a.length + i - a.length = i by omega]
  hb := seq_ext (Subtype.ext (by show lo _ 0 = 0; unfold lo; simp)) (Subtype.ext (by show hiB _ 0 = 0; unfold hiB; simp))
  ht := seq_ext (Subtype.ext (by show lo _ (full (seqRows a b).length) = _; unfold seqRows; rw [full_len, lo_full]; rfl)) (Subtype.ext (by show hiB _ (full (seqRows a b).length) = _; unfold seqRows; rw [full_len, hi_full]; rfl))
end K30m
namespace K30m
theorem or_two_pow : ∀ (i z : Nat), z.testBit i = false → z ||| 2 ^ i = z + 2 ^ i
  | 0, z, h => by
    have h0 : z % 2 = 0 := by simpa [Nat.testBit_zero] using h
    have e : (z ||| 1) / 2 = z / 2 := by rw [Nat.or_div_two]; simp
    have e2 : (z ||| 1) % 2 = 1 := by simp
    show z ||| 1 = z + 1
    omega
  | i + 1, z, h => by
    have h' : (z / 2).testBit i = false := by rw [Nat.testBit_div_two]; exact h
    have ih := or_two_pow i (z / 2) h'
    have e : (z ||| 2 ^ (i + 1)) / 2 = z / 2 + 2 ^ i := by rw [Nat.or_div_two, ← ih]; congr 1; rw [Nat.pow_succ]; omega
    have e2 : (z ||| 2 ^ (i + 1)) % 2 = z % 2 := by
      have q : (z ||| 2 ^ (i + 1)).testBit 0 = z.testBit 0 := by rw [Nat.testBit_or, Nat.testBit_two_pow]; simp
      rw [Nat.testBit_zero, Nat.testBit_zero] at q
      have := decide_eq_decide.mp q
      omega
    have e3 : 2 ^ (i + 1) = 2 * 2 ^ i := by rw [Nat.pow_succ]; omega
    omega
/-! rows of jobs -/
mutual
  def lrows : Job → List Row
    | .step v => [(v, 0)]
    | .seq ps => (lrowsS ps).foldl seqRows []
    | .par ps => (lrowsS ps).foldl parRows []
    | .rep n j => (List.replicate n (lrows j)).foldl seqRows []
    | .cop n j => (List.replicate n (lrows j)).foldl parRows []
  def lrowsS : List Job → List (List Row)
    | [] => []
    | j :: js => lrows j :: lrowsS js
end
def MIso (rs : List Row) (A : Sys) : Prop := ∃ h : WF rs, Nonempty (Iso (maskS rs h) A)
def MIsos : List (List Row) → List Sys → Prop
  | [], [] => True
  | r :: rs, A :: l => MIso r A ∧ MIsos rs l
  | _, _ => False
def par_assoc (A B C : Sys) : Iso (parS (parS A B) C) (parS A (parS B C)) where
  f := fun p => (p.1.1, (p.1.2, p.2))
  g := fun p => ((p.1, p.2.1), p.2.2)
  fg := fun _ => rfl
  gf := fun _ => rfl
  hu := fun p => by
    show A.u p.1.1 + (B.u p.1.2 + C.u p.2) = (A.u p.1.1 + B.u p.1.2) + C.u p.2
    omega
  hs := fun p q => by
    obtain ⟨⟨a, b⟩, c⟩ := p
    obtain ⟨⟨a', b'⟩, c'⟩ := q
    have x1 : ((a, b) : (parS A B).S) = (a', b') ↔ (a = a' ∧ b = b') := Prod.mk.injEq a b a' b' ▸ Iff.rfl
    have x2 : ((b, c) : (parS B C).S) = (b', c') ↔ (b = b' ∧ c = c') := Prod.mk.injEq b c b' c' ▸ Iff.rfl
    show ((((A.st a a' ∧ b = b') ∨ (a = a' ∧ B.st b b')) ∧ c = c') ∨ (((a, b) : (parS A B).S) = (a', b') ∧ C.st c c')) ↔
      ((A.st a a' ∧ ((b, c) : (parS B C).S) = (b', c')) ∨ (a = a' ∧ ((B.st b b' ∧ c = c') ∨ (b = b' ∧ C.st c c'))))
    rw [x1, x2]
    constructor
    · rintro (⟨⟨h1, h2⟩ | ⟨h1, h2⟩, h3⟩ | ⟨⟨h1, h2⟩, h3⟩)
      · exact .inl ⟨h1, h2, h3⟩
      · exact .inr ⟨h1, .inl ⟨h2, h3⟩⟩
      · exact .inr ⟨h1, .inr ⟨h2, h3⟩⟩
    · rintro (⟨h1, h2, h3⟩ | ⟨h1, ⟨h2, h3⟩ | ⟨h2, h3⟩⟩)
      · exact .inl ⟨.inl ⟨h1, h2⟩, h3⟩
      · exact .inl ⟨.inr ⟨h1, h2⟩, h3⟩
      · exact .inr ⟨⟨h1, h2⟩, h3⟩
  hb := rfl
  ht := rfl
def par_unit_r (A : Sys) : Iso A (parS A unitS) where
  f := fun a => (a, ())
  g := fun p => p.1
  fg := fun _ => rfl
  gf := fun _ => rfl
  hu := fun a => by show A.u a + (0 : Int) = A.u a; omega
  hs := fun a b => by
    show A.st a b ↔ ((A.st a b ∧ () = ()) ∨ (a = b ∧ False))
    simp
  hb := rfl
  ht := rfl
def par_unit_l (A : Sys) : Iso (parS unitS A) A where
  f := fun p => p.2
  g := fun a => ((), a)
  fg := fun _ => rfl
  gf := fun _ => rfl
  hu := fun p => by show A.u p.2 = (0 : Int) + A.u p.2; omega
  hs := fun p q => by
    show ((False ∧ p.2 = q.2) ∨ (() = () ∧ A.st p.2 q.2)) ↔ A.st p.2 q.2
    simp
  hb := rfl
  ht := rfl
theorem miso_nil : MIso [] unitS := by
  have h : WF [] := fun i r hr => by simp at hr
  refine ⟨h, ⟨{ f := fun _ => (), g := fun _ => ⟨0, cl_zero _⟩, fg := fun _ => rfl, gf := fun x => Subtype.ext ?_, hu := fun x => rfl, hs := fun x y => ?_, hb := rfl, ht := rfl }⟩⟩
  · rcases eq_zero_or x.1 with e | ⟨i, e⟩
    · exact e.symm
    · have := x.2.small i e; simp at this
  · constructor
    · rintro ⟨i, hi, _⟩; simp at hi
    · intro h; exact h.elim
theorem wf_step (v : Int) : WF [(v, 0)] := fun i r hr j hj => by
  cases i with
  | zero =>
    have : (v, 0) = r := by simpa using hr
    subst this; simp at hj
  | succ i => simp at hr
theorem miso_step (v : Int) : MIso [(v, 0)] (stepS v) := by
  have c1 : Cl [(v, 0)] 1 := by
    constructor
    · intro j hj
      cases j with
      | zero => simp
      | succ j =>
        have h1 : (1 : Nat).testBit (j + 1) = false := by
          have := Nat.testBit_two_pow (n := 0) (m := j + 1)
          simpa using this
        rw [h1] at hj; cases hj
    · intro i r hr _ j hj
      cases i with
      | zero =>
        have : (v, 0) = r := by simpa using hr
        subst this; simp at hj
      | succ i => simp at hr
  have two : ∀ x : { x : Nat // Cl [(v, 0)] x }, x.1 = 0 ∨ x.1 = 1 := fun x => by
    have hs := x.2.small
    have : x.1 < 2 ^ 1 := Nat.lt_pow_two_of_testBit x.1 fun i hi => by
      cases e : x.1.testBit i with
      | false => rfl
      | true => have := hs i e; simp at this; omega
    omega
  have fgb : ∀ b : Bool, (cond b (⟨1, c1⟩ : { x : Nat // Cl [(v, 0)] x }) ⟨0, cl_zero _⟩).1.testBit 0 = b := by
    intro b
    cases b with
    | false => show (0 : Nat).testBit 0 = false; simp
    | true => show (1 : Nat).testBit 0 = true; simp
  refine ⟨wf_step v, ⟨{ f := fun x => x.1.testBit 0, g := fun (b : Bool) => cond b ⟨1, c1⟩ ⟨0, cl_zero _⟩, fg := fun (b : Bool) => fgb b, gf := fun x => Subtype.ext ?_, hu := fun x => ?_, hs := fun x y => ?_, hb := by show (0 : Nat).testBit 0 = false; simp, ht := by show (full 1).testBit 0 = true; simp [full] }⟩⟩
  · rcases two x with e | e
    · have h0 : x.1.testBit 0 = false := by rw [e]; simp
      rw [h0]; exact e.symm
    · have h0 : x.1.testBit 0 = true := by rw [e]; simp
      rw [h0]; exact e.symm
  · show (if x.1.testBit 0 = true then v else 0) = (if x.1.testBit 0 = true then v else 0) + 0
    omega
  · show (∃ i, i < 1 ∧ x.1.testBit i = false ∧ y.1 = x.1 ||| 2 ^ i) ↔ (x.1.testBit 0 = false ∧ y.1.testBit 0 = true)
    constructor
    · rintro ⟨i, hi, h1, h2⟩
      have : i = 0 := by omega
      subst this
      refine ⟨h1, ?_⟩
      rw [h2, Nat.testBit_or]; simp
    · rintro ⟨h1, h2⟩
      refine ⟨0, by omega, h1, ?_⟩
      rcases two x with e | e <;> rcases two y with f | f <;> rw [e] at h1 ⊢ <;> rw [f] at h2 ⊢ <;> simp at h1 h2 ⊢
theorem miso_seq : ∀ {l : List (List Row)} {m : List Sys} {acc : List Row} {X : Sys}, MIso acc X → MIsos l m → MIso (l.foldl seqRows acc) (m.foldl seqS X)
  | [], [], _, _, h, _ => h
  | [], _ :: _, _, _, _, h => h.elim
  | _ :: _, [], _, _, _, h => h.elim
  | r :: l, A :: m, acc, X, ⟨h, ⟨i⟩⟩, ⟨⟨g, ⟨j⟩⟩, hm⟩ => miso_seq (l := l) (m := m) (acc := seqRows acc r) (X := seqS X A) ⟨wf_seq h g, ⟨(seq_mask h g).trans (i.seq j)⟩⟩ hm
theorem miso_par : ∀ {l : List (List Row)} {m : List Sys} {acc : List Row} {X : Sys}, MIso acc X → MIsos l m → MIso (l.foldl parRows acc) (parS X (parL m))
  | [], [], _, X, ⟨h, ⟨i⟩⟩, _ => ⟨h, ⟨i.trans (par_unit_r X)⟩⟩
  | [], _ :: _, _, _, _, h => h.elim
  | _ :: _, [], _, _, _, h => h.elim
  | r :: l, A :: m, acc, X, ⟨h, ⟨i⟩⟩, ⟨⟨g, ⟨j⟩⟩, hm⟩ => by
    obtain ⟨q, ⟨k⟩⟩ := miso_par (l := l) (m := m) (acc := parRows acc r) (X := parS X A) ⟨wf_par h g, ⟨(par_mask h g).trans (i.par j)⟩⟩ hm
    exact ⟨q, ⟨k.trans (par_assoc X A (parL m))⟩⟩
theorem misos_rep {r : List Row} {A : Sys} (h : MIso r A) : ∀ n, MIsos (List.replicate n r) (List.replicate n A)
  | 0 => trivial
  | n + 1 => ⟨h, misos_rep h n⟩
theorem miso_par0 {l : List (List Row)} {m : List Sys} (h : MIsos l m) : MIso (l.foldl parRows []) (parL m) := by
  obtain ⟨q, ⟨k⟩⟩ := miso_par miso_nil h
  exact ⟨q, ⟨k.trans (par_unit_l _)⟩⟩
mutual
  theorem miso_job : ∀ j : Job, MIso (lrows j) (jobS j)
    | .step v => miso_step v
    | .seq ps => miso_seq miso_nil (misos_job ps)
    | .par ps => miso_par0 (misos_job ps)
    | .rep n j => miso_seq miso_nil (misos_rep (miso_job j) n)
    | .cop n j => miso_par0 (misos_rep (miso_job j) n)
  theorem misos_job : ∀ js : List Job, MIsos (lrowsS js) (jobsS js)
    | [] => trivial
    | j :: js => ⟨miso_job j, misos_job js⟩
end
/-! how many bits -/
def ones (rs : List Row) : List Row := rs.map fun r => (1, r.2)
def cnt (rs : List Row) (x : Nat) : Int := val 0 (ones rs) x
theorem ones_get {rs : List Row} {i : Nat} {r : Row} (h : rs[i]? = some r) : (ones rs)[i]? = some (1, r.2) := by unfold ones; rw [List.getElem?_map, h]; rfl
theorem cnt_add {rs : List Row} {x i : Nat} (hi : i < rs.length) (hx : x.testBit i = false) : cnt rs (x ||| 2 ^ i) = cnt rs x + 1 := by
  have h := ones_get (List.getElem?_eq_getElem hi)
  have := val_add (ones rs) 0 x i _ h (by rw [Nat.zero_add]; exact hx)
  rw [Nat.zero_add] at this
  exact this
theorem cnt_zero (rs : List Row) : cnt rs 0 = 0 := val_zero _ _
theorem cnt_bounds : ∀ (rs : List Row) (k x : Nat), 0 ≤ val k (ones rs) x ∧ val k (ones rs) x ≤ rs.length
  | [], _, _ => by simp [ones, val]
  | r :: rs, k, x => by
    have := cnt_bounds rs (k + 1) x
    simp only [ones, List.map_cons, val, List.length_cons] at *
    split <;> omega
theorem cnt_le {rs : List Row} {x : Nat} : 0 ≤ cnt rs x ∧ cnt rs x ≤ rs.length := cnt_bounds rs 0 x
/-- clearing the highest bit of a closed mask -/
theorem clear_bit {x i : Nat} (h : x.testBit i = true) : ∃ z, x = z ||| 2 ^ i ∧ z.testBit i = false ∧ (∀ j, z.testBit j = true ↔ x.testBit j = true ∧ j ≠ i) := by
  refine ⟨x ^^^ 2 ^ i, ?_, ?_, fun j => ?_⟩
  · refine Nat.eq_of_testBit_eq fun j => ?_
    rw [Nat.testBit_or, Nat.testBit_xor, Nat.testBit_two_pow]
    by_cases e : i = j
    · subst e; simp [h]
    · simp [e]
  · rw [Nat.testBit_xor, Nat.testBit_two_pow, h]; simp
  · rw [Nat.testBit_xor, Nat.testBit_two_pow]
    by_cases e : i = j
    · subst e; simp [h]
    · simp [e]; intro _ h2; exact e h2.symm
theorem max_bit {x : Nat} (h : x ≠ 0) : ∃ i, x.testBit i = true ∧ ∀ j, x.testBit j = true → j ≤ i := by
  refine ⟨x.log2, Nat.testBit_log2 h, fun j hj => ?_⟩
  have h1 := Nat.ge_two_pow_of_testBit hj
  exact (Nat.le_log2 h).mpr h1
theorem cl_pred {rs : List Row} (hw : WF rs) {y : Nat} (hy : Cl rs y) (h : y ≠ 0) : ∃ x i, Cl rs x ∧ i < rs.length ∧ x.testBit i = false ∧ y = x ||| 2 ^ i := by
  obtain ⟨i, h1, h2⟩ := max_bit h
  obtain ⟨x, e, hx, hj⟩ := clear_bit h1
  refine ⟨x, i, ⟨fun j hb => hy.small j ((hj j).mp hb).1, fun k r hr hk j hb => ?_⟩, hy.small i h1, hx, e⟩
  have q := (hj k).mp hk
  have q1 := hy.down k r hr q.1 j hb
  have q2 := hw k r hr j hb
  have q3 := h2 k q.1
  exact (hj j).mpr ⟨q1, by omega⟩
theorem cl_succ {rs : List Row} (hw : WF rs) {x : Nat} (hx : Cl rs x) (h : x ≠ full rs.length) : ∃ i, i < rs.length ∧ x.testBit i = false ∧ Cl rs (x ||| 2 ^ i) := by
  -- the least bit that lacks
  have ex : ∃ i, i < rs.length ∧ x.testBit i = false := by
    by_cases q : ∃ i, i < rs.length ∧ x.testBit i = false
    · exact q
    · refine absurd (eq_full hx.small fun j hj => ?_) h
      rw [testBit_full] at hj
      simp at hj
      cases e : x.testBit j with
      | true => rfl
      | false => exact absurd ⟨j, hj, e⟩ q
  have key : ∀ n i, i ≤ n → i < rs.length → x.testBit i = false → ∃ i, i < rs.length ∧ x.testBit i = false ∧ ∀ j, j < i → x.testBit j = true := by
    intro n
    induction n with
    | zero =>
      intro i h1 h2 h3
      exact ⟨i, h2, h3, fun j hj => by omega⟩
    | succ n ih =>
      intro i h1 h2 h3
      by_cases q : ∃ j, j < i ∧ x.testBit j = false
      · obtain ⟨j, q1, q2⟩ := q
        exact ih j (by omega) (by omega) q2
      · refine ⟨i, h2, h3, fun j hj => ?_⟩
        cases e : x.testBit j with
        | true => rfl
        | false => exact absurd ⟨j, hj, e⟩ q
  obtain ⟨i0, a1, a2⟩ := ex
  obtain ⟨i, h1, h2, h3⟩ := key i0 i0 (Nat.le_refl _) a1 a2
  refine ⟨i, h1, h2, ⟨fun j hj => ?_, fun k r hr hk j hj => ?_⟩⟩
  · rw [Nat.testBit_or, Nat.testBit_two_pow] at hj
    simp at hj
    rcases hj with q | q
    · exact hx.small j q
    · omega
  · rw [Nat.testBit_or, Nat.testBit_two_pow] at hk ⊢
    simp at hk ⊢
    rcases hk with q | q
    · exact .inl (hx.down k r hr q j hj)
    · subst q
      exact .inl (h3 j (hw _ r hr j hj))
theorem cl_add {rs : List Row} {x i : Nat} {r : Row} (hx : Cl rs x) (hr : rs[i]? = some r) (h : Sub r.2 x) : Cl rs (x ||| 2 ^ i) where
  small := fun j hj => by
    rw [Nat.testBit_or, Nat.testBit_two_pow] at hj
    simp at hj
    rcases hj with q | q
    · exact hx.small j q
    · subst q; exact (List.getElem?_eq_some_iff.mp hr).1
  down := fun k s hs hk j hj => by
    rw [Nat.testBit_or, Nat.testBit_two_pow] at hk ⊢
    simp at hk ⊢
    rcases hk with q | q
    · exact .inl (hx.down k s hs q j hj)
    · subst q
      rw [hr] at hs; cases hs
      exact .inl (h j hj)
theorem cl_lt {rs : List Row} {x : Nat} (h : Cl rs x) : x < 2 ^ rs.length := Nat.lt_pow_two_of_testBit x fun i hi => by
  cases e : x.testBit i with
  | false => rfl
  | true => have := h.small i e; omega
theorem cnt_top {rs : List Row} (hw : WF rs) {x : Nat} (hx : Cl rs x) (h : cnt rs x = rs.length) : x = full rs.length := by
  by_cases q : x = full rs.length
  · exact q
  · obtain ⟨i, h1, h2, _⟩ := cl_succ hw hx q
    have := cnt_add h1 h2
    have := (cnt_le (rs := rs) (x := x ||| 2 ^ i)).2
    omega
theorem cnt_pos {rs : List Row} (hw : WF rs) {x : Nat} (hx : Cl rs x) (h : x ≠ 0) : 0 < cnt rs x := by
  obtain ⟨z, i, _, h1, h2, rfl⟩ := cl_pred hw hx h
  have := cnt_add h1 h2
  have := (cnt_le (rs := rs) (x := z)).1
  omega
/-! least peaks of single states -/
def IsRp (A : Sys) (z : A.S) (k : Int) : Prop := Reach A k A.bot z ∧ ∀ R, Reach A R A.bot z → k ≤ R
def IsCp (A : Sys) (z : A.S) (k : Int) : Prop := Reach A k z A.top ∧ ∀ R, Reach A R z A.top → k ≤ R
theorem least_int {p : Int → Prop} {B : Int} (hB : ∀ x, p x → B ≤ x) {x : Int} (h : p x) : ∃ y, p y ∧ ∀ z, p z → y ≤ z := by
  obtain ⟨y, hy, hm⟩ := exists_min (S := Int) (u := fun x => max B x) (p := p) (B := B) (fun x => Int.le_max_left _ _) h
  exact ⟨y, hy, fun z hz => by have := hm z hz; have := hB y hy; have := hB z hz; omega⟩
theorem rp_exists {A : Sys} (L : Lat A) (z : A.S) : ∃ k, IsRp A z k := by
  obtain ⟨R, h⟩ := L.here z
  exact least_int (p := fun R => Reach A R A.bot z) (B := A.u z) (fun x hx => hx.last) h
theorem cp_exists {A : Sys} (L : Lat A) (z : A.S) : ∃ k, IsCp A z k := by
  obtain ⟨R, h⟩ := L.there z
  exact least_int (p := fun R => Reach A R z A.top) (B := A.u z) (fun x hx => hx.first) h
theorem IsRp.uniq {A : Sys} {z : A.S} {k j : Int} (a : IsRp A z k) (b : IsRp A z j) : k = j := by
  have := a.2 _ b.1; have := b.2 _ a.1; omega
theorem IsCp.uniq {A : Sys} {z : A.S} {k j : Int} (a : IsCp A z k) (b : IsCp A z j) : k = j := by
  have := a.2 _ b.1; have := b.2 _ a.1; omega
theorem rp_bot {A : Sys} (h : A.u A.bot = 0) : IsRp A A.bot 0 := ⟨.refl (by omega), fun R r => by have := r.first; omega⟩
theorem rp_step {A : Sys} {x : A.S} {m : Int} (hb : x ≠ A.bot) (h1 : ∃ z, A.st z x ∧ IsRp A z m) (h2 : ∀ z k, A.st z x → IsRp A z k → m ≤ k) (hex : ∀ z, ∃ k, IsRp A z k) : IsRp A x (max (A.u x) m) := by
  obtain ⟨z, s, hz⟩ := h1
  refine ⟨.tail (hz.1.mono (Int.le_max_right _ _)) s (Int.le_max_left _ _), fun R r => ?_⟩
  cases r with
  | refl _ => exact absurd rfl hb
  | @tail y _ r s l =>
    obtain ⟨k, hk⟩ := hex y
    have := hk.2 R r
    have := h2 y k s hk
    omega
theorem Reach.cases_head {A : Sys} {R : Int} {a b : A.S} (h : Reach A R a b) : (a = b ∧ A.u a ≤ R) ∨ ∃ c, A.st a c ∧ A.u a ≤ R ∧ Reach A R c b := by
  induction h with
  | refl h => exact .inl ⟨rfl, h⟩
  | tail r s l ih =>
    rcases ih with ⟨e, h⟩ | ⟨c, h1, h2, h3⟩
    · subst e; exact .inr ⟨_, s, h, .refl l⟩
    · exact .inr ⟨c, h1, h2, .tail h3 s l⟩
theorem cp_top (A : Sys) : IsCp A A.top (A.u A.top) := ⟨.refl (Int.le_refl _), fun R r => r.first⟩
theorem cp_step {A : Sys} {x : A.S} {m : Int} (hb : x ≠ A.top) (h1 : ∃ z, A.st x z ∧ IsCp A z m) (h2 : ∀ z k, A.st x z → IsCp A z k → m ≤ k) (hex : ∀ z, ∃ k, IsCp A z k) : IsCp A x (max (A.u x) m) := by
  obtain ⟨z, s, hz⟩ := h1
  refine ⟨Reach.head s (Int.le_max_left _ _) (hz.1.mono (Int.le_max_right _ _)), fun R r => ?_⟩
  rcases r.cases_head with ⟨e, _⟩ | ⟨y, s, l, r⟩
  · exact absurd e hb
  · obtain ⟨k, hk⟩ := hex y
    have := hk.2 R r
    have := h2 y k s hk
    omega
/-! the profile from all states -/
structure AllSt (A : Sys) (P Q : List Pr) : Prop where
  allP : ∀ z k, IsRp A z k → (k, A.u z) ∈ P
  allQ : ∀ z k, IsCp A z k → (k, A.u z) ∈ Q
  onlyP : ∀ p ∈ P, ∃ z, IsRp A z p.1 ∧ p.2 = A.u z
  onlyQ : ∀ p ∈ Q, ∃ z, IsCp A z p.1 ∧ p.2 = A.u z
theorem all_ok {A : Sys} (L : Lat A) {P Q : List Pr} (h : AllSt A P Q) {k : Int} (hk : IsCp A A.bot k) : IsPf A ⟨A.u A.top, k, desc P, desc Q⟩ := by
  have nP : P ≠ [] := List.ne_nil_of_mem (h.allP A.bot 0 (rp_bot L.zero))
  have nQ : Q ≠ [] := List.ne_nil_of_mem (h.allQ A.top _ (cp_top A))
  refine ⟨rfl, ⟨hk.1, hk.2⟩, desc_valleys nP, Gen.desc ⟨fun p hp => ?_, fun R z hz => ?_⟩, desc_valleys nQ, ?_⟩
  · obtain ⟨z, hz, e⟩ := h.onlyP p hp
    exact ⟨z, hz.1, by omega⟩
  · obtain ⟨k, hk⟩ := rp_exists L z
    exact ⟨_, h.allP z k hk, hk.2 R hz, Int.le_refl _⟩
  · show Gen (op A) (mv (desc Q) (-A.u A.top))
    rw [← mv_desc]
    refine Gen.desc ⟨fun p hp => ?_, fun R z hz => ?_⟩
    · obtain ⟨z, hz, e⟩ := h.onlyQ _ (mem_mv.mp hp)
      refine ⟨z, reach_op.mpr ?_, ?_⟩
      · have := hz.1
        dsimp only at this
        rw [show p.1 - -A.u A.top = p.1 + A.u A.top by omega] at this; exact this
      · show A.u z - A.u A.top ≤ p.2
        dsimp only at e; omega
    · obtain ⟨k, hk⟩ := cp_exists L (show A.S from z)
      have := hk.2 _ (reach_op.mp hz)
      refine ⟨(k + -A.u A.top, A.u (show A.S from z) + -A.u A.top), List.mem_map.mpr ⟨_, h.allQ z k hk, rfl⟩, by dsimp only; omega, ?_⟩
      show A.u (show A.S from z) + -A.u A.top ≤ A.u (show A.S from z) - A.u A.top
      omega
theorem maskLat (j : Job) : ∃ h : WF (lrows j), Nonempty (Lat (maskS (lrows j) h)) ∧ Nonempty (Iso (maskS (lrows j) h) (jobS j)) := by
  obtain ⟨h, ⟨i⟩⟩ := miso_job j
  exact ⟨h, ⟨i.symm.lat (jobLat j)⟩, ⟨i⟩⟩
end K30m
namespace K30m
/-! chains of steps by their usages -/
def mxF (m : Int) (U : List Int) : Int := U.foldl max m
def PM : Int → List Int → List Pr
  | _, [] => []
  | m, u :: us => (max m u, u) :: PM (max m u) us
def lastI (U : List Int) : Int := U.getLastD 0
theorem mxF_append (m : Int) (U : List Int) (x : Int) : mxF m (U ++ [x]) = max (mxF m U) x := by unfold mxF; rw [List.foldl_append]; rfl
theorem mxF_ge : ∀ (U : List Int) (m : Int), m ≤ mxF m U ∧ ∀ u ∈ U, u ≤ mxF m U
  | [], m => ⟨Int.le_refl _, fun u h => by cases h⟩
  | x :: U, m => by
    obtain ⟨h1, h2⟩ := mxF_ge U (max m x)
    have e : mxF m (x :: U) = mxF (max m x) U := rfl
    rw [e]
    refine ⟨by omega, fun u hu => ?_⟩
    rcases List.mem_cons.mp hu with rfl | hu
    · omega
    · exact h2 u hu
theorem mxF_mem : ∀ (U : List Int) (m : Int), mxF m U = m ∨ mxF m U ∈ U
  | [], m => .inl rfl
  | x :: U, m => by
    have e : mxF m (x :: U) = mxF (max m x) U := rfl
    rw [e]
    rcases mxF_mem U (max m x) with h | h
    · rw [h]
      by_cases q : x ≤ m
      · exact .inl (by omega)
      · exact .inr (by rw [show max m x = x by omega]; exact List.mem_cons_self)
    · exact .inr (List.mem_cons_of_mem _ h)
theorem PM_append : ∀ (U : List Int) (m x : Int), PM m (U ++ [x]) = PM m U ++ [(max (mxF m U) x, x)]
  | [], m, x => rfl
  | u :: U, m, x => by
    show (max m u, u) :: PM (max m u) (U ++ [x]) = (max m u, u) :: (PM (max m u) U ++ _)
    rw [PM_append U (max m u) x]; rfl
theorem PM_append2 : ∀ (U V : List Int) (m : Int), PM m (U ++ V) = PM m U ++ PM (mxF m U) V
  | [], V, m => rfl
  | u :: U, V, m => by
    show (max m u, u) :: PM (max m u) (U ++ V) = (max m u, u) :: (PM (max m u) U ++ _)
    rw [PM_append2 U V (max m u)]; rfl
/-- backwards -/
def SP : List Int → List Pr
  | [] => []
  | u :: us => (mxF u us, u) :: SP us
theorem mxF_max : ∀ (U : List Int) (m x : Int), mxF (max m x) U = max (mxF m U) x
  | [], m, x => rfl
  | u :: U, m, x => by
    show mxF (max (max m x) u) U = max (mxF (max m u) U) x
    rw [← mxF_max U (max m u) x]; congr 1; omega
theorem SP_append : ∀ (U : List Int) (x : Int), SP (U ++ [x]) = (SP U).map (fun q => (max q.1 x, q.2)) ++ [(x, x)]
  | [], x => rfl
  | u :: U, x => by
    show (mxF u (U ++ [x]), u) :: SP (U ++ [x]) = _
    rw [SP_append U x, mxF_append]; rfl
theorem lastI_append (U : List Int) (x : Int) : lastI (U ++ [x]) = x := by unfold lastI; simp
theorem SP_last : ∀ (U : List Int), U ≠ [] → (lastI U, lastI U) ∈ SP U ∧ ∀ q ∈ SP U, lastI U ≤ q.1
  | [], h => absurd rfl h
  | [u], _ => by simp [SP, lastI, mxF]
  | u :: w :: U, _ => by
    obtain ⟨h1, h2⟩ := SP_last (w :: U) (by simp)
    have e : lastI (u :: w :: U) = lastI (w :: U) := by unfold lastI; simp [List.getLastD]
    rw [e]
    refine ⟨List.mem_cons_of_mem _ h1, fun q hq => ?_⟩
    rcases List.mem_cons.mp hq with rfl | hq
    · have : lastI (w :: U) ∈ w :: U := by
        unfold lastI; simp only [List.getLastD]; exact List.getLast_mem _
      exact (mxF_ge (w :: U) u).2 _ this
    · exact h2 q hq
theorem PM_last (U : List Int) (m : Int) (h : U ≠ []) : (mxF m U, lastI U) ∈ PM m U := by
  obtain ⟨V, x, rfl⟩ : ∃ V x, U = V ++ [x] := ⟨U.dropLast, U.getLast h, (List.dropLast_concat_getLast h).symm⟩
  rw [PM_append, mxF_append, lastI_append]; simp
structure Chain (A : Sys) (U : List Int) : Prop where
  lat : Nonempty (Lat A)
  ne : U ≠ []
  last : A.u A.top = lastI U
  peak : IsPeak A (mxF 0 U)
  gen : Gen A (PM 0 U)
  gop : Gen (op A) (mv (SP U) (-lastI U))
theorem seq_gen_all {A B : Sys} {P Q : List Pr} {k : Int} (hB : B.u B.bot = 0) (g : Gen A P) (hk : IsPeak A k) (g' : Gen B Q) : Gen (seqS A B) (P ++ Q.map fun q => (max k (q.1 + A.u A.top), q.2 + A.u A.top)) where
  sound := fun p hp => by
    rcases List.mem_append.mp hp with hp | hp
    · obtain ⟨z, hz, hu⟩ := g.sound p hp
      exact ⟨inlS z, seq_left hB hz, show A.u z + B.u B.bot ≤ _ by omega⟩
    · obtain ⟨q, hq, rfl⟩ := List.mem_map.mp hp
      obtain ⟨z, hz, hu⟩ := g'.sound _ hq
      refine ⟨inrS z, ((seq_left hB hk.runs).mono (Int.le_max_left _ _)).trans (by rw [inl_inr]; exact (seq_right hz).mono (by omega)), ?_⟩
      show A.u A.top + B.u z ≤ q.2 + A.u A.top
      omega
  full := fun R z hz => by
    have hr := hz.last
    have hr' : A.u z.1.1 + B.u z.1.2 ≤ R := hr
    rcases seq_inv hB hz with ⟨e, r⟩ | ⟨e, r, r2⟩
    · obtain ⟨p, hp, h1, h2⟩ := g.full _ _ r
      have hu : (seqS A B).u z = A.u z.1.1 := by show A.u z.1.1 + B.u z.1.2 = _; rw [e, hB]; omega
      exact ⟨p, List.mem_append_left _ hp, h1, by rw [hu]; exact h2⟩
    · obtain ⟨p, hp, h1, h2⟩ := g'.full _ _ r2
      have hk' := hk.least _ r
      refine ⟨_, List.mem_append_right _ (List.mem_map.mpr ⟨p, hp, rfl⟩), by dsimp only; omega, ?_⟩
      show p.2 + A.u A.top ≤ A.u z.1.1 + B.u z.1.2
      rw [e]; omega
theorem chain_zero {A : Sys} {U : List Int} (h : Chain A U) : Chain A (U ++ [lastI U]) := by
  have e1 : mxF 0 (U ++ [lastI U]) = mxF 0 U := by
    rw [mxF_append]
    have : lastI U ∈ U := by
      obtain ⟨V, x, rfl⟩ : ∃ V x, U = V ++ [x] := ⟨U.dropLast, U.getLast h.ne, (List.dropLast_concat_getLast h.ne).symm⟩
      rw [lastI_append]; simp
    have := (mxF_ge U 0).2 _ this
    omega
  refine ⟨h.lat, by simp, by rw [lastI_append]; exact h.last, by rw [e1]; exact h.peak, ?_, ?_⟩
  · refine h.gen.of_covers ?_ ?_
    · rw [PM_append]
      refine (Covers.refl _).append fun q hq => ⟨_, PM_last U 0 h.ne, ?_⟩
      have : q = (max (mxF 0 U) (lastI U), lastI U) := by simpa using hq
      subst this; dsimp only; omega
    · rw [PM_append]; exact .of_sub fun q hq => List.mem_append_left _ hq
  · rw [lastI_append]
    refine h.gop.of_covers (mv_covers ?_) (mv_covers ?_)
    · rw [SP_append]
      intro q hq
      rcases List.mem_append.mp hq with hq | hq
      · obtain ⟨r, hr, rfl⟩ := List.mem_map.mp hq
        exact ⟨r, hr, by dsimp only; omega, Int.le_refl _⟩
      · have : q = (lastI U, lastI U) := by simpa using hq
        subst this
        exact ⟨_, (SP_last U h.ne).1, Int.le_refl _, Int.le_refl _⟩
    · rw [SP_append]
      intro q hq
      have := (SP_last U h.ne).2 q hq
      exact ⟨_, List.mem_append_left _ (List.mem_map.mpr ⟨q, hq, rfl⟩), by dsimp only; omega, Int.le_refl _⟩
theorem chain_step {A : Sys} {U : List Int} (h : Chain A U) (d : Int) : Chain (seqS A (stepS d)) (U ++ [lastI U + d]) := by
  obtain ⟨L⟩ := h.lat
  have hn : lastI U ≤ mxF 0 U := by
    have := PM_last U 0 h.ne
    obtain ⟨z, hz, hu⟩ := h.gen.sound _ this
    have := h.peak.runs.last
    rw [h.last] at this; exact this
  refine ⟨⟨L.seq (Lat.step d)⟩, by simp, ?_, ?_, ?_, ?_⟩
  · rw [lastI_append]
    show A.u A.top + d = _
    rw [h.last]
  · rw [mxF_append]
    have := seq_peak (B := stepS d) rfl h.peak (step_peak d)
    rw [h.last] at this
    rw [show max (mxF 0 U) (lastI U + d) = max (mxF 0 U) (lastI U + max 0 d) by omega]; exact this
  · have g := seq_gen_all (B := stepS d) rfl h.gen h.peak (step_gen d)
    rw [h.last] at g
    refine g.of_covers ?_ ?_
    · rw [PM_append]
      refine Covers.append (.of_sub fun q hq => List.mem_append_left _ hq) fun q hq => ?_
      have : q = (max (mxF 0 U) (lastI U + d), lastI U + d) := by simpa using hq
      subst this
      exact ⟨_, List.mem_append_right _ (List.mem_map.mpr ⟨(max 0 d, d), by simp, rfl⟩), by dsimp only; omega, by dsimp only; omega⟩
    · rw [PM_append]
      refine Covers.append (.of_sub fun q hq => List.mem_append_left _ hq) fun q hq => ?_
      obtain ⟨r, hr, rfl⟩ := List.mem_map.mp hq
      rcases List.mem_cons.mp hr with rfl | hr
      · exact ⟨_, List.mem_append_left _ (PM_last U 0 h.ne), by dsimp only; omega, by dsimp only; omega⟩
      · have : r = (max 0 d, d) := by simpa using hr
        subst this
        exact ⟨_, List.mem_append_right _ (List.mem_singleton.mpr rfl), by dsimp only; omega, by dsimp only; omega⟩
  · rw [lastI_append]
    have hg : Gen (op (stepS d)) [(0, 0), (max 0 (-d), -d)] := (step_op d).symm.gen (step_gen (-d))
    have hk : IsPeak (op (stepS d)) (max 0 (-d)) := (step_op d).symm.peak (step_peak (-d))
    have g := seq_gen_all (B := op A) L.op.zero hg hk h.gop
    have en : (op (stepS d)).u (op (stepS d)).top = -d := by
      show (if false = true then d else 0) - (if true = true then d else 0) = -d
      simp
    rw [en] at g
    refine (seq_op A (stepS d)).symm.gen (g.of_covers ?_ ?_)
    · intro q hq
      have hq' := mem_mv.mp hq
      rw [SP_append] at hq'
      rcases List.mem_append.mp hq' with hq' | hq'
      · obtain ⟨r, hr, e⟩ := List.mem_map.mp hq'
        have e1 := congrArg Prod.fst e
        have e2 := congrArg Prod.snd e
        have hl := (SP_last U h.ne).2 r hr
        dsimp only at e1 e2
        exact ⟨_, List.mem_append_right _ (List.mem_map.mpr ⟨(r.1 + -lastI U, r.2 + -lastI U), List.mem_map.mpr ⟨r, hr, rfl⟩, rfl⟩), by dsimp only; omega, by dsimp only; omega⟩
      · have e := List.mem_singleton.mp hq'
        have e1 := congrArg Prod.fst e
        have e2 := congrArg Prod.snd e
        dsimp only at e1 e2
        exact ⟨(0, 0), List.mem_append_left _ (by simp), by dsimp only; omega, by dsimp only; omega⟩
    · intro q hq
      have inSP : ∀ r ∈ SP U, (max r.1 (lastI U + d) + -(lastI U + d), r.2 + -(lastI U + d)) ∈ mv (SP (U ++ [lastI U + d])) (-(lastI U + d)) := fun r hr => by
        rw [SP_append]
        exact List.mem_map.mpr ⟨(max r.1 (lastI U + d), r.2), List.mem_append_left _ (List.mem_map.mpr ⟨r, hr, rfl⟩), rfl⟩
      rcases List.mem_append.mp hq with hq | hq
      · rcases List.mem_cons.mp hq with rfl | hq
        · refine ⟨(0, 0), ?_, Int.le_refl _, Int.le_refl _⟩
          rw [SP_append]
          exact List.mem_map.mpr ⟨(lastI U + d, lastI U + d), List.mem_append_right _ (by simp), by simp only [Prod.mk.injEq]; omega⟩
        · have : q = (max 0 (-d), -d) := by simpa using hq
          subst this
          exact ⟨_, inSP _ (SP_last U h.ne).1, by dsimp only; omega, by dsimp only; omega⟩
      · obtain ⟨r, hr, rfl⟩ := List.mem_map.mp hq
        obtain ⟨t, ht, rfl⟩ := List.mem_map.mp hr
        have := (SP_last U h.ne).2 t ht
        exact ⟨_, inSP t ht, by dsimp only; omega, by dsimp only; omega⟩
theorem chain_unit : Chain unitS [0] := by
  refine ⟨⟨Lat.unit⟩, by simp, rfl, ⟨.refl (Int.le_refl 0), fun R h => h.first⟩, unit_gen, ?_⟩
  exact unit_op.symm.gen unit_gen
/-- the differences that are not 0 -/
def diffsNZ : Int → List Int → List Int
  | _, [] => []
  | a, b :: r => if b ≠ a then (b - a) :: diffsNZ b r else diffsNZ b r
theorem chain_all : ∀ (r : List Int) (A : Sys) (U : List Int), Chain A U → Chain (((diffsNZ (lastI U) r).map stepS).foldl seqS A) (U ++ r)
  | [], A, U, h => by rw [List.append_nil]; exact h
  | b :: r, A, U, h => by
    have e : U ++ b :: r = (U ++ [b]) ++ r := by simp
    rw [e]
    by_cases q : b ≠ lastI U
    · have h2 := chain_step h (b - lastI U)
      rw [show lastI U + (b - lastI U) = b by omega] at h2
      have h3 := chain_all r _ _ h2
      rw [lastI_append] at h3
      have : diffsNZ (lastI U) (b :: r) = (b - lastI U) :: diffsNZ b r := if_pos q
      rw [this]; exact h3
    · have q' : b = lastI U := Classical.not_not.mp q
      have h2 := chain_zero h
      rw [← q'] at h2
      have h3 := chain_all r _ _ h2
      rw [lastI_append] at h3
      have : diffsNZ (lastI U) (b :: r) = diffsNZ b r := if_neg q
      rw [this]; exact h3
theorem chain_of (r : List Int) : Chain (seqL ((diffsNZ 0 r).map stepS)) (0 :: r) := chain_all r unitS [0] chain_unit
/-! the usages of a profile -/
def flatP (D : List Pr) : List Int := D.flatMap fun q => [q.1, q.2]
def backP : List Pr → List Int
  | a :: b :: r => backP (b :: r) ++ [b.1, a.2]
  | _ => []
def midP (p : Pf) : List Int := if p.k > max (lt p.s).1 (lt p.e).1 then [p.k, (lt p.s).2] else []
/-- behind the first 0 -/
def turn (p : Pf) : List Int := (hd p.s).2 :: (flatP (p.s.drop 1) ++ (midP p ++ (backP p.e ++ [p.n])))
def nf (p : Pf) : List Int := diffsNZ 0 (turn p)
theorem back_rev : ∀ (D : List Pr), D ≠ [] → (lt D).2 :: backP D = (((hd D).2) :: flatP (D.drop 1)).reverse
  | [], h => absurd rfl h
  | [a], _ => rfl
  | a :: b :: r, _ => by
    have ih := back_rev (b :: r) (by simp)
    have e1 : lt (a :: b :: r) = lt (b :: r) := by unfold lt; simp [List.getLastD]
    rw [e1]
    show (lt (b :: r)).2 :: (backP (b :: r) ++ [b.1, a.2]) = (a.2 :: flatP (b :: r)).reverse
    rw [← List.cons_append, ih]
    show (b.2 :: flatP r).reverse ++ [b.1, a.2] = (a.2 :: b.1 :: b.2 :: flatP r).reverse
    simp
theorem PM_mem : ∀ (U : List Int) (m : Int) (p : Pr), p ∈ PM m U → m ≤ p.1 ∧ p.2 ∈ U
  | [], _, _, h => by cases h
  | u :: U, m, p, h => by
    rcases List.mem_cons.mp h with rfl | h
    · exact ⟨Int.le_max_left _ _, List.mem_cons_self⟩
    · obtain ⟨h1, h2⟩ := PM_mem U _ p h
      exact ⟨by omega, List.mem_cons_of_mem _ h2⟩
/-- the first part of a chain along valleys -/
theorem front : ∀ (xs : List Pr) (x : Pr) (rest : List Int), Strict (x :: xs) → (∀ q ∈ x :: xs, q.2 ≤ q.1) →
    (∀ q ∈ xs, q ∈ PM x.1 (flatP xs ++ rest)) ∧ (∀ p ∈ PM x.1 (flatP xs ++ rest), (∃ q ∈ xs, q.1 ≤ p.1 ∧ q.2 ≤ p.2) ∨ p ∈ PM (lt (x :: xs)).1 rest)
  | [], x, rest, _, _ => ⟨(fun q h => by cases h), fun p h => .inr h⟩
  | q :: xs, x, rest, hs, hu => by
    have h1 := (List.pairwise_cons.mp hs).1 q List.mem_cons_self
    have h2 := (List.pairwise_cons.mp hs).2
    have h3 := hu q (List.mem_cons_of_mem _ List.mem_cons_self)
    obtain ⟨i1, i2⟩ := front xs q rest h2 fun r hr => hu r (List.mem_cons_of_mem _ hr)
    have e : PM x.1 (flatP (q :: xs) ++ rest) = (q.1, q.1) :: q :: PM q.1 (flatP xs ++ rest) := by
      show (max x.1 q.1, q.1) :: (max (max x.1 q.1) q.2, q.2) :: PM (max (max x.1 q.1) q.2) (flatP xs ++ rest) = _
      rw [show max x.1 q.1 = q.1 by omega, show max q.1 q.2 = q.1 by omega]
    have el : lt (x :: q :: xs) = lt (q :: xs) := by unfold lt; simp [List.getLastD]
    rw [e, el]
    refine ⟨fun r hr => ?_, fun p hp => ?_⟩
    · rcases List.mem_cons.mp hr with rfl | hr
      · exact List.mem_cons_of_mem _ List.mem_cons_self
      · exact List.mem_cons_of_mem _ (List.mem_cons_of_mem _ (i1 r hr))
    · rcases List.mem_cons.mp hp with rfl | hp
      · exact .inl ⟨q, List.mem_cons_self, Int.le_refl _, h3⟩
      · rcases List.mem_cons.mp hp with rfl | hp
        · exact .inl ⟨p, List.mem_cons_self, Int.le_refl _, Int.le_refl _⟩
        · rcases i2 p hp with ⟨r, hr, a⟩ | h
          · exact .inl ⟨r, List.mem_cons_of_mem _ hr, a⟩
          · exact .inr h
theorem front_cov {D : List Pr} {b : Int} {rest : List Int} (v : Valleys D) (h1 : (hd D).1 = b) (h2 : (hd D).2 ≤ b) (hr : ∀ u ∈ rest, (lt D).2 ≤ u) :
    Covers D (PM b (b :: (hd D).2 :: (flatP (D.drop 1) ++ rest))) ∧ Covers (PM b (b :: (hd D).2 :: (flatP (D.drop 1) ++ rest))) D := by
  cases D with
  | nil => exact absurd rfl v.1
  | cons x xs =>
    have hx : (hd (x :: xs)) = x := rfl
    rw [hx] at h1 h2 ⊢
    have hu : ∀ q ∈ x :: xs, q.2 ≤ q.1 := fun q hq => by have := v.first_le q hq; rw [hx] at this; omega
    obtain ⟨f1, f2⟩ := front xs x rest v.2 hu
    have e : PM b (b :: x.2 :: (flatP xs ++ rest)) = (b, b) :: x :: PM x.1 (flatP xs ++ rest) := by
      show (max b b, b) :: (max (max b b) x.2, x.2) :: PM (max (max b b) x.2) (flatP xs ++ rest) = _
      rw [show max b b = b by omega, show max b x.2 = b by omega, h1]
      rw [show ((b, x.2) : Pr) = x by rw [← h1]]
    show Covers (x :: xs) (PM b (b :: x.2 :: (flatP xs ++ rest))) ∧ Covers (PM b (b :: x.2 :: (flatP xs ++ rest))) (x :: xs)
    rw [e]
    constructor
    · intro p hp
      rcases List.mem_cons.mp hp with rfl | hp
      · exact ⟨x, List.mem_cons_self, by dsimp only; omega, by dsimp only; omega⟩
      · rcases List.mem_cons.mp hp with rfl | hp
        · exact ⟨p, List.mem_cons_self, Int.le_refl _, Int.le_refl _⟩
        · rcases f2 p hp with ⟨q, hq, a⟩ | h
          · exact ⟨q, List.mem_cons_of_mem _ hq, a⟩
          · obtain ⟨a1, a2⟩ := PM_mem _ _ _ h
            exact ⟨lt (x :: xs), lt_mem v.1, a1, hr _ a2⟩
    · refine .of_sub fun q hq => ?_
      rcases List.mem_cons.mp hq with rfl | hq
      · exact List.mem_cons_of_mem _ List.mem_cons_self
      · exact List.mem_cons_of_mem _ (List.mem_cons_of_mem _ (f1 q hq))
theorem mem_flatP {D : List Pr} {u : Int} : u ∈ flatP D ↔ ∃ q ∈ D, u = q.1 ∨ u = q.2 := by
  unfold flatP; rw [List.mem_flatMap]
  constructor
  · rintro ⟨q, hq, h⟩; exact ⟨q, hq, by simpa using h⟩
  · rintro ⟨q, hq, h⟩; exact ⟨q, hq, by simpa using h⟩
theorem mem_backP : ∀ {D : List Pr} {u : Int}, u ∈ backP D → ∃ q ∈ D, u = q.1 ∨ u = q.2
  | [], u, h => by cases h
  | [a], u, h => by cases h
  | a :: b :: r, u, h => by
    have h' : u ∈ backP (b :: r) ++ [b.1, a.2] := h
    rcases List.mem_append.mp h' with h | h
    · obtain ⟨q, hq, e⟩ := mem_backP h
      exact ⟨q, List.mem_cons_of_mem _ hq, e⟩
    · rcases List.mem_cons.mp h with rfl | h
      · exact ⟨b, List.mem_cons_of_mem _ List.mem_cons_self, .inl rfl⟩
      · have : u = a.2 := by simpa using h
        exact ⟨a, List.mem_cons_self, .inr this⟩
theorem lt_in_back : ∀ (D : List Pr), 2 ≤ D.length → (lt D).1 ∈ backP D
  | [], h => by simp at h
  | [a], h => by simp at h
  | [a, b], _ => by simp [backP, lt]
  | a :: b :: c :: r, _ => by
    have := lt_in_back (b :: c :: r) (by simp)
    have e : lt (a :: b :: c :: r) = lt (b :: c :: r) := by unfold lt; simp [List.getLastD]
    rw [e]
    exact List.mem_append_left _ this
/-- what a value must be to be a profile -/
structure Good (p : Pf) : Prop where
  vs : Valleys p.s
  ve : Valleys p.e
  s1 : (hd p.s).1 = 0
  s2 : (hd p.s).2 ≤ 0
  e1 : (hd p.e).1 = p.n
  e2 : (hd p.e).2 ≤ p.n
  low : (lt p.s).2 = (lt p.e).2
  k0 : 0 ≤ p.k
  kn : p.n ≤ p.k
  ks : (lt p.s).1 ≤ p.k
  ke : (lt p.e).1 ≤ p.k
theorem IsPf.good {A : Sys} (L : Lat A) {p : Pf} (h : IsPf A p) : Good p := by
  obtain ⟨a, b, c, d, e, f, g, i, j⟩ := h.facts L
  exact ⟨h.vs, h.ve, a, b, c, d, e, f, g, i, j⟩
theorem SP_PM : ∀ (U : List Int) (m : Int), (∀ u ∈ U, u ≤ m) → True := fun _ _ _ => trivial
/-- the backwards pairs of a list are the forwards pairs of its reversal -/
theorem SP_rev : ∀ (U : List Int) (x : Int), (∀ q, q ∈ SP (U ++ [x]) ↔ q ∈ PM x (x :: U.reverse))
  | U, x, q => by
    have key : ∀ (U : List Int) (x : Int), SP (U ++ [x]) = (PM x (x :: U.reverse)).reverse := by
      intro U
      induction U with
      | nil => intro x; simp [SP, PM, mxF]
      | cons u U ih =>
        intro x
        show (mxF u (U ++ [x]), u) :: SP (U ++ [x]) = _
        rw [ih x]
        have e : x :: (u :: U).reverse = (x :: U.reverse) ++ [u] := by simp
        rw [e, PM_append, List.reverse_append]
        have e2 : mxF u (U ++ [x]) = max (mxF x (x :: U.reverse)) u := by
          -- both are the greatest
          have a1 := mxF_ge (U ++ [x]) u
          have a2 := mxF_mem (U ++ [x]) u
          have b1 := mxF_ge (x :: U.reverse) x
          have b2 := mxF_mem (x :: U.reverse) x
          have c1 : ∀ w, w ∈ U ++ [x] → w ≤ mxF x (x :: U.reverse) := fun w hw => by
            rcases List.mem_append.mp hw with h | h
            · exact b1.2 w (List.mem_cons_of_mem _ (List.mem_reverse.mpr h))
            · have : w = x := by simpa using h
              subst this; exact b1.1
          have c2 : ∀ w, w ∈ x :: U.reverse → w ≤ mxF u (U ++ [x]) := fun w hw => by
            rcases List.mem_cons.mp hw with h | h
            · subst h; exact a1.2 w (by simp)
            · exact a1.2 w (List.mem_append_left _ (List.mem_reverse.mp h))
          have d1 : mxF x (x :: U.reverse) ≤ mxF u (U ++ [x]) := by
            rcases b2 with h | h
            · rw [h]; exact c2 x List.mem_cons_self
            · exact c2 _ h
          rcases a2 with h | h
          · omega
          · have := c1 _ h
            omega
        rw [e2]; rfl
    rw [key U x, List.mem_reverse]
theorem covers_of_mem {P Q R : List Pr} (h : ∀ q, q ∈ P ↔ q ∈ Q) : (Covers R Q → Covers R P) ∧ (Covers Q R → Covers P R) :=
  ⟨fun c q hq => c q ((h q).mp hq), fun c q hq => let ⟨p, hp, a⟩ := c q hq; ⟨p, (h p).mpr hp, a⟩⟩
theorem turn_low {p : Pf} (g : Good p) : ∀ u ∈ turn p, (lt p.s).2 ≤ u ∧ u ≤ p.k := by
  have a1 : ∀ q ∈ p.s, (lt p.s).2 ≤ q.2 ∧ q.2 ≤ q.1 ∧ q.1 ≤ p.k := fun q hq => by
    have := g.vs.last_le q hq; have := g.vs.first_le q hq
    have := g.s1; have := g.s2; have := g.ks; omega
  have a2 : ∀ q ∈ p.e, (lt p.s).2 ≤ q.2 ∧ q.2 ≤ q.1 ∧ q.1 ≤ p.k := fun q hq => by
    have := g.ve.last_le q hq; have := g.ve.first_le q hq
    have := g.e1; have := g.e2; have := g.ke; have := g.low; omega
  intro u hu
  unfold turn at hu
  rcases List.mem_cons.mp hu with rfl | hu
  · have := a1 _ (hd_mem g.vs.1)
    have := g.s1; have := g.s2; have := g.k0; omega
  · rcases List.mem_append.mp hu with hu | hu
    · obtain ⟨q, hq, e⟩ := mem_flatP.mp hu
      have := a1 q (List.mem_of_mem_drop hq)
      rcases e with e | e <;> omega
    · rcases List.mem_append.mp hu with hu | hu
      · unfold midP at hu
        split at hu
        · have := a1 _ (lt_mem g.vs.1)
          rcases List.mem_cons.mp hu with rfl | hu
          · omega
          · have : u = (lt p.s).2 := by simpa using hu
            omega
        · cases hu
      · rcases List.mem_append.mp hu with hu | hu
        · obtain ⟨q, hq, e⟩ := mem_backP hu
          have := a2 q hq
          rcases e with e | e <;> omega
        · have : u = p.n := by simpa using hu
          subst this
          have := a2 _ (hd_mem g.ve.1)
          have := g.e1; have := g.kn; omega
/-- THE NORMAL FORM has the profile -/
theorem nf_ok {p : Pf} (g : Good p) : IsPf (seqL ((nf p).map stepS)) p := by
  have c := chain_of (turn p)
  have hl := turn_low g
  have elast : lastI (0 :: turn p) = p.n := by
    unfold turn
    rw [show (0 : Int) :: (hd p.s).2 :: (flatP (p.s.drop 1) ++ (midP p ++ (backP p.e ++ [p.n]))) = (0 :: (hd p.s).2 :: (flatP (p.s.drop 1) ++ (midP p ++ backP p.e))) ++ [p.n] by simp]
    exact lastI_append _ _
  have emax : mxF 0 (0 :: turn p) = p.k := by
    have h1 := mxF_ge (0 :: turn p) 0
    have h2 := mxF_mem (0 :: turn p) 0
    have up : mxF 0 (0 :: turn p) ≤ p.k := by
      rcases h2 with h | h
      · rw [h]; exact g.k0
      · rcases List.mem_cons.mp h with h | h
        · rw [h]; exact g.k0
        · exact (hl _ h).2
    have inT : p.k ∈ (0 : Int) :: turn p := by
      by_cases q : p.k > max (lt p.s).1 (lt p.e).1
      · have : midP p = [p.k, (lt p.s).2] := if_pos q
        refine List.mem_cons_of_mem _ (List.mem_cons_of_mem _ (List.mem_append_right _ (List.mem_append_left _ ?_)))
        rw [this]; exact List.mem_cons_self
      · have := g.ks; have := g.ke
        by_cases q2 : p.k = (lt p.s).1
        · rw [q2]
          by_cases q3 : 2 ≤ p.s.length
          · refine List.mem_cons_of_mem _ (List.mem_cons_of_mem _ (List.mem_append_left _ (mem_flatP.mpr ⟨lt p.s, ?_, .inl rfl⟩)))
            cases hs : p.s with
            | nil => rw [hs] at q3; simp at q3
            | cons a r =>
              cases r with
              | nil => rw [hs] at q3; simp at q3
              | cons b r =>
                have : lt (a :: b :: r) = lt (b :: r) := by unfold lt; simp [List.getLastD]
                rw [this]; exact lt_mem (by simp)
          · have : (lt p.s).1 = 0 := by
              cases hs : p.s with
              | nil => exact absurd hs g.vs.1
              | cons a r =>
                cases r with
                | nil => have := g.s1; rw [hs] at this; exact this
                | cons b r => rw [hs] at q3; simp at q3
            rw [this]; exact List.mem_cons_self
        · have q4 : p.k = (lt p.e).1 := by omega
          rw [q4]
          by_cases q3 : 2 ≤ p.e.length
          · exact List.mem_cons_of_mem _ (List.mem_cons_of_mem _ (List.mem_append_right _ (List.mem_append_right _ (List.mem_append_left _ (lt_in_back p.e q3)))))
          · have : (lt p.e).1 = p.n := by
              cases hs : p.e with
              | nil => exact absurd hs g.ve.1
              | cons a r =>
                cases r with
                | nil => have := g.e1; rw [hs] at this; exact this
                | cons b r => rw [hs] at q3; simp at q3
            rw [this]
            exact List.mem_cons_of_mem _ (List.mem_cons_of_mem _ (List.mem_append_right _ (List.mem_append_right _ (List.mem_append_right _ (by simp)))))
    have := h1.2 _ inT
    omega
  obtain ⟨L⟩ := c.lat
  refine ⟨(c.last.trans elast).symm, by rw [← emax]; exact c.peak, g.vs, ?_, g.ve, ?_⟩
  · have f := front_cov (D := p.s) (b := 0) (rest := midP p ++ (backP p.e ++ [p.n])) g.vs g.s1 g.s2 fun u hu => (hl u (List.mem_cons_of_mem _ (List.mem_append_right _ hu))).1
    exact c.gen.of_covers f.2 f.1
  · have hg := c.gop
    rw [elast] at hg
    refine hg.of_covers (mv_covers ?_) (mv_covers ?_)
    all_goals
      have e0 : (0 : Int) :: turn p = (0 :: (hd p.s).2 :: (flatP (p.s.drop 1) ++ (midP p ++ backP p.e))) ++ [p.n] := by unfold turn; simp
      -- the part ahead of the way back ends at the lowest
      have ef : ∃ F, (0 : Int) :: (hd p.s).2 :: (flatP (p.s.drop 1) ++ midP p) = F ++ [(lt p.s).2] := by
        unfold midP
        split
        · exact ⟨0 :: (hd p.s).2 :: (flatP (p.s.drop 1) ++ [p.k]), by simp⟩
        · cases hs : p.s with
          | nil => exact absurd hs g.vs.1
          | cons a r =>
            rcases List.eq_nil_or_concat r with e | ⟨r', z, e⟩
            · subst e; exact ⟨[0], by simp [flatP, lt, hd]⟩
            · subst e
              refine ⟨0 :: a.2 :: (flatP r' ++ [z.1]), ?_⟩
              have : lt (a :: (r' ++ [z])) = z := by
                have h := lt_eq (D := a :: (r' ++ [z])) (by simp)
                rw [← List.cons_append, List.getLast?_concat] at h
                exact (Option.some.inj h).symm
              simp [flatP, hd, this]
      obtain ⟨F, ef⟩ := ef
      have e1 : (0 : Int) :: (hd p.s).2 :: (flatP (p.s.drop 1) ++ (midP p ++ backP p.e)) = F ++ ((lt p.e).2 :: backP p.e) := by
        rw [← g.low]
        have : (0 : Int) :: (hd p.s).2 :: (flatP (p.s.drop 1) ++ (midP p ++ backP p.e)) = (0 :: (hd p.s).2 :: (flatP (p.s.drop 1) ++ midP p)) ++ backP p.e := by simp
        rw [this, ef]; simp
      have e2 : (F ++ ((lt p.e).2 :: backP p.e)).reverse = (hd p.e).2 :: (flatP (p.e.drop 1) ++ F.reverse) := by
        rw [back_rev p.e g.ve.1, List.reverse_append, List.reverse_reverse]; rfl
      have hm := SP_rev (F ++ ((lt p.e).2 :: backP p.e)) p.n
      rw [e2] at hm
      rw [e0, e1]
      have f := front_cov (D := p.e) (b := p.n) (rest := F.reverse) g.ve g.e1 g.e2 fun u hu => by
        have hu' : u ∈ F := List.mem_reverse.mp hu
        have : u ∈ (0 : Int) :: turn p := by
          rw [e0, e1]; exact List.mem_append_left _ (List.mem_append_left _ hu')
        rw [← g.low]
        rcases List.mem_cons.mp this with h | h
        · subst h
          have := g.vs.first_le _ (lt_mem g.vs.1)
          have := g.s2; omega
        · exact (hl u h).1
    · exact (covers_of_mem hm).2 f.2
    · exact (covers_of_mem hm).1 f.1
end K30m
/-! The layer of this proof: expressions that evaluate to data, slots that hold data. -/
namespace K30
open PySem PySem.Spec PyProof.Rows L2 Evl
abbrev D := PyData
/-! ### data stays -/
/-- tuples stay -/
def TX (H H' : Hp) : Prop := ∀ a xs, (H a = some (.tup xs) → H' a = some (.tup xs)) ∧ ∀ o, H a = some (.frz o (.tup xs)) → H' a = some (.frz o (.tup xs))
theorem TX.refl (H : Hp) : TX H H := fun _ _ => ⟨fun h => h, fun _ h => h⟩
theorem TX.trans {H H1 H2 : Hp} (a : TX H H1) (b : TX H1 H2) : TX H H2 := fun x xs => ⟨fun h => (b x xs).1 ((a x xs).1 h), fun o h => (b x xs).2 o ((a x xs).2 o h)⟩
theorem TX.ex {H H' : Hp} (e : Ex H H') : TX H H' := fun x xs => ⟨fun h => e _ _ h, fun o h => e _ _ h⟩
/-- not a tuple -/
def NT : HO → Prop
  | .tup _ => False
  | .frz _ (.tup _) => False
  | _ => True
theorem TX.upd {H : Hp} {p : Addr} {o o' : HO} (h : H p = some o) (hn : NT o) : TX H (upd H p o') := fun x xs =>
  ⟨fun e => by rw [upd_ne (fun z => by rw [z, h] at e; cases e; exact hn)]; exact e, fun q e => by rw [upd_ne (fun z => by rw [z, h] at e; cases e; exact hn)]; exact e⟩
theorem TX.new {H : Hp} {p : Addr} {o : HO} (h : H p = none) : TX H (L2.upd H p o) := TX.ex (Ex.new h)
theorem tx_t {K : PySem.W.Frag} {H H' : Hp} {a : Addr} {xs : List V} (e : TX H H') (h : SqT K H a xs) : SqT K H' a xs := by
  rcases h with (h | ⟨o, h⟩) | h
  · exact .inl (.inl ((e a xs).1 h))
  · exact .inl (.inr ⟨o, (e a xs).2 o h⟩)
  · exact .inr h
mutual
  def noL : D → Bool
    | .list _ => false
    | .tuple ds => noLs ds
    | _ => true
  def noLs : List D → Bool
    | [] => true
    | d :: ds => noL d && noLs ds
end
section
variable {K : PySem.W.Frag} {H H' : Hp}
mutual
  theorem dp_ex (e : Ex H H') : ∀ (d : D) (v : V), Dp K H v d → Dp K H' v d
    | .none, _, .non => .non
    | .bool b, _, .bl _ => .bl b
    | .int i, _, .int _ => .int i
    | .str x, _, .str _ => .str x
    | .list ds, _, .lst h hs => .lst (ex_l e h) (dps_ex e ds _ hs)
    | .tuple ds, _, .tup h hs => .tup (ex_t e h) (dps_ex e ds _ hs)
    | .dict _, _, h => by cases h
  theorem dps_ex (e : Ex H H') : ∀ (ds : List D) (vs : List V), DpAll K H vs ds → DpAll K H' vs ds
    | [], _, .nil => .nil
    | d :: ds, _, .cons h hs => .cons (dp_ex e d _ h) (dps_ex e ds _ hs)
end
mutual
  theorem dp_tx (e : TX H H') : ∀ (d : D) (v : V), noL d = true → Dp K H v d → Dp K H' v d
    | .none, _, _, .non => .non
    | .bool b, _, _, .bl _ => .bl b
    | .int i, _, _, .int _ => .int i
    | .str x, _, _, .str _ => .str x
    | .list ds, _, h, _ => by cases h
    | .tuple ds, _, hn, .tup h hs => .tup (tx_t e h) (dps_tx e ds _ hn hs)
    | .dict _, _, _, h => by cases h
  theorem dps_tx (e : TX H H') : ∀ (ds : List D) (vs : List V), noLs ds = true → DpAll K H vs ds → DpAll K H' vs ds
    | [], _, _, .nil => .nil
    | d :: ds, _, hn, .cons h hs => by
      have hn' : noL d = true ∧ noLs ds = true := by
        have : (noL d && noLs ds) = true := hn
        simpa using this
      exact .cons (dp_tx e d _ hn'.1 h) (dps_tx e ds _ hn'.2 hs)
end
theorem noLs_mem : ∀ {ds : List D}, noLs ds = true ↔ ∀ d ∈ ds, noL d = true
  | [] => by simp [noLs]
  | d :: ds => by
    show (noL d && noLs ds) = true ↔ _
    rw [Bool.and_eq_true, noLs_mem (ds := ds)]
    simp
theorem dps_length : ∀ {vs : List V} {ds : List D}, DpAll K H vs ds → vs.length = ds.length
  | _, _, .nil => rfl
  | _, _, .cons _ h => congrArg Nat.succ (dps_length h)
theorem dps_get : ∀ {vs : List V} {ds : List D} {i : Nat} {d : D}, DpAll K H vs ds → ds[i]? = some d → ∃ v, vs[i]? = some v ∧ Dp K H v d
  | _, _, _, _, .nil, h => by simp at h
  | _, d1 :: _, 0, d, .cons h _, e => by
    have e : d1 = d := by simpa using e
    subst e
    exact ⟨_, rfl, h⟩
  | _, _, i + 1, d, .cons _ h, e => by
    obtain ⟨v, h1, h2⟩ := dps_get (i := i) h (by simpa using e)
    exact ⟨v, by simpa using h1, h2⟩
theorem dps_get' : ∀ {vs : List V} {ds : List D} {i : Nat} {v : V}, DpAll K H vs ds → vs[i]? = some v → ∃ d, ds[i]? = some d ∧ Dp K H v d
  | _, _, _, _, .nil, h => by simp at h
  | v1 :: _, _, 0, v, .cons h _, e => by
    have e : v1 = v := by simpa using e
    subst e
    exact ⟨_, rfl, h⟩
  | _, _, i + 1, v, .cons _ h, e => by
    obtain ⟨d, h1, h2⟩ := dps_get' (i := i) h (by simpa using e)
    exact ⟨d, by simpa using h1, h2⟩
theorem dps_append : ∀ {vs ws : List V} {ds es : List D}, DpAll K H vs ds → DpAll K H ws es → DpAll K H (vs ++ ws) (ds ++ es)
  | _, _, _, _, .nil, h => h
  | _, _, _, _, .cons a b, h => .cons a (dps_append b h)
theorem dps_one {v : V} {d : D} (h : Dp K H v d) : DpAll K H [v] [d] := .cons h .nil
theorem dps_take : ∀ {vs : List V} {ds : List D} (n : Nat), DpAll K H vs ds → DpAll K H (vs.take n) (ds.take n)
  | _, _, 0, _ => .nil
  | _, _, _ + 1, .nil => .nil
  | _, _, n + 1, .cons a b => .cons a (dps_take n b)
theorem dps_drop : ∀ {vs : List V} {ds : List D} (n : Nat), DpAll K H vs ds → DpAll K H (vs.drop n) (ds.drop n)
  | _, _, 0, h => h
  | _, _, _ + 1, .nil => .nil
  | _, _, n + 1, .cons _ b => dps_drop n b
theorem dps_set : ∀ {vs : List V} {ds : List D} {v : V} {d : D} (n : Nat), DpAll K H vs ds → Dp K H v d → DpAll K H (vs.set n v) (ds.set n d)
  | _, _, _, _, _, .nil, _ => .nil
  | _, _, _, _, 0, .cons _ b, h => .cons h b
  | _, _, _, _, n + 1, .cons a b, h => .cons a (dps_set n b h)
theorem dps_reverse : ∀ {vs : List V} {ds : List D}, DpAll K H vs ds → DpAll K H vs.reverse ds.reverse
  | _, _, .nil => .nil
  | _, _, .cons a b => by
    rw [List.reverse_cons, List.reverse_cons]
    exact dps_append (dps_reverse b) (dps_one a)
theorem dps_rep {vs : List V} {ds : List D} (h : DpAll K H vs ds) : ∀ n, DpAll K H (List.replicate n vs).flatten (List.replicate n ds).flatten
  | 0 => .nil
  | n + 1 => by
    rw [List.replicate_succ, List.replicate_succ, List.flatten_cons, List.flatten_cons]
    exact dps_append h (dps_rep h n)
theorem dps_map_int : ∀ {ns : List Int} {vs : List V}, DpAll K H vs (ns.map PyData.int) → vs = ns.map V.int
  | [], _, .nil => rfl
  | n :: ns, _, .cons (.int _) h => by rw [List.map_cons, ← dps_map_int h]
theorem dps_of_int : ∀ (ns : List Int), DpAll K H (ns.map V.int) (ns.map PyData.int)
  | [] => .nil
  | n :: ns => .cons (.int n) (dps_of_int ns)
theorem dp_int {v : V} {i : Int} (h : Dp K H v (.int i)) : v = .int i := by cases h; rfl
theorem dp_str {v : V} {x : Str} (h : Dp K H v (.str x)) : v = .str x := by cases h; rfl
theorem dp_bl {v : V} {b : Bool} (h : Dp K H v (.bool b)) : v = .bl b := by cases h; rfl
theorem dp_non {v : V} (h : Dp K H v .none) : v = .non := by cases h; rfl
theorem dp_tup {v : V} {ds : List D} (h : Dp K H v (.tuple ds)) : ∃ a vs, v = .ref a ∧ SqT K H a vs ∧ DpAll K H vs ds := by
  cases h with
  | tup h1 h2 => exact ⟨_, _, rfl, h1, h2⟩
theorem dp_lst {v : V} {ds : List D} (h : Dp K H v (.list ds)) : ∃ a vs, v = .ref a ∧ SqL K H a vs ∧ DpAll K H vs ds := by
  cases h with
  | lst h1 h2 => exact ⟨_, _, rfl, h1, h2⟩
end
/-! ### slots -/
inductive Sl where
  | py (d : D)
  | at (a : Addr)
inductive SR (K : PySem.W.Frag) (H : Hp) : L2.St → List (Option Sl) → Prop
  | nil : SR K H [] []
  | no {o : Option V} {σ : L2.St} {Γ : List (Option Sl)} : SR K H σ Γ → SR K H (o :: σ) (none :: Γ)
  | py {v : V} {d : D} {σ : L2.St} {Γ : List (Option Sl)} : Dp K H v d → noL d = true → SR K H σ Γ → SR K H (some v :: σ) (some (.py d) :: Γ)
  | at {a : Addr} {σ : L2.St} {Γ : List (Option Sl)} : SR K H σ Γ → SR K H (some (.ref a) :: σ) (some (.at a) :: Γ)
section
variable {K : PySem.W.Frag} {H H' : Hp}
theorem SR.tx (e : TX H H') : ∀ {σ : L2.St} {Γ : List (Option Sl)}, SR K H σ Γ → SR K H' σ Γ
  | _, _, .nil => .nil
  | _, _, .no h => .no (h.tx e)
  | _, _, .py h n r => .py (dp_tx e _ _ n h) n (r.tx e)
  | _, _, .at h => .at (h.tx e)
theorem SR.ex (e : Ex H H') {σ : L2.St} {Γ : List (Option Sl)} (h : SR K H σ Γ) : SR K H' σ Γ := h.tx (.ex e)
theorem SR.length : ∀ {σ : L2.St} {Γ : List (Option Sl)}, SR K H σ Γ → σ.length = Γ.length
  | _, _, .nil => rfl
  | _, _, .no h => congrArg Nat.succ h.length
  | _, _, .py _ _ h => congrArg Nat.succ h.length
  | _, _, .at h => congrArg Nat.succ h.length
theorem SR.get : ∀ {σ : L2.St} {Γ : List (Option Sl)} {i : Nat} {d : D}, SR K H σ Γ → Γ[i]? = some (some (.py d)) → ∃ v, σ[i]? = some (some v) ∧ Dp K H v d ∧ noL d = true
  | _, _, _, _, .nil, e => by simp at e
  | _, _, 0, _, .no _, e => by simp at e
  | _, some (.py d1) :: _, 0, d, .py h n _, e => by
    have e : d1 = d := by simpa using e
    subst e
    exact ⟨_, rfl, h, n⟩
  | _, _, 0, _, .at _, e => by simp at e
  | _, _, i + 1, _, .no h, e => by
    obtain ⟨v, h1, h2⟩ := h.get (i := i) (by simpa using e)
    exact ⟨v, by simpa using h1, h2⟩
  | _, _, i + 1, _, .py _ _ h, e => by
    obtain ⟨v, h1, h2⟩ := h.get (i := i) (by simpa using e)
    exact ⟨v, by simpa using h1, h2⟩
  | _, _, i + 1, _, .at h, e => by
    obtain ⟨v, h1, h2⟩ := h.get (i := i) (by simpa using e)
    exact ⟨v, by simpa using h1, h2⟩
theorem SR.get_at : ∀ {σ : L2.St} {Γ : List (Option Sl)} {i : Nat} {a : Addr}, SR K H σ Γ → Γ[i]? = some (some (.at a)) → σ[i]? = some (some (.ref a))
  | _, _, _, _, .nil, e => by simp at e
  | _, _, 0, _, .no _, e => by simp at e
  | _, _, 0, _, .py _ _ _, e => by simp at e
  | _, some (.at a1) :: _, 0, a, .at _, e => by
    have e : a1 = a := by simpa using e
    subst e
    rfl
  | _, _, i + 1, _, .no h, e => by
    have := h.get_at (i := i) (by simpa using e)
    simpa using this
  | _, _, i + 1, _, .py _ _ h, e => by
    have := h.get_at (i := i) (by simpa using e)
    simpa using this
  | _, _, i + 1, _, .at h, e => by
    have := h.get_at (i := i) (by simpa using e)
    simpa using this
theorem SR.set_py {v : V} {d : D} (hd : Dp K H v d) (hn : noL d = true) : ∀ {σ : L2.St} {Γ : List (Option Sl)} (i : Nat), SR K H σ Γ → SR K H (σ.set i (some v)) (Γ.set i (some (.py d)))
  | _, _, _, .nil => .nil
  | _, _, 0, .no h => .py hd hn h
  | _, _, 0, .py _ _ h => .py hd hn h
  | _, _, 0, .at h => .py hd hn h
  | _, _, i + 1, .no h => .no (h.set_py hd hn i)
  | _, _, i + 1, .py a b h => .py a b (h.set_py hd hn i)
  | _, _, i + 1, .at h => .at (h.set_py hd hn i)
theorem SR.set_at {a : Addr} : ∀ {σ : L2.St} {Γ : List (Option Sl)} (i : Nat), SR K H σ Γ → SR K H (σ.set i (some (.ref a))) (Γ.set i (some (.at a)))
  | _, _, _, .nil => .nil
  | _, _, 0, .no h => .at h
  | _, _, 0, .py _ _ h => .at h
  | _, _, 0, .at h => .at h
  | _, _, i + 1, .no h => .no (h.set_at i)
  | _, _, i + 1, .py a b h => .py a b (h.set_at i)
  | _, _, i + 1, .at h => .at (h.set_at i)
theorem SR.set_no {o : Option V} : ∀ {σ : L2.St} {Γ : List (Option Sl)} (i : Nat), SR K H σ Γ → SR K H (σ.set i o) (Γ.set i none)
  | _, _, _, .nil => .nil
  | _, _, 0, .no h => .no h
  | _, _, 0, .py _ _ h => .no h
  | _, _, 0, .at h => .no h
  | _, _, i + 1, .no h => .no (h.set_no i)
  | _, _, i + 1, .py a b h => .py a b (h.set_no i)
  | _, _, i + 1, .at h => .at (h.set_no i)
/-- forget what a slot holds -/
theorem SR.drop : ∀ {σ : L2.St} {Γ : List (Option Sl)} (i : Nat), SR K H σ Γ → SR K H σ (Γ.set i none)
  | _, _, _, .nil => .nil
  | _, _, 0, .no h => .no h
  | _, _, 0, .py _ _ h => .no h
  | _, _, 0, .at h => .no h
  | _, _, i + 1, .no h => .no (h.drop i)
  | _, _, i + 1, .py a b h => .py a b (h.drop i)
  | _, _, i + 1, .at h => .at (h.drop i)
def wipeG (Γ : List (Option Sl)) : List Nat → List (Option Sl)
  | [] => Γ
  | v :: vs => (wipeG Γ vs).set v none
theorem SR.wipe {σ : L2.St} {Γ : List (Option Sl)} (h : SR K H σ Γ) : ∀ vs : List Nat, SR K H (L2.wipe σ vs) (wipeG Γ vs)
  | [] => h
  | v :: vs => (SR.wipe h vs).set_no v
end
theorem wipe_get {σ : L2.St} : ∀ {vs : List Nat} {i : Nat}, (L2.wipe σ vs)[i]? = if i ∈ vs then (if i < σ.length then some none else none) else σ[i]?
  | [], i => by simp [L2.wipe]
  | v :: vs, i => by
    show ((L2.wipe σ vs).set v none)[i]? = _
    by_cases e : v = i
    · subst e
      simp only [List.mem_cons, true_or, if_true]
      by_cases hl : v < σ.length
      · rw [List.getElem?_set_self (by rw [L2.wipe_length]; exact hl), if_pos hl]
      · rw [List.getElem?_eq_none (by rw [List.length_set, L2.wipe_length]; omega), if_neg hl]
    · rw [List.getElem?_set_ne e, wipe_get]
      have : (i ∈ v :: vs) ↔ i ∈ vs := by simp [Ne.symm e]
      simp only [this]
theorem wipe_eq {σ τ : L2.St} {vs : List Nat} (hl : τ.length = σ.length) (h : ∀ i, i ∉ vs → τ[i]? = σ[i]?) : L2.wipe τ vs = L2.wipe σ vs := by
  refine List.ext_getElem? fun i => ?_
  rw [wipe_get, wipe_get, hl]
  by_cases hi : i ∈ vs
  · simp [hi]
  · simp [hi, h i hi]
theorem wipe_set1 {σ : L2.St} {vs : List Nat} {j : Nat} {o : Option V} (hj : j ∈ vs) : L2.wipe ((L2.wipe σ vs).set j o) vs = L2.wipe σ vs := by
  refine wipe_eq (by rw [List.length_set, L2.wipe_length]) fun i hi => ?_
  rw [List.getElem?_set_ne (fun e => hi (by rw [← e]; exact hj)), wipe_get, if_neg hi]
theorem wipe_set2 {σ : L2.St} {vs : List Nat} {j k : Nat} {o q : Option V} (hj : j ∈ vs) (hk : k ∈ vs) : L2.wipe (((L2.wipe σ vs).set j o).set k q) vs = L2.wipe σ vs := by
  refine wipe_eq (by rw [List.length_set, List.length_set, L2.wipe_length]) fun i hi => ?_
  rw [List.getElem?_set_ne (fun e => hi (by rw [← e]; exact hk)), List.getElem?_set_ne (fun e => hi (by rw [← e]; exact hj)), wipe_get, if_neg hi]
/-! ### the largest readings -/
def tSem (X : Cx) (e : Expr) : TE := fun σ H Q => ∀ pins s, Inv X pins σ H s → wpAny (model X.prog X.w) X.A (eval e X.env) (EP X pins σ Q) X.xe s
def tSemT (X : Cx) (e : Expr) : TT := fun σ H Q => ∀ pins s, Inv X pins σ H s → wpAny (model X.prog X.w) X.A (isTrue e X.env (eval e X.env)) (TP X pins σ Q) X.xe s
def tSemW (X : Cx) (e : Expr) : TT := fun σ H Q => ∀ whole pins s, Inv X pins σ H s → wpAny (model X.prog X.w) X.A (isTrue e X.env whole) (TP X pins σ Q) X.xe s
def tSemA (X : Cx) (es : List Expr) : TA := fun σ H Q => ∀ pos pins s, Inv X pins σ H s → wpAny (model X.prog X.w) X.A (spliced (backTo pos (starEach es X.env))) (AP X pins σ Q) X.xe s
def tSemS (X : Cx) (st : Stmt) : TS := fun D σ H => ∀ pins s, Inv X pins σ H s → wpAny (model X.prog X.w) X.A (exec st X.env) (SP X pins D) X.xe s
def Do (X : Cx) (st : List Stmt) : TS := fun D σ H => ∀ pins s, Inv X pins σ H s → wpAny (model X.prog X.w) X.A (execs st X.env) (SP X pins D) X.xe s
section
variable {X : Cx} {e : Expr} {es : List Expr} {st : Stmt} {sts : List Stmt} {σ : L2.St} {H : Hp}
theorem pe_sem : PE X e (tSem X e) := ⟨fun pins s _ _ _ I h => h pins s I⟩
theorem pt_sem : PT X e (tSemT X e) := ⟨fun pins s _ _ _ I h => h pins s I⟩
theorem pw_sem : PW X e (tSemW X e) := ⟨fun whole pins s _ _ _ I h => h whole pins s I⟩
theorem pa_sem : PA X es (tSemA X es) := ⟨fun pos pins s _ _ _ I h => h pos pins s I⟩
theorem ps_sem : PS X st (tSemS X st) := ⟨fun pins s _ _ _ I h => h pins s I⟩
theorem pss_sem : PSs X sts (Do X sts) := ⟨fun pins s _ _ _ I h => h pins s I⟩
theorem of_pe {t : TE} (p : PE X e t) {Q : VK} (h : t σ H Q) : tSem X e σ H Q := fun pins s I => p.run pins s σ H Q I h
theorem of_pt {t : TT} (p : PT X e t) {Q : Bool → Hp → Prop} (h : t σ H Q) : tSemT X e σ H Q := fun pins s I => p.run pins s σ H Q I h
theorem of_pw {t : TT} (p : PW X e t) {Q : Bool → Hp → Prop} (h : t σ H Q) : tSemW X e σ H Q := fun whole pins s I => p.run whole pins s σ H Q I h
theorem of_pa {t : TA} (p : PA X es t) {Q : List V → Hp → Prop} (h : t σ H Q) : tSemA X es σ H Q := fun pos pins s I => p.run pos pins s σ H Q I h
theorem of_ps {t : TS} (p : PS X st t) {D : Ends} (h : t D σ H) : tSemS X st D σ H := fun pins s I => p.run pins s σ H D I h
theorem of_pss {t : TS} (p : PSs X sts t) {D : Ends} (h : t D σ H) : Do X sts D σ H := fun pins s I => p.run pins s σ H D I h
end
/-! ### what evaluates to what -/
def EvE (X : Cx) (e : Expr) (σ : L2.St) (H : Hp) (d : D) : Prop := ∀ H1, Ex H H1 → ∀ Q : VK, (∀ v H2, Ex H1 H2 → Dp X.K H2 v d → Q v H2) → tSem X e σ H1 Q
/-- a list that is new -/
def EvN (X : Cx) (e : Expr) (σ : L2.St) (H : Hp) (ds : List D) : Prop := ∀ H1, Ex H H1 → ∀ Q : VK, (∀ p vs H2, H1 p = none → Ex H1 H2 → H2 p = some (.lst vs) → DpAll X.K H2 vs ds → Q (.ref p) H2) → tSem X e σ H1 Q
def EvT (X : Cx) (e : Expr) (σ : L2.St) (H : Hp) (b : Bool) : Prop := ∀ H1, Ex H H1 → ∀ Q : Bool → Hp → Prop, (∀ H2, Ex H1 H2 → Q b H2) → tSemT X e σ H1 Q
def EvW (X : Cx) (e : Expr) (σ : L2.St) (H : Hp) (b : Bool) : Prop := ∀ H1, Ex H H1 → ∀ Q : Bool → Hp → Prop, (∀ H2, Ex H1 H2 → Q b H2) → tSemW X e σ H1 Q
def EvA (X : Cx) (es : List Expr) (σ : L2.St) (H : Hp) (ds : List D) : Prop := ∀ H1, Ex H H1 → ∀ Q : List V → Hp → Prop, (∀ vs H2, Ex H1 H2 → DpAll X.K H2 vs ds → Q vs H2) → tSemA X es σ H1 Q
section
variable {X : Cx} {a b c e o : Expr} {es : List Expr} {σ : L2.St} {H H' : Hp} {d d1 d2 : D} {ds : List D} {Γ : List (Option Sl)} {pos : Pos} {i j : Int}
theorem EvE.mono (h : EvE X e σ H d) (x : Ex H H') : EvE X e σ H' d := fun H1 e1 => h H1 (x.trans e1)
theorem EvN.mono (h : EvN X e σ H ds) (x : Ex H H') : EvN X e σ H' ds := fun H1 e1 => h H1 (x.trans e1)
theorem EvT.mono {b : Bool} (h : EvT X e σ H b) (x : Ex H H') : EvT X e σ H' b := fun H1 e1 => h H1 (x.trans e1)
theorem EvA.mono (h : EvA X es σ H ds) (x : Ex H H') : EvA X es σ H' ds := fun H1 e1 => h H1 (x.trans e1)
theorem EvN.ev (h : EvN X e σ H ds) : EvE X e σ H (.list ds) := fun H1 e1 Q q => h H1 e1 Q fun p vs H2 hp e2 h2 hd => q _ H2 e2 (.lst (SqL.of h2) hd)
theorem EvE.of_eq (h : EvE X e σ H d) (x : d = d1) : EvE X e σ H d1 := x ▸ h
theorem EvN.of_eq {es' : List D} (h : EvN X e σ H ds) (x : ds = es') : EvN X e σ H es' := x ▸ h
theorem EvT.of_eq {b b' : Bool} (h : EvT X e σ H b) (x : b = b') : EvT X e σ H b' := x ▸ h
/-- names -/
theorem ev {x : Str} (hs : SR X.K H σ Γ) (i : Nat) (hg : Γ[i]? = some (some (.py d)) := by rfl) (hN : X.N[i]? = some x := by rfl) (hv : Vis X.env.scope x := by first | exact Or.inl rfl | exact Or.inr (Or.inl rfl) | exact Or.inr (Or.inr rfl)) (hd : (x == ("__debug__" : Str)) = false := by decide)
    (hcd : (x == ("__classdict__" : Str)) = false := by decide) : EvE X (.Name x pos) σ H d := fun H1 e1 Q q => by
  obtain ⟨v, h1, h2, _⟩ := hs.get hg
  exact of_pe (pe_var hN hv hd hcd) ⟨v, h1, q v H1 (Ex.refl H1) (dp_ex e1 _ _ h2)⟩
/-- a name that holds the list at a -/
theorem evL {x : Str} {l : Addr} {vs : List V} (hs : SR X.K H σ Γ) (i : Nat) (hl : SqL X.K H l vs) (hd' : DpAll X.K H vs ds) (hg : Γ[i]? = some (some (.at l)) := by rfl) (hN : X.N[i]? = some x := by rfl) (hv : Vis X.env.scope x := by first | exact Or.inl rfl | exact Or.inr (Or.inl rfl) | exact Or.inr (Or.inr rfl)) (hd : (x == ("__debug__" : Str)) = false := by decide)
    (hcd : (x == ("__classdict__" : Str)) = false := by decide) : EvE X (.Name x pos) σ H (.list ds) := fun H1 e1 Q q =>
  of_pe (pe_var hN hv hd hcd) ⟨_, hs.get_at hg, q _ H1 (Ex.refl H1) (.lst (ex_l e1 hl) (dps_ex e1 _ _ hd'))⟩
theorem ee_int {i : Int} {j} : EvE X (.Constant (.int i) j pos) σ H (.int i) := fun H1 _ Q q => of_pe pe_int (q _ H1 (Ex.refl H1) (.int i))
theorem ee_str {x : Str} {j} : EvE X (.Constant (.str x) j pos) σ H (.str x) := fun H1 _ Q q => of_pe pe_str (q _ H1 (Ex.refl H1) (.str x))
theorem ee_bl {x : Bool} {j} : EvE X (.Constant (.bool x) j pos) σ H (.bool x) := fun H1 _ Q q => of_pe pe_bl (q _ H1 (Ex.refl H1) (.bl x))
theorem ee_non {j} : EvE X (.Constant .none j pos) σ H .none := fun H1 _ Q q => of_pe pe_non (q _ H1 (Ex.refl H1) .non)
/-- a module's int -/
theorem ee_gint {x : Str} {i : Int} {t : Tok} (hm : X.mg x = some (.int i t)) (hg : Gl X x := by rfl) (hd : (x == ("__debug__" : Str)) = false := by decide) : EvE X (.Name x pos) σ H (.int i) := fun H1 _ Q q =>
  of_pe (pe_glob (v := .int i) hg hm ⟨t, rfl⟩ hd) (q _ H1 (Ex.refl H1) (.int i))
/-- a module's tuple -/
theorem ee_gtup {x : Str} {l : Addr} (hm : X.mg x = some (.ref l)) (ht : ∀ H, Dp X.K H (.ref l) (.tuple ds)) (hg : Gl X x := by rfl) (hd : (x == ("__debug__" : Str)) = false := by decide) : EvE X (.Name x pos) σ H (.tuple ds) := fun H1 _ Q q =>
  of_pe (pe_glob (v := .ref l) hg hm rfl hd) (q _ H1 (Ex.refl H1) (ht H1))
/-- two operands -/
theorem ee_op {op : Operator} {r : R2} (ho : OpR X (binaryOp op) r) (ha : EvE X a σ H d1) (hb : EvE X b σ H d2)
    (hr : ∀ x y H1, Ex H H1 → Dp X.K H1 x d1 → Dp X.K H1 y d2 → ∀ Q : VK, (∀ v H2, Ex H1 H2 → Dp X.K H2 v d → Q v H2) → r x y H1 Q) : EvE X (.BinOp a op b pos) σ H d := fun H1 e1 Q q =>
  of_pe (pe_op ho pe_sem pe_sem) (ha H1 e1 _ fun x H2 e2 hx => hb H2 (e1.trans e2) _ fun y H3 e3 hy => hr x y H3 ((e1.trans e2).trans e3) (dp_ex e3 _ _ hx) hy Q fun v H4 e4 hv => q v H4 ((e2.trans e3).trans e4) hv)
theorem ee_opI {op : Operator} {g : Int → Int → Int} (ho : OpR X (binaryOp op) (rI0 fun i j => .int (g i j))) (ha : EvE X a σ H (.int i)) (hb : EvE X b σ H (.int j)) : EvE X (.BinOp a op b pos) σ H (.int (g i j)) :=
  ee_op ho ha hb fun x y H1 _ hx hy Q q => by
    rw [dp_int hx, dp_int hy]
    exact ⟨i, j, rfl, rfl, q _ H1 (Ex.refl H1) (.int _)⟩
theorem ee_opC {op : Operator} {C : Int → Int → Prop} {g : Int → Int → Int} (ho : OpR X (binaryOp op) (rI C fun i j => .int (g i j))) (ha : EvE X a σ H (.int i)) (hb : EvE X b σ H (.int j)) (hc : C i j) : EvE X (.BinOp a op b pos) σ H (.int (g i j)) :=
  ee_op ho ha hb fun x y H1 _ hx hy Q q => by
    rw [dp_int hx, dp_int hy]
    exact ⟨i, j, rfl, rfl, hc, q _ H1 (Ex.refl H1) (.int _)⟩
theorem ee_add (ha : EvE X a σ H (.int i)) (hb : EvE X b σ H (.int j)) : EvE X (.BinOp a .Add b pos) σ H (.int (i + j)) := ee_opI op_add ha hb
theorem ee_sub (ha : EvE X a σ H (.int i)) (hb : EvE X b σ H (.int j)) : EvE X (.BinOp a .Sub b pos) σ H (.int (i - j)) := ee_opI op_sub ha hb
theorem ee_un {op : UnaryOp} {r : V → Hp → VK → Prop} (ho : UnR X (unaryOp op) r) (ha : EvE X a σ H d1)
    (hr : ∀ x H1, Ex H H1 → Dp X.K H1 x d1 → ∀ Q : VK, (∀ v H2, Ex H1 H2 → Dp X.K H2 v d → Q v H2) → r x H1 Q) : EvE X (.UnaryOp op a pos) σ H d := fun H1 e1 Q q =>
  of_pe (pe_un ho pe_sem) (ha H1 e1 _ fun x H2 e2 hx => hr x H2 (e1.trans e2) hx Q fun v H3 e3 hv => q v H3 (e2.trans e3) hv)
theorem ee_neg (ha : EvE X a σ H (.int i)) : EvE X (.UnaryOp .USub a pos) σ H (.int (-i)) := ee_un un_neg ha fun x H1 _ hx Q q => by
  rw [dp_int hx]
  exact ⟨i, rfl, q _ H1 (Ex.refl H1) (.int _)⟩
/-- arguments, displays -/
theorem ea_nil : EvA X [] σ H [] := fun H1 _ Q q => of_pa pa_nil (q _ H1 (Ex.refl H1) .nil)
theorem ea_cons (ha : EvE X e σ H d) (hr : EvA X es σ H ds) (hs : starEach (e :: es) X.env = (false, eval e X.env) :: starEach es X.env := by rfl) : EvA X (e :: es) σ H (d :: ds) := fun H1 e1 Q q =>
  of_pa (pa_cons pe_sem pa_sem hs) (ha H1 e1 _ fun v H2 e2 hv => hr H2 (e1.trans e2) _ fun vs H3 e3 hvs => q _ H3 (e2.trans e3) (.cons (dp_ex e3 _ _ hv) hvs))
theorem ee_tup {k} (ha : EvA X es σ H ds) (hl : ds.length ≤ 100000 := by exact Nat.le_of_ble_eq_true rfl) : EvE X (.Tuple es k pos) σ H (.tuple ds) := fun H1 e1 Q q =>
  of_pe (pe_tup pa_sem) (ha H1 e1 _ fun vs H2 e2 hvs => ⟨sz_of (by rw [dps_length hvs]; exact hl), fun p hp => q _ _ (e2.trans (Ex.new hp)) (.tup (SqT.of upd_same) (dps_ex (Ex.new hp) _ _ hvs))⟩)
theorem en_lst (ha : EvA X es σ H ds) (hl : ds.length ≤ 100000 := by exact Nat.le_of_ble_eq_true rfl) : EvN X (.List es pos) σ H ds := fun H1 e1 Q q =>
  of_pe (pe_lst pa_sem) (ha H1 e1 _ fun vs H2 e2 hvs => ⟨sz_of (by rw [dps_length hvs]; exact hl), fun p hp => q p vs _ (fresh_back e2 hp) (e2.trans (Ex.new hp)) upd_same (dps_ex (Ex.new hp) _ _ hvs)⟩)
/-- items -/
theorem atI_dps {K : PySem.W.Frag} {vs : List V} {i : Int} (h : DpAll K H vs ds) (hi : atI ds i = some d) : ∃ v, atI vs i = some v ∧ Dp K H v d := by
  unfold atI at hi ⊢
  rw [dps_length h]
  cases e : ixN ds.length i with
  | none => rw [e] at hi; cases hi
  | some j =>
    rw [e] at hi
    obtain ⟨v, h1, h2⟩ := dps_get h hi
    exact ⟨v, h1, h2⟩
theorem ee_ixT (ha : EvE X a σ H (.tuple ds)) (hb : EvE X b σ H (.int i)) (hi : atI ds i = some d) (hs : PlainIx b := by exact fun _ _ => rfl) : EvE X (.Subscript a b pos) σ H d := fun H1 e1 Q q =>
  of_pe (pe_ix ix_tup pe_sem pe_sem hs) (ha H1 e1 _ fun x H2 e2 hx => hb H2 (e1.trans e2) _ fun y H3 e3 hy => by
    obtain ⟨p, vs, rfl, h1, h2⟩ := dp_tup (dp_ex e3 _ _ hx)
    obtain ⟨v, h3, h4⟩ := atI_dps h2 hi
    rw [dp_int hy]
    exact ⟨p, vs, i, v, rfl, rfl, h1, h3, q v H3 (e2.trans e3) h4⟩)
theorem ee_ixL (ha : EvE X a σ H (.list ds)) (hb : EvE X b σ H (.int i)) (hi : atI ds i = some d) (hs : PlainIx b := by exact fun _ _ => rfl) : EvE X (.Subscript a b pos) σ H d := fun H1 e1 Q q =>
  of_pe (pe_ix ix_list pe_sem pe_sem hs) (ha H1 e1 _ fun x H2 e2 hx => hb H2 (e1.trans e2) _ fun y H3 e3 hy => by
    obtain ⟨p, vs, rfl, h1, h2⟩ := dp_lst (dp_ex e3 _ _ hx)
    obtain ⟨v, h3, h4⟩ := atI_dps h2 hi
    rw [dp_int hy]
    exact ⟨p, vs, i, v, rfl, rfl, h1, h3, q v H3 (e2.trans e3) h4⟩)
/-- comparisons -/
theorem ee_cmp {op : CmpOp} {r : R2} (ho : OpR X (compareOp op) r) (ha : EvE X a σ H d1) (hb : EvE X b σ H d2)
    (hr : ∀ x y H1, Ex H H1 → Dp X.K H1 x d1 → Dp X.K H1 y d2 → ∀ Q : VK, (∀ v H2, Ex H1 H2 → Dp X.K H2 v d → Q v H2) → r x y H1 Q) (hm : behindInMarks op b = false := by first | rfl | exact nomark _) : EvE X (.Compare a [op] [b] pos) σ H d := fun H1 e1 Q q =>
  of_pe (pe_cmpR ho pe_sem pe_sem hm) (ha H1 e1 _ fun x H2 e2 hx => hb H2 (e1.trans e2) _ fun y H3 e3 hy => hr x y H3 ((e1.trans e2).trans e3) (dp_ex e3 _ _ hx) hy Q fun v H4 e4 hv => q v H4 ((e2.trans e3).trans e4) hv)
theorem ee_cmpI {op : CmpOp} {g : Int → Int → Bool} (ho : OpR X (compareOp op) (rI0 fun i j => .bl (g i j))) (ha : EvE X a σ H (.int i)) (hb : EvE X b σ H (.int j)) (hm : behindInMarks op b = false := by first | rfl | exact nomark _) : EvE X (.Compare a [op] [b] pos) σ H (.bool (g i j)) :=
  ee_cmp ho ha hb (fun x y H1 _ hx hy Q q => by
    rw [dp_int hx, dp_int hy]
    exact ⟨i, j, rfl, rfl, q _ H1 (Ex.refl H1) (.bl _)⟩) hm
theorem ee_lt (ha : EvE X a σ H (.int i)) (hb : EvE X b σ H (.int j)) : EvE X (.Compare a [.Lt] [b] pos) σ H (.bool (decide (i < j))) := ee_cmpI op_lt ha hb (nomark _)
theorem ee_le (ha : EvE X a σ H (.int i)) (hb : EvE X b σ H (.int j)) : EvE X (.Compare a [.LtE] [b] pos) σ H (.bool (decide (i ≤ j))) := ee_cmpI op_le ha hb (nomark _)
theorem ee_gt (ha : EvE X a σ H (.int i)) (hb : EvE X b σ H (.int j)) : EvE X (.Compare a [.Gt] [b] pos) σ H (.bool (decide (j < i))) := ee_cmpI op_gt ha hb (nomark _)
theorem ee_ge (ha : EvE X a σ H (.int i)) (hb : EvE X b σ H (.int j)) : EvE X (.Compare a [.GtE] [b] pos) σ H (.bool (decide (j ≤ i))) := ee_cmpI op_ge ha hb (nomark _)
theorem ee_eqI (ha : EvE X a σ H (.int i)) (hb : EvE X b σ H (.int j)) : EvE X (.Compare a [.Eq] [b] pos) σ H (.bool (decide (i = j))) := ee_cmp op_eq ha hb (fun x y H1 _ hx hy Q q => by
  rw [dp_int hx, dp_int hy]
  refine ⟨rfl, ?_⟩
  rw [show decide (V.int i = V.int j) = decide (i = j) by simp]
  exact q _ H1 (Ex.refl H1) (.bl _)) (nomark _)
theorem ee_neI (ha : EvE X a σ H (.int i)) (hb : EvE X b σ H (.int j)) : EvE X (.Compare a [.NotEq] [b] pos) σ H (.bool (!decide (i = j))) := ee_cmp op_ne ha hb (fun x y H1 _ hx hy Q q => by
  rw [dp_int hx, dp_int hy]
  refine ⟨rfl, ?_⟩
  rw [show decide (V.int i = V.int j) = decide (i = j) by simp]
  exact q _ H1 (Ex.refl H1) (.bl _)) (nomark _)
theorem ee_eqS {x y : Str} (ha : EvE X a σ H (.str x)) (hb : EvE X b σ H (.str y)) : EvE X (.Compare a [.Eq] [b] pos) σ H (.bool (decide (x = y))) := ee_cmp op_eq ha hb (fun u v H1 _ hx hy Q q => by
  rw [dp_str hx, dp_str hy]
  refine ⟨rfl, ?_⟩
  rw [show decide (V.str x = V.str y) = decide (x = y) by simp]
  exact q _ H1 (Ex.refl H1) (.bl _)) (nomark _)
theorem ee_neS {x y : Str} (ha : EvE X a σ H (.str x)) (hb : EvE X b σ H (.str y)) : EvE X (.Compare a [.NotEq] [b] pos) σ H (.bool (!decide (x = y))) := ee_cmp op_ne ha hb (fun u v H1 _ hx hy Q q => by
  rw [dp_str hx, dp_str hy]
  refine ⟨rfl, ?_⟩
  rw [show decide (V.str x = V.str y) = decide (x = y) by simp]
  exact q _ H1 (Ex.refl H1) (.bl _)) (nomark _)
/-- == of data at any depth -/
theorem ee_eqD (hu : X.A.units + 64 < cLine) (ha : EvE X a σ H d1) (hb : EvE X b σ H d2) (s1 : SeqAt.shaped d1 = true := by rfl) (s2 : SeqAt.shaped d2 = true := by rfl) : EvE X (.Compare a [.Eq] [b] pos) σ H (.bool (PyData.eqv d1 d2)) :=
  ee_cmp (op_eqD hu) ha hb (fun x y H1 _ hx hy Q q => ⟨d1, d2, hx, hy, s1, s2, q _ H1 (Ex.refl H1) (.bl _)⟩) (nomark _)
theorem ee_neD (hu : X.A.units + 64 < cLine) (ha : EvE X a σ H d1) (hb : EvE X b σ H d2) (s1 : SeqAt.shaped d1 = true := by rfl) (s2 : SeqAt.shaped d2 = true := by rfl) : EvE X (.Compare a [.NotEq] [b] pos) σ H (.bool (!PyData.eqv d1 d2)) :=
  ee_cmp (op_neD hu) ha hb (fun x y H1 _ hx hy Q q => ⟨d1, d2, hx, hy, s1, s2, q _ H1 (Ex.refl H1) (.bl _)⟩) (nomark _)
def isNone : D → Bool
  | .none => true
  | _ => false
theorem dp_isNone {K : PySem.W.Frag} {v : V} (h : Dp K H v d) : decide (v = .non) = isNone d := by cases h <;> simp [isNone]
theorem ee_isN (ha : EvE X a σ H d) {j p2} : EvE X (.Compare a [.Is] [.Constant .none j p2] pos) σ H (.bool (isNone d)) :=
  ee_cmp op_isN ha ee_non (fun x y H1 _ hx hy Q q => ⟨dp_non hy, by rw [dp_isNone hx]; exact q _ H1 (Ex.refl H1) (.bl _)⟩) (nomark _)
theorem ee_notN (ha : EvE X a σ H d) {j p2} : EvE X (.Compare a [.IsNot] [.Constant .none j p2] pos) σ H (.bool (!isNone d)) :=
  ee_cmp op_notN ha ee_non (fun x y H1 _ hx hy Q q => ⟨dp_non hy, by rw [dp_isNone hx]; exact q _ H1 (Ex.refl H1) (.bl _)⟩) (nomark _)
/-- a text in a tuple of texts -/
theorem ee_inS {x : Str} {ys : List Str} (ha : EvE X a σ H (.str x)) (hb : EvE X b σ H (.tuple (ys.map PyData.str))) (hm : behindInMarks .In b = false := by rfl) : EvE X (.Compare a [.In] [b] pos) σ H (.bool (ys.contains x)) :=
  ee_cmp op_in_seq ha hb (fun u v H1 _ hx hy Q q => by
    rw [dp_str hx]
    obtain ⟨p, vs, rfl, h1, h2⟩ := dp_tup hy
    have key : ∀ (ys : List Str) (vs : List V), DpAll X.K H1 vs (ys.map PyData.str) → vs.all flatV = true ∧ inV (.str x) vs = ys.contains x := by
      intro ys
      induction ys with
      | nil => intro vs h; cases h; exact ⟨rfl, rfl⟩
      | cons y ys ih =>
        intro vs h
        cases h with
        | cons a b =>
          cases a
          obtain ⟨i1, i2⟩ := ih _ b
          refine ⟨by rw [List.all_cons, i1]; rfl, ?_⟩
          show (eqV (.str y) (.str x) || inV (.str x) _) = _
          rw [i2, List.contains_cons]
          congr 1
          show (y == x) = (x == y)
          exact Bool.beq_comm
    obtain ⟨k1, k2⟩ := key ys vs h2
    refine ⟨p, vs, rfl, .inr h1, rfl, k1, ?_⟩
    show Q (.bl (inV (.str x) vs)) H1
    rw [k2]
    exact q _ H1 (Ex.refl H1) (.bl _)) hm
/-- x if t else y -/
theorem ee_if {t : Bool} (hc : EvT X c σ H t) (h1 : t = true → EvE X a σ H d) (h2 : t = false → EvE X b σ H d) : EvE X (.IfExp c a b pos) σ H d := fun H1 e1 Q q =>
  of_pe (pe_ifExp pt_sem pe_sem pe_sem) (hc H1 e1 _ fun H2 e2 => by
    cases t with
    | true => exact iteT (h1 rfl H2 (e1.trans e2) Q fun v H3 e3 hv => q v H3 (e2.trans e3) hv)
    | false => exact iteF (h2 rfl H2 (e1.trans e2) Q fun v H3 e3 hv => q v H3 (e2.trans e3) hv))
/-- and, or, not as values -/
theorem ee_one {op} (h : EvE X a σ H d) : EvE X (.BoolOp op [a] pos) σ H d := fun H1 e1 Q q => of_pe (pe_one pe_sem) (h H1 e1 Q q)
theorem ee_and {x y : Bool} (ha : EvE X a σ H (.bool x)) (hb : x = true → EvE X (.BoolOp .And (b :: es) pos) σ H (.bool y)) : EvE X (.BoolOp .And (a :: b :: es) pos) σ H (.bool (x && y)) := fun H1 e1 Q q =>
  of_pe (pe_and pe_sem pe_sem) (ha H1 e1 _ fun v H2 e2 hv => ⟨x, dp_bl hv, by
    cases x with
    | true => exact iteT (hb rfl H2 (e1.trans e2) Q fun v H3 e3 hv => q v H3 (e2.trans e3) hv)
    | false => exact iteF (q _ H2 e2 (.bl _))⟩)
theorem ee_or {x y : Bool} (ha : EvE X a σ H (.bool x)) (hb : x = false → EvE X (.BoolOp .Or (b :: es) pos) σ H (.bool y)) : EvE X (.BoolOp .Or (a :: b :: es) pos) σ H (.bool (x || y)) := fun H1 e1 Q q =>
  of_pe (pe_or pe_sem pe_sem) (ha H1 e1 _ fun v H2 e2 hv => ⟨x, dp_bl hv, by
    cases x with
    | false => exact iteF (hb rfl H2 (e1.trans e2) Q fun v H3 e3 hv => q v H3 (e2.trans e3) hv)
    | true => exact iteT (q _ H2 e2 (.bl _))⟩)
theorem ee_not {x : Bool} (ha : EvE X a σ H (.bool x)) : EvE X (.UnaryOp .Not a pos) σ H (.bool (!x)) := fun H1 e1 Q q =>
  of_pe (pe_not pe_sem) (ha H1 e1 _ fun v H2 e2 hv => ⟨x, dp_bl hv, q _ H2 e2 (.bl _)⟩)
/-- tests -/
theorem et_val {x : Bool} (h : EvE X e σ H (.bool x)) (hw : ∀ whole, PySem.isTrue e X.env whole = (do let v ← whole; standAt e.pos; holding [v] (truthy v)) := by intro _; rfl) : EvT X e σ H x := fun H1 e1 Q q => of_pt (pt_val pe_sem hw) (h H1 e1 _ fun v H2 e2 hv => ⟨x, dp_bl hv, q H2 e2⟩)
theorem et_not {x : Bool} (h : EvT X e σ H x) : EvT X (.UnaryOp .Not e pos) σ H (!x) := fun H1 e1 Q q => of_pt (pt_not pt_sem) (h H1 e1 _ fun H2 e2 => q H2 e2)
theorem et_w {x : Bool} (h : EvW X e σ H x) : EvT X e σ H x := fun H1 e1 Q q => of_pt (PW.pt pw_sem) (h H1 e1 _ fun H2 e2 => q H2 e2)
theorem ew_and1 {x : Bool} (h : EvT X a σ H x) : EvW X (.BoolOp .And [a] pos) σ H x := fun H1 e1 Q q => of_pw (pw_and1 pt_sem) (h H1 e1 _ fun H2 e2 => q H2 e2)
theorem ew_or1 {x : Bool} (h : EvT X a σ H x) : EvW X (.BoolOp .Or [a] pos) σ H x := fun H1 e1 Q q => of_pw (pw_or1 pt_sem) (h H1 e1 _ fun H2 e2 => q H2 e2)
theorem ew_and {x y : Bool} (h : EvT X a σ H x) (hb : x = true → EvW X (.BoolOp .And (b :: es) pos) σ H y) : EvW X (.BoolOp .And (a :: b :: es) pos) σ H (x && y) := fun H1 e1 Q q =>
  of_pw (pw_and pt_sem pw_sem) (h H1 e1 _ fun H2 e2 => by
    cases x with
    | true => exact iteT (hb rfl H2 (e1.trans e2) Q fun H3 e3 => q H3 (e2.trans e3))
    | false => exact iteF (q H2 e2))
theorem ew_or {x y : Bool} (h : EvT X a σ H x) (hb : x = false → EvW X (.BoolOp .Or (b :: es) pos) σ H y) : EvW X (.BoolOp .Or (a :: b :: es) pos) σ H (x || y) := fun H1 e1 Q q =>
  of_pw (pw_or pt_sem pw_sem) (h H1 e1 _ fun H2 e2 => by
    cases x with
    | false => exact iteF (hb rfl H2 (e1.trans e2) Q fun H3 e3 => q H3 (e2.trans e3))
    | true => exact iteT (q H2 e2))
/-- a built-in's call by its rule -/
theorem ee_B {id : String} {r : List V → Hp → VK → Prop} {x : Str} {p : Pos} (hc : CallR X (.builtin id) r) (hm : X.mg x = none) (ha : EvA X (e :: es) σ H ds)
    (hr : ∀ vs H1, Ex H H1 → DpAll X.K H1 vs ds → ∀ Q : VK, (∀ v H2, Ex H1 H2 → Dp X.K H2 v d → Q v H2) → r vs H1 Q) (hg : Gl X x := by rfl) (hv : bootBuiltins x = some (.builtin id) := by decide +kernel)
    (hn : x ≠ "__name__" := by decide) (hdb : (x == ("__debug__" : Str)) = false := by decide) (he : starEach (e :: es) X.env = (false, eval e X.env) :: starEach es X.env := by rfl) (hpl : (backTo pos (starEach es X.env)).any (·.1) = false := by rfl) :
    EvE X (.Call (.Name x p) (e :: es) [] pos) σ H d := fun H1 e1 Q q =>
  of_pe (pe_callB hc hg hm hv pa_sem hn hdb he hpl) (ha H1 e1 _ fun vs H2 e2 hvs => hr vs H2 (e1.trans e2) hvs Q fun v H3 e3 hv => q v H3 (e2.trans e3) hv)
theorem ee_Ty {T : String} {r : List V → Hp → VK → Prop} {x : Str} {p : Pos} (hc : CallR X (.type T) r) (hm : X.mg x = none) (ha : EvA X (e :: es) σ H ds)
    (hr : ∀ vs H1, Ex H H1 → DpAll X.K H1 vs ds → ∀ Q : VK, (∀ v H2, Ex H1 H2 → Dp X.K H2 v d → Q v H2) → r vs H1 Q) (hg : Gl X x := by rfl) (hv : bootBuiltins x = some (.type T) := by decide +kernel)
    (hn : x ≠ "__name__" := by decide) (hdb : (x == ("__debug__" : Str)) = false := by decide) (he : starEach (e :: es) X.env = (false, eval e X.env) :: starEach es X.env := by rfl) (hpl : (backTo pos (starEach es X.env)).any (·.1) = false := by rfl) :
    EvE X (.Call (.Name x p) (e :: es) [] pos) σ H d := fun H1 e1 Q q =>
  of_pe (pe_callTy hc hg hm hv pa_sem hn hdb he hpl) (ha H1 e1 _ fun vs H2 e2 hvs => hr vs H2 (e1.trans e2) hvs Q fun v H3 e3 hv => q v H3 (e2.trans e3) hv)
end
end K30
namespace K30
open PySem PySem.Spec PyProof.Rows L2 Evl
/-! ### statements -/
section
variable {X : Cx} {a b c e o : Expr} {es : List Expr} {st : Stmt} {rest : List Stmt} {σ : L2.St} {H H' : Hp} {d d1 d2 : D} {ds : List D} {Γ : List (Option Sl)} {pos pos' : Pos} {De : Ends}
theorem do_st (h : tSemS X st { De with nx := Do X rest De } σ H) : Do X (st :: rest) De σ H := of_pss (pss_cons ps_sem pss_sem) h
theorem do_nil (h : De.nx σ H) : Do X [] De σ H := of_pss pss_nil h
/-- name = e -/
theorem do_asg {x : Str} (nd : X.N.Nodup) (i : Nat) (hs : SR X.K H σ Γ) (he : EvE X e σ H d) (hn : noL d = true)
    (k : ∀ σ1 H1, Ex H H1 → SR X.K H1 σ1 (Γ.set i (some (.py d))) → Do X rest De σ1 H1)
    (hi : X.N[i]? = some x := by rfl) (hx : Loc X.env.scope x := by first | exact Or.inl rfl | exact Or.inr rfl) (hw : swapsWith e (some (.Name x pos')) pos.line X.env = pure false := by rfl)
    (hf : X.fn x = true ∨ X.env.scope.names.lookup x = some .local := by first | exact .inl rfl | exact .inr rfl) : Do X (.Assign [.Name x pos'] e pos :: rest) De σ H :=
  do_st (of_ps (ps_set nd hi hx pe_sem hw hf) (he H (Ex.refl H) _ fun v H1 e1 hv => k _ H1 e1 ((hs.ex e1).set_py hv hn i)))
theorem do_asgN {x : Str} (nd : X.N.Nodup) (i : Nat) (hs : SR X.K H σ Γ) (he : EvN X e σ H ds)
    (k : ∀ p vs σ1 H1, H p = none → Ex H H1 → H1 p = some (.lst vs) → DpAll X.K H1 vs ds → SR X.K H1 σ1 (Γ.set i (some (.at p))) → Do X rest De σ1 H1)
    (hi : X.N[i]? = some x := by rfl) (hx : Loc X.env.scope x := by first | exact Or.inl rfl | exact Or.inr rfl) (hw : swapsWith e (some (.Name x pos')) pos.line X.env = pure false := by rfl)
    (hf : X.fn x = true ∨ X.env.scope.names.lookup x = some .local := by first | exact .inl rfl | exact .inr rfl) : Do X (.Assign [.Name x pos'] e pos :: rest) De σ H :=
  do_st (of_ps (ps_set nd hi hx pe_sem hw hf) (he H (Ex.refl H) _ fun p vs H1 hp e1 h1 hd => k p vs _ H1 hp e1 h1 hd ((hs.ex e1).set_at i)))
theorem do_ret (he : EvE X e σ H d) (k : ∀ v H1, Ex H H1 → Dp X.K H1 v d → De.rt v H1) : Do X (.Return (some e) pos :: rest) De σ H :=
  do_st (of_ps (ps_ret pe_sem) (he H (Ex.refl H) _ k))
theorem do_if {t : Bool} {A B : List Stmt} (hc : EvT X c σ H t) (h1 : t = true → ∀ H1, Ex H H1 → Do X A { De with nx := Do X rest De } σ H1) (h2 : t = false → ∀ H1, Ex H H1 → Do X B { De with nx := Do X rest De } σ H1) : Do X (.If c A B pos :: rest) De σ H :=
  do_st (of_ps (ps_if pt_sem pss_sem pss_sem) (hc H (Ex.refl H) _ fun H1 e1 => by
    cases t with
    | true => exact iteT (h1 rfl H1 e1)
    | false => exact iteF (h2 rfl H1 e1)))
/-- an if without else that returns or raises where it is taken -/
theorem do_when {t : Bool} {A : List Stmt} (hc : EvT X c σ H t) (h1 : t = true → ∀ H1, Ex H H1 → Do X A { De with nx := Do X rest De } σ H1) (h2 : t = false → ∀ H1, Ex H H1 → Do X rest De σ H1) : Do X (.If c A [] pos :: rest) De σ H :=
  do_if hc h1 fun ht H1 e1 => do_nil (h2 ht H1 e1)
/-- the test is false: what follows goes on -/
theorem do_not {A : List Stmt} (hc : EvT X c σ H false) (h2 : ∀ H1, Ex H H1 → Do X rest De σ H1) : Do X (.If c A [] pos :: rest) De σ H :=
  do_when hc (fun h => by cases h) fun _ => h2
/-- a call for its effect alone that leaves all as it was -/
theorem do_expr (he : EvE X e σ H d) (k : ∀ H1, Ex H H1 → Do X rest De σ H1) (hw : swapsWith e none pos.line X.env = pure false := by rfl) : Do X (.Expr e pos :: rest) De σ H :=
  do_st (of_ps (ps_expr pe_sem hw) (he H (Ex.refl H) _ fun v H1 e1 _ => k H1 e1))
/-- a, b = e1, e2 of plain names -/
theorem do_par {x y : Str} {px py pt : Pos} {kt k2 pt2} (hc : X.calm = true) (nd : X.N.Nodup) (hs : SR X.K H σ Γ) (ha : EvE X a σ H d1) (hb : EvE X b σ H d2) (n1 : noL d1 = true) (n2 : noL d2 = true) (i : Nat) (j : Nat)
    (k : ∀ σ1 H1, Ex H H1 → SR X.K H1 σ1 ((Γ.set i (some (.py d1))).set j (some (.py d2))) → Do X rest De σ1 H1)
    (hi : X.N[i]? = some x := by rfl) (hj : X.N[j]? = some y := by rfl) (hij : i ≠ j := by decide)
    (hx : X.env.scope.names.lookup x = some .local := by rfl) (hy : X.env.scope.names.lookup y = some .local := by rfl)
    (hw : swappedStores [.Tuple [.Name x px, .Name y py] kt pt] (.Tuple [a, b] k2 pt2) X.env = pure (some [x, y]) := by rfl)
    (hsw : swapsWithSole [.Tuple [.Name x px, .Name y py] kt pt] (.Tuple [a, b] k2 pt2) pos.line X.env = pure false := by rfl)
    (s1 : starEach [a, b] X.env = (false, eval a X.env) :: starEach [b] X.env := by rfl) (s2 : starEach [b] X.env = (false, eval b X.env) :: starEach [] X.env := by rfl) :
    Do X (.Assign [.Tuple [.Name x px, .Name y py] kt pt] (.Tuple [a, b] k2 pt2) pos :: rest) De σ H :=
  do_st (of_ps (ps_par hc nd hi hj hij hx hy pa_sem hw hsw) ((ea_cons ha (ea_cons hb ea_nil s2) s1) H (Ex.refl H) _ fun vs H1 e1 hvs => by
    cases hvs with
    | cons h1 r =>
      cases r with
      | cons h2 r =>
        cases r
        exact ⟨_, _, rfl, k _ H1 e1 (((hs.ex e1).set_py h1 n1 i).set_py h2 n2 j)⟩))
/-- targets that are plain names -/
def gNames : List Nat → TGs
  | [] => gNil
  | i :: is => gCons (gName i) (gNames is)
theorem gNames_run {K : PySem.W.Frag} : ∀ (is : List Nat) (vs : List V) (ds : List D) (σ : L2.St) (H : Hp) (Γ : List (Option Sl)) (Q : L2.St → Hp → Prop), SR K H σ Γ → DpAll K H vs ds → noLs ds = true → is.length = ds.length →
    (∀ σ1, SR K H σ1 ((is.zip ds).foldl (fun G p => G.set p.1 (some (.py p.2))) Γ) → Q σ1 H) → gNames is vs σ H Q
  | [], _, [], σ, H, Γ, Q, hs, .nil, _, _, q => ⟨rfl, q σ hs⟩
  | [], _, _ :: _, _, _, _, _, _, _, _, hl, _ => by simp at hl
  | _ :: _, _, [], _, _, _, _, _, _, _, hl, _ => by simp at hl
  | i :: is, _, d :: ds, σ, H, Γ, Q, hs, .cons h r, hn, hl, q => by
    have hn' : (noL d && noLs ds) = true := hn
    rw [Bool.and_eq_true] at hn'
    exact ⟨_, _, rfl, gNames_run is _ ds _ H _ Q (hs.set_py h hn'.1 i) r hn'.2 (by simpa using hl) q⟩
theorem pgs_names (nd : X.N.Nodup) : ∀ {ts : List Expr} {is : List Nat} (h : Paired (fun t i => ∃ x p, t = Expr.Name x p ∧ X.N[i]? = some x ∧ X.env.scope.names.lookup x = some .local) ts is), PGs X ts (gNames is)
  | _, _, .nil => pgs_nil
  | t :: ts, i :: is, .cons h r => by
    obtain ⟨x, p, rfl, hi, hx⟩ := h
    exact pgs_cons (pg_name nd hi (.inl hx) (.inr hx)) (pgs_names nd r)
/-- (a, b, ..) = e, e a tuple -/
theorem do_unpack {ts : List Expr} {kt : Nat} {pt : Pos} (hc : X.calm = true) (nd : X.N.Nodup) (is : List Nat) (hs : SR X.K H σ Γ) (he : EvE X e σ H (.tuple ds)) (hn : noLs ds = true) (hl : is.length = ds.length)
    (k : ∀ σ1 H1, Ex H H1 → SR X.K H1 σ1 ((is.zip ds).foldl (fun G p => G.set p.1 (some (.py p.2))) Γ) → Do X rest De σ1 H1)
    (ht : Paired (fun t i => ∃ x p, t = Expr.Name x p ∧ X.N[i]? = some x ∧ X.env.scope.names.lookup x = some .local) ts is)
    (hn2 : (assignEach ts X.env).length = is.length := by rfl) (hst : (assignEach ts X.env).findIdx? (·.1) = none := by rfl)
    (hw1 : swapsWithSole [.Tuple ts kt pt] e pos.line X.env = pure false := by rfl) (hw2 : swappedStores [.Tuple ts kt pt] e X.env = pure none := by rfl)
    (h1 : (assignEach [.Tuple ts kt pt] X.env).map (·.2) = [assign (.Tuple ts kt pt) X.env] := by rfl) : Do X (.Assign [.Tuple ts kt pt] e pos :: rest) De σ H :=
  do_st (of_ps (ps_asg pe_sem (pg_tup hc (pgs_names nd ht) hn2 hst) hw1 hw2 h1) (he H (Ex.refl H) _ fun v H1 e1 hv => by
    obtain ⟨p, vs, rfl, h1, h2⟩ := dp_tup hv
    exact ⟨p, vs, rfl, h1, by rw [dps_length h2, hl], gNames_run is vs ds σ H1 Γ _ (hs.ex e1) h2 hn hl fun σ1 hs1 => k σ1 H1 e1 hs1⟩))
/-- xs.append(e) -/
theorem do_app {x : Str} {px apos cpos : Pos} {l : Addr} {vs : List V} (hs : SR X.K H σ Γ) (i : Nat) (hl : H l = some (.lst vs)) (hz : vs.length < 100000) (he : EvE X e σ H d)
    (k : ∀ v H1, Ex H H1 → Dp X.K H1 v d → Do X rest De σ (upd H1 l (.lst (vs ++ [v]))))
    (hg : Γ[i]? = some (some (.at l)) := by rfl) (hN : X.N[i]? = some x := by rfl) (hv : Vis X.env.scope x := by first | exact Or.inl rfl | exact Or.inr (Or.inl rfl) | exact Or.inr (Or.inr rfl)) (hd : (x == ("__debug__" : Str)) = false := by decide)
    (hcd : (x == ("__classdict__" : Str)) = false := by decide) (hw : swapsWith (.Call (.Attribute (.Name x px) "append" apos) [e] [] cpos) none pos.line X.env = pure false := by rfl)
    (hbase : attributeBase (.Name x px) "append" X.env (eval (.Name x px) X.env) = eval (.Name x px) X.env := by rfl)
    (hfew : ((backTo cpos (starEach [e] X.env)).all (fun x => !x.1) && (backToKw cpos (keywordEach [] X.env)).all (fun x => x.1.isSome)
      && decide (([e] : List Expr).length + ([] : List Keyword).length + (if ([] : List Keyword).isEmpty then 0 else 1) < 30)) = true := by rfl)
    (hline : (apos.endLine == cpos.line) = true := by rfl) (hse : starEach [e] X.env = (false, eval e X.env) :: starEach [] X.env := by rfl) (hplain : (backTo cpos (starEach [] X.env)).any (·.1) = false := by rfl) :
    Do X (.Expr (.Call (.Attribute (.Name x px) "append" apos) [e] [] cpos) pos :: rest) De σ H :=
  do_st (of_ps (ps_expr (pe_bm PySem.F.plainAttrs_list PySem.F.slot_list_append PySem.F.type_list_append mt_append (pe_var hN hv hd hcd) (pa_cons pe_sem pa_nil hse) hbase hfew hline hse hplain) hw)
    ⟨_, hs.get_at hg, .inl ⟨rfl, vs, SqL.of hl⟩, he H (Ex.refl H) _ fun v H1 e1 hv => ⟨l, vs, v, rfl, rfl, e1 l _ hl, sz_lt hz, k v H1 e1 hv⟩⟩)
end
/-! ### calls of the program's defs -/
structure Fn (P : Program) (w : World) (K : PySem.W.Frag) (mg : Str → Option Value) (base : Heap) (k : Nat) (x : Str) (ps : List Str) (sp : Sp) : Prop where
  ex : ∃ f fd, FnOk P w K mg base CX0 k f fd ps sp ∧ PySem.W.keepIn K (.ref f) = true ∧ Binds K fd ps [] ∧ mg x = some (.ref f)
theorem Fn.mono {P : Program} {w : World} {K : PySem.W.Frag} {mg : Str → Option Value} {base : Heap} {j k : Nat} {x : Str} {ps : List Str} {sp : Sp} (F : Fn P w K mg base j x ps sp) (h : j ≤ k) : Fn P w K mg base k x ps sp := by
  obtain ⟨f, fd, a, b⟩ := F.ex
  exact ⟨f, fd, a.mono h, b⟩
/-- a promise over data: args x the arguments, f x the answer -/
def spP {ι : Type} (K : PySem.W.Frag) (args : ι → List D) (pre : ι → Prop) (f : ι → D) : Sp := fun vs H Q _ => ∃ x, pre x ∧ DpAll K H vs (args x) ∧ ∀ v H', Ex H H' → Dp K H' v (f x) → Q v H'
section
variable {X : Cx} {e : Expr} {es : List Expr} {σ : L2.St} {H : Hp} {d : D} {ds : List D} {pos p : Pos} {x : Str} {k j : Nat} {ps : List Str} {sp : Sp}
theorem ee_callS (G : Fn X.prog X.w X.K X.mg X.base j x ps sp) (hr : Room k X.A) (ha : EvA X (e :: es) σ H ds)
    (hs : ∀ vs H1, Ex H H1 → DpAll X.K H1 vs ds → ∀ Q : VK, (∀ v H2, Ex H1 H2 → Dp X.K H2 v d → Q v H2) → sp vs H1 Q E0) (hj : j ≤ k := by decide)
    (hg : Gl X x := by rfl) (hdb : (x == ("__debug__" : Str)) = false := by decide) (he : starEach (e :: es) X.env = (false, eval e X.env) :: starEach es X.env := by rfl) (hpl : (backTo pos (starEach es X.env)).any (·.1) = false := by rfl) :
    EvE X (.Call (.Name x p) (e :: es) [] pos) σ H d := fun H1 e1 Q q => by
  obtain ⟨f, fd, F, kp, hb, hm⟩ := G.ex
  refine of_pe (pe_call F (hr.mono hj) hg hm kp hb .nil pass0 pa_sem hdb he hpl) (ha H1 e1 _ fun vs H2 e2 hvs => ?_)
  show sp (vs ++ []) H2 Q E0
  rw [List.append_nil]
  exact hs vs H2 (e1.trans e2) hvs Q fun v H3 e3 hv => q v H3 (e2.trans e3) hv
theorem ee_call {ι : Type} {args : ι → List D} {pre : ι → Prop} {f : ι → D} (G : Fn X.prog X.w X.K X.mg X.base j x ps (spP X.K args pre f)) (hr : Room k X.A) (y : ι) (ha : EvA X (e :: es) σ H (args y)) (hp : pre y) (hj : j ≤ k := by decide)
    (hg : Gl X x := by rfl) (hdb : (x == ("__debug__" : Str)) = false := by decide) (he : starEach (e :: es) X.env = (false, eval e X.env) :: starEach es X.env := by rfl) (hpl : (backTo pos (starEach es X.env)).any (·.1) = false := by rfl) :
    EvE X (.Call (.Name x p) (e :: es) [] pos) σ H (f y) :=
  ee_callS G hr ha (fun vs H1 _ hvs Q q => ⟨y, hp, hvs, q⟩) hj hg hdb he hpl
end
/-- a def of the top keeps its promise -/
theorem fn_ok {P : Program} {w : World} {K : PySem.W.Frag} {mg : Str → Option Value} {base : Heap} {x : Str} {st : Stmt} {N ps : List Str} {k : Nat} {sp : Sp}
    (F : ∃ f fd, FunD K x x (defArgs st) (defBody st) (defScope st) [] [] f fd ∧ mg x = some (.ref f)) (S : FnScope N ps (defScope st))
    (hb : ∀ (kV doc pm : Value) (an : Option Addr) (cdv ct : Value) (us : List Value), us.length = ps.length → bindArgs (PySem.W.fnOf x x (defArgs st) (defBody st) (defScope st) .none kV doc pm an cdv ct) ⟨us, []⟩ = pure (ps.zip us))
    (len : ∀ vs H Q E, sp vs H Q E → vs.length = ps.length)
    (body : ∀ (f : Addr) (cdv : Value) (A : Around) (outer : List Env) (s : Shared) (H : Hp) (vs : List V) (Q : VK) (E : XK), Room k (A.deeper (envOfC x (defScope st) s.heap.objs.size f cdv)) → sp vs H Q E →
      Do (cxOf CX0 P w K mg base N x (defScope st) f cdv A outer s H E).nox (defBody st) { nx := fun _ H' => Q .non H', rt := Q } (start N vs) H) : Fn P w K mg base (k + 1) x ps sp := by
  obtain ⟨f, fd, F, hm⟩ := F
  exact ⟨f, fd, F.ok S len fun cdv A outer s H vs Q E hr h => ⟨_, PSs.nox pss_sem, body f cdv A outer s H vs Q E hr h⟩, F.kp, F.bindsN hb, hm⟩
theorem sp_len {ι : Type} {K : PySem.W.Frag} {args : ι → List D} {pre : ι → Prop} {f : ι → D} {n : Nat} (h : ∀ x, (args x).length = n) : ∀ vs H Q E, spP K args pre f vs H Q E → vs.length = n := fun vs H Q E hs => by
  obtain ⟨x, _, hd, _⟩ := hs
  rw [dps_length hd, h]
end K30
namespace K30
open PySem PySem.Spec PyProof.Rows L2 Evl RZ
/-! ### what may change -/
/-- only what is at S may change -/
def Ch (S : List Addr) (H H' : Hp) : Prop := ∀ b o, b ∉ S → H b = some o → H' b = some o
theorem Ch.refl (S : List Addr) (H : Hp) : Ch S H H := fun _ _ _ h => h
theorem Ch.trans {S : List Addr} {H H1 H2 : Hp} (a : Ch S H H1) (b : Ch S H1 H2) : Ch S H H2 := fun x o hx h => b x o hx (a x o hx h)
theorem Ch.ex {S : List Addr} {H H' : Hp} (e : Ex H H') : Ch S H H' := fun x o _ h => e x o h
theorem Ch.nil {H H' : Hp} (c : Ch [] H H') : Ex H H' := fun b o h => c b o (by simp) h
theorem Ch.upd {S : List Addr} {H : Hp} {l : Addr} {o : HO} (h : l ∈ S) : Ch S H (upd H l o) := fun x q hx e => by
  rw [upd_ne (fun z => hx (by rw [z]; exact h))]; exact e
theorem Ch.tx {S : List Addr} {H H' : Hp} (hS : ∀ a ∈ S, ∃ o, H a = some o ∧ NT o) (c : Ch S H H') : TX H H' := fun a xs =>
  ⟨fun h => c a _ (fun z => by obtain ⟨o, e, n⟩ := hS a z; rw [h] at e; cases e; exact n) h, fun q h => c a _ (fun z => by obtain ⟨o, e, n⟩ := hS a z; rw [h] at e; cases e; exact n) h⟩
theorem Ch.mono {S T : List Addr} {H H' : Hp} (h : ∀ a ∈ S, a ∈ T) (c : Ch S H H') : Ch T H H' := fun x o hx => c x o fun z => hx (h x z)
/-- the list at p holds ds -/
def LsAt (K : PySem.W.Frag) (H : Hp) (p : Addr) (ds : List D) : Prop := ∃ vs, H p = some (.lst vs) ∧ DpAll K H vs ds
theorem LsAt.ex {K : PySem.W.Frag} {H H' : Hp} {p : Addr} {ds : List D} (e : Ex H H') (h : LsAt K H p ds) : LsAt K H' p ds := by
  obtain ⟨vs, h1, h2⟩ := h
  exact ⟨vs, e _ _ h1, dps_ex e _ _ h2⟩
theorem LsAt.ch {K : PySem.W.Frag} {H H' : Hp} {p : Addr} {ds : List D} {S : List Addr} (c : Ch S H H') (t : TX H H') (hp : p ∉ S) (hn : noLs ds = true) (h : LsAt K H p ds) : LsAt K H' p ds := by
  obtain ⟨vs, h1, h2⟩ := h
  exact ⟨vs, c _ _ hp h1, dps_tx t _ _ hn h2⟩
/-! ### more largest readings -/
def tSemG (X : Cx) (t : Expr) : TG := fun v σ H Q => ∀ pins s u, Inv X pins σ H s → RelV v u → wpAny (model X.prog X.w) X.A (assign t X.env u) (fun _ s' => ∃ σ' H', Inv X pins σ' H' s' ∧ Q σ' H') X.xe s
def tSemI (X : Cx) (tg iter : Expr) : TI := fun σ H R => ∀ pins s, Inv X pins σ H s → wpAny (model X.prog X.w) X.A (eval iter X.env) (fun v s1 => wpAny (model X.prog X.w) X.A (pyIter v) (PIE X pins σ tg R) X.xe s1) X.xe s
theorem pg_sem {X : Cx} {t : Expr} : PG X t (tSemG X t) := ⟨fun pins s _ _ v u _ I r h => h pins s u I r⟩
theorem of_pg {X : Cx} {t : Expr} {g : TG} (p : PG X t g) {v : V} {σ : L2.St} {H : Hp} {Q : L2.St → Hp → Prop} (h : g v σ H Q) : tSemG X t v σ H Q := fun pins s u I r => p.run pins s σ H v u Q I r h
theorem pi_sem {X : Cx} {tg iter : Expr} : PI X tg iter (tSemI X tg iter) := ⟨fun pins s _ _ _ I h => h pins s I⟩
theorem of_pi {X : Cx} {tg iter : Expr} {w : TI} (p : PI X tg iter w) {σ : L2.St} {H : Hp} {R : It → Hp → Prop} (h : w σ H R) : tSemI X tg iter σ H R := fun pins s I => p.run pins s σ H R I h
/-! ### targets -/
def setsG (Γ : List (Option Sl)) (us : List (Nat × D)) : List (Option Sl) := us.foldl (fun G u => G.set u.1 (some (.py u.2))) Γ
theorem setsG_append (Γ : List (Option Sl)) (us ws : List (Nat × D)) : setsG Γ (us ++ ws) = setsG (setsG Γ us) ws := by
  unfold setsG
  rw [List.foldl_append]
def TgE (X : Cx) (tg : Expr) (d : D) (us : List (Nat × D)) : Prop := ∀ v σ H Γ Q, SR X.K H σ Γ → Dp X.K H v d → noL d = true →
  (∀ σ', SR X.K H σ' (setsG Γ us) → (∀ vs, (∀ u ∈ us, u.1 ∈ vs) → L2.wipe σ' vs = L2.wipe σ vs) → Q σ' H) → tSemG X tg v σ H Q
def tTg (X : Cx) (us : List (Nat × D)) (ds : List D) : TGs := fun ws σ H Q => ∃ Γ, SR X.K H σ Γ ∧ DpAll X.K H ws ds ∧ noLs ds = true ∧
  (∀ σ', SR X.K H σ' (setsG Γ us) → (∀ vs, (∀ u ∈ us, u.1 ∈ vs) → L2.wipe σ' vs = L2.wipe σ vs) → Q σ' H)
def TgsE (X : Cx) (ts : List Expr) (ds : List D) (us : List (Nat × D)) : Prop := PGs X ts (tTg X us ds)
theorem wipe_set {σ : L2.St} {vs : List Nat} {j : Nat} {o : Option V} (hj : j ∈ vs) : L2.wipe (σ.set j o) vs = L2.wipe σ vs :=
  wipe_eq (by rw [List.length_set]) fun i hi => by rw [List.getElem?_set_ne (fun e => hi (by rw [← e]; exact hj))]
theorem tg_name {X : Cx} {x : Str} {pos : Pos} {d : D} (nd : X.N.Nodup) (i : Nat) (hi : X.N[i]? = some x := by rfl) (hx : Loc X.env.scope x := by first | exact Or.inl rfl | exact Or.inr rfl)
    (hf : X.fn x = true ∨ X.env.scope.names.lookup x = some .local := by first | exact .inl rfl | exact .inr rfl) : TgE X (.Name x pos) d [(i, d)] := fun v σ H Γ Q hs hd hn q =>
  of_pg (pg_name nd hi hx hf) (q _ (hs.set_py hd hn i) fun vs hv => wipe_set (hv _ (List.mem_singleton.mpr rfl)))
theorem tgs_nil {X : Cx} : TgsE X [] [] [] := ⟨fun pins s σ H vs us Q I r h => by
  obtain ⟨Γ, hs, hd, _, q⟩ := h
  cases hd
  exact pgs_nil.run pins s σ H [] us Q I r ⟨rfl, q σ hs fun _ _ => rfl⟩⟩
theorem tgs_cons {X : Cx} {t : Expr} {ts : List Expr} {d : D} {ds : List D} {us ws : List (Nat × D)} (h : TgE X t d us) (r : TgsE X ts ds ws)
    (hs : (assignEach (t :: ts) X.env).map (·.2) = assign t X.env :: (assignEach ts X.env).map (·.2) := by rfl) : TgsE X (t :: ts) (d :: ds) (us ++ ws) := ⟨fun pins s σ H vs us' Q I rel hh => by
  obtain ⟨Γ, hs', hd, hn, q⟩ := hh
  have hn' : (noL d && noLs ds) = true := hn
  rw [Bool.and_eq_true] at hn'
  cases hd with
  | cons h1 h2 =>
    refine (pgs_cons pg_sem r hs).run pins s σ H _ us' Q I rel ⟨_, _, rfl, h _ σ H Γ _ hs' h1 hn'.1 fun σ1 hs1 hw1 => ⟨_, hs1, h2, hn'.2, fun σ2 hs2 hw2 => q σ2 (by rw [setsG_append]; exact hs2) fun vs hv => ?_⟩⟩
    rw [hw2 vs (fun u hu => hv u (List.mem_append_right _ hu)), hw1 vs (fun u hu => hv u (List.mem_append_left _ hu))]⟩
theorem tg_tup {X : Cx} {ts : List Expr} {ds : List D} {us : List (Nat × D)} {k : Nat} {pos : Pos} (hc : X.calm = true) (h : TgsE X ts ds us) (hl : ts.length = ds.length := by rfl)
    (hn : (assignEach ts X.env).length = ts.length := by rfl) (hst : (assignEach ts X.env).findIdx? (·.1) = none := by rfl) : TgE X (.Tuple ts k pos) (.tuple ds) us := fun v σ H Γ Q hs hd hn' q => by
  obtain ⟨a, vs, rfl, h1, h2⟩ := dp_tup hd
  exact of_pg (pg_tup hc h hn hst) ⟨a, vs, rfl, h1, by rw [dps_length h2, hl], Γ, hs, h2, hn', q⟩
/-! ### what is walked -/
def Hold (src : List (Addr × HO)) (H : Hp) : Prop := ∀ q ∈ src, H q.1 = some q.2
theorem Hold.one {p : Addr} {vs : HO} {H : Hp} (h : H p = some vs) : Hold [(p, vs)] H := fun q hq => by
  have := List.mem_singleton.mp hq
  subst this
  exact h
theorem Hold.get {p : Addr} {vs : HO} {H : Hp} (h : Hold [(p, vs)] H) : H p = some vs := h _ List.mem_cons_self
theorem Hold.nil {H : Hp} : Hold [] H := fun _ h => by cases h
structure ItW (K : PySem.W.Frag) (J : It) (src : List (Addr × HO)) (H2 : Hp) (ds : List D) : Prop where
  walk : Walk J ds.length (fun H3 => TX H2 H3 ∧ Hold src H3) (fun i H x H' => Ex H H' ∧ ∃ d, ds[i]? = some d ∧ Dp K H' x d)
def EvI (X : Cx) (tg e : Expr) (σ : L2.St) (H : Hp) (own : List Addr) (ds : List D) : Prop := ∀ H1, Ex H H1 → ∀ R : It → Hp → Prop,
  (∀ J src H2, Ex H1 H2 → Hold src H2 → (∀ q ∈ src, H1 q.1 = none ∨ q.1 ∈ own) → ItW X.K J src H2 ds → R J H2) → tSemI X tg e σ H1 R
section
variable {X : Cx} {tg e : Expr} {es : List Expr} {σ : L2.St} {H : Hp} {ds : List D} {Γ : List (Option Sl)} {pos : Pos}
theorem ei_tup (he : EvE X e σ H (.tuple ds)) (hn : noLs ds = true) : EvI X tg e σ H [] ds := fun H1 e1 R q =>
  of_pi (pi_tup pe_sem) (he H1 e1 _ fun v H2 e2 hv => by
    obtain ⟨a, vs, rfl, h1, h2⟩ := dp_tup hv
    refine ⟨a, rfl, ⟨vs, h1⟩, q (Itt X.K a) [] H2 e2 Hold.nil (fun _ h => by cases h) ⟨?_⟩⟩
    rw [← dps_length h2]
    refine walk_tup.mono (fun H3 h3 => tx_t h3.1 h1) fun i H3 x H4 hi h3 y => ?_
    obtain ⟨rfl, y⟩ := y
    obtain ⟨d, h5, h6⟩ := dps_get' (dps_tx h3.1 _ _ hn h2) y
    exact ⟨Ex.refl _, d, h5, h6⟩)
theorem ei_listAt {p : Addr} {vs : List V} (h2 : DpAll X.K H vs ds) (hn : noLs ds = true) : ItW X.K (Itl X.K p) [(p, .lst vs)] H ds := by
  constructor
  rw [← dps_length h2]
  refine walk_list.mono (fun H3 h3 => SqL.of h3.2.get) fun i H3 x H4 hi h3 y => ?_
  obtain ⟨rfl, y⟩ := y
  obtain ⟨d, h5, h6⟩ := dps_get' (dps_tx h3.1 _ _ hn h2) y
  exact ⟨Ex.refl _, d, h5, h6⟩
theorem ei_new (he : EvN X e σ H ds) (hn : noLs ds = true) : EvI X tg e σ H [] ds := fun H1 e1 R q =>
  of_pi (pi_list pe_sem) (he H1 e1 _ fun p vs H2 hp e2 h1 h2 =>
    ⟨p, rfl, ⟨vs, SqL.of h1⟩, q (Itl X.K p) [(p, .lst vs)] H2 e2 (.one h1) (fun q' hq => by have := List.mem_singleton.mp hq; subst this; exact .inl hp) (ei_listAt h2 hn)⟩)
/-- a list that a name holds -/
theorem ei_slot {x : Str} {l : Addr} (hs : SR X.K H σ Γ) (i : Nat) (hl : LsAt X.K H l ds) (hn : noLs ds = true) (hg : Γ[i]? = some (some (.at l)) := by rfl) (hN : X.N[i]? = some x := by rfl)
    (hv : Vis X.env.scope x := by first | exact Or.inl rfl | exact Or.inr (Or.inl rfl) | exact Or.inr (Or.inr rfl)) (hd : (x == ("__debug__" : Str)) = false := by decide)
    (hcd : (x == ("__classdict__" : Str)) = false := by decide) : EvI X tg (.Name x pos) σ H [l] ds := fun H1 e1 R q => by
  obtain ⟨vs, hl, hd'⟩ := hl
  exact   of_pi (pi_list (pe_var hN hv hd hcd)) ⟨_, hs.get_at hg, l, rfl, ⟨vs, SqL.of (e1 _ _ hl)⟩, q (Itl X.K l) [(l, .lst vs)] H1 (Ex.refl H1) (.one (e1 _ _ hl)) (fun q' hq => by have := List.mem_singleton.mp hq; subst this; exact .inr List.mem_cons_self) (ei_listAt (dps_ex e1 _ _ hd') hn)⟩
theorem range_ds (lo : Int) (n i : Nat) (h : i < n) : ((List.range n).map fun j => PyData.int (lo + (j : Nat)))[i]? = some (PyData.int (lo + i)) := by
  rw [List.getElem?_map, List.getElem?_range h]
  rfl
/-- range(n) -/
theorem ei_range {n : Int} {p : Pos} (ha : EvE X e σ H (.int n)) (hm : X.mg "range" = none) (hn : -(2 ^ 62) ≤ n ∧ n < 2 ^ 62) (hg : Gl X "range" := by rfl) (hs : starEach [e] X.env = [(false, eval e X.env)] := by rfl)
    (hsE : starEach (e :: []) X.env = (false, eval e X.env) :: starEach [] X.env := by rfl) : EvI X tg (.Call (.Name "range" p) [e] [] pos) σ H [] ((List.range n.toNat).map fun j => PyData.int (j : Nat)) := fun H1 e1 R q =>
  of_pi (pi_range1 hg hm pa_sem hs) ((ea_cons ha ea_nil hsE) H1 e1 _ fun vs H2 e2 hvs => by
    cases hvs with
    | cons h r =>
      cases r
      cases h
      refine ⟨n, rfl, hn.1, hn.2, q _ [] H2 e2 Hold.nil (fun _ h => by cases h) ⟨?_⟩⟩
      rw [List.length_map, List.length_range]
      refine walk_range.mono (fun _ _ => trivial) fun i H3 x H4 hi h3 y => ?_
      obtain ⟨rfl, rfl⟩ := y
      refine ⟨Ex.refl _, .int (i : Nat), ?_, ?_⟩
      · have := range_ds 0 n.toNat i hi
        simpa using this
      · show Dp X.K H4 (V.int (0 + (i : Nat))) (.int (i : Nat))
        rw [Int.zero_add]
        exact .int _)
/-- pairs of two lists -/
def enumD (ds : List D) : List D := ds.mapIdx fun i d => PyData.tuple [.int (i : Nat), d]
theorem enum_get {i : Nat} {d : D} (h : ds[i]? = some d) : (enumD ds)[i]? = some (.tuple [.int (i : Nat), d]) := by
  unfold enumD
  rw [List.getElem?_mapIdx, h]
  rfl
theorem enum_nol (hn : noLs ds = true) : noLs (enumD ds) = true := by
  rw [noLs_mem] at hn ⊢
  intro d hd
  unfold enumD at hd
  rw [List.mem_mapIdx] at hd
  obtain ⟨i, hi, rfl⟩ := hd
  show (true && (noL _ && true)) = true
  rw [hn _ (List.getElem_mem hi)]
  rfl
theorem pair_at {K : PySem.W.Frag} {H1 : Hp} {T : Addr} {x y : V} {d1 d2 : D} (hT : H1 T = none) (h1 : Dp K H1 x d1) (h2 : Dp K H1 y d2) : Ex H1 (upd H1 T (.tup [x, y])) ∧ Dp K (upd H1 T (.tup [x, y])) (.ref T) (.tuple [d1, d2]) :=
  ⟨Ex.new hT, .tup (SqT.of upd_same) (.cons (dp_ex (Ex.new hT) _ _ h1) (.cons (dp_ex (Ex.new hT) _ _ h2) .nil))⟩
theorem itw_enum {p : Addr} {vs : List V} (h2 : DpAll X.K H vs ds) (hn : noLs ds = true) : ItW X.K (Ite X.K p) [(p, .lst vs)] H (enumD ds) := by
  constructor
  rw [show (enumD ds).length = vs.length by rw [dps_length h2]; unfold enumD; rw [List.length_mapIdx]]
  refine walk_enum.mono (fun H3 h3 => SqL.of h3.2.get) fun i H3 x H4 hi h3 y => ?_
  obtain ⟨T, x1, y1, rfl, hT, rfl, e1, e2⟩ := y
  obtain ⟨d, h5, h6⟩ := dps_get' (dps_tx h3.1 _ _ hn h2) e2
  have e1 : V.int (i : Nat) = x1 := by simpa using e1
  subst e1
  exact ⟨(pair_at hT (.int _) h6).1, _, enum_get h5, (pair_at hT (.int _) h6).2⟩
/-- enumerate(list) -/
theorem ei_enum {elts : List Expr} {kk : Nat} {tpos p : Pos} {l : Addr} {x : Str} {px : Pos} (hm : X.mg "enumerate" = none) (hs : SR X.K H σ Γ) (i : Nat) (hl : LsAt X.K H l ds) (hn : noLs ds = true) (hg : Γ[i]? = some (some (.at l)) := by rfl) (hN : X.N[i]? = some x := by rfl)
    (hv : Vis X.env.scope x := by first | exact Or.inl rfl | exact Or.inr (Or.inl rfl) | exact Or.inr (Or.inr rfl)) (hd : (x == ("__debug__" : Str)) = false := by decide)
    (hcd : (x == ("__classdict__" : Str)) = false := by decide) (hg2 : Gl X "enumerate" := by rfl) (hs2 : starEach [.Name x px] X.env = [(false, eval (.Name x px) X.env)] := by rfl)
    (hsE : starEach (.Name x px :: []) X.env = (false, eval (.Name x px) X.env) :: starEach [] X.env := by rfl) : EvI X (.Tuple elts kk tpos) (.Call (.Name "enumerate" p) [.Name x px] [] pos) σ H [l] (enumD ds) := fun H1 e1 R q => by
  obtain ⟨vs, hl, hd'⟩ := hl
  exact   of_pi (pi_enum hg2 hm (pa_cons (pe_var hN hv hd hcd) pa_nil hsE) hs2) ⟨_, hs.get_at hg, l, vs, rfl, SqL.of (e1 _ _ hl), q (Ite X.K l) [(l, .lst vs)] H1 (Ex.refl H1) (.one (e1 _ _ hl)) (fun q' hq => by have := List.mem_singleton.mp hq; subst this; exact .inr List.mem_cons_self) (itw_enum (dps_ex e1 _ _ hd') hn)⟩
def zipD (as bs : List D) : List D := (as.zip bs).map fun p => PyData.tuple [p.1, p.2]
theorem zip_get {as bs : List D} {i : Nat} {a b : D} (h1 : as[i]? = some a) (h2 : bs[i]? = some b) : (zipD as bs)[i]? = some (.tuple [a, b]) := by
  unfold zipD
  rw [List.getElem?_map, (List.getElem?_zip_eq_some (z := (a, b))).mpr ⟨h1, h2⟩]
  rfl
theorem zip_len {as bs : List D} : (zipD as bs).length = min as.length bs.length := by
  unfold zipD
  rw [List.length_map, List.length_zip]
theorem itw_zipL {as bs : List D} {p1 p2 : Addr} {vs ws : List V} (h1 : DpAll X.K H vs as) (h2 : DpAll X.K H ws bs) (n1 : noLs as = true) (n2 : noLs bs = true) {src : List (Addr × HO)}
    (hh : ∀ H3, TX H H3 → Hold src H3 → SqL X.K H3 p1 vs ∧ SqL X.K H3 p2 ws) : ItW X.K (Itz X.K p1 p2) src H (zipD as bs) := by
  constructor
  refine (walk_zip (by rw [zip_len, dps_length h1, dps_length h2])).mono (fun H3 h3 => hh H3 h3.1 h3.2) fun i H3 x H4 hi h3 y => ?_
  obtain ⟨T, x1, y1, rfl, hT, rfl, e1, e2⟩ := y
  obtain ⟨d, h5, h6⟩ := dps_get' (dps_tx h3.1 _ _ n1 h1) e1
  obtain ⟨d', h7, h8⟩ := dps_get' (dps_tx h3.1 _ _ n2 h2) e2
  exact ⟨(pair_at hT h6 h8).1, _, zip_get h5 h7, (pair_at hT h6 h8).2⟩
theorem itw_zipT {as bs : List D} {p1 p2 : Addr} {vs ws : List V} (h1 : DpAll X.K H vs as) (h2 : DpAll X.K H ws bs) (n1 : noLs as = true) (n2 : noLs bs = true) (s1 : SqT X.K H p1 vs) (s2 : SqT X.K H p2 ws) : ItW X.K (ItzT X.K p1 p2) [] H (zipD as bs) := by
  constructor
  have hl : (zipD as bs).length = min vs.length ws.length := by rw [zip_len, dps_length h1, dps_length h2]
  refine ⟨fun i H3 hi h3 => ?_, fun H3 h3 => ⟨vs, ws, tx_t h3.1 s1, tx_t h3.1 s2, by omega⟩, fun i H3 v H4 hi h3 y => ?_⟩
  · have a1 : i < vs.length := by omega
    have a2 : i < ws.length := by omega
    exact ⟨vs, ws, vs[i], ws[i], tx_t h3.1 s1, tx_t h3.1 s2, by simp [a1], by simp [a2]⟩
  · obtain ⟨T, x1, y1, rfl, hT, rfl, e1, e2⟩ := y
    obtain ⟨d, h5, h6⟩ := dps_get' (dps_tx h3.1 _ _ n1 h1) (e1 vs (tx_t h3.1 s1))
    obtain ⟨d', h7, h8⟩ := dps_get' (dps_tx h3.1 _ _ n2 h2) (e2 ws (tx_t h3.1 s2))
    exact ⟨(pair_at hT h6 h8).1, _, zip_get h5 h7, (pair_at hT h6 h8).2⟩
theorem zip_nol {as bs : List D} (n1 : noLs as = true) (n2 : noLs bs = true) : noLs (zipD as bs) = true := by
  rw [noLs_mem] at n1 n2 ⊢
  intro d hd
  unfold zipD at hd
  rw [List.mem_map] at hd
  obtain ⟨⟨a, b⟩, hm, rfl⟩ := hd
  have := List.of_mem_zip hm
  show (noL a && (noL b && true)) = true
  rw [n1 a this.1, n2 b this.2]
  rfl
/-- zip of two tuples -/
theorem ei_zipT {e2 : Expr} {elts : List Expr} {kk : Nat} {tpos p : Pos} {as bs : List D} (hm : X.mg "zip" = none) (ha : EvE X e σ H (.tuple as)) (hb : EvE X e2 σ H (.tuple bs)) (n1 : noLs as = true) (n2 : noLs bs = true)
    (hg : Gl X "zip" := by rfl) (hpl : (backTo pos (starEach [e2] X.env)).any (·.1) = false := by rfl)
    (s1 : starEach [e, e2] X.env = (false, eval e X.env) :: starEach [e2] X.env := by rfl) (s2 : starEach [e2] X.env = (false, eval e2 X.env) :: starEach [] X.env := by rfl) :
    EvI X (.Tuple elts kk tpos) (.Call (.Name "zip" p) [e, e2] [] pos) σ H [] (zipD as bs) := fun H1 e1 R q =>
  of_pi (pi_zipA hg hm pa_sem s1 hpl) ((ea_cons ha (ea_cons hb ea_nil s2) s1) H1 e1 _ fun vs H2 e2 hvs => by
    cases hvs with
    | cons h1 r =>
      cases r with
      | cons h2 r =>
        cases r
        obtain ⟨p1, xs, rfl, a1, a2⟩ := dp_tup h1
        obtain ⟨p2, ys, rfl, b1, b2⟩ := dp_tup h2
        exact ⟨p1, p2, xs, ys, rfl, .inr ⟨a1, b1, q _ [] H2 e2 Hold.nil (fun _ h => by cases h) (itw_zipT a2 b2 n1 n2 a1 b1)⟩⟩)
end
/-! ### comprehensions -/
def AllB (X : Cx) (scope : Scope) (P : Cx → Prop) : Prop := ∀ (s : Shared) (H : Hp) (C : Addr) (cl : List (Str × Addr)) (fp : List Addr), P (X.blk s H scope (compEnvC scope cl C X.env) fp)
def LcP (X : Cx) (elt tg iter : Expr) (ifs : List Expr) (scope : Scope) (own : List (Str × Nat)) (σ : L2.St) (H : Hp) (ds : List D) : Prop := ∃ wi g tt te, PI X tg iter wi ∧ BlkOk X.N X.env.scope scope own ∧
  (AllB X scope fun B => PG B tg g) ∧ (AllB X scope fun B => PTs B ifs tt) ∧ (AllB X scope fun B => PE B elt te) ∧
  ∀ H1, Ex H H1 → ∀ Q : VK, (∀ p vs H2, H1 p = none → Ex H1 H2 → H2 p = some (.lst vs) → DpAll X.K H2 vs ds → Q (.ref p) H2) → tLc wi g tt te (own.map (·.2)) σ H1 Q
section
variable {X : Cx} {tg iter elt : Expr} {ifs : List Expr} {scope : Scope} {own : List (Str × Nat)} {σ : L2.St} {H : Hp} {ds : List D} {Γ : List (Option Sl)} {pos spos : Pos} {rest : List Stmt} {De : Ends}
theorem en_lc (hc : X.calm = true) (nd : X.N.Nodup) (h : LcP X elt tg iter ifs scope own σ H ds) (hs : ∀ x, foldedSetIterable iter X.env x = pure x := by intro _; rfl) : EvN X (.ListComp elt [⟨tg, iter, ifs, 0⟩] scope pos) σ H ds := fun H1 e1 Q q => by
  obtain ⟨wi, g, tt, te, hi, ok, hg, ht, he, h⟩ := h
  exact of_pe (pe_lc hc nd hi ok hg ht he hs) (h H1 e1 Q q)
/-- name = [..] -/
theorem do_setLc {y : Str} {py : Pos} (hc : X.calm = true) (nd : X.N.Nodup) (i : Nat) (hsr : SR X.K H σ Γ) (h : LcP X elt tg iter ifs scope own σ H ds)
    (k : ∀ p vs σ1 H1, H p = none → Ex H H1 → H1 p = some (.lst vs) → DpAll X.K H1 vs ds → SR X.K H1 σ1 (Γ.set i (some (.at p))) → Do X rest De σ1 H1)
    (hy : X.N[i]? = some y := by rfl) (hyl : X.env.scope.names.lookup y = some .local := by rfl)
    (hsw : swapsWith (.ListComp elt [⟨tg, iter, ifs, 0⟩] scope pos) (some (.Name y py)) spos.line X.env = pure true := by rfl) (hs : ∀ x, foldedSetIterable iter X.env x = pure x := by intro _; rfl) :
    Do X (.Assign [.Name y py] (.ListComp elt [⟨tg, iter, ifs, 0⟩] scope pos) spos :: rest) De σ H := by
  obtain ⟨wi, g, tt, te, hi, ok, hg, ht, he, h⟩ := h
  exact do_st (of_ps (ps_setLc hc nd hy hyl hsw hi ok hg ht he hs) (h H (Ex.refl H) _ fun p vs H2 hp e2 h2 hd => k p vs _ H2 hp e2 h2 hd ((hsr.ex e2).set_at i)))
/-- the parts of a comprehension -/
theorem lc_core0 {ι : Type} {xs : List ι} {g : ι → D} {f : ι → D} {kp : ι → Bool} {us : ι → List (Nat × D)} {ow : List Addr} {tt : TT} {te : TE} (ok : BlkOk X.N X.env.scope scope own) (hsr : SR X.K H σ Γ) (hi : EvI X tg iter σ H ow (xs.map g)) (hnd : noLs (xs.map g) = true) (hl : xs.length ≤ 100000)
    (hg : AllB X scope fun B => ∀ x ∈ xs, TgE B tg (g x) (us x)) (hu : ∀ x ∈ xs, ∀ u ∈ us x, u.1 ∈ own.map (·.2))
    (pt : AllB X scope fun B => PTs B ifs tt) (pe : AllB X scope fun B => PE B elt te)
    (ht : ∀ x ∈ xs, ∀ σ' H', Ex H H' → SR X.K H' σ' (setsG (wipeG Γ (own.map (·.2))) (us x)) → ∀ Q : Bool → Hp → Prop, (∀ H2, Ex H' H2 → Q (kp x) H2) → tt σ' H' Q)
    (he : ∀ x ∈ xs, kp x = true → ∀ σ' H', Ex H H' → SR X.K H' σ' (setsG (wipeG Γ (own.map (·.2))) (us x)) → ∀ Q : VK, (∀ v H2, Ex H' H2 → Dp X.K H2 v (f x) → Q v H2) → te σ' H' Q)
    (hn : ∀ x ∈ xs, kp x = true → noL (f x) = true) : LcP X elt tg iter ifs scope own σ H ((xs.filter kp).map f) := by
  refine ⟨tSemI X tg iter, fun v σ H Q => AllB X scope fun B => tSemG B tg v σ H Q, tt, te, pi_sem, ok, fun s H C cl fp => ⟨fun pins s' σ H' v u Q I r h => h s H C cl fp pins s' u I r⟩, pt, pe, fun H1 e1 Q q => ?_⟩
  refine hi H1 e1 _ fun J src H2 e2 ho hsrc W => ?_
  intro L hL
  have key : ∀ H3, Ex H2 H3 → Hold src H3 := fun H3 e3 q hq => e3 _ _ (ho q hq)
  have e02 : Ex H H2 := e1.trans e2
  have hlen : (xs.map g).length = xs.length := List.length_map _
  refine lc_it (g := fun v σ H Q => AllB X scope fun B => tSemG B tg v σ H Q) (tt := tt) (te := te) (vs := own.map (·.2)) (σ := σ) (Qd := fun H => Q (.ref L) H) W.walk (fun i Hc => Ex H2 Hc ∧ ∃ acc, Hc L = some (.lst acc) ∧ DpAll X.K Hc acc (((xs.take i).filter kp).map f))
    ⟨Ex.new hL, [], upd_same, .nil⟩ (fun i Hc _ p => ⟨.ex p.1, key Hc p.1⟩) (fun i v Hc H' hi p y => ?_) (fun Hc p => ?_)
  · obtain ⟨p1, acc, p2, p3⟩ := p
    obtain ⟨y1, d, y2, y3⟩ := y
    rw [List.getElem?_map] at y2
    obtain ⟨x, hx, rfl⟩ := Option.map_eq_some_iff.mp y2
    have hm : x ∈ xs := List.mem_of_getElem? hx
    have nd : noL (g x) = true := noLs_mem.mp hnd _ (List.mem_map.mpr ⟨x, hm, rfl⟩)
    have eH : Ex H H' := e02.trans (p1.trans y1)
    have htk : xs.take (i + 1) = xs.take i ++ [x] := by rw [List.take_add_one, hx]; rfl
    intro s0 H0 C0 cl0 fp0
    refine hg s0 H0 C0 cl0 fp0 x hm v _ H' _ _ ((hsr.ex eH).wipe _) y3 nd fun σ2 hs2 hw => ⟨?_, ?_⟩
    · rw [hw _ (hu x hm)]
      exact wipe_eq (L2.wipe_length _ _) fun j hj => by rw [wipe_get, if_neg hj]
    · refine ht x hm σ2 H' eH hs2 _ fun H3 e3 => ?_
      cases hk : kp x with
      | false =>
        show (if false = true then _ else _)
        rw [if_neg (by decide)]
        refine ⟨p1.trans (y1.trans e3), acc, e3 _ _ (y1 _ _ p2), ?_⟩
        rw [htk, List.filter_append, List.filter_cons_of_neg (by rw [hk]; decide), List.filter_nil, List.append_nil]
        exact dps_ex (y1.trans e3) _ _ p3
      | true =>
        show (if true = true then _ else _)
        rw [if_pos rfl]
        refine he x hm hk σ2 H3 (eH.trans e3) (hs2.ex e3) _ fun v H4 e4 hv => ?_
        have e14 : Ex Hc H4 := y1.trans (e3.trans e4)
        have hL4 := e14 _ _ p2
        have tx : TX H4 (upd H4 L (.lst (acc ++ [v]))) := TX.upd hL4 trivial
        refine ⟨acc, hL4, ?_, ?_, acc ++ [v], upd_same, ?_⟩
        · have h1 := dps_length p3
          have h2 : (((xs.take i).filter kp).map f).length ≤ i := by
            rw [List.length_map]
            exact Nat.le_trans (List.length_filter_le ..) (by rw [List.length_take]; omega)
          exact sz_lt (by omega)
        · intro b o hb
          have hne : b ≠ L := fun z => by rw [z, hL] at hb; cases hb
          rw [upd_ne hne]
          exact e14 _ _ (p1 _ _ hb)
        · rw [htk, List.filter_append, List.filter_cons_of_pos hk, List.filter_nil, List.map_append]
          have hn1 : noLs (((xs.take i).filter kp).map f) = true := noLs_mem.mpr fun z hz => by
            rw [List.mem_map] at hz
            obtain ⟨w, hw, rfl⟩ := hz
            rw [List.mem_filter] at hw
            exact hn w (List.mem_of_mem_take hw.1) hw.2
          exact dps_append (dps_tx tx _ _ hn1 (dps_ex e14 _ _ p3)) (dps_one (dp_tx tx _ _ (hn x hm hk) hv))
  · obtain ⟨p1, acc, p2, p3⟩ := p
    rw [hlen, List.take_length] at p3
    refine q L acc Hc ?_ (e2.trans p1) p2 p3
    cases hx : H1 L with
    | none => rfl
    | some o => rw [e2 _ _ hx] at hL; cases hL
/-- a comprehension without tests, over xs by g -/
theorem lc_allM {ι : Type} {xs : List ι} {g : ι → D} {f : ι → D} {us : ι → List (Nat × D)} {ow : List Addr} (ok : blkC X.N X.env.scope scope own = true) (hsr : SR X.K H σ Γ) (hi : EvI X tg iter σ H ow (xs.map g)) (hnd : noLs (xs.map g) = true) (hl : xs.length ≤ 100000)
    (hg : AllB X scope fun B => ∀ x ∈ xs, TgE B tg (g x) (us x)) (hu : ∀ x ∈ xs, ∀ u ∈ us x, u.1 ∈ own.map (·.2))
    (he : AllB X scope fun B => ∀ x ∈ xs, ∀ σ' H', Ex H H' → SR X.K H' σ' (setsG (wipeG Γ (own.map (·.2))) (us x)) → EvE B elt σ' H' (f x))
    (hn : ∀ x ∈ xs, noL (f x) = true) : LcP X elt tg iter [] scope own σ H (xs.map f) := by
  have := lc_core0 (kp := fun _ => true) (f := f) (tt := tYes) (te := fun σ H Q => AllB X scope fun B => tSem B elt σ H Q) (blkOk_by ok) hsr hi hnd hl hg hu (fun _ _ _ _ _ => pts_nil)
    (fun s H C cl fp => ⟨fun pins s' σ H' Q I h => h s H C cl fp pins s' I⟩) (fun d hd σ' H' e hs Q q => q H' (Ex.refl _))
    (fun d hd _ σ' H' e hs Q q s0 H0 C0 cl0 fp0 => he s0 H0 C0 cl0 fp0 d hd σ' H' e hs H' (Ex.refl _) Q q) (fun d hd _ => hn d hd)
  rw [List.filter_eq_self.mpr (by simp)] at this
  exact this
/-- a comprehension with one test -/
theorem lc_ifM {ι : Type} {xs : List ι} {c : Expr} {g : ι → D} {f : ι → D} {kp : ι → Bool} {us : ι → List (Nat × D)} {ow : List Addr} (ok : blkC X.N X.env.scope scope own = true) (hsr : SR X.K H σ Γ) (hi : EvI X tg iter σ H ow (xs.map g)) (hnd : noLs (xs.map g) = true) (hl : xs.length ≤ 100000)
    (hg : AllB X scope fun B => ∀ x ∈ xs, TgE B tg (g x) (us x)) (hu : ∀ x ∈ xs, ∀ u ∈ us x, u.1 ∈ own.map (·.2))
    (ht : AllB X scope fun B => ∀ x ∈ xs, ∀ σ' H', Ex H H' → SR X.K H' σ' (setsG (wipeG Γ (own.map (·.2))) (us x)) → EvT B c σ' H' (kp x))
    (he : AllB X scope fun B => ∀ x ∈ xs, kp x = true → ∀ σ' H', Ex H H' → SR X.K H' σ' (setsG (wipeG Γ (own.map (·.2))) (us x)) → EvE B elt σ' H' (f x))
    (hn : ∀ x ∈ xs, kp x = true → noL (f x) = true) : LcP X elt tg iter [c] scope own σ H ((xs.filter kp).map f) :=
  lc_core0 (kp := kp) (f := f) (tt := fun σ H Q => AllB X scope fun B => tSemT B c σ H Q) (te := fun σ H Q => AllB X scope fun B => tSem B elt σ H Q) (blkOk_by ok) hsr hi hnd hl hg hu
    (fun s H C cl fp => pts_one ⟨fun pins s' σ H' Q I h => h s H C cl fp pins s' I⟩) (fun s H C cl fp => ⟨fun pins s' σ H' Q I h => h s H C cl fp pins s' I⟩)
    (fun d hd σ' H' e hs Q q s0 H0 C0 cl0 fp0 => ht s0 H0 C0 cl0 fp0 d hd σ' H' e hs H' (Ex.refl _) Q q)
    (fun d hd hk σ' H' e hs Q q s0 H0 C0 cl0 fp0 => he s0 H0 C0 cl0 fp0 d hd hk σ' H' e hs H' (Ex.refl _) Q q) hn
theorem LcP.of_eq {ds' : List D} (h : LcP X elt tg iter ifs scope own σ H ds) (e : ds = ds') : LcP X elt tg iter ifs scope own σ H ds' := e ▸ h
end
/-! ### loops -/
section
variable {X : Cx} {tg iter c : Expr} {body rest : List Stmt} {σ : L2.St} {H : Hp} {ds : List D} {pos : Pos} {De : Ends}
theorem do_for {ι : Type} {xs : List ι} {g : ι → D} {us : ι → List (Nat × D)} {ow : List Addr} (hp : PassesOwn (model X.prog X.w) X.A X.env X.xe) (hc : X.calm = true) (S : List Addr) (Γv : List ι → List (Option Sl)) (Hv : List ι → Hp → Prop)
    (hi : EvI X tg iter σ H ow (xs.map g)) (hnd : noLs (xs.map g) = true) (hS : ∀ a ∈ S, ∃ o, H a = some o ∧ NT o) (how : ∀ a ∈ ow, a ∉ S) (hg : ∀ x ∈ xs, TgE X tg (g x) (us x))
    (hst : ∀ pre H1 H2, Ex H1 H2 → Hv pre H1 → Hv pre H2) (hs0 : SR X.K H σ (Γv [])) (h0 : Hv [] H)
    (hb : ∀ pre x post, xs = pre ++ x :: post → ∀ σ1 H1, Ch S H H1 → TX H H1 → Hv pre H1 → SR X.K H1 σ1 (setsG (Γv pre) (us x)) →
      ∀ N : L2.St → Hp → Prop, (∀ σ2 H2, Ch S H1 H2 → Hv (pre ++ [x]) H2 → SR X.K H2 σ2 (Γv (pre ++ [x])) → N σ2 H2) → Do X body { De with nx := N, ct := N, bk := Do X rest De } σ1 H1)
    (k : ∀ σ1 H1, Ch S H H1 → TX H H1 → Hv xs H1 → SR X.K H1 σ1 (Γv xs) → Do X rest De σ1 H1) (hs : ∀ x, foldedSetIterable iter X.env x = pure x := by intro _; rfl) :
    Do X (.For tg iter body [] pos :: rest) De σ H :=
  do_st (of_ps (ps_for hp hc pi_sem pg_sem pss_sem hs) (hi H (Ex.refl H) _ fun J src H2 e2 ho hsrc W => by
    have hS2 : ∀ a ∈ S, ∃ o, H2 a = some o ∧ NT o := fun a ha => by
      obtain ⟨o, h1, h2⟩ := hS a ha
      exact ⟨o, e2 _ _ h1, h2⟩
    have hoff : ∀ q ∈ src, q.1 ∉ S := fun q hq hm => by
      rcases hsrc q hq with h | h
      · obtain ⟨o, h1, _⟩ := hS _ hm
        rw [h] at h1; cases h1
      · exact how _ h hm
    have hlen : (xs.map g).length = xs.length := List.length_map _
    refine for_it W.walk (fun i σ1 H1 => Ch S H2 H1 ∧ Hv (xs.take i) H1 ∧ SR X.K H1 σ1 (Γv (xs.take i))) ⟨Ch.refl _ _, hst _ _ _ e2 h0, hs0.ex e2⟩
      (fun i σ1 H1 _ p => ⟨p.1.tx hS2, fun q hq => p.1 _ _ (hoff q hq) (ho q hq)⟩) (fun i v σ1 H1 H1' hi' p y => ?_) (fun σ1 H1 p => ?_)
    · obtain ⟨y1, d, y2, y3⟩ := y
      rw [List.getElem?_map] at y2
      obtain ⟨x, hx, rfl⟩ := Option.map_eq_some_iff.mp y2
      have hm : x ∈ xs := List.mem_of_getElem? hx
      have htk : xs.take (i + 1) = xs.take i ++ [x] := by rw [List.take_add_one, hx]; rfl
      have hdr : xs = xs.take i ++ x :: xs.drop (i + 1) := by
        have h1 : xs.drop i = x :: xs.drop (i + 1) := by
          obtain ⟨hlt, rfl⟩ := List.getElem?_eq_some_iff.mp hx
          exact List.drop_eq_getElem_cons hlt
        rw [← h1, List.take_append_drop]
      have c1 : Ch S H2 H1' := p.1.trans (.ex y1)
      have c0 : Ch S H H1' := (Ch.ex e2).trans c1
      refine hg x hm v σ1 H1' _ _ (p.2.2.ex y1) y3 (noLs_mem.mp hnd _ (List.mem_map.mpr ⟨x, hm, rfl⟩)) fun σ2 hs2 _ => ?_
      refine hb _ x _ hdr σ2 H1' c0 (c0.tx hS) (hst _ _ _ y1 p.2.1) hs2 _ fun σ3 H3 c3 hv3 hs3 => ?_
      rw [htk]
      exact ⟨c1.trans c3, hv3, hs3⟩
    · rw [hlen, List.take_length] at p
      have c0 : Ch S H H1 := (Ch.ex e2).trans p.1
      exact k σ1 H1 c0 (c0.tx hS) p.2.1 p.2.2))
theorem do_while {ι : Type} (hp : PassesOwn (model X.prog X.w) X.A X.env X.xe) (S : List Addr) (Γv : ι → List (Option Sl)) (Hv : ι → Hp → Prop) (m : ι → Nat) (t : ι → Bool) (x0 : ι)
    (hS : ∀ a ∈ S, ∃ o, H a = some o ∧ NT o) (hst : ∀ x H1 H2, Ex H1 H2 → Hv x H1 → Hv x H2) (hs0 : SR X.K H σ (Γv x0)) (h0 : Hv x0 H)
    (hc : ∀ x σ1 H1, Ch S H H1 → TX H H1 → Hv x H1 → SR X.K H1 σ1 (Γv x) → EvT X c σ1 H1 (t x))
    (hb : ∀ x σ1 H1, t x = true → Ch S H H1 → TX H H1 → Hv x H1 → SR X.K H1 σ1 (Γv x) →
      ∀ N : L2.St → Hp → Prop, (∀ y σ2 H2, m y < m x → Ch S H1 H2 → Hv y H2 → SR X.K H2 σ2 (Γv y) → N σ2 H2) → Do X body { De with nx := N, ct := N, bk := Do X rest De } σ1 H1)
    (k : ∀ x σ1 H1, t x = false → Ch S H H1 → TX H H1 → Hv x H1 → SR X.K H1 σ1 (Γv x) → Do X rest De σ1 H1) :
    Do X (.While c body [] pos :: rest) De σ H :=
  do_st (of_ps (ps_while hp pt_sem pss_sem) ⟨fun n σ1 H1 => ∃ x, n = m x ∧ Ch S H H1 ∧ Hv x H1 ∧ SR X.K H1 σ1 (Γv x), ⟨m x0, x0, rfl, Ch.refl _ _, h0, hs0⟩, fun n σ1 H1 ⟨x, hn, c1, v1, s1⟩ => by
    subst hn
    refine hc x σ1 H1 c1 (c1.tx hS) v1 s1 H1 (Ex.refl _) _ fun H2 e2 => ?_
    have c2 : Ch S H H2 := c1.trans (.ex e2)
    cases ht : t x with
    | true =>
      rw [if_pos rfl]
      refine ⟨fun σ' H' => ∃ m', m' < m x ∧ ∃ y, m' = m y ∧ Ch S H H' ∧ Hv y H' ∧ SR X.K H' σ' (Γv y), fun σ' H' h => h, ?_⟩
      refine hb x σ1 H2 ht c2 (c2.tx hS) (hst _ _ _ e2 v1) (s1.ex e2) _ fun y σ3 H3 hm c3 v3 s3 => ?_
      exact ⟨m y, hm, y, rfl, c2.trans c3, v3, s3⟩
    | false =>
      rw [if_neg (by decide)]
      exact k x σ1 H2 ht c2 (c2.tx hS) (hst _ _ _ e2 v1) (s1.ex e2)⟩)
end
end K30
namespace K30
open PySem PySem.Spec PyProof.Rows L2 Evl RZ
section
variable {X : Cx} {a b c e o : Expr} {es : List Expr} {σ : L2.St} {H H' : Hp} {d d1 d2 : D} {ds : List D} {Γ : List (Option Sl)} {pos p : Pos} {i j k : Int}
/-! ### arithmetic -/
theorem ee_mul (ha : EvE X a σ H (.int i)) (hb : EvE X b σ H (.int j)) (hc : CMul i j) : EvE X (.BinOp a .Mult b pos) σ H (.int (i * j)) := ee_opC op_mul ha hb hc
theorem ee_fdiv (ha : EvE X a σ H (.int i)) (hb : EvE X b σ H (.int j)) (hc : CDiv i j) : EvE X (.BinOp a .FloorDiv b pos) σ H (.int (i / j)) := ee_opC op_fdiv ha hb hc
theorem ee_mod (ha : EvE X a σ H (.int i)) (hb : EvE X b σ H (.int j)) (hc : 0 < j) : EvE X (.BinOp a .Mod b pos) σ H (.int (i % j)) := ee_opC op_mod ha hb hc
theorem ee_pow (ha : EvE X a σ H (.int i)) (hb : EvE X b σ H (.int j)) (hc : CPow i j) : EvE X (.BinOp a .Pow b pos) σ H (.int (i ^ j.toNat)) := ee_opC op_pow ha hb hc
theorem ee_shl (ha : EvE X a σ H (.int i)) (hb : EvE X b σ H (.int j)) (hc : CPow i j) : EvE X (.BinOp a .LShift b pos) σ H (.int (i * 2 ^ j.toNat)) := ee_opC (g := fun i j => i * 2 ^ j.toNat) op_shl ha hb hc
theorem ee_shr (ha : EvE X a σ H (.int i)) (hb : EvE X b σ H (.int j)) (hc : 0 ≤ j) : EvE X (.BinOp a .RShift b pos) σ H (.int (i / 2 ^ j.toNat)) := ee_opC (C := fun _ j => 0 ≤ j) (g := fun i j => i / 2 ^ j.toNat) op_shr ha hb hc
theorem ee_bor (ha : EvE X a σ H (.int i)) (hb : EvE X b σ H (.int j)) : EvE X (.BinOp a .BitOr b pos) σ H (.int (Builtin.bitOr i j)) := ee_opI op_or ha hb
theorem ee_band (ha : EvE X a σ H (.int i)) (hb : EvE X b σ H (.int j)) : EvE X (.BinOp a .BitAnd b pos) σ H (.int (Builtin.bitAnd i j)) := ee_opI op_and ha hb
/-- i <= j <= k -/
theorem ee_chain (ha : EvE X a σ H (.int i)) (hb : EvE X b σ H (.int j)) (hc : i ≤ j → EvE X c σ H (.int k)) (hm : lastMarks [.LtE, .LtE] [b, c] = false := by rfl) :
    EvE X (.Compare a [.LtE, .LtE] [b, c] pos) σ H (.bool (decide (i ≤ j) && decide (j ≤ k))) := fun H1 e1 Q q =>
  of_pe (pe_chain op_le op_le pe_sem pe_sem pe_sem (hm := hm)) (ha H1 e1 _ fun x H2 e2 hx => hb H2 (e1.trans e2) _ fun y H3 e3 hy => by
    rw [dp_int hx, dp_int hy]
    refine ⟨i, j, rfl, rfl, decide (i ≤ j), rfl, ?_⟩
    by_cases h : i ≤ j
    · rw [if_pos (decide_eq_true h)]
      refine hc h H3 ((e1.trans e2).trans e3) _ fun z H4 e4 hz => ?_
      rw [dp_int hz]
      refine ⟨j, k, rfl, rfl, ?_⟩
      rw [decide_eq_true h, Bool.true_and] at q
      exact q _ H4 ((e2.trans e3).trans e4) (.bl _)
    · rw [if_neg (by rw [decide_eq_false h]; decide)]
      rw [decide_eq_false h, Bool.false_and] at q
      exact q _ H3 (e2.trans e3) (.bl _))
/-! ### built-ins -/
def tyN : D → String
  | .none => "NoneType"
  | .bool _ => "bool"
  | .int _ => "int"
  | .str _ => "str"
  | .list _ => "list"
  | .tuple _ => "tuple"
  | .dict _ => "dict"
theorem dp_ty {K : PySem.W.Frag} {v : V} (h : Dp K H v d) : TyX K H v (.type (tyN d)) := by
  cases h with
  | non => exact .base .non
  | bl x => exact .base (.bl x)
  | int i => exact .base (.int i)
  | str x => exact .base (.str x)
  | lst h _ =>
    rcases h with (h | ⟨o, h⟩) | ⟨o, its, n, h, c, _⟩
    · exact .base (.lst h)
    · exact .base (.frz h)
    · exact .kList h c
  | tup h _ =>
    rcases h with (h | ⟨o, h⟩) | ⟨o, its, n, h, c, _⟩
    · exact .base (.tup h)
    · exact .fTuple h
    · exact .kTuple h c
def isT (T : String) (d : D) : Bool := (kitB (tyN d) T).getD false
theorem kt_all : ∀ n ∈ ["NoneType", "bool", "int", "str", "list", "tuple", "dict"], ∀ T ∈ ["int", "bool", "tuple", "str"], kitB n T = some (((kitB n T).getD false)) := by decide +kernel
theorem kt_val : (∀ n ∈ ["NoneType", "bool", "int", "str", "list", "tuple", "dict"], ((kitB n "int").getD false = (n == "int" || n == "bool")) ∧ ((kitB n "bool").getD false = (n == "bool")) ∧ ((kitB n "tuple").getD false = (n == "tuple")) ∧ ((kitB n "str").getD false = (n == "str"))) := by decide +kernel
theorem tyN_mem : tyN d ∈ ["NoneType", "bool", "int", "str", "list", "tuple", "dict"] := by cases d <;> simp [tyN]
theorem isT_ok (T : String) (hT : T ∈ ["int", "bool", "tuple", "str"]) : kitB (tyN d) T = some (isT T d) := kt_all _ tyN_mem _ hT
theorem isT_int : isT "int" d = (match d with | .int _ => true | .bool _ => true | _ => false) := ((kt_val _ tyN_mem).1).trans (by cases d <;> rfl)
theorem isT_bool : isT "bool" d = (match d with | .bool _ => true | _ => false) := ((kt_val _ tyN_mem).2.1).trans (by cases d <;> rfl)
theorem isT_tuple : isT "tuple" d = (match d with | .tuple _ => true | _ => false) := ((kt_val _ tyN_mem).2.2.1).trans (by cases d <;> rfl)
theorem isT_str : isT "str" d = (match d with | .str _ => true | _ => false) := ((kt_val _ tyN_mem).2.2.2).trans (by cases d <;> rfl)
/-- isinstance(e, T) -/
theorem ee_isi {T : String} {x : Str} {p2 p3 : Pos} (hm : X.mg "isinstance" = none) (hmT : X.mg x = none) (ha : EvE X e σ H d) (hT : T ∈ ["int", "bool", "tuple", "str"] := by decide) (hg : Gl X "isinstance" := by rfl) (hgT : Gl X x := by rfl) (hvT : bootBuiltins x = some (.type T) := by decide +kernel)
    (hn : x ≠ "__name__" := by decide) (hdb : (x == ("__debug__" : Str)) = false := by decide)
    (s1 : starEach [e, .Name x p2] X.env = (false, eval e X.env) :: starEach [.Name x p2] X.env := by rfl) (s2 : starEach [.Name x p2] X.env = (false, eval (.Name x p2) X.env) :: starEach [] X.env := by rfl)
    (hpl : (backTo pos (starEach [.Name x p2] X.env)).any (·.1) = false := by rfl) : EvE X (.Call (.Name "isinstance" p3) [e, .Name x p2] [] pos) σ H (.bool (isT T d)) := fun H1 e1 Q q =>
  of_pe (pe_callB call_isi hg hm (by decide +kernel) (pa_cons pe_sem (pa_cons (pe_bltn (v := V.ty T) hgT hmT hvT rfl hn hdb) pa_nil s2) s1) (by decide) (by decide) s1 hpl)
    (ha H1 e1 _ fun v H2 e2 hv => ⟨v, .ty T, .type (tyN d), .type T, isT T d, rfl, .ty T, dp_ty hv, kit_ty (isT_ok T hT), q _ H2 e2 (.bl _)⟩)
theorem dps1 {K : PySem.W.Frag} {vs : List V} (h : DpAll K H vs [d]) : ∃ v, vs = [v] ∧ Dp K H v d := by
  cases h with
  | cons a r => cases r; exact ⟨_, rfl, a⟩
theorem dps2 {K : PySem.W.Frag} {vs : List V} (h : DpAll K H vs [d1, d2]) : ∃ v w, vs = [v, w] ∧ Dp K H v d1 ∧ Dp K H w d2 := by
  cases h with
  | cons a r =>
    cases r with
    | cons b r => cases r; exact ⟨_, _, rfl, a, b⟩
/-- len -/
theorem ee_lenT (hm : X.mg "len" = none) (ha : EvE X e σ H (.tuple ds)) (hg : Gl X "len" := by rfl) (s1 : starEach [e] X.env = (false, eval e X.env) :: starEach [] X.env := by rfl) : EvE X (.Call (.Name "len" p) [e] [] pos) σ H (.int ds.length) :=
  ee_B call_len_seq hm (ea_cons ha ea_nil s1) (fun vs H1 _ hvs Q q => by
    obtain ⟨v, rfl, h⟩ := dps1 hvs
    obtain ⟨t, ws, rfl, h1, h2⟩ := dp_tup h
    refine ⟨t, ws, rfl, .inr h1, ?_⟩
    rw [dps_length h2]
    exact q _ H1 (Ex.refl _) (.int _)) hg (he := s1)
theorem ee_lenL (hm : X.mg "len" = none) (ha : EvE X e σ H (.list ds)) (hg : Gl X "len" := by rfl) (s1 : starEach [e] X.env = (false, eval e X.env) :: starEach [] X.env := by rfl) : EvE X (.Call (.Name "len" p) [e] [] pos) σ H (.int ds.length) :=
  ee_B call_len_seq hm (ea_cons ha ea_nil s1) (fun vs H1 _ hvs Q q => by
    obtain ⟨v, rfl, h⟩ := dps1 hvs
    obtain ⟨t, ws, rfl, h1, h2⟩ := dp_lst h
    refine ⟨t, ws, rfl, .inl h1, ?_⟩
    rw [dps_length h2]
    exact q _ H1 (Ex.refl _) (.int _)) hg (he := s1)
theorem dps_map_bool {K : PySem.W.Frag} : ∀ {bs : List Bool} {vs : List V}, DpAll K H vs (bs.map PyData.bool) → vs = bs.map V.bl
  | [], _, .nil => rfl
  | _ :: _, _, .cons (.bl _) h => by rw [List.map_cons, ← dps_map_bool h]
/-- all([..]) -/
theorem ee_all {bs : List Bool} (hc : X.calm = true) (hm : X.mg "all" = none) (ha : EvE X e σ H (.list (bs.map PyData.bool))) (hg : Gl X "all" := by rfl) (s1 : starEach [e] X.env = (false, eval e X.env) :: starEach [] X.env := by rfl) : EvE X (.Call (.Name "all" p) [e] [] pos) σ H (.bool (bs.all id)) :=
  ee_B (cr_all hc) hm (ea_cons ha ea_nil s1) (fun vs H1 _ hvs Q q => by
    obtain ⟨v, rfl, h⟩ := dps1 hvs
    obtain ⟨t, ws, rfl, h1, h2⟩ := dp_lst h
    rw [dps_map_bool h2] at h1
    exact ⟨t, bs, rfl, h1, q _ H1 (Ex.refl _) (.bl _)⟩) hg (he := s1)
/-- sum([..]) -/
theorem ee_sum {ns : List Int} (hc : X.calm = true) (hm : X.mg "sum" = none) (ha : EvE X e σ H (.list (ns.map PyData.int))) (hg : Gl X "sum" := by rfl) (s1 : starEach [e] X.env = (false, eval e X.env) :: starEach [] X.env := by rfl) : EvE X (.Call (.Name "sum" p) [e] [] pos) σ H (.int ns.sum) :=
  ee_B (cr_sum hc) hm (ea_cons ha ea_nil s1) (fun vs H1 _ hvs Q q => by
    obtain ⟨v, rfl, h⟩ := dps1 hvs
    obtain ⟨t, ws, rfl, h1, h2⟩ := dp_lst h
    rw [dps_map_int h2] at h1
    exact ⟨t, ns, rfl, h1, q _ H1 (Ex.refl _) (.int _)⟩) hg (he := s1)
theorem ee_max2 (hc : X.calm = true) (hm : X.mg "max" = none) (ha : EvE X a σ H (.int i)) (hb : EvE X b σ H (.int j)) (hg : Gl X "max" := by rfl) (s1 : starEach [a, b] X.env = (false, eval a X.env) :: starEach [b] X.env := by rfl) (s2 : starEach [b] X.env = (false, eval b X.env) :: starEach [] X.env := by rfl)
    (hpl : (backTo pos (starEach [b] X.env)).any (·.1) = false := by rfl) : EvE X (.Call (.Name "max" p) [a, b] [] pos) σ H (.int (max i j)) :=
  ee_B (call_max2 hc) hm (ea_cons ha (ea_cons hb ea_nil s2) s1) (fun vs H1 _ hvs Q q => by
    obtain ⟨v, w, rfl, h1, h2⟩ := dps2 hvs
    rw [dp_int h1, dp_int h2]
    refine ⟨i, j, rfl, ?_⟩
    rw [show (if j > i then j else i) = max i j by split <;> omega]
    exact q _ H1 (Ex.refl _) (.int _)) hg (he := s1) (hpl := hpl)
theorem ee_min2 (hc : X.calm = true) (hm : X.mg "min" = none) (ha : EvE X a σ H (.int i)) (hb : EvE X b σ H (.int j)) (hg : Gl X "min" := by rfl) (s1 : starEach [a, b] X.env = (false, eval a X.env) :: starEach [b] X.env := by rfl) (s2 : starEach [b] X.env = (false, eval b X.env) :: starEach [] X.env := by rfl)
    (hpl : (backTo pos (starEach [b] X.env)).any (·.1) = false := by rfl) : EvE X (.Call (.Name "min" p) [a, b] [] pos) σ H (.int (min i j)) :=
  ee_B (call_min2 hc) hm (ea_cons ha (ea_cons hb ea_nil s2) s1) (fun vs H1 _ hvs Q q => by
    obtain ⟨v, w, rfl, h1, h2⟩ := dps2 hvs
    rw [dp_int h1, dp_int h2]
    refine ⟨i, j, rfl, ?_⟩
    rw [show (if j < i then j else i) = min i j by split <;> omega]
    exact q _ H1 (Ex.refl _) (.int _)) hg (he := s1) (hpl := hpl)
theorem foldl_max_ge : ∀ (ns : List Int) (n : Int), n ≤ ns.foldl max n ∧ (∀ y ∈ ns, y ≤ ns.foldl max n) ∧ (ns.foldl max n = n ∨ ns.foldl max n ∈ ns)
  | [], n => ⟨Int.le_refl _, fun _ h => by simp at h, .inl rfl⟩
  | m :: ns, n => by
    obtain ⟨h1, h2, h3⟩ := foldl_max_ge ns (max n m)
    rw [List.foldl_cons]
    refine ⟨by omega, fun y hy => ?_, ?_⟩
    · rcases List.mem_cons.mp hy with rfl | hy
      · omega
      · exact h2 y hy
    · rcases h3 with h | h
      · rw [h]
        rcases Int.le_total n m with q | q
        · exact .inr (List.mem_cons.mpr (.inl (by omega)))
        · exact .inl (by omega)
      · exact .inr (List.mem_cons_of_mem _ h)
theorem foldl_min_le : ∀ (ns : List Int) (n : Int), ns.foldl min n ≤ n ∧ (∀ y ∈ ns, ns.foldl min n ≤ y) ∧ (ns.foldl min n = n ∨ ns.foldl min n ∈ ns)
  | [], n => ⟨Int.le_refl _, fun _ h => by simp at h, .inl rfl⟩
  | m :: ns, n => by
    obtain ⟨h1, h2, h3⟩ := foldl_min_le ns (min n m)
    rw [List.foldl_cons]
    refine ⟨by omega, fun y hy => ?_, ?_⟩
    · rcases List.mem_cons.mp hy with rfl | hy
      · omega
      · exact h2 y hy
    · rcases h3 with h | h
      · rw [h]
        rcases Int.le_total n m with q | q
        · exact .inl (by omega)
        · exact .inr (List.mem_cons.mpr (.inl (by omega)))
      · exact .inr (List.mem_cons_of_mem _ h)
/-- max([..]), min([..]) -/
theorem ee_maxL {n : Int} {ns : List Int} (hc : X.calm = true) (hm : X.mg "max" = none) (ha : EvE X e σ H (.list ((n :: ns).map PyData.int))) (hg : Gl X "max" := by rfl) (s1 : starEach [e] X.env = (false, eval e X.env) :: starEach [] X.env := by rfl) : EvE X (.Call (.Name "max" p) [e] [] pos) σ H (.int (ns.foldl max n)) :=
  ee_B (cr_max hc) hm (ea_cons ha ea_nil s1) (fun vs H1 _ hvs Q q => by
    obtain ⟨v, rfl, h⟩ := dps1 hvs
    obtain ⟨t, ws, rfl, h1, h2⟩ := dp_lst h
    rw [dps_map_int h2] at h1
    refine ⟨t, n :: ns, rfl, h1, Nat.succ_pos _, fun m hm1 hm2 => ?_⟩
    obtain ⟨f1, f2, f3⟩ := foldl_max_ge ns n
    have h3 : m ≤ ns.foldl max n := by
      rcases List.mem_cons.mp hm1 with rfl | h
      · exact f1
      · exact f2 m h
    have h4 : ns.foldl max n ≤ m := by
      rcases f3 with h | h
      · rw [h]; exact hm2 n List.mem_cons_self
      · exact hm2 _ (List.mem_cons_of_mem _ h)
    rw [show m = ns.foldl max n by omega]
    exact q _ H1 (Ex.refl _) (.int _)) hg (he := s1)
theorem ee_minL {n : Int} {ns : List Int} (hc : X.calm = true) (hm : X.mg "min" = none) (ha : EvE X e σ H (.list ((n :: ns).map PyData.int))) (hg : Gl X "min" := by rfl) (s1 : starEach [e] X.env = (false, eval e X.env) :: starEach [] X.env := by rfl) : EvE X (.Call (.Name "min" p) [e] [] pos) σ H (.int (ns.foldl min n)) :=
  ee_B (cr_min hc) hm (ea_cons ha ea_nil s1) (fun vs H1 _ hvs Q q => by
    obtain ⟨v, rfl, h⟩ := dps1 hvs
    obtain ⟨t, ws, rfl, h1, h2⟩ := dp_lst h
    rw [dps_map_int h2] at h1
    refine ⟨t, n :: ns, rfl, h1, Nat.succ_pos _, fun m hm1 hm2 => ?_⟩
    obtain ⟨f1, f2, f3⟩ := foldl_min_le ns n
    have h3 : ns.foldl min n ≤ m := by
      rcases List.mem_cons.mp hm1 with rfl | h
      · exact f1
      · exact f2 m h
    have h4 : m ≤ ns.foldl min n := by
      rcases f3 with h | h
      · rw [h]; exact hm2 n List.mem_cons_self
      · exact hm2 _ (List.mem_cons_of_mem _ h)
    rw [show m = ns.foldl min n by omega]
    exact q _ H1 (Ex.refl _) (.int _)) hg (he := s1)
/-- tuple(list) -/
theorem ee_tupleL (hm : X.mg "tuple" = none) (ha : EvE X e σ H (.list ds)) (hn : noLs ds = true) (hg : Gl X "tuple" := by rfl) (s1 : starEach [e] X.env = (false, eval e X.env) :: starEach [] X.env := by rfl) : EvE X (.Call (.Name "tuple" p) [e] [] pos) σ H (.tuple ds) :=
  ee_Ty call_tuple_of hm (ea_cons ha ea_nil s1) (fun vs H1 _ hvs Q q => by
    obtain ⟨v, rfl, h⟩ := dps1 hvs
    obtain ⟨t, ws, rfl, h1, h2⟩ := dp_lst h
    exact ⟨t, ws, rfl, .inl ⟨h1, fun l hl => q _ _ (Ex.new hl) (.tup (SqT.of upd_same) (dps_ex (Ex.new hl) _ _ h2))⟩⟩) hg (he := s1)
theorem ee_abs (hm : X.mg "abs" = none) (ha : EvE X e σ H (.int i)) (hg : Gl X "abs" := by rfl) (s1 : starEach [e] X.env = (false, eval e X.env) :: starEach [] X.env := by rfl) : EvE X (.Call (.Name "abs" p) [e] [] pos) σ H (.int (if i < 0 then -i else i)) :=
  ee_B call_abs hm (ea_cons ha ea_nil s1) (fun vs H1 _ hvs Q q => by
    obtain ⟨v, rfl, h⟩ := dps1 hvs
    rw [dp_int h]
    exact ⟨i, rfl, q _ H1 (Ex.refl _) (.int _)⟩) hg (he := s1)
theorem ee_intB {x : Bool} (hm : X.mg "int" = none) (ha : EvE X e σ H (.bool x)) (hg : Gl X "int" := by rfl) (s1 : starEach [e] X.env = (false, eval e X.env) :: starEach [] X.env := by rfl) : EvE X (.Call (.Name "int" p) [e] [] pos) σ H (.int (if x then 1 else 0)) :=
  ee_Ty call_int1 hm (ea_cons ha ea_nil s1) (fun vs H1 _ hvs Q q => by
    obtain ⟨v, rfl, h⟩ := dps1 hvs
    rw [dp_bl h]
    exact .inr ⟨x, rfl, q _ H1 (Ex.refl _) (.int _)⟩) hg (he := s1)
/-- e is not True -/
theorem ee_notTrue {x : Bool} {kk p2} (ha : EvE X a σ H (.bool x)) : EvE X (.Compare a [.IsNot] [.Constant (.bool true) kk p2] pos) σ H (.bool (!x)) :=
  ee_cmp op_notBl ha ee_bl (fun u v H1 _ hu hv Q q => by
    rw [dp_bl hu, dp_bl hv]
    refine ⟨x, true, rfl, rfl, ?_⟩
    rw [show (!decide (x = true)) = !x by cases x <;> rfl]
    exact q _ H1 (Ex.refl _) (.bl _)) (nomark _)
/-! ### sequences -/
theorem sIx_pos (n k : Nat) (h : k ≤ n) : HT.sIx n 0 (some (k : Int)) = k := by
  rw [HT.sIx_nat]; omega
theorem cut_drop {vs : List V} {n : Nat} (h : n ≤ vs.length) : cutV vs (some (n : Int)) none = vs.drop n := by
  unfold cutV
  rw [sIx_pos _ _ h, HT.sIx_none]
  exact List.take_of_length_le (by rw [List.length_drop]; omega)
/-- xs[n:], a tuple -/
theorem ee_dropT {lo : Expr} {p2 : Pos} {n : Nat} (ha : EvE X e σ H (.tuple ds)) (hl : EvE X lo σ H (.int n)) (hn : n ≤ ds.length) : EvE X (.Subscript e (.Slice (some lo) none none p2) pos) σ H (.tuple (ds.drop n)) := fun H1 e1 Q q =>
  of_pe (pe_slice sl_tupA pe_sem (po_some pe_sem) po_none) (ha H1 e1 _ fun v H2 e2 hv => hl H2 (e1.trans e2) _ fun w H3 e3 hw => by
    obtain ⟨t, vs, rfl, h1, h2⟩ := dp_tup (dp_ex e3 _ _ hv)
    have hl := dps_length h2
    refine ⟨n, dp_int hw, t, vs, rfl, h1, fun hh => ?_, fun hh l hp => ?_⟩
    · rw [sIx_pos _ _ (by omega)] at hh
      rw [hh.1, List.drop_zero] at q
      exact q _ H3 (e2.trans e3) (.tup h1 h2)
    · rw [cut_drop (by omega)]
      exact q _ _ ((e2.trans e3).trans (Ex.new hp)) (.tup (SqT.of upd_same) (dps_ex (Ex.new hp) _ _ (dps_drop n h2))))
/-- xs[n:], a list -/
theorem en_dropL {lo : Expr} {p2 : Pos} {n : Nat} (ha : EvE X e σ H (.list ds)) (hl : EvE X lo σ H (.int n)) (hn : n ≤ ds.length) : EvN X (.Subscript e (.Slice (some lo) none none p2) pos) σ H (ds.drop n) := fun H1 e1 Q q =>
  of_pe (pe_slice sl_list pe_sem (po_some pe_sem) po_none) (ha H1 e1 _ fun v H2 e2 hv => hl H2 (e1.trans e2) _ fun w H3 e3 hw => by
    obtain ⟨t, vs, rfl, h1, h2⟩ := dp_lst (dp_ex e3 _ _ hv)
    have hl := dps_length h2
    refine ⟨n, dp_int hw, t, vs, rfl, h1, fun l hp => ?_⟩
    rw [cut_drop (by omega)]
    exact q l _ _ (fresh_back (e2.trans e3) hp) ((e2.trans e3).trans (Ex.new hp)) upd_same (dps_ex (Ex.new hp) _ _ (dps_drop n h2)))
/-- xs[:n], a list -/
theorem en_takeL {hi : Expr} {p2 : Pos} {n : Nat} (ha : EvE X e σ H (.list ds)) (hl : EvE X hi σ H (.int n)) : EvN X (.Subscript e (.Slice none (some hi) none p2) pos) σ H (ds.take n) := fun H1 e1 Q q =>
  of_pe (pe_slice sl_list pe_sem po_none (po_some pe_sem)) (ha H1 e1 _ fun v H2 e2 hv => hl H2 (e1.trans e2) _ fun w H3 e3 hw => by
    obtain ⟨t, vs, rfl, h1, h2⟩ := dp_lst (dp_ex e3 _ _ hv)
    refine ⟨n, dp_int hw, t, vs, rfl, h1, fun l hp => ?_⟩
    have e : cutV vs none (some (n : Int)) = vs.take n := by
      unfold cutV
      rw [HT.sIx_none, HT.sIx_nat, List.drop_zero, Nat.sub_zero]
      rcases Nat.le_total n vs.length with h | h
      · rw [Nat.min_eq_left h]
      · rw [Nat.min_eq_right h, List.take_of_length_le (Nat.le_refl _), List.take_of_length_le h]
    rw [e]
    exact q l _ _ (fresh_back (e2.trans e3) hp) ((e2.trans e3).trans (Ex.new hp)) upd_same (dps_ex (Ex.new hp) _ _ (dps_take n h2)))
/-- xs[::-1], a list -/
theorem en_revL {kk : Nat} {p1 p2 p3 : Pos} (ha : EvE X e σ H (.list ds)) : EvN X (.Subscript e (.Slice none none (some (.UnaryOp .USub (.Constant (.int 1) kk p1) p2)) p3) pos) σ H ds.reverse := fun H1 e1 Q q =>
  of_pe (pe_revL pe_sem) (ha H1 e1 _ fun v H2 e2 hv => by
    obtain ⟨t, vs, rfl, h1, h2⟩ := dp_lst hv
    exact ⟨t, vs, rfl, h1, fun l hp => q l _ _ (fresh_back e2 hp) (e2.trans (Ex.new hp)) upd_same (dps_ex (Ex.new hp) _ _ (dps_reverse h2))⟩)
/-- list + list -/
theorem en_cat {ds1 ds2 : List D} (ha : EvN X a σ H ds1) (hb : EvN X b σ H ds2) (hl : ds1.length + ds2.length ≤ 100000) : EvN X (.BinOp a .Add b pos) σ H (ds1 ++ ds2) := fun H1 e1 Q q =>
  of_pe (pe_op op_cat pe_sem pe_sem) (ha H1 e1 _ fun p1 vs H2 hp1 e2 h1 d1 => hb H2 (e1.trans e2) _ fun p2 ws H3 hp2 e3 h2 d2 => by
    refine ⟨p1, p2, vs, ws, rfl, rfl, e3 _ _ h1, h2, sz_of (by rw [dps_length d1, dps_length d2]; exact hl), fun l hp => ?_⟩
    exact q l _ _ (fresh_back (e2.trans e3) hp) ((e2.trans e3).trans (Ex.new hp)) upd_same (dps_append (dps_ex (Ex.new hp) _ _ (dps_ex e3 _ _ d1)) (dps_ex (Ex.new hp) _ _ d2)))
/-- a list in a slot, as a list with its place -/
def EvP (X : Cx) (e : Expr) (σ : L2.St) (H : Hp) (ds : List D) : Prop := ∀ H1, Ex H H1 → ∀ Q : VK, (∀ p vs H2, Ex H1 H2 → H2 p = some (.lst vs) → DpAll X.K H2 vs ds → Q (.ref p) H2) → tSem X e σ H1 Q
theorem EvN.ep (h : EvN X e σ H ds) : EvP X e σ H ds := fun H1 e1 Q q => h H1 e1 Q fun p vs H2 _ e2 h2 hd => q p vs H2 e2 h2 hd
theorem ep_slot {x : Str} {l : Addr} (hs : SR X.K H σ Γ) (i : Nat) (hl : LsAt X.K H l ds) (hg : Γ[i]? = some (some (.at l)) := by rfl) (hN : X.N[i]? = some x := by rfl) (hv : Vis X.env.scope x := by first | exact Or.inl rfl | exact Or.inr (Or.inl rfl) | exact Or.inr (Or.inr rfl)) (hd : (x == ("__debug__" : Str)) = false := by decide)
    (hcd : (x == ("__classdict__" : Str)) = false := by decide) : EvP X (.Name x pos) σ H ds := fun H1 e1 Q q => by
  obtain ⟨vs, h1, h2⟩ := hl
  exact of_pe (pe_var hN hv hd hcd) ⟨_, hs.get_at hg, q _ vs H1 (Ex.refl H1) (e1 _ _ h1) (dps_ex e1 _ _ h2)⟩
theorem EvP.ev (h : EvP X e σ H ds) : EvE X e σ H (.list ds) := fun H1 e1 Q q => h H1 e1 Q fun p vs H2 e2 h2 hd => q _ H2 e2 (.lst (SqL.of h2) hd)
theorem en_catP {ds1 ds2 : List D} (ha : EvP X a σ H ds1) (hb : EvP X b σ H ds2) (hl : ds1.length + ds2.length ≤ 100000) : EvN X (.BinOp a .Add b pos) σ H (ds1 ++ ds2) := fun H1 e1 Q q =>
  of_pe (pe_op op_cat pe_sem pe_sem) (ha H1 e1 _ fun p1 vs H2 e2 h1 d1 => hb H2 (e1.trans e2) _ fun p2 ws H3 e3 h2 d2 => by
    refine ⟨p1, p2, vs, ws, rfl, rfl, e3 _ _ h1, h2, sz_of (by rw [dps_length d1, dps_length d2]; exact hl), fun l hp => ?_⟩
    exact q l _ _ (fresh_back (e2.trans e3) hp) ((e2.trans e3).trans (Ex.new hp)) upd_same (dps_append (dps_ex (Ex.new hp) _ _ (dps_ex e3 _ _ d1)) (dps_ex (Ex.new hp) _ _ d2)))
/-- tuple + tuple -/
theorem ee_catT {ds1 ds2 : List D} (ha : EvE X a σ H (.tuple ds1)) (hb : EvE X b σ H (.tuple ds2)) (hl : ds1.length + ds2.length ≤ 100000) : EvE X (.BinOp a .Add b pos) σ H (.tuple (ds1 ++ ds2)) :=
  ee_op op_catA ha hb fun x y H1 _ hx hy Q q => by
    obtain ⟨t1, vs, rfl, a1, a2⟩ := dp_tup hx
    obtain ⟨t2, ws, rfl, b1, b2⟩ := dp_tup hy
    have l1 := dps_length a2
    have l2 := dps_length b2
    refine ⟨t1, t2, vs, ws, rfl, rfl, a1, b1, sz_of (by omega), fun h => ?_, fun _ h => ?_, fun _ _ p hp => ?_⟩
    · subst h
      have : ds1 = [] := List.eq_nil_of_length_eq_zero l1.symm
      subst this
      exact q _ H1 (Ex.refl _) (.tup b1 b2)
    · subst h
      have : ds2 = [] := List.eq_nil_of_length_eq_zero l2.symm
      subst this
      rw [List.append_nil] at q
      exact q _ H1 (Ex.refl _) (.tup a1 a2)
    · exact q _ _ (Ex.new hp) (.tup (SqT.of upd_same) (dps_append (dps_ex (Ex.new hp) _ _ a2) (dps_ex (Ex.new hp) _ _ b2)))
end
end K30
namespace K30
open PySem PySem.Spec PyProof.Rows L2 Evl RZ
/-! ### sorted, of pairs that may stand in the written part -/
def rSrt2 (K : PySem.W.Frag) : List V → Hp → VK → Prop := fun ws H Q => ∃ (l : Addr) (vs : List V) (k : V → Int × Int), ws = [V.ref l] ∧ SqL K H l vs ∧ (∀ v ∈ vs, ∃ t, v = V.ref t ∧ SqT K H t [.int (k v).1, .int (k v).2]) ∧
  ∀ zs p, SrtO.Srtd (ltP k) zs → SrtO.Stb (ltP k) zs vs → H p = none → Q (.ref p) (upd H p (.lst zs))
theorem cr_srt2 {X : Cx} : CallR X (.builtin "sorted") (rSrt2 X.K) := by
  intro pins s σ H ws us Q J r h
  obtain ⟨l, vs, k, rfl, hl, hv, q⟩ := h
  obtain ⟨its, rv, hL, hz⟩ := J.list hl
  obtain ⟨u, rfl, ru⟩ := vals1 r
  obtain rfl : u = Value.ref l := ru
  obtain ⟨b1, b2⟩ := refs_back rv fun z hz => let ⟨t, ht, _⟩ := hv z hz; ⟨t, ht⟩
  refine SrtO.sorted_pairsO (k := fun z => k (backV z)) hL.isList (by rw [← rv.length]; exact hz) (fun z hz => ?_) fun h' d out m1 m2 kp hd hout => ?_
  · obtain ⟨t, rfl⟩ := b2 z hz
    obtain ⟨t', te, ht⟩ := hv (V.ref t) (by rw [b1]; exact List.mem_map.mpr ⟨_, hz, rfl⟩)
    cases te
    obtain ⟨ps, rp, ⟨o, ho, hc, n, hdt⟩, _⟩ := J.tuple ht
    obtain ⟨u1, u2, rfl, ⟨t1, rfl⟩, ⟨t2, rfl⟩⟩ := vals2 rp
    exact ⟨t, o, t1, t2, n, rfl, ho, hc, hdt⟩
  · have all : ∀ z ∈ out, ∃ a, z = Value.ref a := fun z hz => b2 z (m2.perm.mem_iff.mp hz)
    obtain ⟨n, hout⟩ := hout
    have stb : SrtO.Stb (ltP k) (out.map backV) vs := by
      rw [b1]
      exact SrtO.Stb.map (ltP_swo k) backV m2
    refine ⟨.ref d, upd H d (.lst (out.map backV)), J.laid (t' := s.toks) kp hd ⟨by rw [stb.len]; exact hz, out, n, vals_back all, hout⟩, rfl, q _ d (SrtO.srtd_map m1) stb (J.hok.fresh hd)⟩
/-! ### max of four ints -/
theorem lt_two {d a : Nat} (h : d = a + 1 ∨ d = a) : d < a + 1 + 1 := by omega
theorem no_succ {a : Nat} (h : a + 1 < a) : False := by omega
theorem max4_eq {i j k l M : Int} (c0 : i ≤ M) (c1 : j ≤ M) (c2 : k ≤ M) (c3 : l ≤ M) (h : M = i ∨ M = j ∨ M = k ∨ M = l) : max (max i j) (max k l) = M := by omega
theorem args_max4 (a b c d : Value) : argsOk "max" ⟨[a, b, c, d], []⟩ := by unfold argsOk; kernel_rfl
theorem call_max_four {prog : Program} {w : World} {A : Around} {E : Value → Shared → Prop} {s : Shared} {a b c d : Value} {Q : Value → Shared → Prop}
    (h : wpAny (model prog w) A.in1 (pyIter (.ref s.heap.objs.size)) (fun it s2 => ∃ J fp wr n P St bt, it = .ref J ∧ Walks prog w A.in1 J fp wr n P St ∧ St 0 s2.heap ∧ (∀ x ∈ fp, x < s2.heap.objs.size) ∧ 0 < n ∧ CmpOf prog w A.in1 .Gt P bt ∧
      ∀ v h' tk, P (argBest bt (n - 1)) v → (∀ x o, x ∉ wr → s2.heap.get? x = some o → h'.get? x = some o) → Q v { s2 with heap := h', toks := tk }) E
      { s with heap := s.heap.push { cls := .type "tuple", data := .seq #[a, b, c, d] } }) :
    wpAny (model prog w) A (call (.builtin "max") [a, b, c, d]) Q E s := by
  have hnm : (toString "max" ++ toString ".loop" : String) = "max.loop" := by decide
  refine call_function_tree F.kind_max F.plain_max F.entry_max (args_max4 a b c d) ?_
  show wpAny _ A.in1 (Builtin.Builtins.bindParams "max" ["key", "default"] 0 ⟨([] : List Value), []⟩ >>= _) _ _ s
  refine wpAny_bind (wpAny_of_eq (show Builtin.Builtins.bindParams "max" ["key", "default"] 0 ⟨[], []⟩ = pure [Option.none, Option.none] from rfl) ?_)
  show wpAny _ A.in1 (newTuple [a, b, c, d] >>= _) _ _ s
  refine wpAny_bind (wpAny_newObj_type (wpAny_bind (wpAny_mono h (fun it s2 h2 => ?_) fun _ _ z => z)))
  obtain ⟨J, fp, wr, n, P, St, bt, rfl, Wk, hst, hfp, hn, hcmp, hQ⟩ := h2
  refine wpAny_bind (wpAny_newObj_type ?_)
  rw [hnm]
  refine wpAny_pure ⟨plainId_quiet F.plain_max_loop _, codeAny_max_loop_first Wk bt hcmp s2.heap.objs.size (fun z => Nat.lt_irrefl _ (hfp _ z)) hn (Wk.frame _ _ _ hst fun x _ o y => Heap.get?_push_of_some _ y) (Heap.get?_push_size _ rfl) fun v h' tk hP hk => ?_⟩
  exact hQ v h' tk hP fun x o hx y => hk x o hx (Nat.ne_of_lt (Heap.lt_size y)) (Heap.get?_push_of_some _ y)
theorem argBest_max {xs : Array (Int × Tok)} : ∀ n, n < xs.size → argBest (fun i j => decide (numAt xs i > numAt xs j)) n ≤ n ∧ ∀ j, j ≤ n → numAt xs j ≤ numAt xs (argBest (fun i j => decide (numAt xs i > numAt xs j)) n)
  | 0, _ => ⟨Nat.le_refl _, fun j hj => by have : j = 0 := by omega
                                           subst this; exact Int.le_refl _⟩
  | n + 1, h => by
    obtain ⟨h1, h2⟩ := argBest_max (xs := xs) n (by omega)
    have e : argBest (fun i j => decide (numAt xs i > numAt xs j)) (n + 1) = if decide (numAt xs (n + 1) > numAt xs (argBest (fun i j => decide (numAt xs i > numAt xs j)) n)) = true then n + 1 else argBest (fun i j => decide (numAt xs i > numAt xs j)) n := rfl
    rw [e]
    by_cases hb : numAt xs (n + 1) > numAt xs (argBest (fun i j => decide (numAt xs i > numAt xs j)) n)
    · rw [if_pos (decide_eq_true hb)]
      refine ⟨Nat.le_refl _, fun j hj => ?_⟩
      rcases Nat.lt_or_ge n j with q | q
      · have : j = n + 1 := by omega
        subst this; exact Int.le_refl _
      · have := h2 j q
        omega
    · rw [if_neg (by simpa using hb)]
      refine ⟨by omega, fun j hj => ?_⟩
      rcases Nat.lt_or_ge n j with q | q
      · have : j = n + 1 := by omega
        subst this; omega
      · exact h2 j q
def rMax4 : List V → Hp → VK → Prop := fun ws H Q => ∃ i j k l : Int, ws = [.int i, .int j, .int k, .int l] ∧ Q (.int (max (max i j) (max k l))) H
theorem cr_max4 {X : Cx} (hc : X.calm = true) : CallR X (.builtin "max") rMax4 := by
  intro pins s σ H ws us Q J r h
  obtain ⟨i, j, k, l, rfl, q⟩ := h
  cases r with
  | cons r1 r =>
    cases r with
    | cons r2 r =>
      obtain ⟨u3, u4, rfl, r3, r4⟩ := vals2 r
      obtain ⟨t1, rfl⟩ := r1
      obtain ⟨t2, rfl⟩ := r2
      obtain ⟨t3, rfl⟩ := r3
      obtain ⟨t4, rfl⟩ := r4
      generalize hA : (#[(i, t1), (j, t2), (k, t3), (l, t4)] : Array (Int × Tok)) = arr
      have hT : (s.heap.push { cls := .type "tuple", data := .seq #[.int i t1, .int j t2, .int k t3, .int l t4] }).IsTuple s.heap.objs.size (intItems arr) := ⟨_, Heap.get?_push_size _ rfl, rfl, 0, by subst hA; simp [intItems]⟩
      refine call_max_four (wpAny_pyIter_tuple hT ?_)
      have hsz : (s.heap.push { cls := .type "tuple", data := .seq #[.int i t1, .int j t2, .int k t3, .int l t4] }).objs.size = s.heap.objs.size + 1 := Heap.size_push ..
      have h4 : (intItems arr).size = 4 := by subst hA; simp [intItems]
      refine ⟨_, [_, s.heap.objs.size], [_], _, _, _, _, rfl, Walks.tuple (A := X.A.in1) (J.ok.hd hc) _ s.heap.objs.size (by rw [hsz]; exact Nat.ne_of_lt (Nat.lt_succ_self _)) (intItems arr),
        ⟨⟨_, Heap.get?_push_size _ rfl, rfl, rfl⟩, hT.push _⟩, fun d hd => ?_, by rw [h4]; decide, CmpOf.ints_gt (numAt arr) (fun _ _ => intItems_at), fun v h' tk hP hk => ?_⟩
      · show d < ((s.heap.push _).push _).objs.size
        rw [Heap.size_push, hsz]
        have hd2 : d = (s.heap.push { cls := .type "tuple", data := .seq #[.int i t1, .int j t2, .int k t3, .int l t4] }).objs.size ∨ d = s.heap.objs.size := by
          rcases List.mem_cons.mp hd with q | q
          · exact .inl q
          · exact .inr (List.mem_singleton.mp q)
        rw [hsz] at hd2
        exact lt_two hd2
      · have hold : ∀ x o, s.heap.get? x = some o → h'.get? x = some o := fun x o e => by
          refine hk x o (fun hm => ?_) (Heap.get?_push_of_some _ (Heap.get?_push_of_some _ e))
          have e1 := List.mem_singleton.mp hm
          have e2 := Heap.lt_size e
          rw [e1, hsz] at e2
          exact no_succ e2
        have a4 : arr.size = 4 := by subst hA; rfl
        rw [h4] at hP
        obtain ⟨b1, b2⟩ := argBest_max (xs := arr) 3 (by omega)
        obtain ⟨tv, hv⟩ := intItems_at hP
        refine ⟨.int (max (max i j) (max k l)), H, J.kept (t' := tk) hold, ⟨tv, ?_⟩, q⟩
        rw [hv]
        have c0 := b2 0 (by omega)
        have c1 := b2 1 (by omega)
        have c2 := b2 2 (by omega)
        have c3 := b2 3 (by omega)
        have n0 : numAt arr 0 = i := by subst hA; rfl
        have n1 : numAt arr 1 = j := by subst hA; rfl
        have n2 : numAt arr 2 = k := by subst hA; rfl
        have n3 : numAt arr 3 = l := by subst hA; rfl
        rw [n0] at c0; rw [n1] at c1; rw [n2] at c2; rw [n3] at c3
        have hcase : argBest (fun i j => decide (numAt arr i > numAt arr j)) 3 = 0 ∨ argBest (fun i j => decide (numAt arr i > numAt arr j)) 3 = 1 ∨ argBest (fun i j => decide (numAt arr i > numAt arr j)) 3 = 2 ∨ argBest (fun i j => decide (numAt arr i > numAt arr j)) 3 = 3 := by omega
        have hM : numAt arr (argBest (fun i j => decide (numAt arr i > numAt arr j)) 3) = i ∨ numAt arr (argBest (fun i j => decide (numAt arr i > numAt arr j)) 3) = j ∨ numAt arr (argBest (fun i j => decide (numAt arr i > numAt arr j)) 3) = k ∨ numAt arr (argBest (fun i j => decide (numAt arr i > numAt arr j)) 3) = l := by
          rcases hcase with z | z | z | z <;> rw [z]
          · exact .inl n0
          · exact .inr (.inl n1)
          · exact .inr (.inr (.inl n2))
          · exact .inr (.inr (.inr n3))
        generalize numAt arr (argBest (fun i j => decide (numAt arr i > numAt arr j)) 3) = M at *
        rw [show max (max i j) (max k l) = M from max4_eq c0 c1 c2 c3 hM]
end K30
namespace K30
open PySem PySem.Spec PyProof.Rows L2 Evl RZ
open AutoSeq1 (wpAny_loadPart')
/-! ### list.extend of a tuple -/
theorem ext_tup (l : Addr) (xs : Array Value) (n : Nat) (t : Addr) (ys : Array Value) (m : Nat) (dd : Option Addr) (sl : Array (Option Value)) (c0 : ¬(!xs.isEmpty && Builtin.List.listTooLong (xs.size + ys.size)) = true) (c1 : xs.size ≤ sizeLine) (c2 : xs.size + ys.size ≤ sizeLine + 1) :
    Meets (Builtin.«list.extend» ⟨[.ref l, .ref t], []⟩) (fun _ R s => s.heap.get? l = some { cls := .type "list", dict := none, data := .seq xs n, slots := #[] } ∧ s.heap.get? t = some { cls := .type "tuple", dict := dd, data := .seq ys m, slots := sl } ∧ R (.ok (.ret Value.none)) { s with heap := s.heap.update l (Obj.mapSeq fun z => z ++ ys), toks := s.toks }) :=
  .of_wp fun prog w A R s hh => by
    obtain ⟨hp, g, d, tk, os⟩ := s
    obtain ⟨hl, ht, hR⟩ := hh
    have z1 := AutoSeq1.idx_int; have z2 := AutoSeq1.sub_tuple_tuple; have z3 := AutoSeq1.sub_list_list; have z4 := AutoSeq1.sub_tuple_list; have z5 := AutoSeq1.sub_list_tuple
    have c2' : (xs ++ ys).size ≤ sizeLine + 1 := by rw [Array.size_append]; exact c2
    wp_walk using (wpAny_updateSeq hl rfl (hz := c1) (_hz' := c2')), wpAny_loadPart' hl, wpAny_loadPart' ht
    exact ⟨_, rfl, hR⟩
def rExtT (K : PySem.W.Frag) : V → List V → Hp → VK → Prop := fun x ws H Q => ∃ l t vs ys, x = .ref l ∧ ws = [.ref t] ∧ H l = some (.lst vs) ∧ SqT K H t ys ∧ vs.length + ys.length ≤ sizeLine ∧ Q .non (upd H l (.lst (vs ++ ys)))
theorem mt_extT {X : Cx} : MtR X "list.extend" (rExtT X.K) := by
  intro pins s σ H x ws v us Q J rx rw' h
  obtain ⟨l, t, vs, ys, rfl, rfl, hH, hT, hz, q⟩ := h
  cases rx
  obtain ⟨u, rfl, ru⟩ := rw'.one
  cases ru
  obtain ⟨z, its, n, r, hl, e⟩ := J.lstM hH
  obtain ⟨its2, r2, ⟨⟨cls, dd, data, sl⟩, ho, hc, m, hd⟩, _⟩ := J.tuple hT
  simp only at hc hd
  subst hc hd
  have l2 := r2.length
  have fits : its.toArray.size + its2.toArray.size ≤ sizeLine := by rw [List.size_toArray, List.size_toArray]; omega
  have long : ¬ (!its.toArray.isEmpty && Builtin.List.listTooLong (its.toArray.size + its2.toArray.size)) = true := by
    rw [notLongL fits, Bool.and_false]; exact Bool.false_ne_true
  refine call_meets F.slot_list_extend ⟨_, e, rfl⟩ F.entry_list_extend (F.args_list_extend_2 _ _) (ext_tup l its.toArray n t its2.toArray m dd sl long (by rw [List.size_toArray]; omega) (by omega)) ⟨e, ho, ?_⟩
  exact ⟨.non, _, J.lset (its' := its ++ its2) hH e (by simp) (r.append r2) (by rw [List.length_append]; omega), rfl, q⟩
/-! ### enumerate of a tuple -/
theorem enum_newT (l : Addr) (xs : Array Value) (n : Nat) (dd : Option Addr) (sl : Array (Option Value)) :
    Meets (Builtin.«enumerate.__new__» ⟨[.type "enumerate", .ref l], []⟩) (fun _ R s => s.heap.get? l = some { cls := .type "tuple", dict := dd, data := .seq xs n, slots := sl } ∧
      R (.ok (.ret (.ref (s.heap.push { cls := .type "tuple_iterator", data := .fields #[.ref l, .int 0 0] }).objs.size)))
        { s with heap := (s.heap.push { cls := .type "tuple_iterator", data := .fields #[.ref l, .int 0 0] }).push { cls := .type "enumerate", data := .fields #[.none, .bool false, .ref s.heap.objs.size, rawInt 0, .none, .none] } }) :=
  .of_wp fun prog w A R s hh => by
    obtain ⟨hp, g, d, tk, os⟩ := s
    obtain ⟨hl, hR⟩ := hh
    have zs := sub_enumerate
    have hT : Heap.IsTuple (Shared.heap ⟨hp, g, d, tk, os⟩) l xs := ⟨_, hl, rfl, n, rfl⟩
    wp_walk using wpAny_loadPart' hl
    refine wpAny_stack_any fun st => wpAny_pure ?_
    split
    · rename_i c _ _ _ _ _
      cases (c == Value.type "enumerate") <;> (wp_walk using wpAny_loadPart' hl, wpAny_pyIter_tuple hT; exact ⟨_, rfl, hR⟩)
    · wp_walk using wpAny_loadPart' hl, wpAny_pyIter_tuple hT
      exact ⟨_, rfl, hR⟩
theorem call_enumT {prog : Program} {w : World} {A : Around} {E : Value → Shared → Prop} {s : Shared} {l : Addr} {xs : Array Value} {Q : Value → Shared → Prop} (hT : s.heap.IsTuple l xs)
    (h : ∀ h', IsEnum h' (s.heap.objs.size + 1) s.heap.objs.size 0 .none → h'.IsTupleIter s.heap.objs.size l 0 → (∀ x o, s.heap.get? x = some o → h'.get? x = some o) → Q (.ref (s.heap.objs.size + 1)) { s with heap := h' }) :
    wpAny (model prog w) A (call (.type "enumerate") [.ref l]) Q E s := by
  obtain ⟨⟨c, dd, dt, sl⟩, hl, hc, n, hd⟩ := hT
  simp only at hc hd
  subst hc hd
  refine callType_new F.called_enumerate (by decide) (F.typeCall_enumerate_1 _) (F.newCall_enumerate_1 _) (fun z => F.args_object_init_2 z _) F.entry_enumerate_new (enum_newT l xs n dd sl) ⟨hl, ?_⟩
  have hz : (s.heap.push { cls := .type "tuple_iterator", data := .fields #[.ref l, .int 0 0] }).objs.size = s.heap.objs.size + 1 := Heap.size_push ..
  show _ ∧ _
  rw [hz]
  have he : IsEnum ((s.heap.push { cls := .type "tuple_iterator", data := .fields #[.ref l, .int 0 0] }).push { cls := .type "enumerate", data := .fields #[.none, .bool false, .ref s.heap.objs.size, rawInt 0, .none, .none] }) (s.heap.objs.size + 1) s.heap.objs.size 0 .none := by
    have z := Heap.get?_push_size (s.heap.push { cls := .type "tuple_iterator", data := .fields #[.ref l, .int 0 0] }) (o := { cls := .type "enumerate", data := .fields #[.none, .bool false, .ref s.heap.objs.size, rawInt 0, .none, .none] }) rfl
    rw [hz] at z
    exact z
  exact ⟨⟨_, he, rfl⟩, h _ he ⟨_, Heap.get?_push_of_some _ (Heap.get?_push_size _ rfl), rfl, rfl⟩ fun x o y => Heap.get?_push_of_some _ (Heap.get?_push_of_some _ y)⟩
/-- the tuple at a, each item in a new pair with its number -/
def IteT (K : PySem.W.Frag) (a : Addr) : It :=
  ⟨fun i H => ∃ (vs : List V) (x : V), SqT K H a vs ∧ vs[i]? = some x, fun i H v H' => ∃ T x, v = .ref T ∧ H T = none ∧ H' = upd H T (.tup [.int (i : Nat), x]) ∧ ∀ vs, SqT K H a vs → vs[i]? = some x, fun i H => ∃ vs : List V, SqT K H a vs ∧ vs.length = i⟩
theorem turn_enumT {P : Program} {w : World} {K : PySem.W.Frag} {elts : List Expr} {kk : Nat} {tpos : Pos} (a e it : Addr) (hat : a ≠ it) (hae : e ≠ a) :
    Turn P w K (.Tuple elts kk tpos) (IteT K a) [e, it] e (fun i h => (∃ old, IsEnum h e it ((i : Nat) : Int) old) ∧ h.IsTupleIter it a i ∧ e ≠ it) where
  mem := by simp
  obj := fun i h st b hb => by
    obtain ⟨⟨old, he⟩, ⟨o, ho, hc, hd⟩, _⟩ := st
    rcases List.mem_cons.mp hb with z | z
    · rw [z]; exact ⟨_, he, fun v q => nomatch q⟩
    · rw [List.mem_singleton.mp z]; exact ⟨o, ho, fun v q => by rw [hd] at q; cases q⟩
  keep := fun i h h' st k => let ⟨⟨old, he⟩, hi, hne⟩ := st; ⟨⟨old, k e (by simp) _ he⟩, hi.at fun o q => k it (by simp) o q, hne⟩
  item := by
    intro X hP hw hK hc i pins s σ H E J hf st hg
    subst hP hw hK
    obtain ⟨⟨old, he⟩, hit, hne⟩ := st
    obtain ⟨ys, x, hq, hx⟩ := hg
    obtain ⟨its, rv, p, hz⟩ := J.tuple hq
    obtain ⟨u, hu, ru⟩ := rv.get hx
    have hel : e < s.heap.objs.size := Heap.lt_size he
    have hil : it < s.heap.objs.size := by obtain ⟨_, q, _⟩ := hit; exact Heap.lt_size q
    have hlt : i < its.toArray.size := by
      rw [List.size_toArray, ← rv.length]
      exact (List.getElem?_eq_some_iff.mp hx).1
    refine wpAny_pyNext_enum_itemD (Draws.tuple (A := X.A.in1) (J.ok.hd hc) it a hat its.toArray) he ⟨hit, p⟩ hlt hne (fun z => ?_) fun y h' tk hy ho hst hT hsz hk => ?_
    · rcases List.mem_cons.mp z with z | z
      · exact hne z
      · exact hae (List.mem_singleton.mp z)
    have hy : u = y := by
      have h1 : its.toArray[i]? = some u := by simpa using hu
      rw [h1] at hy
      exact Option.some.inj hy
    subst hy
    refine ⟨_, rfl, wpAny_letOwnedTupleGo_enum (s := { s with heap := h', toks := tk + 1 }) ho fun h'' he' sb => ?_⟩
    have hT2 : h''.get? s.heap.objs.size = some { cls := .type "tuple", data := .seq #[.int i tk, u] } := (sb.2 _ (Nat.ne_of_gt hel)).trans hT
    have new : ObjOk X.prog X.w (upd H s.heap.objs.size (.tup [.int (i : Nat), x])) h'' s.heap.objs.size (.tup [.int (i : Nat), x]) :=
      ⟨by show 2 ≤ sizeLine; decide, [.int i tk, u], .cons ⟨_, rfl⟩ (.cons ru .nil), ⟨_, hT2, rfl, _, rfl⟩⟩
    have J1 : Inv X pins σ (upd H s.heap.objs.size (.tup [.int (i : Nat), x])) { s with heap := h'', toks := tk + 1 } :=
      J.turnedNew (ch := [e, it]) (fun b ob hb q => (sb.2 b (fun z => hb (by simp [z]))).trans (hk b ob (fun z => hb (by simp [z])) (fun z => hb (by simp [z])) q)) hf (Nat.le_refl _) new
    refine ⟨.ref s.heap.objs.size, _, J1, rfl, ⟨_, x, rfl, J.hok.fresh (Nat.le_refl _), rfl, fun zs hy => by rw [J.tuple_inj hy hq]; exact hx⟩, ⟨⟨u, ?_⟩, hst.1.at fun o q => (sb.2 it (Ne.symm hne)).trans q, hne⟩, fun b hb => ?_⟩
    · rw [show ((i + 1 : Nat) : Int) = (i : Int) + 1 by omega]
      exact he'
    · have hb' : b < s.heap.objs.size := by
        rcases List.mem_cons.mp hb with z | z
        · rw [z]; exact hel
        · rw [List.mem_singleton.mp z]; exact hil
      rw [upd_ne (Nat.ne_of_lt hb')]
      exact (hf b hb).1
  done := by
    intro X hP hw hK hc i pins s σ H E J hf st hg
    subst hP hw hK
    obtain ⟨⟨old, he⟩, hit, hne⟩ := st
    obtain ⟨ys, hq, hx⟩ := hg
    obtain ⟨its, rv, p, hz⟩ := J.tuple hq
    obtain ⟨f0, f1, f2, f3, f4, f5⟩ := hf it (by simp)
    have hn : its.toArray.size = i := by rw [List.size_toArray, ← rv.length, hx]
    exact wpAny_pyNext_enum_endD (Draws.tuple (A := X.A.in1) (J.ok.hd hc) it a hat its.toArray) he (by rw [hn]; exact ⟨hit, p⟩) fun h' eb => ⟨rfl, J.turned (t' := s.toks) (fun b o hb q => eb b o hb q) f0 f1 f3 f4 f5⟩
  self := fun A i s Q E st h => let ⟨⟨_, he⟩, _⟩ := st; wpAny_pyIter_enum he h
def iEnumT (K : PySem.W.Frag) (ta : TA) : TI := fun σ H R => ta σ H fun vs H1 => ∃ a xs, vs = [.ref a] ∧ SqT K H1 a xs ∧ R (IteT K a) H1
theorem pi_enumT {X : Cx} {e : Expr} {ta : TA} {p pos tpos : Pos} {elts : List Expr} {kk : Nat} (hg : Gl X "enumerate") (hm : X.mg "enumerate" = none) (ha : PA X [e] ta) (hs : starEach [e] X.env = [(false, eval e X.env)] := by rfl) :
    PI X (.Tuple elts kk tpos) (.Call (.Name "enumerate" p) [e] [] pos) (iEnumT X.K ta) := by
  refine ⟨fun pins s σ H R J h => ?_⟩
  refine Call_ (ld_blt J hg hm boot_enumerate (PyProof.Rows.callWith_type1 (thn (ha.run pos pins s σ H _ J h) fun us s1 ⟨vs, H1, J1, r1, q1⟩ => ?_) hs rfl))
  obtain ⟨a, xs, rfl, hq, q⟩ := q1
  obtain ⟨u, rfl, ru⟩ := vals1 r1
  cases ru
  obtain ⟨its, rv, hp, hz⟩ := J1.tuple hq
  have hal : a < s1.heap.objs.size := by obtain ⟨o, ho, _⟩ := hp; exact Heap.lt_size ho
  refine call_enumT hp fun h' he hit hk => wpAny_pyIter_enum he ?_
  refine ⟨s1.heap.objs.size + 1, [s1.heap.objs.size + 1, s1.heap.objs.size], _, _, H1, rfl, J1.kept (t' := s1.toks) hk, turn_enumT a (s1.heap.objs.size + 1) s1.heap.objs.size (Nat.ne_of_lt hal) (Nat.ne_of_gt (Nat.lt_succ_of_lt hal)), ⟨⟨.none, he⟩, hit, Nat.succ_ne_self _⟩, fun b hb => ?_, q⟩
  have hle : s1.heap.objs.size ≤ b := by
    rcases List.mem_cons.mp hb with z | z
    · rw [z]; exact Nat.le_succ _
    · rw [List.mem_singleton.mp z]; exact Nat.le_refl _
  exact J1.fpOk hle (J1.hok.fresh hle)
theorem itw_enumT {X : Cx} {H : Hp} {ds : List D} {p : Addr} {vs : List V} (h1 : SqT X.K H p vs) (h2 : DpAll X.K H vs ds) (hn : noLs ds = true) : ItW X.K (IteT X.K p) [] H (enumD ds) := by
  have hl : (enumD ds).length = vs.length := by rw [dps_length h2]; unfold enumD; rw [List.length_mapIdx]
  constructor
  rw [hl]
  refine ⟨fun i H3 hi h3 => ⟨vs, vs[i], tx_t h3.1 h1, by simp [hi]⟩, fun H3 h3 => ⟨vs, tx_t h3.1 h1, rfl⟩, fun i H3 v H4 hi h3 y => ?_⟩
  obtain ⟨T, x1, rfl, hT, rfl, e2⟩ := y
  obtain ⟨d, h5, h6⟩ := dps_get' (dps_tx h3.1 _ _ hn h2) (e2 vs (tx_t h3.1 h1))
  exact ⟨(pair_at hT (.int _) h6).1, _, enum_get h5, (pair_at hT (.int _) h6).2⟩
/-- enumerate(tuple) -/
theorem ei_enumT {X : Cx} {e : Expr} {σ : L2.St} {H : Hp} {ds : List D} {pos tpos p : Pos} {elts : List Expr} {kk : Nat} (hm : X.mg "enumerate" = none) (ha : EvE X e σ H (.tuple ds)) (hn : noLs ds = true)
    (hg2 : Gl X "enumerate" := by rfl) (hs2 : starEach [e] X.env = [(false, eval e X.env)] := by rfl) (hsE : starEach (e :: []) X.env = (false, eval e X.env) :: starEach [] X.env := by rfl) :
    EvI X (.Tuple elts kk tpos) (.Call (.Name "enumerate" p) [e] [] pos) σ H [] (enumD ds) := fun H1 e1 R q =>
  of_pi (pi_enumT hg2 hm pa_sem hs2) ((ea_cons ha ea_nil hsE) H1 e1 _ fun vs H2 e2 hvs => by
    obtain ⟨v, rfl, h⟩ := dps1 hvs
    obtain ⟨t, ws, rfl, h1, h2⟩ := dp_tup h
    exact ⟨t, ws, rfl, h1, q _ [] H2 e2 Hold.nil (fun _ h => by cases h) (itw_enumT h1 h2 hn)⟩)
/-! ### min of a list of pairs -/
end K30
namespace K30
open PySem PySem.Spec PyProof.Rows L2 Evl RZ
open AutoSeq1 (wpAny_loadPart')
abbrev Pr := Int × Int
def pD (p : Pr) : D := .tuple [.int p.1, .int p.2]
def psD (ps : List Pr) : D := .tuple (ps.map pD)
theorem pD_inj {p q : Pr} (h : pD p = pD q) : p = q := by
  unfold pD at h
  simp only [PyData.tuple.injEq, List.cons.injEq, PyData.int.injEq, and_true] at h
  exact Prod.ext h.1 h.2
theorem pD_nol (p : Pr) : noL (pD p) = true := rfl
theorem psD_nols : ∀ (ps : List Pr), noLs (ps.map pD) = true
  | [] => rfl
  | p :: ps => by
    show (noL (pD p) && noLs (ps.map pD)) = true
    rw [psD_nols ps]
    rfl
theorem ints_nols : ∀ (ns : List Int), noLs (ns.map PyData.int) = true
  | [] => rfl
  | n :: ns => by
    show (noL (.int n) && noLs (ns.map PyData.int)) = true
    rw [ints_nols ns]
    rfl
/-! ### min of a list of pairs -/
def pLt (p q : Pr) : Bool := decide (p.1 < q.1 ∨ (p.1 = q.1 ∧ p.2 < q.2))
theorem pLt_ok (p q : Pr) : PySem.W.dataLt (pD p) (pD q) = pLt p q := by
  unfold PySem.W.dataLt pD pLt
  simp only [PySem.W.keyToks, PySem.W.keyToksAll, List.cons_append, List.nil_append, PyProof.Rows.lexLt, PyProof.Rows.itemOrd, PyProof.Rows.itemLt]
  rw [Bool.eq_iff_iff]
  simp
  omega
def minP (p : Pr) (ps : List Pr) : Pr := ps.foldl (fun a y => if pLt y a then y else a) p
theorem minP_ok : ∀ (ps : List Pr) (p : Pr), PySem.W.minD (pD p) (ps.map pD) = pD (minP p ps)
  | [], p => rfl
  | q :: ps, p => by
    have ih := minP_ok ps (if pLt q p then q else p)
    show PySem.W.minD (if PySem.W.dataLt (pD q) (pD p) = true then pD q else pD p) (ps.map pD) = pD (minP (if pLt q p then q else p) ps)
    rw [pLt_ok, ← ih]
    split <;> rfl
theorem minP_le : ∀ (ps : List Pr) (p : Pr), (minP p ps = p ∨ minP p ps ∈ ps) ∧ (minP p ps).1 ≤ p.1 ∧ ∀ q ∈ ps, (minP p ps).1 ≤ q.1
  | [], p => ⟨.inl rfl, Int.le_refl _, fun _ h => by simp at h⟩
  | q :: ps, p => by
    obtain ⟨h1, h2, h3⟩ := minP_le ps (if pLt q p then q else p)
    show (minP (if pLt q p then q else p) ps = p ∨ minP (if pLt q p then q else p) ps ∈ q :: ps) ∧ (minP (if pLt q p then q else p) ps).1 ≤ p.1 ∧ ∀ r ∈ q :: ps, (minP (if pLt q p then q else p) ps).1 ≤ r.1
    generalize minP (if pLt q p then q else p) ps = m at *
    have hlt : ∀ (b : Bool), pLt q p = b → (b = true → q.1 ≤ p.1) ∧ (b = false → p.1 ≤ q.1) := fun b hb => by
      subst hb
      unfold pLt
      rw [decide_eq_true_iff, decide_eq_false_iff_not]
      omega
    cases hb : pLt q p with
    | true =>
      rw [hb] at h1 h2
      simp only [if_true] at h1 h2
      have := (hlt _ hb).1 rfl
      refine ⟨.inr ?_, by omega, fun r hr => ?_⟩
      · rcases h1 with h | h
        · rw [h]; exact List.mem_cons_self
        · exact List.mem_cons_of_mem _ h
      · rcases List.mem_cons.mp hr with rfl | hr
        · exact h2
        · exact h3 r hr
    | false =>
      rw [hb] at h1 h2
      simp only [Bool.false_eq_true, if_false] at h1 h2
      have := (hlt _ hb).2 rfl
      refine ⟨?_, h2, fun r hr => ?_⟩
      · rcases h1 with h | h
        · exact .inl h
        · exact .inr (List.mem_cons_of_mem _ h)
      · rcases List.mem_cons.mp hr with rfl | hr
        · omega
        · exact h3 r hr
theorem alike_pD (p q : Pr) : PySem.W.alike (pD p) (pD q) = true := by
  unfold pD
  simp [PySem.W.alike, PySem.W.alikeAll]
theorem depth_pDs : ∀ ps : List Pr, PyData.depthAll (ps.map pD) ≤ 2
  | [] => by simp [PyData.depthAll]
  | p :: ps => by
    have := depth_pDs ps
    simp only [List.map_cons, PyData.depthAll, pD, PyData.depth] at this ⊢
    omega
def rMinP (K : PySem.W.Frag) : List V → Hp → VK → Prop := fun ws H Q => ∃ (l : Addr) (vs : List V) (p : Pr) (ps : List Pr), ws = [V.ref l] ∧ SqL K H l vs ∧ DpAll K H vs ((p :: ps).map pD) ∧ ∀ v, Dp K H v (pD (minP p ps)) → Q v H
theorem cr_minP {X : Cx} (hc : X.calm = true) (hu : X.A.units + 64 < cLine) : CallR X (.builtin "min") (rMinP X.K) := by
  intro pins s σ H ws us Q J r h
  obtain ⟨l, vs, p, ps, rfl, hl, hd, q⟩ := h
  obtain ⟨its, rv, hL, hz⟩ := J.list hl
  obtain ⟨u, rfl, ru⟩ := vals1 r
  obtain rfl : u = Value.ref l := ru
  obtain ⟨as, hr⟩ := Dp.readsAll J _ vs its hd rv
  have hn : its.toArray.size = ps.length + 1 := by
    rw [List.size_toArray, ← rv.length, dps_length hd]
    simp
  have hal : PySem.W.AlikeAll ((p :: ps).map pD) := ⟨fun x hx y hy => by
    obtain ⟨a, _, rfl⟩ := List.mem_map.mp hx
    obtain ⟨b, _, rfl⟩ := List.mem_map.mp hy
    exact alike_pD a b, fun x hx => by
    obtain ⟨a, _, rfl⟩ := List.mem_map.mp hx
    exact fun z => nomatch z⟩
  have hdp := depth_pDs (p :: ps)
  refine call_min_walkH (PySem.W.iter_listW (A := X.A.in1) (J.ok.hd hc) hL.isList fun s2 e Wk st hfp hw hk => ?_)
  refine ⟨_, _, _, _, _, _, _, s.heap, _, rfl, Wk, st, hfp, by omega, hw, hk, PySem.W.cmpIn_lt (A := X.A.in1) hr hal (by show X.A.units + 1 + _ < _; omega), fun v s' hP m => ?_⟩
  obtain ⟨h', tk, rfl, hk'⟩ := PySem.W.moved_old e rfl m
  have e2 := (PySem.W.argBest_fold PySem.W.dataLt PyData.none (pD p) (ps.map pD) (ps.map pD).length (Nat.le_refl _)).2
  rw [List.take_length] at e2
  have e1 : its.toArray.size - 1 = (ps.map pD).length := by rw [List.length_map]; omega
  have hP : its.toArray[argBest (fun i j => PySem.W.dataLt (((p :: ps).map pD).getD i PyData.none) (((p :: ps).map pD).getD j PyData.none)) (its.toArray.size - 1)]? = some v := hP
  rw [e1] at hP
  generalize hj : argBest (fun i j => PySem.W.dataLt (((p :: ps).map pD).getD i PyData.none) (((p :: ps).map pD).getD j PyData.none)) (ps.map pD).length = j at hP
  have hP : its[j]? = some v := by simpa using hP
  have e2 : ((p :: ps).map pD).getD j PyData.none = pD (minP p ps) := by
    rw [← minP_ok, ← hj]
    exact e2
  have jlt : j < vs.length := by
    rw [rv.length]
    exact (List.getElem?_eq_some_iff.mp hP).1
  have hx : vs[j]? = some vs[j] := by simp [jlt]
  obtain ⟨w1, hw1, rw1⟩ := rv.get hx
  rw [hP] at hw1
  have hw1 : v = w1 := Option.some.inj hw1
  subst hw1
  obtain ⟨d, hd1, hd2⟩ := dps_get' hd hx
  have : d = pD (minP p ps) := by
    rw [List.getD_eq_getElem?_getD, hd1] at e2
    exact e2
  subst this
  exact ⟨vs[j], H, J.kept (t' := tk) hk', rw1, q _ hd2⟩
end K30
namespace K30
open PySem PySem.Spec PyProof.Rows L2 Evl RZ
open AutoSeq1 (wpAny_loadPart')
/-! ### a power of a great int -/
def CPowW (i j : Int) : Prop := 0 ≤ j ∧ (Builtin.Int.intBits i : Int) * j ≤ 2 ^ 27
theorem op_powW {X : Cx} : OpR X (binaryOp .Pow) (rI CPowW fun i j => .int (i ^ j.toNat)) := opI fun _ _ _ _ _ _ _ hc q => pow_int hc.1 hc.2 q
theorem ee_powW {X : Cx} {a b : Expr} {σ : L2.St} {H : Hp} {i j : Int} {pos : Pos} (ha : EvE X a σ H (.int i)) (hb : EvE X b σ H (.int j)) (hc : CPowW i j) : EvE X (.BinOp a .Pow b pos) σ H (.int (i ^ j.toNat)) := ee_opC (C := CPowW) (g := fun i j => i ^ j.toNat) op_powW ha hb hc
/-! ### a tuple times 0, 1, .. -/
theorem tup_mul1 (l : Addr) (xs : Array Value) (n : Nat) (dd : Option Addr) (sl : Array (Option Value)) (u : Tok) :
    Meets (Builtin.«tuple.__mul__» ⟨[.ref l, .int 1 u], []⟩) (fun _ R s => s.heap.get? l = some { cls := .type "tuple", dict := dd, data := .seq xs n, slots := sl } ∧ R (.ok (.ret (Value.ref l))) s) :=
  .of_wp fun prog w A R s hh => by
    obtain ⟨hp, g, d, tk, os⟩ := s
    obtain ⟨hl, hR⟩ := hh
    have z1 := AutoSeq1.idx_int
    wp_walk using wpAny_loadPart' hl
    repeat (first
      | (refine wpAny_ite_false (decide_eq_false (by decide)) ?_; wp_walk using wpAny_loadPart' hl)
      | (refine wpAny_ite_true (decide_eq_true (by simp)) ?_; wp_walk using wpAny_loadPart' hl))
    exact ⟨_, rfl, hR⟩
theorem tup_mul0 (l : Addr) (xs : Array Value) (n : Nat) (dd : Option Addr) (sl : Array (Option Value)) (u : Tok) (hx : xs.isEmpty = false) :
    Meets (Builtin.«tuple.__mul__» ⟨[.ref l, .int 0 u], []⟩) (fun _ R s => s.heap.get? l = some { cls := .type "tuple", dict := dd, data := .seq xs n, slots := sl } ∧
      R (.ok (.ret (Value.ref s.heap.objs.size))) { s with heap := s.heap.push { cls := Value.type "tuple", data := .seq #[] }, toks := s.toks }) :=
  .of_wp fun prog w A R s hh => by
    obtain ⟨hp, g, d, tk, os⟩ := s
    obtain ⟨hl, hR⟩ := hh
    have z1 := AutoSeq1.idx_int
    wp_walk using wpAny_loadPart' hl
    repeat (first
      | (refine wpAny_ite_false (decide_eq_false (by rw [hx]; decide)) ?_; wp_walk using wpAny_loadPart' hl)
      | (refine wpAny_ite_false (decide_eq_false (by decide)) ?_; wp_walk using wpAny_loadPart' hl)
      | (refine wpAny_ite_true (decide_eq_true (by simp)) ?_; wp_walk using wpAny_loadPart' hl))
    exact ⟨_, rfl, hR⟩
def rRep01 (K : PySem.W.Frag) : R2 := fun x y H Q => ∃ l vs, x = .ref l ∧ SqT K H l vs ∧ vs ≠ [] ∧ ((y = .int 1 ∧ Q (.ref l) H) ∨ (y = .int 0 ∧ ∀ p, H p = none → Q (.ref p) (upd H p (.tup []))))
theorem op_rep01 {X : Cx} : OpR X (binaryOp .Mult) (rRep01 X.K) := by
  intro pins s σ H x y v u Q J rx ry h
  obtain ⟨l, vs, rfl, hT, hne, h⟩ := h
  cases rx
  obtain ⟨its, r, ⟨⟨cls, dd, data, sl⟩, ho, hc, n, hd⟩, hs⟩ := J.tuple hT
  simp only at hc hd
  subst hc hd
  have hi : its.toArray.isEmpty = false := by
    cases its with
    | nil => exact absurd (List.eq_nil_of_length_eq_zero r.length) hne
    | cons a b => rfl
  rcases h with ⟨rfl, q⟩ | ⟨rfl, q⟩
  · obtain ⟨t, rfl⟩ := ry
    exact wpAny_binaryOp_repeat_ref (T := "tuple") (U := "int") (by decide) ⟨_, ho, rfl⟩ (fun z => typeIs_int z 1 t) noFill_tuple_mul F.fills_int_mul F.slot_int_rmul repeat_tuple F.slot_int_index.lookup
      (call_meets F.slot_int_rmul (typeIs_int s 1 t) F.entry_int_rmul (F.args_int_rmul_2 _ _) (int_rmul_tuple 1 t l its.toArray n dd sl)
        ⟨ho, rfl, ⟨_, ho, rfl⟩, call_meets F.slot_tuple_mul ⟨_, ho, rfl⟩ F.entry_tuple_mul (F.args_tuple_mul_2 _ _) (tup_mul1 l its.toArray n dd sl t) ⟨ho, ⟨.ref l, H, J, rfl, q⟩⟩⟩)
  · obtain ⟨t, rfl⟩ := ry
    refine wpAny_binaryOp_repeat_ref (T := "tuple") (U := "int") (by decide) ⟨_, ho, rfl⟩ (fun z => typeIs_int z 0 t) noFill_tuple_mul F.fills_int_mul F.slot_int_rmul repeat_tuple F.slot_int_index.lookup
      (call_meets F.slot_int_rmul (typeIs_int s 0 t) F.entry_int_rmul (F.args_int_rmul_2 _ _) (int_rmul_tuple 0 t l its.toArray n dd sl)
        ⟨ho, rfl, ⟨_, ho, rfl⟩, call_meets F.slot_tuple_mul ⟨_, ho, rfl⟩ F.entry_tuple_mul (F.args_tuple_mul_2 _ _) (tup_mul0 l its.toArray n dd sl t hi) ⟨ho, ?_⟩⟩)
    refine ⟨.ref s.heap.objs.size, _, J.laid (t' := s.toks) (o := .tup []) (fun b ob z => Heap.get?_push_of_some _ z) (Nat.le_refl _) ?_, rfl, q _ (J.hok.fresh (Nat.le_refl _))⟩
    exact ⟨Nat.zero_le _, [], .nil, IsTup.new _ _⟩
section
variable {X : Cx} {a b c e o : Expr} {es : List Expr} {σ : L2.St} {H H' : Hp} {d d1 d2 : D} {ds es1 : List D} {Γ : List (Option Sl)} {pos pos' p : Pos} {rest : List Stmt} {De : Ends}
theorem ee_repT {k : Nat} (ha : EvE X a σ H (.tuple ds)) (hb : EvE X b σ H (.int k)) (hn : ds ≠ []) (hk : k ≤ 1000) (hl : ds.length ≤ 1000) : EvE X (.BinOp a .Mult b pos) σ H (.tuple (List.replicate k ds).flatten) :=
  ee_op (r := fun x y H Q => rRep01 X.K x y H Q ∨ rRepT X.K x y H Q) (op_rep01.or op_repT) ha hb fun x y H1 _ hx hy Q q => by
    obtain ⟨t, vs, rfl, h1, h2⟩ := dp_tup hx
    rw [dp_int hy]
    have hl2 := dps_length h2
    have hv : vs ≠ [] := fun z => hn (by subst z; exact List.eq_nil_of_length_eq_zero hl2.symm)
    match k, hk, q with
    | 0, _, q => exact .inl ⟨t, vs, rfl, h1, hv, .inr ⟨rfl, fun p hp => q _ _ (Ex.new hp) (.tup (SqT.of upd_same) .nil)⟩⟩
    | 1, _, q =>
      refine .inl ⟨t, vs, rfl, h1, hv, .inl ⟨rfl, q _ H1 (Ex.refl _) ?_⟩⟩
      rw [show (List.replicate 1 ds).flatten = ds by simp]
      exact .tup h1 h2
    | k + 2, hk, q =>
      refine .inr ⟨t, ((k + 2 : Nat) : Int), vs, rfl, rfl, h1, hv, by omega, by omega, by omega, fun p hp => ?_⟩
      rw [Int.toNat_natCast]
      exact q _ _ (Ex.new hp) (.tup (SqT.of upd_same) (dps_ex (Ex.new hp) _ _ (dps_rep h2 _)))
/-! ### max of four, min of pairs, sorted pairs -/
theorem ee_max4 {i j k l : Int} (hc : X.calm = true) (hm : X.mg "max" = none) (h1 : EvE X a σ H (.int i)) (h2 : EvE X b σ H (.int j)) (h3 : EvE X c σ H (.int k)) (h4 : EvE X e σ H (.int l)) (hg : Gl X "max" := by rfl)
    (s1 : starEach [a, b, c, e] X.env = (false, eval a X.env) :: starEach [b, c, e] X.env := by rfl) (s2 : starEach [b, c, e] X.env = (false, eval b X.env) :: starEach [c, e] X.env := by rfl)
    (s3 : starEach [c, e] X.env = (false, eval c X.env) :: starEach [e] X.env := by rfl) (s4 : starEach [e] X.env = (false, eval e X.env) :: starEach [] X.env := by rfl)
    (hpl : (backTo pos (starEach [b, c, e] X.env)).any (·.1) = false := by rfl) : EvE X (.Call (.Name "max" p) [a, b, c, e] [] pos) σ H (.int (max (max i j) (max k l))) :=
  ee_B (cr_max4 hc) hm (ea_cons h1 (ea_cons h2 (ea_cons h3 (ea_cons h4 ea_nil s4) s3) s2) s1) (fun vs H1 _ hvs Q q => by
    cases hvs with
    | cons w1 r =>
      cases r with
      | cons w2 r =>
        obtain ⟨v3, v4, rfl, w3, w4⟩ := dps2 r
        rw [dp_int w1, dp_int w2, dp_int w3, dp_int w4]
        exact ⟨i, j, k, l, rfl, q _ H1 (Ex.refl _) (.int _)⟩) hg (he := s1) (hpl := hpl)
theorem ee_minP {x : Pr} {ps : List Pr} (hc : X.calm = true) (hu : X.A.units + 64 < cLine) (hm : X.mg "min" = none) (ha : EvE X e σ H (.list ((x :: ps).map pD))) (hg : Gl X "min" := by rfl) (s1 : starEach [e] X.env = (false, eval e X.env) :: starEach [] X.env := by rfl) : EvE X (.Call (.Name "min" p) [e] [] pos) σ H (pD (minP x ps)) :=
  ee_B (cr_minP hc hu) hm (ea_cons ha ea_nil s1) (fun vs H1 _ hvs Q q => by
    obtain ⟨v, rfl, h⟩ := dps1 hvs
    obtain ⟨t, ws, rfl, h1, h2⟩ := dp_lst h
    exact ⟨t, ws, x, ps, rfl, h1, h2, fun v hv => q v H1 (Ex.refl _) hv⟩) hg (he := s1)
/-- xs.extend(ys), two lists -/
theorem do_ext {x : Str} {px apos cpos : Pos} {l : Addr} {vs : List V} (hs : SR X.K H σ Γ) (i : Nat) (hl : H l = some (.lst vs)) (he : EvP X e σ H ds) (hz : vs.length + ds.length ≤ 100000)
    (k : ∀ ws H1, Ex H H1 → DpAll X.K H1 ws ds → Do X rest De σ (upd H1 l (.lst (vs ++ ws))))
    (hg : Γ[i]? = some (some (.at l)) := by rfl) (hN : X.N[i]? = some x := by rfl) (hv : Vis X.env.scope x := by first | exact Or.inl rfl | exact Or.inr (Or.inl rfl) | exact Or.inr (Or.inr rfl)) (hd : (x == ("__debug__" : Str)) = false := by decide)
    (hcd : (x == ("__classdict__" : Str)) = false := by decide) (hw : swapsWith (.Call (.Attribute (.Name x px) "extend" apos) [e] [] cpos) none pos.line X.env = pure false := by rfl)
    (hbase : attributeBase (.Name x px) "extend" X.env (eval (.Name x px) X.env) = eval (.Name x px) X.env := by rfl)
    (hfew : ((backTo cpos (starEach [e] X.env)).all (fun x => !x.1) && (backToKw cpos (keywordEach [] X.env)).all (fun x => x.1.isSome)
      && decide (([e] : List Expr).length + ([] : List Keyword).length + (if ([] : List Keyword).isEmpty then 0 else 1) < 30)) = true := by rfl)
    (hline : (apos.endLine == cpos.line) = true := by rfl) (hse : starEach [e] X.env = (false, eval e X.env) :: starEach [] X.env := by rfl) (hplain : (backTo cpos (starEach [] X.env)).any (·.1) = false := by rfl) :
    Do X (.Expr (.Call (.Attribute (.Name x px) "extend" apos) [e] [] cpos) pos :: rest) De σ H :=
  do_st (of_ps (ps_expr (pe_bm PySem.F.plainAttrs_list PySem.F.slot_list_extend PySem.F.type_list_extend mt_extend (pe_var hN hv hd hcd) (pa_cons pe_sem pa_nil hse) hbase hfew hline hse hplain) hw)
    ⟨_, hs.get_at hg, .inl ⟨rfl, vs, SqL.of hl⟩, he H (Ex.refl H) _ fun b ws H1 e1 hb hd => ⟨l, b, vs, ws, rfl, rfl, e1 l _ hl, hb, sz_of (by rw [dps_length hd]; exact hz), k ws H1 e1 hd⟩⟩)
/-- xs.extend(t), t a tuple -/
theorem do_extT {x : Str} {px apos cpos : Pos} {l : Addr} {vs : List V} (hs : SR X.K H σ Γ) (i : Nat) (hl : H l = some (.lst vs)) (he : EvE X e σ H (.tuple ds)) (hz : vs.length + ds.length ≤ 100000)
    (k : ∀ ws H1, Ex H H1 → DpAll X.K H1 ws ds → Do X rest De σ (upd H1 l (.lst (vs ++ ws))))
    (hg : Γ[i]? = some (some (.at l)) := by rfl) (hN : X.N[i]? = some x := by rfl) (hv : Vis X.env.scope x := by first | exact Or.inl rfl | exact Or.inr (Or.inl rfl) | exact Or.inr (Or.inr rfl)) (hd : (x == ("__debug__" : Str)) = false := by decide)
    (hcd : (x == ("__classdict__" : Str)) = false := by decide) (hw : swapsWith (.Call (.Attribute (.Name x px) "extend" apos) [e] [] cpos) none pos.line X.env = pure false := by rfl)
    (hbase : attributeBase (.Name x px) "extend" X.env (eval (.Name x px) X.env) = eval (.Name x px) X.env := by rfl)
    (hfew : ((backTo cpos (starEach [e] X.env)).all (fun x => !x.1) && (backToKw cpos (keywordEach [] X.env)).all (fun x => x.1.isSome)
      && decide (([e] : List Expr).length + ([] : List Keyword).length + (if ([] : List Keyword).isEmpty then 0 else 1) < 30)) = true := by rfl)
    (hline : (apos.endLine == cpos.line) = true := by rfl) (hse : starEach [e] X.env = (false, eval e X.env) :: starEach [] X.env := by rfl) (hplain : (backTo cpos (starEach [] X.env)).any (·.1) = false := by rfl) :
    Do X (.Expr (.Call (.Attribute (.Name x px) "extend" apos) [e] [] cpos) pos :: rest) De σ H :=
  do_st (of_ps (ps_expr (pe_bm PySem.F.plainAttrs_list PySem.F.slot_list_extend PySem.F.type_list_extend mt_extT (pe_var hN hv hd hcd) (pa_cons pe_sem pa_nil hse) hbase hfew hline hse hplain) hw)
    ⟨_, hs.get_at hg, .inl ⟨rfl, vs, SqL.of hl⟩, he H (Ex.refl H) _ fun v H1 e1 hv => by
      obtain ⟨t, ws, rfl, h1, h2⟩ := dp_tup hv
      exact ⟨l, t, vs, ws, rfl, rfl, e1 l _ hl, h1, sz_of (by rw [dps_length h2]; exact hz), k ws H1 e1 h2⟩⟩)
/-- xs[i] = e, xs a list in a slot -/
theorem do_setI {x : Str} {px : Pos} {l : Addr} {vs : List V} {n : Int} {j : Nat} {ie : Expr} (hs : SR X.K H σ Γ) (i : Nat) (hl : H l = some (.lst vs)) (hi : EvE X ie σ H (.int n)) (he : EvE X e σ H d) (hj : ixN vs.length n = some j)
    (k : ∀ v H1, Ex H H1 → Dp X.K H1 v d → Do X rest De σ (upd H1 l (.lst (vs.set j v))))
    (hg : Γ[i]? = some (some (.at l)) := by rfl) (hN : X.N[i]? = some x := by rfl) (hv : Vis X.env.scope x := by first | exact Or.inl rfl | exact Or.inr (Or.inl rfl) | exact Or.inr (Or.inr rfl)) (hd : (x == ("__debug__" : Str)) = false := by decide)
    (hcd : (x == ("__classdict__" : Str)) = false := by decide) (hw1 : swapsWithSole [.Subscript (.Name x px) ie pos'] e pos.line X.env = pure false := by rfl) (hw2 : swappedStores [.Subscript (.Name x px) ie pos'] e X.env = pure none := by rfl)
    (h1 : (assignEach [.Subscript (.Name x px) ie pos'] X.env).map (·.2) = [assign (.Subscript (.Name x px) ie pos') X.env] := by rfl)
    (ha : ∀ v, assign (.Subscript (.Name x px) ie pos') X.env v = (do
      let ov ← holding [v] (eval (.Name x px) X.env)
      let iv ← holding [v, ov] (eval ie X.env)
      standAt pos'
      holding [v, ov, iv] (setItem ov iv v)
      release [v, ov, iv] []) := by intro _; rfl) : Do X (.Assign [.Subscript (.Name x px) ie pos'] e pos :: rest) De σ H :=
  do_st (of_ps (ps_asg pe_sem (pg_sub (pe_var hN hv hd hcd) pe_sem set_list ha) hw1 hw2 h1) (he H (Ex.refl H) _ fun v H1 e1 hvd =>
    ⟨_, hs.get_at hg, hi H1 e1 _ fun w H2 e2 hw => by
      rw [dp_int hw]
      exact ⟨l, vs, n, j, rfl, rfl, e2 _ _ (e1 _ _ hl), hj, k v H2 (e1.trans e2) (dp_ex e2 _ _ hvd)⟩⟩))
def rGetL : V → V → Hp → VK → Prop := fun o i H Q => ∃ l vs n v, o = .ref l ∧ i = .int (n : Nat) ∧ H l = some (.lst vs) ∧ vs[n]? = some v ∧ Q v H
theorem get_listN : PGet X rGetL := by
  intro pins s σ H o i ov iv Q J ro ri h
  obtain ⟨l, vs, n, v, rfl, rfl, hl, hv, q⟩ := h
  cases ro
  obtain ⟨t, rfl⟩ := ri
  obtain ⟨its, r, pl, hz⟩ := J.list (SqL.of (K := X.K) hl)
  obtain ⟨u, hu, ru⟩ := r.get hv
  have hn : n < vs.length := (List.getElem?_eq_some_iff.mp hv).1
  exact wpAny_getItem_list pl.isList (by omega) (by have := line63; omega) (by simpa using hu) ⟨v, H, J, ru, q⟩
/-- xs[i] += e, ints -/
theorem do_augI {x : Str} {px : Pos} {l : Addr} {vs : List V} {n : Nat} {y z : Int} {ie : Expr} (hs : SR X.K H σ Γ) (i : Nat) (hl : H l = some (.lst vs)) (hi : EvE X ie σ H (.int n)) (he : EvE X e σ H (.int z)) (hj : vs[n]? = some (.int y))
    (k : ∀ H1, Ex H H1 → Do X rest De σ (upd H1 l (.lst (vs.set n (.int (y + z))))))
    (hg : Γ[i]? = some (some (.at l)) := by rfl) (hN : X.N[i]? = some x := by rfl) (hv : Vis X.env.scope x := by first | exact Or.inl rfl | exact Or.inr (Or.inl rfl) | exact Or.inr (Or.inr rfl)) (hd : (x == ("__debug__" : Str)) = false := by decide)
    (hcd : (x == ("__classdict__" : Str)) = false := by decide)
    (ha : ∀ ov iv new, augStore ie ov iv new = (do holding [new, ov, iv] (setItem ov iv new); release [new, ov, iv] []; pure .next) := by intros; rfl) : Do X (.AugAssign (.Subscript (.Name x px) ie pos') .Add e pos :: rest) De σ H :=
  do_st (of_ps (ps_augS (pe_var hN hv hd hcd) pe_sem get_listN pe_sem ip_add set_list ha) ⟨_, hs.get_at hg, hi H (Ex.refl H) _ fun w H1 e1 hw => by
    rw [dp_int hw]
    refine ⟨l, vs, n, .int y, rfl, rfl, e1 _ _ hl, hj, he H1 e1 _ fun u H2 e2 hu => ?_⟩
    rw [dp_int hu]
    have hn : n < vs.length := (List.getElem?_eq_some_iff.mp hj).1
    refine ⟨y, z, rfl, rfl, l, vs, n, n, rfl, rfl, e2 _ _ (e1 _ _ hl), ?_, k H2 (e1.trans e2)⟩
    unfold ixN
    rw [if_pos (by omega), if_pos (by omega), Int.toNat_natCast]⟩)
end
/-! ### arguments that are lists -/
inductive Arg where
  | d (x : D)
  | l (ds : List D)
  | at (p : Addr)
def ArV (K : PySem.W.Frag) (H : Hp) (v : V) : Arg → Prop
  | .d x => Dp K H v x
  | .l ds => ∃ p, v = .ref p ∧ LsAt K H p ds
  | .at p => v = .ref p
inductive ArAll (K : PySem.W.Frag) (H : Hp) : List V → List Arg → Prop
  | nil : ArAll K H [] []
  | cons {v : V} {a : Arg} {vs : List V} {as : List Arg} : ArV K H v a → ArAll K H vs as → ArAll K H (v :: vs) (a :: as)
theorem arv_ex {K : PySem.W.Frag} {H H' : Hp} {v : V} (e : Ex H H') : ∀ {a : Arg}, ArV K H v a → ArV K H' v a
  | .d _, h => dp_ex e _ _ h
  | .l _, ⟨p, h1, h2⟩ => ⟨p, h1, h2.ex e⟩
  | .at _, h => h
theorem arall_ex {K : PySem.W.Frag} {H H' : Hp} (e : Ex H H') : ∀ {vs : List V} {as : List Arg}, ArAll K H vs as → ArAll K H' vs as
  | _, _, .nil => .nil
  | _, _, .cons a b => .cons (arv_ex e a) (arall_ex e b)
theorem arall_length {K : PySem.W.Frag} {H : Hp} : ∀ {vs : List V} {as : List Arg}, ArAll K H vs as → vs.length = as.length
  | _, _, .nil => rfl
  | _, _, .cons _ b => congrArg Nat.succ (arall_length b)
section
variable {X : Cx} {a b c e o : Expr} {es : List Expr} {σ : L2.St} {H H' : Hp} {d d1 d2 : D} {ds : List D} {Γ : List (Option Sl)} {pos pos' p : Pos}
def EvV (X : Cx) (e : Expr) (σ : L2.St) (H : Hp) (a : Arg) : Prop := ∀ H1, Ex H H1 → ∀ Q : VK, (∀ v H2, Ex H1 H2 → ArV X.K H2 v a → Q v H2) → tSem X e σ H1 Q
def EvR (X : Cx) (es : List Expr) (σ : L2.St) (H : Hp) (as : List Arg) : Prop := ∀ H1, Ex H H1 → ∀ Q : List V → Hp → Prop, (∀ vs H2, Ex H1 H2 → ArAll X.K H2 vs as → Q vs H2) → tSemA X es σ H1 Q
theorem EvE.v (h : EvE X e σ H d) : EvV X e σ H (.d d) := h
theorem EvP.v (h : EvP X e σ H ds) : EvV X e σ H (.l ds) := fun H1 e1 Q q => h H1 e1 Q fun p vs H2 e2 h2 hd => q _ H2 e2 ⟨p, rfl, vs, h2, hd⟩
theorem EvN.v (h : EvN X e σ H ds) : EvV X e σ H (.l ds) := h.ep.v
theorem evAt {x : Str} {l : Addr} (hs : SR X.K H σ Γ) (i : Nat) (hg : Γ[i]? = some (some (.at l)) := by rfl) (hN : X.N[i]? = some x := by rfl) (hv : Vis X.env.scope x := by first | exact Or.inl rfl | exact Or.inr (Or.inl rfl) | exact Or.inr (Or.inr rfl)) (hd : (x == ("__debug__" : Str)) = false := by decide)
    (hcd : (x == ("__classdict__" : Str)) = false := by decide) : EvV X (.Name x pos) σ H (.at l) := fun H1 e1 Q q => of_pe (pe_var hN hv hd hcd) ⟨_, hs.get_at hg, q _ H1 (Ex.refl H1) rfl⟩
theorem er_nil : EvR X [] σ H [] := fun H1 _ Q q => of_pa pa_nil (q _ H1 (Ex.refl H1) .nil)
theorem er_cons {a : Arg} {as : List Arg} (ha : EvV X e σ H a) (hr : EvR X es σ H as) (hs : starEach (e :: es) X.env = (false, eval e X.env) :: starEach es X.env := by rfl) : EvR X (e :: es) σ H (a :: as) := fun H1 e1 Q q =>
  of_pa (pa_cons pe_sem pa_sem hs) (ha H1 e1 _ fun v H2 e2 hv => hr H2 (e1.trans e2) _ fun vs H3 e3 hvs => q _ H3 (e2.trans e3) (.cons (arv_ex e3 hv) hvs))
/-- a promise over arguments -/
def spA {ι : Type} (K : PySem.W.Frag) (args : ι → List Arg) (pre : ι → Prop) (f : ι → D) : Sp := fun vs H Q _ => ∃ x, pre x ∧ ArAll K H vs (args x) ∧ ∀ v H', Ex H H' → Dp K H' v (f x) → Q v H'
theorem ee_callR {k j : Nat} {x : Str} {ps : List Str} {sp : Sp} {as : List Arg} (G : Fn X.prog X.w X.K X.mg X.base j x ps sp) (hr : Room k X.A) (ha : EvR X (e :: es) σ H as)
    {H0 : Hp} (e0 : Ex H H0) {Q : VK} (hs : ∀ vs H1, Ex H0 H1 → ArAll X.K H1 vs as → sp vs H1 Q E0) (hj : j ≤ k := by decide)
    (hg : Gl X x := by rfl) (hdb : (x == ("__debug__" : Str)) = false := by decide) (he : starEach (e :: es) X.env = (false, eval e X.env) :: starEach es X.env := by rfl) (hpl : (backTo pos (starEach es X.env)).any (·.1) = false := by rfl) :
    tSem X (.Call (.Name x p) (e :: es) [] pos) σ H0 Q := by
  obtain ⟨f, fd, F, kp, hb, hm⟩ := G.ex
  refine of_pe (pe_call F (hr.mono hj) hg hm kp hb .nil pass0 pa_sem hdb he hpl) (ha H0 e0 _ fun vs H2 e2 hvs => ?_)
  show sp (vs ++ []) H2 Q E0
  rw [List.append_nil]
  exact hs vs H2 e2 hvs
theorem ee_callA {ι : Type} {k j : Nat} {x : Str} {ps : List Str} {args : ι → List Arg} {pre : ι → Prop} {f : ι → D} (G : Fn X.prog X.w X.K X.mg X.base j x ps (spA X.K args pre f)) (hr : Room k X.A) (y : ι) (ha : EvR X (e :: es) σ H (args y)) (hp : pre y) (hj : j ≤ k := by decide)
    (hg : Gl X x := by rfl) (hdb : (x == ("__debug__" : Str)) = false := by decide) (he : starEach (e :: es) X.env = (false, eval e X.env) :: starEach es X.env := by rfl) (hpl : (backTo pos (starEach es X.env)).any (·.1) = false := by rfl) :
    EvE X (.Call (.Name x p) (e :: es) [] pos) σ H (f y) := fun H1 e1 Q q =>
  ee_callR G hr ha e1 (fun vs H2 e2 hvs => ⟨y, hp, hvs, fun v H3 e3 hv => q v H3 (e2.trans e3) hv⟩) hj hg hdb he hpl
end
theorem spA_len {ι : Type} {K : PySem.W.Frag} {args : ι → List Arg} {pre : ι → Prop} {f : ι → D} {n : Nat} (h : ∀ x, (args x).length = n) : ∀ vs H Q E, spA K args pre f vs H Q E → vs.length = n := fun vs H Q E hs => by
  obtain ⟨x, _, hd, _⟩ := hs
  rw [arall_length hd, h]
end K30
namespace K30
open PySem PySem.Spec PyProof.Rows L2 Evl RZ
/-! ### comparisons as tests -/
def CmpD (X : Cx) (op : CmpOp) (d1 d2 : D) (t : Bool) : Prop := ∃ r, OpR X (compareOp op) r ∧ ∀ x y H1, Dp X.K H1 x d1 → Dp X.K H1 y d2 → ∀ Q : VK, (∀ H2, Ex H1 H2 → Q (.bl t) H2) → r x y H1 Q
section
variable {X : Cx} {a b c e : Expr} {σ : L2.St} {H : Hp} {d d1 d2 : D} {ds : List D} {pos : Pos} {i j k : Int} {t : Bool} {op : CmpOp}
theorem et_c (h : CmpD X op d1 d2 t) (ha : EvE X a σ H d1) (hb : EvE X b σ H d2) (hm : behindInMarks op b = false := by first | rfl | exact nomark _) : EvT X (.Compare a [op] [b] pos) σ H t := fun H1 e1 Q q => by
  obtain ⟨r, ho, hr⟩ := h
  exact of_pt (pt_cmpR ho pe_sem pe_sem hm) (ha H1 e1 _ fun x H2 e2 hx => hb H2 (e1.trans e2) _ fun y H3 e3 hy => hr x y H3 (dp_ex e3 _ _ hx) hy _ fun H4 e4 => ⟨t, rfl, q H4 ((e2.trans e3).trans e4)⟩)
theorem cd_I {g : Int → Int → Bool} (ho : OpR X (compareOp op) (rI0 fun i j => .bl (g i j))) : CmpD X op (.int i) (.int j) (g i j) := ⟨_, ho, fun x y H1 hx hy Q q => by
  rw [dp_int hx, dp_int hy]
  exact ⟨i, j, rfl, rfl, q H1 (Ex.refl _)⟩⟩
theorem cd_eqI : CmpD X .Eq (.int i) (.int j) (decide (i = j)) := ⟨_, op_eq, fun x y H1 hx hy Q q => by
  rw [dp_int hx, dp_int hy]
  refine ⟨rfl, ?_⟩
  rw [show decide (V.int i = V.int j) = decide (i = j) by simp]
  exact q H1 (Ex.refl _)⟩
theorem cd_neI : CmpD X .NotEq (.int i) (.int j) (!decide (i = j)) := ⟨_, op_ne, fun x y H1 hx hy Q q => by
  rw [dp_int hx, dp_int hy]
  refine ⟨rfl, ?_⟩
  rw [show decide (V.int i = V.int j) = decide (i = j) by simp]
  exact q H1 (Ex.refl _)⟩
theorem cd_eqS {x y : Str} : CmpD X .Eq (.str x) (.str y) (decide (x = y)) := ⟨_, op_eq, fun u v H1 hx hy Q q => by
  rw [dp_str hx, dp_str hy]
  refine ⟨rfl, ?_⟩
  rw [show decide (V.str x = V.str y) = decide (x = y) by simp]
  exact q H1 (Ex.refl _)⟩
theorem cd_neS {x y : Str} : CmpD X .NotEq (.str x) (.str y) (!decide (x = y)) := ⟨_, op_ne, fun u v H1 hx hy Q q => by
  rw [dp_str hx, dp_str hy]
  refine ⟨rfl, ?_⟩
  rw [show decide (V.str x = V.str y) = decide (x = y) by simp]
  exact q H1 (Ex.refl _)⟩
theorem cd_eqD (hu : X.A.units + 64 < cLine) (s1 : SeqAt.shaped d1 = true) (s2 : SeqAt.shaped d2 = true) : CmpD X .Eq d1 d2 (PyData.eqv d1 d2) := ⟨_, op_eqD hu, fun x y H1 hx hy Q q => ⟨d1, d2, hx, hy, s1, s2, q H1 (Ex.refl _)⟩⟩
theorem cd_neD (hu : X.A.units + 64 < cLine) (s1 : SeqAt.shaped d1 = true) (s2 : SeqAt.shaped d2 = true) : CmpD X .NotEq d1 d2 (!PyData.eqv d1 d2) := ⟨_, op_neD hu, fun x y H1 hx hy Q q => ⟨d1, d2, hx, hy, s1, s2, q H1 (Ex.refl _)⟩⟩
theorem et_lt (ha : EvE X a σ H (.int i)) (hb : EvE X b σ H (.int j)) : EvT X (.Compare a [.Lt] [b] pos) σ H (decide (i < j)) := et_c (cd_I op_lt) ha hb (nomark _)
theorem et_le (ha : EvE X a σ H (.int i)) (hb : EvE X b σ H (.int j)) : EvT X (.Compare a [.LtE] [b] pos) σ H (decide (i ≤ j)) := et_c (cd_I op_le) ha hb (nomark _)
theorem et_gt (ha : EvE X a σ H (.int i)) (hb : EvE X b σ H (.int j)) : EvT X (.Compare a [.Gt] [b] pos) σ H (decide (j < i)) := et_c (cd_I (g := fun i j => decide (j < i)) op_gt) ha hb (nomark _)
theorem et_ge (ha : EvE X a σ H (.int i)) (hb : EvE X b σ H (.int j)) : EvT X (.Compare a [.GtE] [b] pos) σ H (decide (j ≤ i)) := et_c (cd_I (g := fun i j => decide (j ≤ i)) op_ge) ha hb (nomark _)
theorem et_eqI (ha : EvE X a σ H (.int i)) (hb : EvE X b σ H (.int j)) : EvT X (.Compare a [.Eq] [b] pos) σ H (decide (i = j)) := et_c cd_eqI ha hb (nomark _)
theorem et_neI (ha : EvE X a σ H (.int i)) (hb : EvE X b σ H (.int j)) : EvT X (.Compare a [.NotEq] [b] pos) σ H (!decide (i = j)) := et_c cd_neI ha hb (nomark _)
theorem et_eqS {x y : Str} (ha : EvE X a σ H (.str x)) (hb : EvE X b σ H (.str y)) : EvT X (.Compare a [.Eq] [b] pos) σ H (decide (x = y)) := et_c cd_eqS ha hb (nomark _)
theorem et_neS {x y : Str} (ha : EvE X a σ H (.str x)) (hb : EvE X b σ H (.str y)) : EvT X (.Compare a [.NotEq] [b] pos) σ H (!decide (x = y)) := et_c cd_neS ha hb (nomark _)
theorem et_eqD (hu : X.A.units + 64 < cLine) (ha : EvE X a σ H d1) (hb : EvE X b σ H d2) (s1 : SeqAt.shaped d1 = true := by rfl) (s2 : SeqAt.shaped d2 = true := by rfl) : EvT X (.Compare a [.Eq] [b] pos) σ H (PyData.eqv d1 d2) := et_c (cd_eqD hu s1 s2) ha hb (nomark _)
theorem et_neD (hu : X.A.units + 64 < cLine) (ha : EvE X a σ H d1) (hb : EvE X b σ H d2) (s1 : SeqAt.shaped d1 = true := by rfl) (s2 : SeqAt.shaped d2 = true := by rfl) : EvT X (.Compare a [.NotEq] [b] pos) σ H (!PyData.eqv d1 d2) := et_c (cd_neD hu s1 s2) ha hb (nomark _)
theorem et_isN (ha : EvE X a σ H d) {j p2} : EvT X (.Compare a [.Is] [.Constant .none j p2] pos) σ H (isNone d) :=
  et_c (d2 := .none) ⟨_, op_isN, fun x y H1 hx hy Q q => ⟨dp_non hy, by rw [dp_isNone hx]; exact q H1 (Ex.refl _)⟩⟩ ha ee_non (nomark _)
theorem et_notN (ha : EvE X a σ H d) {j p2} : EvT X (.Compare a [.IsNot] [.Constant .none j p2] pos) σ H (!isNone d) :=
  et_c (d2 := .none) ⟨_, op_notN, fun x y H1 hx hy Q q => ⟨dp_non hy, by rw [dp_isNone hx]; exact q H1 (Ex.refl _)⟩⟩ ha ee_non (nomark _)
theorem et_notTrue {x : Bool} {kk p2} (ha : EvE X a σ H (.bool x)) : EvT X (.Compare a [.IsNot] [.Constant (.bool true) kk p2] pos) σ H (!x) :=
  et_c (d2 := .bool true) ⟨_, op_notBl, fun u v H1 hu hv Q q => by
    rw [dp_bl hu, dp_bl hv]
    refine ⟨x, true, rfl, rfl, ?_⟩
    rw [show (!decide (x = true)) = !x by cases x <;> rfl]
    exact q H1 (Ex.refl _)⟩ ha ee_bl (nomark _)
theorem et_inS {x : Str} {ys : List Str} (ha : EvE X a σ H (.str x)) (hb : EvE X b σ H (.tuple (ys.map PyData.str))) (hm : behindInMarks .In b = false := by rfl) : EvT X (.Compare a [.In] [b] pos) σ H (ys.contains x) :=
  et_c ⟨_, op_in_seq, fun u v H1 hx hy Q q => by
    rw [dp_str hx]
    obtain ⟨p, vs, rfl, h1, h2⟩ := dp_tup hy
    have key : ∀ (ys : List Str) (vs : List V), DpAll X.K H1 vs (ys.map PyData.str) → vs.all flatV = true ∧ inV (.str x) vs = ys.contains x := by
      intro ys
      induction ys with
      | nil => intro vs h; cases h; exact ⟨rfl, rfl⟩
      | cons y ys ih =>
        intro vs h
        cases h with
        | cons a b =>
          cases a
          obtain ⟨i1, i2⟩ := ih _ b
          refine ⟨by rw [List.all_cons, i1]; rfl, ?_⟩
          show (eqV (.str y) (.str x) || inV (.str x) _) = _
          rw [i2, List.contains_cons]
          congr 1
          show (y == x) = (x == y)
          exact Bool.beq_comm
    obtain ⟨k1, k2⟩ := key ys vs h2
    refine ⟨p, vs, rfl, .inr h1, rfl, k1, ?_⟩
    show Q (.bl (inV (.str x) vs)) H1
    rw [k2]
    exact q H1 (Ex.refl _)⟩ ha hb hm
theorem et_chain (ha : EvE X a σ H (.int i)) (hb : EvE X b σ H (.int j)) (hc : i ≤ j → EvE X c σ H (.int k)) (hm : lastMarks [.LtE, .LtE] [b, c] = false := by rfl) :
    EvT X (.Compare a [.LtE, .LtE] [b, c] pos) σ H (decide (i ≤ j) && decide (j ≤ k)) := fun H1 e1 Q q =>
  of_pt (pt_chain op_le op_le pe_sem pe_sem pe_sem (hm := hm)) (ha H1 e1 _ fun x H2 e2 hx => hb H2 (e1.trans e2) _ fun y H3 e3 hy => by
    rw [dp_int hx, dp_int hy]
    refine ⟨i, j, rfl, rfl, decide (i ≤ j), rfl, ?_⟩
    by_cases h : i ≤ j
    · rw [if_pos (decide_eq_true h)]
      refine hc h H3 ((e1.trans e2).trans e3) _ fun z H4 e4 hz => ?_
      rw [dp_int hz]
      refine ⟨j, k, rfl, rfl, _, rfl, ?_⟩
      rw [decide_eq_true h, Bool.true_and] at q
      exact q H4 ((e2.trans e3).trans e4)
    · rw [if_neg (by rw [decide_eq_false h]; decide)]
      rw [decide_eq_false h, Bool.false_and] at q
      exact ⟨_, rfl, q H3 (e2.trans e3)⟩)
/-- a call whose answer is named -/
theorem ee_cal {ι : Type} {es : List Expr} {p : Pos} {x : Str} {k j : Nat} {ps : List Str} {args : ι → List D} {pre : ι → Prop} {f : ι → D} (G : Fn X.prog X.w X.K X.mg X.base j x ps (spP X.K args pre f)) (hr : Room k X.A) (y : ι) (ha : EvA X (e :: es) σ H (args y)) (hp : pre y) (hj : j ≤ k := by decide) (hd : f y = d := by rfl)
    (hg : Gl X x := by rfl) (hdb : (x == ("__debug__" : Str)) = false := by decide) (he : starEach (e :: es) X.env = (false, eval e X.env) :: starEach es X.env := by rfl) (hpl : (backTo pos (starEach es X.env)).any (·.1) = false := by rfl) :
    EvE X (.Call (.Name x p) (e :: es) [] pos) σ H d := by
  rw [← hd]
  exact ee_call G hr y ha hp hj hg hdb he hpl
theorem ee_calA {ι : Type} {es : List Expr} {p : Pos} {x : Str} {k j : Nat} {ps : List Str} {args : ι → List Arg} {pre : ι → Prop} {f : ι → D} (G : Fn X.prog X.w X.K X.mg X.base j x ps (spA X.K args pre f)) (hr : Room k X.A) (y : ι) (ha : EvR X (e :: es) σ H (args y)) (hp : pre y) (hj : j ≤ k := by decide) (hd : f y = d := by rfl)
    (hg : Gl X x := by rfl) (hdb : (x == ("__debug__" : Str)) = false := by decide) (he : starEach (e :: es) X.env = (false, eval e X.env) :: starEach es X.env := by rfl) (hpl : (backTo pos (starEach es X.env)).any (·.1) = false := by rfl) :
    EvE X (.Call (.Name x p) (e :: es) [] pos) σ H d := by
  rw [← hd]
  exact ee_callA G hr y ha hp hj hg hdb he hpl
end
end K30
/-! The text by places: each def's statement; what the walk asks of the module's names. Printed by gen_head.py. -/
namespace K30
open PySem PySem.Spec PyProof.Rows L2 Evl
def topS (i : Nat) : Stmt := PySem.Challenge.pw_roomprofile_k30_whole_small_jobs.main.body.getD i (.Pass ⟨0, 0, 0, 0⟩)
abbrev s_is_integer : Stmt := topS 8
abbrev s_is_between : Stmt := topS 9
abbrev s_is_number : Stmt := topS 10
abbrev s_check_number : Stmt := topS 11
abbrev s_is_node : Stmt := topS 20
abbrev s_measured : Stmt := topS 21
abbrev s_measured_parts : Stmt := topS 22
abbrev s_measured_multiple : Stmt := topS 23
abbrev s_is_job : Stmt := topS 24
abbrev s_check_job : Stmt := topS 25
abbrev s_mirror_by : Stmt := topS 26
abbrev s_mirror : Stmt := topS 27
abbrev s_is_pair : Stmt := topS 30
abbrev s_is_valleys : Stmt := topS 31
abbrev s_check_valleys : Stmt := topS 32
abbrev s_value_by : Stmt := topS 33
abbrev s_valley_at : Stmt := topS 34
abbrev s_is_start : Stmt := topS 37
abbrev s_is_end : Stmt := topS 38
abbrev s_is_profile_by : Stmt := topS 39
abbrev s_check_profile : Stmt := topS 40
abbrev s_descending : Stmt := topS 41
abbrev s_moved : Stmt := topS 42
abbrev s_step_profile_by : Stmt := topS 43
abbrev s_start_behind : Stmt := topS 44
abbrev s_end_behind : Stmt := topS 45
abbrev s_two_profiles_by : Stmt := topS 46
abbrev s_seq_profiles_by : Stmt := topS 47
abbrev s_next_drop : Stmt := topS 49
abbrev s_joint : Stmt := topS 50
abbrev s_peak_beside : Stmt := topS 51
abbrev s_par_profiles_by : Stmt := topS 52
abbrev s_rounds_start : Stmt := topS 54
abbrev s_repeat_profile_by : Stmt := topS 55
abbrev s_copies_start : Stmt := topS 56
abbrev s_copies_profile_by : Stmt := topS 57
abbrev s_profile_by : Stmt := topS 59
abbrev s_profile : Stmt := topS 60
abbrev s_is_profile : Stmt := topS 61
abbrev s_turning_usages : Stmt := topS 62
abbrev s_normal_form : Stmt := topS 63
abbrev s_start_low : Stmt := topS 64
abbrev s_end_low : Stmt := topS 65
abbrev s_law_source : Stmt := topS 67
abbrev s_law_draw : Stmt := topS 68
abbrev s_law_great : Stmt := topS 69
abbrev s_law_step : Stmt := topS 70
abbrev s_law_empty : Stmt := topS 71
abbrev s_law_job : Stmt := topS 72
abbrev s_law_rows : Stmt := topS 73
abbrev s_law_states : Stmt := topS 74
abbrev s_law_reached : Stmt := topS 75
abbrev s_law_completed : Stmt := topS 76
abbrev s_law_valleys : Stmt := topS 77
abbrev s_law_profile : Stmt := topS 78
abbrev s_law_step_count : Stmt := topS 79
abbrev s_law_rich_job : Stmt := topS 80
abbrev s_law_lows_right : Stmt := topS 81
abbrev s_law_turned : Stmt := topS 82
abbrev s_law : Stmt := topS 83
def defs0 : List (Str × Stmt) := [("is_integer", s_is_integer), ("is_between", s_is_between), ("is_number", s_is_number), ("check_number", s_check_number), ("is_node", s_is_node), ("measured", s_measured), ("measured_parts", s_measured_parts), ("measured_multiple", s_measured_multiple), ("is_job", s_is_job), ("check_job", s_check_job), ("mirror_by", s_mirror_by), ("mirror", s_mirror), ("is_pair", s_is_pair), ("is_valleys", s_is_valleys), ("check_valleys", s_check_valleys), ("value_by", s_value_by), ("valley_at", s_valley_at), ("is_start", s_is_start), ("is_end", s_is_end), ("is_profile_by", s_is_profile_by)]
def defs1 : List (Str × Stmt) := [("check_profile", s_check_profile), ("descending", s_descending), ("moved", s_moved), ("step_profile_by", s_step_profile_by), ("start_behind", s_start_behind), ("end_behind", s_end_behind), ("two_profiles_by", s_two_profiles_by), ("seq_profiles_by", s_seq_profiles_by), ("next_drop", s_next_drop), ("joint", s_joint), ("peak_beside", s_peak_beside), ("par_profiles_by", s_par_profiles_by), ("rounds_start", s_rounds_start), ("repeat_profile_by", s_repeat_profile_by), ("copies_start", s_copies_start), ("copies_profile_by", s_copies_profile_by), ("profile_by", s_profile_by), ("profile", s_profile), ("is_profile", s_is_profile), ("turning_usages", s_turning_usages)]
def defs2 : List (Str × Stmt) := [("normal_form", s_normal_form), ("start_low", s_start_low), ("end_low", s_end_low), ("_law_source", s_law_source), ("_law_draw", s_law_draw), ("_law_great", s_law_great), ("_law_step", s_law_step), ("_law_empty", s_law_empty), ("_law_job", s_law_job), ("_law_rows", s_law_rows), ("_law_states", s_law_states), ("_law_reached", s_law_reached), ("_law_completed", s_law_completed), ("_law_valleys", s_law_valleys), ("_law_profile", s_law_profile), ("_law_step_count", s_law_step_count), ("_law_rich_job", s_law_rich_job), ("_law_lows_right", s_law_lows_right), ("_law_turned", s_law_turned), ("law", s_law)]
def defsL : List (Str × Stmt) := defs0 ++ defs1 ++ defs2
def intsL : List (Str × Int) := [("MAX_INTEGER", 9999999999999999999999999999999999999999999999999999999999999), ("MAX_STEP", 1000000000000000000000000000000), ("MAX_COUNT", 1000000000000000000000000000000), ("MAX_PARTS", 400), ("MAX_NODES", 400), ("MAX_DEPTH", 13), ("MAX_VALLEYS", 400)]
def builtL : List Str := ["isinstance", "int", "bool", "tuple", "str", "len", "all", "zip", "sorted", "max", "min", "sum", "enumerate", "range", "list", "abs", "repr"]
/-- what the top has left -/
structure Tops (K : PySem.W.Frag) (mg : Str → Option Value) : Prop where
  df : ∀ (i : Nat) (q : Str × Stmt), defsL[i]? = some q → ∃ f fd, FunD K q.1 q.1 (defArgs q.2) (defBody q.2) (defScope q.2) [] [] f fd ∧ mg q.1 = some (.ref f)
  it : ∀ (i : Nat) (q : Str × Int), intsL[i]? = some q → ∃ t, mg q.1 = some (.int q.2 t)
  bl : ∀ (i : Nat) (x : Str), builtL[i]? = some x → mg x = none
  groups : ∃ l, mg "GROUPS" = some (.ref l) ∧ ∀ H, Dp K H (.ref l) (.tuple [.str "seq", .str "par"])
  multiples : ∃ l, mg "MULTIPLES" = some (.ref l) ∧ ∀ H, Dp K H (.ref l) (.tuple [.str "repeat", .str "copies"])
  empty : ∃ l, mg "EMPTY" = some (.ref l) ∧ ∀ H, Dp K H (.ref l) (.tuple [.int 0, .int 0, .tuple [.tuple [.int 0, .int 0]], .tuple [.tuple [.int 0, .int 0]]])
section
variable {K : PySem.W.Frag} {mg : Str → Option Value} (T : Tops K mg)
include T
theorem Tops.d_is_integer : ∃ f fd, FunD K "is_integer" "is_integer" (defArgs s_is_integer) (defBody s_is_integer) (defScope s_is_integer) [] [] f fd ∧ mg "is_integer" = some (.ref f) := T.df 0 ("is_integer", s_is_integer) rfl
theorem Tops.d_is_between : ∃ f fd, FunD K "is_between" "is_between" (defArgs s_is_between) (defBody s_is_between) (defScope s_is_between) [] [] f fd ∧ mg "is_between" = some (.ref f) := T.df 1 ("is_between", s_is_between) rfl
theorem Tops.d_is_number : ∃ f fd, FunD K "is_number" "is_number" (defArgs s_is_number) (defBody s_is_number) (defScope s_is_number) [] [] f fd ∧ mg "is_number" = some (.ref f) := T.df 2 ("is_number", s_is_number) rfl
theorem Tops.d_check_number : ∃ f fd, FunD K "check_number" "check_number" (defArgs s_check_number) (defBody s_check_number) (defScope s_check_number) [] [] f fd ∧ mg "check_number" = some (.ref f) := T.df 3 ("check_number", s_check_number) rfl
theorem Tops.d_is_node : ∃ f fd, FunD K "is_node" "is_node" (defArgs s_is_node) (defBody s_is_node) (defScope s_is_node) [] [] f fd ∧ mg "is_node" = some (.ref f) := T.df 4 ("is_node", s_is_node) rfl
theorem Tops.d_measured : ∃ f fd, FunD K "measured" "measured" (defArgs s_measured) (defBody s_measured) (defScope s_measured) [] [] f fd ∧ mg "measured" = some (.ref f) := T.df 5 ("measured", s_measured) rfl
theorem Tops.d_measured_parts : ∃ f fd, FunD K "measured_parts" "measured_parts" (defArgs s_measured_parts) (defBody s_measured_parts) (defScope s_measured_parts) [] [] f fd ∧ mg "measured_parts" = some (.ref f) := T.df 6 ("measured_parts", s_measured_parts) rfl
theorem Tops.d_measured_multiple : ∃ f fd, FunD K "measured_multiple" "measured_multiple" (defArgs s_measured_multiple) (defBody s_measured_multiple) (defScope s_measured_multiple) [] [] f fd ∧ mg "measured_multiple" = some (.ref f) := T.df 7 ("measured_multiple", s_measured_multiple) rfl
theorem Tops.d_is_job : ∃ f fd, FunD K "is_job" "is_job" (defArgs s_is_job) (defBody s_is_job) (defScope s_is_job) [] [] f fd ∧ mg "is_job" = some (.ref f) := T.df 8 ("is_job", s_is_job) rfl
theorem Tops.d_check_job : ∃ f fd, FunD K "check_job" "check_job" (defArgs s_check_job) (defBody s_check_job) (defScope s_check_job) [] [] f fd ∧ mg "check_job" = some (.ref f) := T.df 9 ("check_job", s_check_job) rfl
theorem Tops.d_mirror_by : ∃ f fd, FunD K "mirror_by" "mirror_by" (defArgs s_mirror_by) (defBody s_mirror_by) (defScope s_mirror_by) [] [] f fd ∧ mg "mirror_by" = some (.ref f) := T.df 10 ("mirror_by", s_mirror_by) rfl
theorem Tops.d_mirror : ∃ f fd, FunD K "mirror" "mirror" (defArgs s_mirror) (defBody s_mirror) (defScope s_mirror) [] [] f fd ∧ mg "mirror" = some (.ref f) := T.df 11 ("mirror", s_mirror) rfl
theorem Tops.d_is_pair : ∃ f fd, FunD K "is_pair" "is_pair" (defArgs s_is_pair) (defBody s_is_pair) (defScope s_is_pair) [] [] f fd ∧ mg "is_pair" = some (.ref f) := T.df 12 ("is_pair", s_is_pair) rfl
theorem Tops.d_is_valleys : ∃ f fd, FunD K "is_valleys" "is_valleys" (defArgs s_is_valleys) (defBody s_is_valleys) (defScope s_is_valleys) [] [] f fd ∧ mg "is_valleys" = some (.ref f) := T.df 13 ("is_valleys", s_is_valleys) rfl
theorem Tops.d_check_valleys : ∃ f fd, FunD K "check_valleys" "check_valleys" (defArgs s_check_valleys) (defBody s_check_valleys) (defScope s_check_valleys) [] [] f fd ∧ mg "check_valleys" = some (.ref f) := T.df 14 ("check_valleys", s_check_valleys) rfl
theorem Tops.d_value_by : ∃ f fd, FunD K "value_by" "value_by" (defArgs s_value_by) (defBody s_value_by) (defScope s_value_by) [] [] f fd ∧ mg "value_by" = some (.ref f) := T.df 15 ("value_by", s_value_by) rfl
theorem Tops.d_valley_at : ∃ f fd, FunD K "valley_at" "valley_at" (defArgs s_valley_at) (defBody s_valley_at) (defScope s_valley_at) [] [] f fd ∧ mg "valley_at" = some (.ref f) := T.df 16 ("valley_at", s_valley_at) rfl
theorem Tops.d_is_start : ∃ f fd, FunD K "is_start" "is_start" (defArgs s_is_start) (defBody s_is_start) (defScope s_is_start) [] [] f fd ∧ mg "is_start" = some (.ref f) := T.df 17 ("is_start", s_is_start) rfl
theorem Tops.d_is_end : ∃ f fd, FunD K "is_end" "is_end" (defArgs s_is_end) (defBody s_is_end) (defScope s_is_end) [] [] f fd ∧ mg "is_end" = some (.ref f) := T.df 18 ("is_end", s_is_end) rfl
theorem Tops.d_is_profile_by : ∃ f fd, FunD K "is_profile_by" "is_profile_by" (defArgs s_is_profile_by) (defBody s_is_profile_by) (defScope s_is_profile_by) [] [] f fd ∧ mg "is_profile_by" = some (.ref f) := T.df 19 ("is_profile_by", s_is_profile_by) rfl
theorem Tops.d_check_profile : ∃ f fd, FunD K "check_profile" "check_profile" (defArgs s_check_profile) (defBody s_check_profile) (defScope s_check_profile) [] [] f fd ∧ mg "check_profile" = some (.ref f) := T.df 20 ("check_profile", s_check_profile) rfl
theorem Tops.d_descending : ∃ f fd, FunD K "descending" "descending" (defArgs s_descending) (defBody s_descending) (defScope s_descending) [] [] f fd ∧ mg "descending" = some (.ref f) := T.df 21 ("descending", s_descending) rfl
theorem Tops.d_moved : ∃ f fd, FunD K "moved" "moved" (defArgs s_moved) (defBody s_moved) (defScope s_moved) [] [] f fd ∧ mg "moved" = some (.ref f) := T.df 22 ("moved", s_moved) rfl
theorem Tops.d_step_profile_by : ∃ f fd, FunD K "step_profile_by" "step_profile_by" (defArgs s_step_profile_by) (defBody s_step_profile_by) (defScope s_step_profile_by) [] [] f fd ∧ mg "step_profile_by" = some (.ref f) := T.df 23 ("step_profile_by", s_step_profile_by) rfl
theorem Tops.d_start_behind : ∃ f fd, FunD K "start_behind" "start_behind" (defArgs s_start_behind) (defBody s_start_behind) (defScope s_start_behind) [] [] f fd ∧ mg "start_behind" = some (.ref f) := T.df 24 ("start_behind", s_start_behind) rfl
theorem Tops.d_end_behind : ∃ f fd, FunD K "end_behind" "end_behind" (defArgs s_end_behind) (defBody s_end_behind) (defScope s_end_behind) [] [] f fd ∧ mg "end_behind" = some (.ref f) := T.df 25 ("end_behind", s_end_behind) rfl
theorem Tops.d_two_profiles_by : ∃ f fd, FunD K "two_profiles_by" "two_profiles_by" (defArgs s_two_profiles_by) (defBody s_two_profiles_by) (defScope s_two_profiles_by) [] [] f fd ∧ mg "two_profiles_by" = some (.ref f) := T.df 26 ("two_profiles_by", s_two_profiles_by) rfl
theorem Tops.d_seq_profiles_by : ∃ f fd, FunD K "seq_profiles_by" "seq_profiles_by" (defArgs s_seq_profiles_by) (defBody s_seq_profiles_by) (defScope s_seq_profiles_by) [] [] f fd ∧ mg "seq_profiles_by" = some (.ref f) := T.df 27 ("seq_profiles_by", s_seq_profiles_by) rfl
theorem Tops.d_next_drop : ∃ f fd, FunD K "next_drop" "next_drop" (defArgs s_next_drop) (defBody s_next_drop) (defScope s_next_drop) [] [] f fd ∧ mg "next_drop" = some (.ref f) := T.df 28 ("next_drop", s_next_drop) rfl
theorem Tops.d_joint : ∃ f fd, FunD K "joint" "joint" (defArgs s_joint) (defBody s_joint) (defScope s_joint) [] [] f fd ∧ mg "joint" = some (.ref f) := T.df 29 ("joint", s_joint) rfl
theorem Tops.d_peak_beside : ∃ f fd, FunD K "peak_beside" "peak_beside" (defArgs s_peak_beside) (defBody s_peak_beside) (defScope s_peak_beside) [] [] f fd ∧ mg "peak_beside" = some (.ref f) := T.df 30 ("peak_beside", s_peak_beside) rfl
theorem Tops.d_par_profiles_by : ∃ f fd, FunD K "par_profiles_by" "par_profiles_by" (defArgs s_par_profiles_by) (defBody s_par_profiles_by) (defScope s_par_profiles_by) [] [] f fd ∧ mg "par_profiles_by" = some (.ref f) := T.df 31 ("par_profiles_by", s_par_profiles_by) rfl
theorem Tops.d_rounds_start : ∃ f fd, FunD K "rounds_start" "rounds_start" (defArgs s_rounds_start) (defBody s_rounds_start) (defScope s_rounds_start) [] [] f fd ∧ mg "rounds_start" = some (.ref f) := T.df 32 ("rounds_start", s_rounds_start) rfl
theorem Tops.d_repeat_profile_by : ∃ f fd, FunD K "repeat_profile_by" "repeat_profile_by" (defArgs s_repeat_profile_by) (defBody s_repeat_profile_by) (defScope s_repeat_profile_by) [] [] f fd ∧ mg "repeat_profile_by" = some (.ref f) := T.df 33 ("repeat_profile_by", s_repeat_profile_by) rfl
theorem Tops.d_copies_start : ∃ f fd, FunD K "copies_start" "copies_start" (defArgs s_copies_start) (defBody s_copies_start) (defScope s_copies_start) [] [] f fd ∧ mg "copies_start" = some (.ref f) := T.df 34 ("copies_start", s_copies_start) rfl
theorem Tops.d_copies_profile_by : ∃ f fd, FunD K "copies_profile_by" "copies_profile_by" (defArgs s_copies_profile_by) (defBody s_copies_profile_by) (defScope s_copies_profile_by) [] [] f fd ∧ mg "copies_profile_by" = some (.ref f) := T.df 35 ("copies_profile_by", s_copies_profile_by) rfl
theorem Tops.d_profile_by : ∃ f fd, FunD K "profile_by" "profile_by" (defArgs s_profile_by) (defBody s_profile_by) (defScope s_profile_by) [] [] f fd ∧ mg "profile_by" = some (.ref f) := T.df 36 ("profile_by", s_profile_by) rfl
theorem Tops.d_profile : ∃ f fd, FunD K "profile" "profile" (defArgs s_profile) (defBody s_profile) (defScope s_profile) [] [] f fd ∧ mg "profile" = some (.ref f) := T.df 37 ("profile", s_profile) rfl
theorem Tops.d_is_profile : ∃ f fd, FunD K "is_profile" "is_profile" (defArgs s_is_profile) (defBody s_is_profile) (defScope s_is_profile) [] [] f fd ∧ mg "is_profile" = some (.ref f) := T.df 38 ("is_profile", s_is_profile) rfl
theorem Tops.d_turning_usages : ∃ f fd, FunD K "turning_usages" "turning_usages" (defArgs s_turning_usages) (defBody s_turning_usages) (defScope s_turning_usages) [] [] f fd ∧ mg "turning_usages" = some (.ref f) := T.df 39 ("turning_usages", s_turning_usages) rfl
theorem Tops.d_normal_form : ∃ f fd, FunD K "normal_form" "normal_form" (defArgs s_normal_form) (defBody s_normal_form) (defScope s_normal_form) [] [] f fd ∧ mg "normal_form" = some (.ref f) := T.df 40 ("normal_form", s_normal_form) rfl
theorem Tops.d_start_low : ∃ f fd, FunD K "start_low" "start_low" (defArgs s_start_low) (defBody s_start_low) (defScope s_start_low) [] [] f fd ∧ mg "start_low" = some (.ref f) := T.df 41 ("start_low", s_start_low) rfl
theorem Tops.d_end_low : ∃ f fd, FunD K "end_low" "end_low" (defArgs s_end_low) (defBody s_end_low) (defScope s_end_low) [] [] f fd ∧ mg "end_low" = some (.ref f) := T.df 42 ("end_low", s_end_low) rfl
theorem Tops.d_law_source : ∃ f fd, FunD K "_law_source" "_law_source" (defArgs s_law_source) (defBody s_law_source) (defScope s_law_source) [] [] f fd ∧ mg "_law_source" = some (.ref f) := T.df 43 ("_law_source", s_law_source) rfl
theorem Tops.d_law_draw : ∃ f fd, FunD K "_law_draw" "_law_draw" (defArgs s_law_draw) (defBody s_law_draw) (defScope s_law_draw) [] [] f fd ∧ mg "_law_draw" = some (.ref f) := T.df 44 ("_law_draw", s_law_draw) rfl
theorem Tops.d_law_great : ∃ f fd, FunD K "_law_great" "_law_great" (defArgs s_law_great) (defBody s_law_great) (defScope s_law_great) [] [] f fd ∧ mg "_law_great" = some (.ref f) := T.df 45 ("_law_great", s_law_great) rfl
theorem Tops.d_law_step : ∃ f fd, FunD K "_law_step" "_law_step" (defArgs s_law_step) (defBody s_law_step) (defScope s_law_step) [] [] f fd ∧ mg "_law_step" = some (.ref f) := T.df 46 ("_law_step", s_law_step) rfl
theorem Tops.d_law_empty : ∃ f fd, FunD K "_law_empty" "_law_empty" (defArgs s_law_empty) (defBody s_law_empty) (defScope s_law_empty) [] [] f fd ∧ mg "_law_empty" = some (.ref f) := T.df 47 ("_law_empty", s_law_empty) rfl
theorem Tops.d_law_job : ∃ f fd, FunD K "_law_job" "_law_job" (defArgs s_law_job) (defBody s_law_job) (defScope s_law_job) [] [] f fd ∧ mg "_law_job" = some (.ref f) := T.df 48 ("_law_job", s_law_job) rfl
theorem Tops.d_law_rows : ∃ f fd, FunD K "_law_rows" "_law_rows" (defArgs s_law_rows) (defBody s_law_rows) (defScope s_law_rows) [] [] f fd ∧ mg "_law_rows" = some (.ref f) := T.df 49 ("_law_rows", s_law_rows) rfl
theorem Tops.d_law_states : ∃ f fd, FunD K "_law_states" "_law_states" (defArgs s_law_states) (defBody s_law_states) (defScope s_law_states) [] [] f fd ∧ mg "_law_states" = some (.ref f) := T.df 50 ("_law_states", s_law_states) rfl
theorem Tops.d_law_reached : ∃ f fd, FunD K "_law_reached" "_law_reached" (defArgs s_law_reached) (defBody s_law_reached) (defScope s_law_reached) [] [] f fd ∧ mg "_law_reached" = some (.ref f) := T.df 51 ("_law_reached", s_law_reached) rfl
theorem Tops.d_law_completed : ∃ f fd, FunD K "_law_completed" "_law_completed" (defArgs s_law_completed) (defBody s_law_completed) (defScope s_law_completed) [] [] f fd ∧ mg "_law_completed" = some (.ref f) := T.df 52 ("_law_completed", s_law_completed) rfl
theorem Tops.d_law_valleys : ∃ f fd, FunD K "_law_valleys" "_law_valleys" (defArgs s_law_valleys) (defBody s_law_valleys) (defScope s_law_valleys) [] [] f fd ∧ mg "_law_valleys" = some (.ref f) := T.df 53 ("_law_valleys", s_law_valleys) rfl
theorem Tops.d_law_profile : ∃ f fd, FunD K "_law_profile" "_law_profile" (defArgs s_law_profile) (defBody s_law_profile) (defScope s_law_profile) [] [] f fd ∧ mg "_law_profile" = some (.ref f) := T.df 54 ("_law_profile", s_law_profile) rfl
theorem Tops.d_law_step_count : ∃ f fd, FunD K "_law_step_count" "_law_step_count" (defArgs s_law_step_count) (defBody s_law_step_count) (defScope s_law_step_count) [] [] f fd ∧ mg "_law_step_count" = some (.ref f) := T.df 55 ("_law_step_count", s_law_step_count) rfl
theorem Tops.d_law_rich_job : ∃ f fd, FunD K "_law_rich_job" "_law_rich_job" (defArgs s_law_rich_job) (defBody s_law_rich_job) (defScope s_law_rich_job) [] [] f fd ∧ mg "_law_rich_job" = some (.ref f) := T.df 56 ("_law_rich_job", s_law_rich_job) rfl
theorem Tops.d_law_lows_right : ∃ f fd, FunD K "_law_lows_right" "_law_lows_right" (defArgs s_law_lows_right) (defBody s_law_lows_right) (defScope s_law_lows_right) [] [] f fd ∧ mg "_law_lows_right" = some (.ref f) := T.df 57 ("_law_lows_right", s_law_lows_right) rfl
theorem Tops.d_law_turned : ∃ f fd, FunD K "_law_turned" "_law_turned" (defArgs s_law_turned) (defBody s_law_turned) (defScope s_law_turned) [] [] f fd ∧ mg "_law_turned" = some (.ref f) := T.df 58 ("_law_turned", s_law_turned) rfl
theorem Tops.d_law : ∃ f fd, FunD K "law" "law" (defArgs s_law) (defBody s_law) (defScope s_law) [] [] f fd ∧ mg "law" = some (.ref f) := T.df 59 ("law", s_law) rfl
theorem Tops.i_MAX_INTEGER : ∃ t, mg "MAX_INTEGER" = some (.int 9999999999999999999999999999999999999999999999999999999999999 t) := T.it 0 ("MAX_INTEGER", 9999999999999999999999999999999999999999999999999999999999999) rfl
theorem Tops.i_MAX_STEP : ∃ t, mg "MAX_STEP" = some (.int 1000000000000000000000000000000 t) := T.it 1 ("MAX_STEP", 1000000000000000000000000000000) rfl
theorem Tops.i_MAX_COUNT : ∃ t, mg "MAX_COUNT" = some (.int 1000000000000000000000000000000 t) := T.it 2 ("MAX_COUNT", 1000000000000000000000000000000) rfl
theorem Tops.i_MAX_PARTS : ∃ t, mg "MAX_PARTS" = some (.int 400 t) := T.it 3 ("MAX_PARTS", 400) rfl
theorem Tops.i_MAX_NODES : ∃ t, mg "MAX_NODES" = some (.int 400 t) := T.it 4 ("MAX_NODES", 400) rfl
theorem Tops.i_MAX_DEPTH : ∃ t, mg "MAX_DEPTH" = some (.int 13 t) := T.it 5 ("MAX_DEPTH", 13) rfl
theorem Tops.i_MAX_VALLEYS : ∃ t, mg "MAX_VALLEYS" = some (.int 400 t) := T.it 6 ("MAX_VALLEYS", 400) rfl
theorem Tops.b_isinstance : mg "isinstance" = none := T.bl 0 "isinstance" rfl
theorem Tops.b_int : mg "int" = none := T.bl 1 "int" rfl
theorem Tops.b_bool : mg "bool" = none := T.bl 2 "bool" rfl
theorem Tops.b_tuple : mg "tuple" = none := T.bl 3 "tuple" rfl
theorem Tops.b_str : mg "str" = none := T.bl 4 "str" rfl
theorem Tops.b_len : mg "len" = none := T.bl 5 "len" rfl
theorem Tops.b_all : mg "all" = none := T.bl 6 "all" rfl
theorem Tops.b_zip : mg "zip" = none := T.bl 7 "zip" rfl
theorem Tops.b_sorted : mg "sorted" = none := T.bl 8 "sorted" rfl
theorem Tops.b_max : mg "max" = none := T.bl 9 "max" rfl
theorem Tops.b_min : mg "min" = none := T.bl 10 "min" rfl
theorem Tops.b_sum : mg "sum" = none := T.bl 11 "sum" rfl
theorem Tops.b_enumerate : mg "enumerate" = none := T.bl 12 "enumerate" rfl
theorem Tops.b_range : mg "range" = none := T.bl 13 "range" rfl
theorem Tops.b_list : mg "list" = none := T.bl 14 "list" rfl
theorem Tops.b_abs : mg "abs" = none := T.bl 15 "abs" rfl
theorem Tops.b_repr : mg "repr" = none := T.bl 16 "repr" rfl
end
end K30
/-! Each def's slots, as its scope names them. Printed by gen_sc.py. -/
namespace K30
open PySem PySem.Spec PyProof.Rows L2 Evl
abbrev n_is_integer : List Str := ["value"]
theorem sc_is_integer : FnScope n_is_integer ["value"] (defScope s_is_integer) := ⟨rfl, rfl, rfl, by decide +kernel, rfl, by decide +kernel, by decide +kernel⟩
theorem hb_is_integer (kV doc pm : Value) (an : Option Addr) (cdv ct : Value) (us : List Value) (h : us.length = (["value"] : List Str).length) : bindArgs (PySem.W.fnOf "is_integer" "is_integer" (defArgs s_is_integer) (defBody s_is_integer) (defScope s_is_integer) .none kV doc pm an cdv ct) ⟨us, []⟩ = pure ((["value"] : List Str).zip us) := match us, h with | [_], _ => rfl
abbrev n_is_between : List Str := ["value", "low", "high"]
theorem sc_is_between : FnScope n_is_between ["value", "low", "high"] (defScope s_is_between) := ⟨rfl, rfl, rfl, by decide +kernel, rfl, by decide +kernel, by decide +kernel⟩
theorem hb_is_between (kV doc pm : Value) (an : Option Addr) (cdv ct : Value) (us : List Value) (h : us.length = (["value", "low", "high"] : List Str).length) : bindArgs (PySem.W.fnOf "is_between" "is_between" (defArgs s_is_between) (defBody s_is_between) (defScope s_is_between) .none kV doc pm an cdv ct) ⟨us, []⟩ = pure ((["value", "low", "high"] : List Str).zip us) := match us, h with | [_, _, _], _ => rfl
abbrev n_is_number : List Str := ["value"]
theorem sc_is_number : FnScope n_is_number ["value"] (defScope s_is_number) := ⟨rfl, rfl, rfl, by decide +kernel, rfl, by decide +kernel, by decide +kernel⟩
theorem hb_is_number (kV doc pm : Value) (an : Option Addr) (cdv ct : Value) (us : List Value) (h : us.length = (["value"] : List Str).length) : bindArgs (PySem.W.fnOf "is_number" "is_number" (defArgs s_is_number) (defBody s_is_number) (defScope s_is_number) .none kV doc pm an cdv ct) ⟨us, []⟩ = pure ((["value"] : List Str).zip us) := match us, h with | [_], _ => rfl
abbrev n_check_number : List Str := ["value"]
theorem sc_check_number : FnScope n_check_number ["value"] (defScope s_check_number) := ⟨rfl, rfl, rfl, by decide +kernel, rfl, by decide +kernel, by decide +kernel⟩
theorem hb_check_number (kV doc pm : Value) (an : Option Addr) (cdv ct : Value) (us : List Value) (h : us.length = (["value"] : List Str).length) : bindArgs (PySem.W.fnOf "check_number" "check_number" (defArgs s_check_number) (defBody s_check_number) (defScope s_check_number) .none kV doc pm an cdv ct) ⟨us, []⟩ = pure ((["value"] : List Str).zip us) := match us, h with | [_], _ => rfl
abbrev n_is_node : List Str := ["job"]
theorem sc_is_node : FnScope n_is_node ["job"] (defScope s_is_node) := ⟨rfl, rfl, rfl, by decide +kernel, rfl, by decide +kernel, by decide +kernel⟩
theorem hb_is_node (kV doc pm : Value) (an : Option Addr) (cdv ct : Value) (us : List Value) (h : us.length = (["job"] : List Str).length) : bindArgs (PySem.W.fnOf "is_node" "is_node" (defArgs s_is_node) (defBody s_is_node) (defScope s_is_node) .none kV doc pm an cdv ct) ⟨us, []⟩ = pure ((["job"] : List Str).zip us) := match us, h with | [_], _ => rfl
abbrev n_measured : List Str := ["value", "depth"]
theorem sc_measured : FnScope n_measured ["value", "depth"] (defScope s_measured) := ⟨rfl, rfl, rfl, by decide +kernel, rfl, by decide +kernel, by decide +kernel⟩
theorem hb_measured (kV doc pm : Value) (an : Option Addr) (cdv ct : Value) (us : List Value) (h : us.length = (["value", "depth"] : List Str).length) : bindArgs (PySem.W.fnOf "measured" "measured" (defArgs s_measured) (defBody s_measured) (defScope s_measured) .none kV doc pm an cdv ct) ⟨us, []⟩ = pure ((["value", "depth"] : List Str).zip us) := match us, h with | [_, _], _ => rfl
abbrev n_measured_parts : List Str := ["parts", "depth", "nodes", "steps", "part", "sizes"]
theorem sc_measured_parts : FnScope n_measured_parts ["parts", "depth"] (defScope s_measured_parts) := ⟨rfl, rfl, rfl, by decide +kernel, rfl, by decide +kernel, by decide +kernel⟩
theorem hb_measured_parts (kV doc pm : Value) (an : Option Addr) (cdv ct : Value) (us : List Value) (h : us.length = (["parts", "depth"] : List Str).length) : bindArgs (PySem.W.fnOf "measured_parts" "measured_parts" (defArgs s_measured_parts) (defBody s_measured_parts) (defScope s_measured_parts) .none kV doc pm an cdv ct) ⟨us, []⟩ = pure ((["parts", "depth"] : List Str).zip us) := match us, h with | [_, _], _ => rfl
abbrev n_measured_multiple : List Str := ["count", "inner", "depth", "sizes"]
theorem sc_measured_multiple : FnScope n_measured_multiple ["count", "inner", "depth"] (defScope s_measured_multiple) := ⟨rfl, rfl, rfl, by decide +kernel, rfl, by decide +kernel, by decide +kernel⟩
theorem hb_measured_multiple (kV doc pm : Value) (an : Option Addr) (cdv ct : Value) (us : List Value) (h : us.length = (["count", "inner", "depth"] : List Str).length) : bindArgs (PySem.W.fnOf "measured_multiple" "measured_multiple" (defArgs s_measured_multiple) (defBody s_measured_multiple) (defScope s_measured_multiple) .none kV doc pm an cdv ct) ⟨us, []⟩ = pure ((["count", "inner", "depth"] : List Str).zip us) := match us, h with | [_, _, _], _ => rfl
abbrev n_is_job : List Str := ["value"]
theorem sc_is_job : FnScope n_is_job ["value"] (defScope s_is_job) := ⟨rfl, rfl, rfl, by decide +kernel, rfl, by decide +kernel, by decide +kernel⟩
theorem hb_is_job (kV doc pm : Value) (an : Option Addr) (cdv ct : Value) (us : List Value) (h : us.length = (["value"] : List Str).length) : bindArgs (PySem.W.fnOf "is_job" "is_job" (defArgs s_is_job) (defBody s_is_job) (defScope s_is_job) .none kV doc pm an cdv ct) ⟨us, []⟩ = pure ((["value"] : List Str).zip us) := match us, h with | [_], _ => rfl
abbrev n_check_job : List Str := ["job"]
theorem sc_check_job : FnScope n_check_job ["job"] (defScope s_check_job) := ⟨rfl, rfl, rfl, by decide +kernel, rfl, by decide +kernel, by decide +kernel⟩
theorem hb_check_job (kV doc pm : Value) (an : Option Addr) (cdv ct : Value) (us : List Value) (h : us.length = (["job"] : List Str).length) : bindArgs (PySem.W.fnOf "check_job" "check_job" (defArgs s_check_job) (defBody s_check_job) (defScope s_check_job) .none kV doc pm an cdv ct) ⟨us, []⟩ = pure ((["job"] : List Str).zip us) := match us, h with | [_], _ => rfl
abbrev n_mirror_by : List Str := ["job", "parts", "part"]
theorem sc_mirror_by : FnScope n_mirror_by ["job"] (defScope s_mirror_by) := ⟨rfl, rfl, rfl, by decide +kernel, rfl, by decide +kernel, by decide +kernel⟩
theorem hb_mirror_by (kV doc pm : Value) (an : Option Addr) (cdv ct : Value) (us : List Value) (h : us.length = (["job"] : List Str).length) : bindArgs (PySem.W.fnOf "mirror_by" "mirror_by" (defArgs s_mirror_by) (defBody s_mirror_by) (defScope s_mirror_by) .none kV doc pm an cdv ct) ⟨us, []⟩ = pure ((["job"] : List Str).zip us) := match us, h with | [_], _ => rfl
abbrev n_mirror : List Str := ["job"]
theorem sc_mirror : FnScope n_mirror ["job"] (defScope s_mirror) := ⟨rfl, rfl, rfl, by decide +kernel, rfl, by decide +kernel, by decide +kernel⟩
theorem hb_mirror (kV doc pm : Value) (an : Option Addr) (cdv ct : Value) (us : List Value) (h : us.length = (["job"] : List Str).length) : bindArgs (PySem.W.fnOf "mirror" "mirror" (defArgs s_mirror) (defBody s_mirror) (defScope s_mirror) .none kV doc pm an cdv ct) ⟨us, []⟩ = pure ((["job"] : List Str).zip us) := match us, h with | [_], _ => rfl
abbrev n_is_pair : List Str := ["value", "number"]
theorem sc_is_pair : FnScope n_is_pair ["value"] (defScope s_is_pair) := ⟨rfl, rfl, rfl, by decide +kernel, rfl, by decide +kernel, by decide +kernel⟩
theorem hb_is_pair (kV doc pm : Value) (an : Option Addr) (cdv ct : Value) (us : List Value) (h : us.length = (["value"] : List Str).length) : bindArgs (PySem.W.fnOf "is_pair" "is_pair" (defArgs s_is_pair) (defBody s_is_pair) (defScope s_is_pair) .none kV doc pm an cdv ct) ⟨us, []⟩ = pure ((["value"] : List Str).zip us) := match us, h with | [_], _ => rfl
abbrev n_is_valleys : List Str := ["value", "pair", "one", "other"]
theorem sc_is_valleys : FnScope n_is_valleys ["value"] (defScope s_is_valleys) := ⟨rfl, rfl, rfl, by decide +kernel, rfl, by decide +kernel, by decide +kernel⟩
theorem hb_is_valleys (kV doc pm : Value) (an : Option Addr) (cdv ct : Value) (us : List Value) (h : us.length = (["value"] : List Str).length) : bindArgs (PySem.W.fnOf "is_valleys" "is_valleys" (defArgs s_is_valleys) (defBody s_is_valleys) (defScope s_is_valleys) .none kV doc pm an cdv ct) ⟨us, []⟩ = pure ((["value"] : List Str).zip us) := match us, h with | [_], _ => rfl
abbrev n_check_valleys : List Str := ["valleys"]
theorem sc_check_valleys : FnScope n_check_valleys ["valleys"] (defScope s_check_valleys) := ⟨rfl, rfl, rfl, by decide +kernel, rfl, by decide +kernel, by decide +kernel⟩
theorem hb_check_valleys (kV doc pm : Value) (an : Option Addr) (cdv ct : Value) (us : List Value) (h : us.length = (["valleys"] : List Str).length) : bindArgs (PySem.W.fnOf "check_valleys" "check_valleys" (defArgs s_check_valleys) (defBody s_check_valleys) (defScope s_check_valleys) .none kV doc pm an cdv ct) ⟨us, []⟩ = pure ((["valleys"] : List Str).zip us) := match us, h with | [_], _ => rfl
abbrev n_value_by : List Str := ["valleys", "capacity", "found", "threshold", "usage"]
theorem sc_value_by : FnScope n_value_by ["valleys", "capacity"] (defScope s_value_by) := ⟨rfl, rfl, rfl, by decide +kernel, rfl, by decide +kernel, by decide +kernel⟩
theorem hb_value_by (kV doc pm : Value) (an : Option Addr) (cdv ct : Value) (us : List Value) (h : us.length = (["valleys", "capacity"] : List Str).length) : bindArgs (PySem.W.fnOf "value_by" "value_by" (defArgs s_value_by) (defBody s_value_by) (defScope s_value_by) .none kV doc pm an cdv ct) ⟨us, []⟩ = pure ((["valleys", "capacity"] : List Str).zip us) := match us, h with | [_, _], _ => rfl
abbrev n_valley_at : List Str := ["valleys", "capacity"]
theorem sc_valley_at : FnScope n_valley_at ["valleys", "capacity"] (defScope s_valley_at) := ⟨rfl, rfl, rfl, by decide +kernel, rfl, by decide +kernel, by decide +kernel⟩
theorem hb_valley_at (kV doc pm : Value) (an : Option Addr) (cdv ct : Value) (us : List Value) (h : us.length = (["valleys", "capacity"] : List Str).length) : bindArgs (PySem.W.fnOf "valley_at" "valley_at" (defArgs s_valley_at) (defBody s_valley_at) (defScope s_valley_at) .none kV doc pm an cdv ct) ⟨us, []⟩ = pure ((["valleys", "capacity"] : List Str).zip us) := match us, h with | [_, _], _ => rfl
abbrev n_is_start : List Str := ["valleys"]
theorem sc_is_start : FnScope n_is_start ["valleys"] (defScope s_is_start) := ⟨rfl, rfl, rfl, by decide +kernel, rfl, by decide +kernel, by decide +kernel⟩
theorem hb_is_start (kV doc pm : Value) (an : Option Addr) (cdv ct : Value) (us : List Value) (h : us.length = (["valleys"] : List Str).length) : bindArgs (PySem.W.fnOf "is_start" "is_start" (defArgs s_is_start) (defBody s_is_start) (defScope s_is_start) .none kV doc pm an cdv ct) ⟨us, []⟩ = pure ((["valleys"] : List Str).zip us) := match us, h with | [_], _ => rfl
abbrev n_is_end : List Str := ["valleys", "net"]
theorem sc_is_end : FnScope n_is_end ["valleys", "net"] (defScope s_is_end) := ⟨rfl, rfl, rfl, by decide +kernel, rfl, by decide +kernel, by decide +kernel⟩
theorem hb_is_end (kV doc pm : Value) (an : Option Addr) (cdv ct : Value) (us : List Value) (h : us.length = (["valleys", "net"] : List Str).length) : bindArgs (PySem.W.fnOf "is_end" "is_end" (defArgs s_is_end) (defBody s_is_end) (defScope s_is_end) .none kV doc pm an cdv ct) ⟨us, []⟩ = pure ((["valleys", "net"] : List Str).zip us) := match us, h with | [_, _], _ => rfl
abbrev n_is_profile_by : List Str := ["value", "net", "peak", "start", "end"]
theorem sc_is_profile_by : FnScope n_is_profile_by ["value"] (defScope s_is_profile_by) := ⟨rfl, rfl, rfl, by decide +kernel, rfl, by decide +kernel, by decide +kernel⟩
theorem hb_is_profile_by (kV doc pm : Value) (an : Option Addr) (cdv ct : Value) (us : List Value) (h : us.length = (["value"] : List Str).length) : bindArgs (PySem.W.fnOf "is_profile_by" "is_profile_by" (defArgs s_is_profile_by) (defBody s_is_profile_by) (defScope s_is_profile_by) .none kV doc pm an cdv ct) ⟨us, []⟩ = pure ((["value"] : List Str).zip us) := match us, h with | [_], _ => rfl
abbrev n_check_profile : List Str := ["profile"]
theorem sc_check_profile : FnScope n_check_profile ["profile"] (defScope s_check_profile) := ⟨rfl, rfl, rfl, by decide +kernel, rfl, by decide +kernel, by decide +kernel⟩
theorem hb_check_profile (kV doc pm : Value) (an : Option Addr) (cdv ct : Value) (us : List Value) (h : us.length = (["profile"] : List Str).length) : bindArgs (PySem.W.fnOf "check_profile" "check_profile" (defArgs s_check_profile) (defBody s_check_profile) (defScope s_check_profile) .none kV doc pm an cdv ct) ⟨us, []⟩ = pure ((["profile"] : List Str).zip us) := match us, h with | [_], _ => rfl
abbrev n_descending : List Str := ["pairs", "found", "capacity", "usage"]
theorem sc_descending : FnScope n_descending ["pairs"] (defScope s_descending) := ⟨rfl, rfl, rfl, by decide +kernel, rfl, by decide +kernel, by decide +kernel⟩
theorem hb_descending (kV doc pm : Value) (an : Option Addr) (cdv ct : Value) (us : List Value) (h : us.length = (["pairs"] : List Str).length) : bindArgs (PySem.W.fnOf "descending" "descending" (defArgs s_descending) (defBody s_descending) (defScope s_descending) .none kV doc pm an cdv ct) ⟨us, []⟩ = pure ((["pairs"] : List Str).zip us) := match us, h with | [_], _ => rfl
abbrev n_moved : List Str := ["valleys", "amount", "capacity", "usage"]
theorem sc_moved : FnScope n_moved ["valleys", "amount"] (defScope s_moved) := ⟨rfl, rfl, rfl, by decide +kernel, rfl, by decide +kernel, by decide +kernel⟩
theorem hb_moved (kV doc pm : Value) (an : Option Addr) (cdv ct : Value) (us : List Value) (h : us.length = (["valleys", "amount"] : List Str).length) : bindArgs (PySem.W.fnOf "moved" "moved" (defArgs s_moved) (defBody s_moved) (defScope s_moved) .none kV doc pm an cdv ct) ⟨us, []⟩ = pure ((["valleys", "amount"] : List Str).zip us) := match us, h with | [_, _], _ => rfl
abbrev n_step_profile_by : List Str := ["value"]
theorem sc_step_profile_by : FnScope n_step_profile_by ["value"] (defScope s_step_profile_by) := ⟨rfl, rfl, rfl, by decide +kernel, rfl, by decide +kernel, by decide +kernel⟩
theorem hb_step_profile_by (kV doc pm : Value) (an : Option Addr) (cdv ct : Value) (us : List Value) (h : us.length = (["value"] : List Str).length) : bindArgs (PySem.W.fnOf "step_profile_by" "step_profile_by" (defArgs s_step_profile_by) (defBody s_step_profile_by) (defScope s_step_profile_by) .none kV doc pm an cdv ct) ⟨us, []⟩ = pure ((["value"] : List Str).zip us) := match us, h with | [_], _ => rfl
abbrev n_start_behind : List Str := ["first", "second", "net", "peak", "start", "end", "pairs", "pair", "capacity", "usage"]
theorem sc_start_behind : FnScope n_start_behind ["first", "second"] (defScope s_start_behind) := ⟨rfl, rfl, rfl, by decide +kernel, rfl, by decide +kernel, by decide +kernel⟩
theorem hb_start_behind (kV doc pm : Value) (an : Option Addr) (cdv ct : Value) (us : List Value) (h : us.length = (["first", "second"] : List Str).length) : bindArgs (PySem.W.fnOf "start_behind" "start_behind" (defArgs s_start_behind) (defBody s_start_behind) (defScope s_start_behind) .none kV doc pm an cdv ct) ⟨us, []⟩ = pure ((["first", "second"] : List Str).zip us) := match us, h with | [_, _], _ => rfl
abbrev n_end_behind : List Str := ["first", "second", "net", "late", "pairs", "pair", "capacity", "usage"]
theorem sc_end_behind : FnScope n_end_behind ["first", "second"] (defScope s_end_behind) := ⟨rfl, rfl, rfl, by decide +kernel, rfl, by decide +kernel, by decide +kernel⟩
theorem hb_end_behind (kV doc pm : Value) (an : Option Addr) (cdv ct : Value) (us : List Value) (h : us.length = (["first", "second"] : List Str).length) : bindArgs (PySem.W.fnOf "end_behind" "end_behind" (defArgs s_end_behind) (defBody s_end_behind) (defScope s_end_behind) .none kV doc pm an cdv ct) ⟨us, []⟩ = pure ((["first", "second"] : List Str).zip us) := match us, h with | [_, _], _ => rfl
abbrev n_two_profiles_by : List Str := ["first", "second", "net", "peak"]
theorem sc_two_profiles_by : FnScope n_two_profiles_by ["first", "second"] (defScope s_two_profiles_by) := ⟨rfl, rfl, rfl, by decide +kernel, rfl, by decide +kernel, by decide +kernel⟩
theorem hb_two_profiles_by (kV doc pm : Value) (an : Option Addr) (cdv ct : Value) (us : List Value) (h : us.length = (["first", "second"] : List Str).length) : bindArgs (PySem.W.fnOf "two_profiles_by" "two_profiles_by" (defArgs s_two_profiles_by) (defBody s_two_profiles_by) (defScope s_two_profiles_by) .none kV doc pm an cdv ct) ⟨us, []⟩ = pure ((["first", "second"] : List Str).zip us) := match us, h with | [_, _], _ => rfl
abbrev n_seq_profiles_by : List Str := ["profiles", "found", "profile"]
theorem sc_seq_profiles_by : FnScope n_seq_profiles_by ["profiles"] (defScope s_seq_profiles_by) := ⟨rfl, rfl, rfl, by decide +kernel, rfl, by decide +kernel, by decide +kernel⟩
theorem hb_seq_profiles_by (kV doc pm : Value) (an : Option Addr) (cdv ct : Value) (us : List Value) (h : us.length = (["profiles"] : List Str).length) : bindArgs (PySem.W.fnOf "seq_profiles_by" "seq_profiles_by" (defArgs s_seq_profiles_by) (defBody s_seq_profiles_by) (defScope s_seq_profiles_by) .none kV doc pm an cdv ct) ⟨us, []⟩ = pure ((["profiles"] : List Str).zip us) := match us, h with | [_], _ => rfl
abbrev n_next_drop : List Str := ["parts", "places", "lows", "total", "found", "number", "valleys"]
theorem sc_next_drop : FnScope n_next_drop ["parts", "places", "lows"] (defScope s_next_drop) := ⟨rfl, rfl, rfl, by decide +kernel, rfl, by decide +kernel, by decide +kernel⟩
theorem hb_next_drop (kV doc pm : Value) (an : Option Addr) (cdv ct : Value) (us : List Value) (h : us.length = (["parts", "places", "lows"] : List Str).length) : bindArgs (PySem.W.fnOf "next_drop" "next_drop" (defArgs s_next_drop) (defBody s_next_drop) (defScope s_next_drop) .none kV doc pm an cdv ct) ⟨us, []⟩ = pure ((["parts", "places", "lows"] : List Str).zip us) := match us, h with | [_, _, _], _ => rfl
abbrev n_joint : List Str := ["parts", "places", "lows", "pairs", "capacity", "drop", "number", "valleys"]
theorem sc_joint : FnScope n_joint ["parts"] (defScope s_joint) := ⟨rfl, rfl, rfl, by decide +kernel, rfl, by decide +kernel, by decide +kernel⟩
theorem hb_joint (kV doc pm : Value) (an : Option Addr) (cdv ct : Value) (us : List Value) (h : us.length = (["parts"] : List Str).length) : bindArgs (PySem.W.fnOf "joint" "joint" (defArgs s_joint) (defBody s_joint) (defScope s_joint) .none kV doc pm an cdv ct) ⟨us, []⟩ = pure ((["parts"] : List Str).zip us) := match us, h with | [_], _ => rfl
abbrev n_peak_beside : List Str := ["profiles", "start", "end", "lowest", "peaks", "profile"]
theorem sc_peak_beside : FnScope n_peak_beside ["profiles", "start", "end"] (defScope s_peak_beside) := ⟨rfl, rfl, rfl, by decide +kernel, rfl, by decide +kernel, by decide +kernel⟩
theorem hb_peak_beside (kV doc pm : Value) (an : Option Addr) (cdv ct : Value) (us : List Value) (h : us.length = (["profiles", "start", "end"] : List Str).length) : bindArgs (PySem.W.fnOf "peak_beside" "peak_beside" (defArgs s_peak_beside) (defBody s_peak_beside) (defScope s_peak_beside) .none kV doc pm an cdv ct) ⟨us, []⟩ = pure ((["profiles", "start", "end"] : List Str).zip us) := match us, h with | [_, _, _], _ => rfl
abbrev n_par_profiles_by : List Str := ["profiles", "net", "start", "end", "profile"]
theorem sc_par_profiles_by : FnScope n_par_profiles_by ["profiles"] (defScope s_par_profiles_by) := ⟨rfl, rfl, rfl, by decide +kernel, rfl, by decide +kernel, by decide +kernel⟩
theorem hb_par_profiles_by (kV doc pm : Value) (an : Option Addr) (cdv ct : Value) (us : List Value) (h : us.length = (["profiles"] : List Str).length) : bindArgs (PySem.W.fnOf "par_profiles_by" "par_profiles_by" (defArgs s_par_profiles_by) (defBody s_par_profiles_by) (defScope s_par_profiles_by) .none kV doc pm an cdv ct) ⟨us, []⟩ = pure ((["profiles"] : List Str).zip us) := match us, h with | [_], _ => rfl
abbrev n_rounds_start : List Str := ["count", "net", "peak", "start", "early", "pair"]
theorem sc_rounds_start : FnScope n_rounds_start ["count", "net", "peak", "start"] (defScope s_rounds_start) := ⟨rfl, rfl, rfl, by decide +kernel, rfl, by decide +kernel, by decide +kernel⟩
theorem hb_rounds_start (kV doc pm : Value) (an : Option Addr) (cdv ct : Value) (us : List Value) (h : us.length = (["count", "net", "peak", "start"] : List Str).length) : bindArgs (PySem.W.fnOf "rounds_start" "rounds_start" (defArgs s_rounds_start) (defBody s_rounds_start) (defScope s_rounds_start) .none kV doc pm an cdv ct) ⟨us, []⟩ = pure ((["count", "net", "peak", "start"] : List Str).zip us) := match us, h with | [_, _, _, _], _ => rfl
abbrev n_repeat_profile_by : List Str := ["count", "profile", "net", "peak", "start", "end", "total", "back"]
theorem sc_repeat_profile_by : FnScope n_repeat_profile_by ["count", "profile"] (defScope s_repeat_profile_by) := ⟨rfl, rfl, rfl, by decide +kernel, rfl, by decide +kernel, by decide +kernel⟩
theorem hb_repeat_profile_by (kV doc pm : Value) (an : Option Addr) (cdv ct : Value) (us : List Value) (h : us.length = (["count", "profile"] : List Str).length) : bindArgs (PySem.W.fnOf "repeat_profile_by" "repeat_profile_by" (defArgs s_repeat_profile_by) (defBody s_repeat_profile_by) (defScope s_repeat_profile_by) .none kV doc pm an cdv ct) ⟨us, []⟩ = pure ((["count", "profile"] : List Str).zip us) := match us, h with | [_, _], _ => rfl
abbrev n_copies_start : List Str := ["count", "start", "pairs", "capacity", "low", "needed", "usage"]
theorem sc_copies_start : FnScope n_copies_start ["count", "start"] (defScope s_copies_start) := ⟨rfl, rfl, rfl, by decide +kernel, rfl, by decide +kernel, by decide +kernel⟩
theorem hb_copies_start (kV doc pm : Value) (an : Option Addr) (cdv ct : Value) (us : List Value) (h : us.length = (["count", "start"] : List Str).length) : bindArgs (PySem.W.fnOf "copies_start" "copies_start" (defArgs s_copies_start) (defBody s_copies_start) (defScope s_copies_start) .none kV doc pm an cdv ct) ⟨us, []⟩ = pure ((["count", "start"] : List Str).zip us) := match us, h with | [_, _], _ => rfl
abbrev n_copies_profile_by : List Str := ["count", "profile", "net", "peak", "start", "end", "total", "low", "back", "alone"]
theorem sc_copies_profile_by : FnScope n_copies_profile_by ["count", "profile"] (defScope s_copies_profile_by) := ⟨rfl, rfl, rfl, by decide +kernel, rfl, by decide +kernel, by decide +kernel⟩
theorem hb_copies_profile_by (kV doc pm : Value) (an : Option Addr) (cdv ct : Value) (us : List Value) (h : us.length = (["count", "profile"] : List Str).length) : bindArgs (PySem.W.fnOf "copies_profile_by" "copies_profile_by" (defArgs s_copies_profile_by) (defBody s_copies_profile_by) (defScope s_copies_profile_by) .none kV doc pm an cdv ct) ⟨us, []⟩ = pure ((["count", "profile"] : List Str).zip us) := match us, h with | [_, _], _ => rfl
abbrev n_profile_by : List Str := ["job", "word", "count", "inner", "part"]
theorem sc_profile_by : FnScope n_profile_by ["job"] (defScope s_profile_by) := ⟨rfl, rfl, rfl, by decide +kernel, rfl, by decide +kernel, by decide +kernel⟩
theorem hb_profile_by (kV doc pm : Value) (an : Option Addr) (cdv ct : Value) (us : List Value) (h : us.length = (["job"] : List Str).length) : bindArgs (PySem.W.fnOf "profile_by" "profile_by" (defArgs s_profile_by) (defBody s_profile_by) (defScope s_profile_by) .none kV doc pm an cdv ct) ⟨us, []⟩ = pure ((["job"] : List Str).zip us) := match us, h with | [_], _ => rfl
abbrev n_profile : List Str := ["job"]
theorem sc_profile : FnScope n_profile ["job"] (defScope s_profile) := ⟨rfl, rfl, rfl, by decide +kernel, rfl, by decide +kernel, by decide +kernel⟩
theorem hb_profile (kV doc pm : Value) (an : Option Addr) (cdv ct : Value) (us : List Value) (h : us.length = (["job"] : List Str).length) : bindArgs (PySem.W.fnOf "profile" "profile" (defArgs s_profile) (defBody s_profile) (defScope s_profile) .none kV doc pm an cdv ct) ⟨us, []⟩ = pure ((["job"] : List Str).zip us) := match us, h with | [_], _ => rfl
abbrev n_is_profile : List Str := ["value"]
theorem sc_is_profile : FnScope n_is_profile ["value"] (defScope s_is_profile) := ⟨rfl, rfl, rfl, by decide +kernel, rfl, by decide +kernel, by decide +kernel⟩
theorem hb_is_profile (kV doc pm : Value) (an : Option Addr) (cdv ct : Value) (us : List Value) (h : us.length = (["value"] : List Str).length) : bindArgs (PySem.W.fnOf "is_profile" "is_profile" (defArgs s_is_profile) (defBody s_is_profile) (defScope s_is_profile) .none kV doc pm an cdv ct) ⟨us, []⟩ = pure ((["value"] : List Str).zip us) := match us, h with | [_], _ => rfl
abbrev n_turning_usages : List Str := ["whole", "net", "peak", "start", "end", "found", "pair", "number"]
theorem sc_turning_usages : FnScope n_turning_usages ["whole"] (defScope s_turning_usages) := ⟨rfl, rfl, rfl, by decide +kernel, rfl, by decide +kernel, by decide +kernel⟩
theorem hb_turning_usages (kV doc pm : Value) (an : Option Addr) (cdv ct : Value) (us : List Value) (h : us.length = (["whole"] : List Str).length) : bindArgs (PySem.W.fnOf "turning_usages" "turning_usages" (defArgs s_turning_usages) (defBody s_turning_usages) (defScope s_turning_usages) .none kV doc pm an cdv ct) ⟨us, []⟩ = pure ((["whole"] : List Str).zip us) := match us, h with | [_], _ => rfl
abbrev n_normal_form : List Str := ["whole", "usages", "sooner", "later"]
theorem sc_normal_form : FnScope n_normal_form ["whole"] (defScope s_normal_form) := ⟨rfl, rfl, rfl, by decide +kernel, rfl, by decide +kernel, by decide +kernel⟩
theorem hb_normal_form (kV doc pm : Value) (an : Option Addr) (cdv ct : Value) (us : List Value) (h : us.length = (["whole"] : List Str).length) : bindArgs (PySem.W.fnOf "normal_form" "normal_form" (defArgs s_normal_form) (defBody s_normal_form) (defScope s_normal_form) .none kV doc pm an cdv ct) ⟨us, []⟩ = pure ((["whole"] : List Str).zip us) := match us, h with | [_], _ => rfl
abbrev n_start_low : List Str := ["job", "capacity"]
theorem sc_start_low : FnScope n_start_low ["job", "capacity"] (defScope s_start_low) := ⟨rfl, rfl, rfl, by decide +kernel, rfl, by decide +kernel, by decide +kernel⟩
theorem hb_start_low (kV doc pm : Value) (an : Option Addr) (cdv ct : Value) (us : List Value) (h : us.length = (["job", "capacity"] : List Str).length) : bindArgs (PySem.W.fnOf "start_low" "start_low" (defArgs s_start_low) (defBody s_start_low) (defScope s_start_low) .none kV doc pm an cdv ct) ⟨us, []⟩ = pure ((["job", "capacity"] : List Str).zip us) := match us, h with | [_, _], _ => rfl
abbrev n_end_low : List Str := ["job", "capacity"]
theorem sc_end_low : FnScope n_end_low ["job", "capacity"] (defScope s_end_low) := ⟨rfl, rfl, rfl, by decide +kernel, rfl, by decide +kernel, by decide +kernel⟩
theorem hb_end_low (kV doc pm : Value) (an : Option Addr) (cdv ct : Value) (us : List Value) (h : us.length = (["job", "capacity"] : List Str).length) : bindArgs (PySem.W.fnOf "end_low" "end_low" (defArgs s_end_low) (defBody s_end_low) (defScope s_end_low) .none kV doc pm an cdv ct) ⟨us, []⟩ = pure ((["job", "capacity"] : List Str).zip us) := match us, h with | [_, _], _ => rfl
abbrev n_law_source : List Str := ["_law_script", "_law_at", "_law_cell", "_law_size", "_law_mixed"]
theorem sc_law_source : FnScope n_law_source ["_law_script", "_law_at"] (defScope s_law_source) := ⟨rfl, rfl, rfl, by decide +kernel, rfl, by decide +kernel, by decide +kernel⟩
theorem hb_law_source (kV doc pm : Value) (an : Option Addr) (cdv ct : Value) (us : List Value) (h : us.length = (["_law_script", "_law_at"] : List Str).length) : bindArgs (PySem.W.fnOf "_law_source" "_law_source" (defArgs s_law_source) (defBody s_law_source) (defScope s_law_source) .none kV doc pm an cdv ct) ⟨us, []⟩ = pure ((["_law_script", "_law_at"] : List Str).zip us) := match us, h with | [_, _], _ => rfl
abbrev n_law_draw : List Str := ["_law_source_here", "_law_many", "_law_found", "_law_one", "_law_two"]
theorem sc_law_draw : FnScope n_law_draw ["_law_source_here", "_law_many"] (defScope s_law_draw) := ⟨rfl, rfl, rfl, by decide +kernel, rfl, by decide +kernel, by decide +kernel⟩
theorem hb_law_draw (kV doc pm : Value) (an : Option Addr) (cdv ct : Value) (us : List Value) (h : us.length = (["_law_source_here", "_law_many"] : List Str).length) : bindArgs (PySem.W.fnOf "_law_draw" "_law_draw" (defArgs s_law_draw) (defBody s_law_draw) (defScope s_law_draw) .none kV doc pm an cdv ct) ⟨us, []⟩ = pure ((["_law_source_here", "_law_many"] : List Str).zip us) := match us, h with | [_, _], _ => rfl
abbrev n_law_great : List Str := ["_law_source_here", "_law_many", "_law_found", "_law_turn"]
theorem sc_law_great : FnScope n_law_great ["_law_source_here", "_law_many"] (defScope s_law_great) := ⟨rfl, rfl, rfl, by decide +kernel, rfl, by decide +kernel, by decide +kernel⟩
theorem hb_law_great (kV doc pm : Value) (an : Option Addr) (cdv ct : Value) (us : List Value) (h : us.length = (["_law_source_here", "_law_many"] : List Str).length) : bindArgs (PySem.W.fnOf "_law_great" "_law_great" (defArgs s_law_great) (defBody s_law_great) (defScope s_law_great) .none kV doc pm an cdv ct) ⟨us, []⟩ = pure ((["_law_source_here", "_law_many"] : List Str).zip us) := match us, h with | [_, _], _ => rfl
abbrev n_law_step : List Str := ["_law_source_here", "_law_way", "_law_some"]
theorem sc_law_step : FnScope n_law_step ["_law_source_here"] (defScope s_law_step) := ⟨rfl, rfl, rfl, by decide +kernel, rfl, by decide +kernel, by decide +kernel⟩
theorem hb_law_step (kV doc pm : Value) (an : Option Addr) (cdv ct : Value) (us : List Value) (h : us.length = (["_law_source_here"] : List Str).length) : bindArgs (PySem.W.fnOf "_law_step" "_law_step" (defArgs s_law_step) (defBody s_law_step) (defScope s_law_step) .none kV doc pm an cdv ct) ⟨us, []⟩ = pure ((["_law_source_here"] : List Str).zip us) := match us, h with | [_], _ => rfl
abbrev n_law_empty : List Str := ["_law_source_here"]
theorem sc_law_empty : FnScope n_law_empty ["_law_source_here"] (defScope s_law_empty) := ⟨rfl, rfl, rfl, by decide +kernel, rfl, by decide +kernel, by decide +kernel⟩
theorem hb_law_empty (kV doc pm : Value) (an : Option Addr) (cdv ct : Value) (us : List Value) (h : us.length = (["_law_source_here"] : List Str).length) : bindArgs (PySem.W.fnOf "_law_empty" "_law_empty" (defArgs s_law_empty) (defBody s_law_empty) (defScope s_law_empty) .none kV doc pm an cdv ct) ⟨us, []⟩ = pure ((["_law_source_here"] : List Str).zip us) := match us, h with | [_], _ => rfl
abbrev n_law_job : List Str := ["_law_source_here", "_law_most", "_law_deep", "_law_way", "_law_parts", "_law_left", "_law_turn", "_law_few", "_law_count"]
theorem sc_law_job : FnScope n_law_job ["_law_source_here", "_law_most", "_law_deep"] (defScope s_law_job) := ⟨rfl, rfl, rfl, by decide +kernel, rfl, by decide +kernel, by decide +kernel⟩
theorem hb_law_job (kV doc pm : Value) (an : Option Addr) (cdv ct : Value) (us : List Value) (h : us.length = (["_law_source_here", "_law_most", "_law_deep"] : List Str).length) : bindArgs (PySem.W.fnOf "_law_job" "_law_job" (defArgs s_law_job) (defBody s_law_job) (defScope s_law_job) .none kV doc pm an cdv ct) ⟨us, []⟩ = pure ((["_law_source_here", "_law_most", "_law_deep"] : List Str).zip us) := match us, h with | [_, _, _], _ => rfl
abbrev n_law_rows : List Str := ["_law_job_here", "_law_rows_here", "_law_ahead", "_law_address", "_law_parts", "_law_done", "_law_at", "_law_part", "_law_before"]
theorem sc_law_rows : FnScope n_law_rows ["_law_job_here", "_law_rows_here", "_law_ahead", "_law_address"] (defScope s_law_rows) := ⟨rfl, rfl, rfl, by decide +kernel, rfl, by decide +kernel, by decide +kernel⟩
theorem hb_law_rows (kV doc pm : Value) (an : Option Addr) (cdv ct : Value) (us : List Value) (h : us.length = (["_law_job_here", "_law_rows_here", "_law_ahead", "_law_address"] : List Str).length) : bindArgs (PySem.W.fnOf "_law_rows" "_law_rows" (defArgs s_law_rows) (defBody s_law_rows) (defScope s_law_rows) .none kV doc pm an cdv ct) ⟨us, []⟩ = pure ((["_law_job_here", "_law_rows_here", "_law_ahead", "_law_address"] : List Str).zip us) := match us, h with | [_, _, _, _], _ => rfl
abbrev n_law_states : List Str := ["_law_rows_here", "_law_found", "_law_level", "_law_later", "_law_state", "_law_at", "_law_value", "_law_before", "_law_address", "_law_more"]
theorem sc_law_states : FnScope n_law_states ["_law_rows_here"] (defScope s_law_states) := ⟨rfl, rfl, rfl, by decide +kernel, rfl, by decide +kernel, by decide +kernel⟩
theorem hb_law_states (kV doc pm : Value) (an : Option Addr) (cdv ct : Value) (us : List Value) (h : us.length = (["_law_rows_here"] : List Str).length) : bindArgs (PySem.W.fnOf "_law_states" "_law_states" (defArgs s_law_states) (defBody s_law_states) (defScope s_law_states) .none kV doc pm an cdv ct) ⟨us, []⟩ = pure ((["_law_rows_here"] : List Str).zip us) := match us, h with | [_], _ => rfl
abbrev n_law_reached : List Str := ["_law_rows_here", "_law_states_here", "_law_found", "_law_state", "_law_ways", "_law_at", "_law_less"]
theorem sc_law_reached : FnScope n_law_reached ["_law_rows_here", "_law_states_here"] (defScope s_law_reached) := ⟨rfl, rfl, rfl, by decide +kernel, rfl, by decide +kernel, by decide +kernel⟩
theorem hb_law_reached (kV doc pm : Value) (an : Option Addr) (cdv ct : Value) (us : List Value) (h : us.length = (["_law_rows_here", "_law_states_here"] : List Str).length) : bindArgs (PySem.W.fnOf "_law_reached" "_law_reached" (defArgs s_law_reached) (defBody s_law_reached) (defScope s_law_reached) .none kV doc pm an cdv ct) ⟨us, []⟩ = pure ((["_law_rows_here", "_law_states_here"] : List Str).zip us) := match us, h with | [_, _], _ => rfl
abbrev n_law_completed : List Str := ["_law_rows_here", "_law_states_here", "_law_found", "_law_state", "_law_ways", "_law_at", "_law_more"]
theorem sc_law_completed : FnScope n_law_completed ["_law_rows_here", "_law_states_here"] (defScope s_law_completed) := ⟨rfl, rfl, rfl, by decide +kernel, rfl, by decide +kernel, by decide +kernel⟩
theorem hb_law_completed (kV doc pm : Value) (an : Option Addr) (cdv ct : Value) (us : List Value) (h : us.length = (["_law_rows_here", "_law_states_here"] : List Str).length) : bindArgs (PySem.W.fnOf "_law_completed" "_law_completed" (defArgs s_law_completed) (defBody s_law_completed) (defScope s_law_completed) .none kV doc pm an cdv ct) ⟨us, []⟩ = pure ((["_law_rows_here", "_law_states_here"] : List Str).zip us) := match us, h with | [_, _], _ => rfl
abbrev n_law_valleys : List Str := ["_law_pairs", "_law_found", "_law_bound", "_law_held"]
theorem sc_law_valleys : FnScope n_law_valleys ["_law_pairs"] (defScope s_law_valleys) := ⟨rfl, rfl, rfl, by decide +kernel, rfl, by decide +kernel, by decide +kernel⟩
theorem hb_law_valleys (kV doc pm : Value) (an : Option Addr) (cdv ct : Value) (us : List Value) (h : us.length = (["_law_pairs"] : List Str).length) : bindArgs (PySem.W.fnOf "_law_valleys" "_law_valleys" (defArgs s_law_valleys) (defBody s_law_valleys) (defScope s_law_valleys) .none kV doc pm an cdv ct) ⟨us, []⟩ = pure ((["_law_pairs"] : List Str).zip us) := match us, h with | [_], _ => rfl
abbrev n_law_profile : List Str := ["_law_job_here", "_law_rows_here", "_law_every", "_law_states_here", "_law_reached_here", "_law_completed_here", "_law_start", "_law_end", "_law_state"]
theorem sc_law_profile : FnScope n_law_profile ["_law_job_here"] (defScope s_law_profile) := ⟨rfl, rfl, rfl, by decide +kernel, rfl, by decide +kernel, by decide +kernel⟩
theorem hb_law_profile (kV doc pm : Value) (an : Option Addr) (cdv ct : Value) (us : List Value) (h : us.length = (["_law_job_here"] : List Str).length) : bindArgs (PySem.W.fnOf "_law_profile" "_law_profile" (defArgs s_law_profile) (defBody s_law_profile) (defScope s_law_profile) .none kV doc pm an cdv ct) ⟨us, []⟩ = pure ((["_law_job_here"] : List Str).zip us) := match us, h with | [_], _ => rfl
abbrev n_law_step_count : List Str := ["_law_job_here", "_law_part"]
theorem sc_law_step_count : FnScope n_law_step_count ["_law_job_here"] (defScope s_law_step_count) := ⟨rfl, rfl, rfl, by decide +kernel, rfl, by decide +kernel, by decide +kernel⟩
theorem hb_law_step_count (kV doc pm : Value) (an : Option Addr) (cdv ct : Value) (us : List Value) (h : us.length = (["_law_job_here"] : List Str).length) : bindArgs (PySem.W.fnOf "_law_step_count" "_law_step_count" (defArgs s_law_step_count) (defBody s_law_step_count) (defScope s_law_step_count) .none kV doc pm an cdv ct) ⟨us, []⟩ = pure ((["_law_job_here"] : List Str).zip us) := match us, h with | [_], _ => rfl
abbrev n_law_rich_job : List Str := ["_law_source_here", "_law_most", "_law_deep", "_law_turn", "_law_job_here"]
theorem sc_law_rich_job : FnScope n_law_rich_job ["_law_source_here", "_law_most", "_law_deep"] (defScope s_law_rich_job) := ⟨rfl, rfl, rfl, by decide +kernel, rfl, by decide +kernel, by decide +kernel⟩
theorem hb_law_rich_job (kV doc pm : Value) (an : Option Addr) (cdv ct : Value) (us : List Value) (h : us.length = (["_law_source_here", "_law_most", "_law_deep"] : List Str).length) : bindArgs (PySem.W.fnOf "_law_rich_job" "_law_rich_job" (defArgs s_law_rich_job) (defBody s_law_rich_job) (defScope s_law_rich_job) .none kV doc pm an cdv ct) ⟨us, []⟩ = pure ((["_law_source_here", "_law_most", "_law_deep"] : List Str).zip us) := match us, h with | [_, _, _], _ => rfl
abbrev n_law_lows_right : List Str := ["_law_source_here", "_law_job_here", "_law_value", "_law_rows_here", "_law_states_here", "_law_reached_here", "_law_completed_here", "_law_least", "_law_bounds", "_law_bound", "_law_front", "_law_back", "_law_due", "_law_held", "_law_state"]
theorem sc_law_lows_right : FnScope n_law_lows_right ["_law_source_here", "_law_job_here", "_law_value"] (defScope s_law_lows_right) := ⟨rfl, rfl, rfl, by decide +kernel, rfl, by decide +kernel, by decide +kernel⟩
theorem hb_law_lows_right (kV doc pm : Value) (an : Option Addr) (cdv ct : Value) (us : List Value) (h : us.length = (["_law_source_here", "_law_job_here", "_law_value"] : List Str).length) : bindArgs (PySem.W.fnOf "_law_lows_right" "_law_lows_right" (defArgs s_law_lows_right) (defBody s_law_lows_right) (defScope s_law_lows_right) .none kV doc pm an cdv ct) ⟨us, []⟩ = pure ((["_law_source_here", "_law_job_here", "_law_value"] : List Str).zip us) := match us, h with | [_, _, _], _ => rfl
abbrev n_law_turned : List Str := ["_law_value", "_law_total", "_law_high", "_law_front", "_law_back", "_law_first", "_law_last", "_law_bound", "_law_held"]
theorem sc_law_turned : FnScope n_law_turned ["_law_value"] (defScope s_law_turned) := ⟨rfl, rfl, rfl, by decide +kernel, rfl, by decide +kernel, by decide +kernel⟩
theorem hb_law_turned (kV doc pm : Value) (an : Option Addr) (cdv ct : Value) (us : List Value) (h : us.length = (["_law_value"] : List Str).length) : bindArgs (PySem.W.fnOf "_law_turned" "_law_turned" (defArgs s_law_turned) (defBody s_law_turned) (defScope s_law_turned) .none kV doc pm an cdv ct) ⟨us, []⟩ = pure ((["_law_value"] : List Str).zip us) := match us, h with | [_], _ => rfl
abbrev n_law : List Str := ["_law_script", "_law_at", "_law_source_here", "_law_job_here", "_law_kept", "_law_due", "_law_form"]
theorem sc_law : FnScope n_law ["_law_script"] (defScope s_law) := ⟨rfl, rfl, rfl, by decide +kernel, rfl, by decide +kernel, by decide +kernel⟩
theorem hb_law (kV doc pm : Value) (an : Option Addr) (cdv ct : Value) (us : List Value) (h : us.length = (["_law_script"] : List Str).length) : bindArgs (PySem.W.fnOf "law" "law" (defArgs s_law) (defBody s_law) (defScope s_law) .none kV doc pm an cdv ct) ⟨us, []⟩ = pure ((["_law_script"] : List Str).zip us) := match us, h with | [_], _ => rfl
end K30
namespace K30
open PySem PySem.Spec PyProof.Rows L2 Evl RZ
open K30m (Job jobS Pf)
/-! ### jobs as data -/
mutual
  def enc : Job → D
    | .step v => .int v
    | .seq ps => .tuple [.str "seq", .tuple (encs ps)]
    | .par ps => .tuple [.str "par", .tuple (encs ps)]
    | .rep n j => .tuple [.str "repeat", .int (n : Nat), enc j]
    | .cop n j => .tuple [.str "copies", .int (n : Nat), enc j]
  def encs : List Job → List D
    | [] => []
    | j :: js => enc j :: encs js
end
theorem encs_map : ∀ js : List Job, encs js = js.map enc
  | [] => rfl
  | j :: js => by
    show enc j :: encs js = _
    rw [encs_map js]; rfl
mutual
  theorem enc_nol : ∀ j : Job, noL (enc j) = true
    | .step v => rfl
    | .seq ps => by
      show (true && ((noLs (encs ps)) && true)) = true
      rw [encs_nol ps]; rfl
    | .par ps => by
      show (true && ((noLs (encs ps)) && true)) = true
      rw [encs_nol ps]; rfl
    | .rep n j => by
      show (true && (true && (noL (enc j) && true))) = true
      rw [enc_nol j]; rfl
    | .cop n j => by
      show (true && (true && (noL (enc j) && true))) = true
      rw [enc_nol j]; rfl
  theorem encs_nol : ∀ js : List Job, noLs (encs js) = true
    | [] => rfl
    | j :: js => by
      show (noL (enc j) && noLs (encs js)) = true
      rw [enc_nol j, encs_nol js]; rfl
end
mutual
  def nodes : Job → Nat
    | .step _ => 1
    | .seq ps => 1 + nodesS ps
    | .par ps => 1 + nodesS ps
    | .rep _ j => 1 + nodes j
    | .cop _ j => 1 + nodes j
  def nodesS : List Job → Nat
    | [] => 0
    | j :: js => nodes j + nodesS js
end
mutual
  def steps : Job → Nat
    | .step _ => 1
    | .seq ps => stepsS ps
    | .par ps => stepsS ps
    | .rep n j => n * steps j
    | .cop n j => n * steps j
  def stepsS : List Job → Nat
    | [] => 0
    | j :: js => steps j + stepsS js
end
mutual
  def depth : Job → Nat
    | .step _ => 1
    | .seq ps => 1 + depthS ps
    | .par ps => 1 + depthS ps
    | .rep _ j => 1 + depth j
    | .cop _ j => 1 + depth j
  def depthS : List Job → Nat
    | [] => 0
    | j :: js => max (depth j) (depthS js)
end
mutual
  def okJ : Job → Prop
    | .step v => -(10 ^ 30) ≤ v ∧ v ≤ 10 ^ 30
    | .seq ps => okJs ps
    | .par ps => okJs ps
    | .rep n j => n ≤ 1000 ∧ steps j ≤ 10 ^ 30 ∧ okJ j
    | .cop n j => n ≤ 1000 ∧ steps j ≤ 10 ^ 30 ∧ okJ j
  def okJs : List Job → Prop
    | [] => True
    | j :: js => okJ j ∧ okJs js
end
theorem nodes_pos (j : Job) : 1 ≤ nodes j := by cases j <;> simp [nodes] <;> omega
theorem depth_pos (j : Job) : 1 ≤ depth j := by cases j <;> simp [depth] <;> omega
theorem nodesS_append : ∀ (a b : List Job), nodesS (a ++ b) = nodesS a + nodesS b
  | [], b => by simp [nodesS]
  | j :: a, b => by simp [nodesS, nodesS_append a b]; omega
theorem stepsS_append : ∀ (a b : List Job), stepsS (a ++ b) = stepsS a + stepsS b
  | [], b => by simp [stepsS]
  | j :: a, b => by simp [stepsS, stepsS_append a b]; omega
theorem len_nodesS : ∀ a : List Job, a.length ≤ nodesS a
  | [] => Nat.le_refl _
  | j :: a => by
    have := len_nodesS a
    have := nodes_pos j
    simp [nodesS]; omega
theorem depthS_mem : ∀ {a : List Job} {j : Job}, j ∈ a → depth j ≤ depthS a
  | k :: a, j, h => by
    rcases List.mem_cons.mp h with rfl | h
    · simp [depthS]; omega
    · have := depthS_mem h
      simp [depthS]; omega
theorem nodesS_mem : ∀ {a : List Job} {j : Job}, j ∈ a → nodes j ≤ nodesS a
  | k :: a, j, h => by
    rcases List.mem_cons.mp h with rfl | h
    · simp [nodesS]
    · have := nodesS_mem h
      simp [nodesS]; omega
theorem stepsS_mem : ∀ {a : List Job} {j : Job}, j ∈ a → steps j ≤ stepsS a
  | k :: a, j, h => by
    rcases List.mem_cons.mp h with rfl | h
    · simp [stepsS]
    · have := stepsS_mem h
      simp [stepsS]; omega
theorem okJs_mem : ∀ {a : List Job}, okJs a ↔ ∀ j ∈ a, okJ j
  | [] => by simp [okJs]
  | k :: a => by simp [okJs, okJs_mem (a := a)]
end K30
namespace K30
open PySem PySem.Spec PyProof.Rows L2 Evl RZ
open K30m (Job jobS Pf)
def isI : D → Bool
  | .int _ => true
  | _ => false
theorem isI_ok (d : D) : (isT "int" d && !isT "bool" d) = isI d := by
  rw [isT_int, isT_bool]
  cases d <;> rfl
section
variable {P : Program} {w : World} {K : PySem.W.Frag} {mg : Str → Option Value} {base : Heap} (T : Tops K mg)
include T
theorem f_is_integer : Fn P w K mg base 1 "is_integer" ["value"] (spP K (fun d : D => [d]) (fun d => noL d = true) (fun d => .bool (isI d))) :=
  fn_ok T.d_is_integer sc_is_integer hb_is_integer (sp_len fun _ => rfl) fun f cdv A outer s H vs Q E hr h => by
    obtain ⟨d, hn, hd, q⟩ := h
    obtain ⟨v, rfl, h1⟩ := dps1 hd
    have hs : SR K H (start n_is_integer [v]) [some (.py d)] := .py h1 hn .nil
    exact do_ret (ee_and (ee_isi (T := "int") T.b_isinstance T.b_int (ev hs 0)) fun _ => ee_one (ee_not (ee_isi (T := "bool") T.b_isinstance T.b_bool (ev hs 0)))) fun v H1 e1 hv => q v H1 e1 (by
      rw [isI_ok] at hv
      exact hv)
def btw (d : D) (lo hi : Int) : Bool := match d with
  | .int i => decide (lo ≤ i) && decide (i ≤ hi)
  | _ => false
theorem f_is_between : Fn P w K mg base 2 "is_between" ["value", "low", "high"] (spP K (fun x : D × Int × Int => [x.1, .int x.2.1, .int x.2.2]) (fun x => noL x.1 = true) (fun x => .bool (btw x.1 x.2.1 x.2.2))) :=
  fn_ok T.d_is_between sc_is_between hb_is_between (sp_len fun _ => rfl) fun f cdv A outer s H vs Q E hr h => by
    obtain ⟨⟨d, lo, hi⟩, hn, hd, q⟩ := h
    match vs, hd with
    | [v, v1, v2], .cons h1 (.cons h2 (.cons h3 .nil)) =>
      have hs : SR K H (start n_is_between [v, v1, v2]) [some (.py d), some (.py (.int lo)), some (.py (.int hi))] := .py h1 hn (.py h2 rfl (.py h3 rfl .nil))
      refine do_ret (d := .bool (btw d lo hi)) ?_ fun v H1 e1 hv => q v H1 e1 hv
      refine .of_eq (ee_and (y := btw d lo hi) (ee_call (f_is_integer T) hr d (ea_cons (ev hs 0) ea_nil) hn) fun hI => ?_) (by cases d <;> rfl)
      cases d <;> simp [isI] at hI
      exact ee_one (ee_chain (ev hs 1) (ev hs 0) fun _ => ev hs 2)
def maxI : Int := 10 ^ 61 - 1
theorem f_is_number : Fn P w K mg base 3 "is_number" ["value"] (spP K (fun x : Int => [.int x]) (fun _ => True) (fun x => .bool (decide (-maxI ≤ x) && decide (x ≤ maxI)))) :=
  fn_ok T.d_is_number sc_is_number hb_is_number (sp_len fun _ => rfl) fun f cdv A outer s H vs Q E hr h => by
    obtain ⟨d, _, hd, q⟩ := h
    obtain ⟨v, rfl, h1⟩ := dps1 hd
    have hs : SR K H (start n_is_number [v]) [some (.py (.int d))] := .py h1 rfl .nil
    obtain ⟨t, ht⟩ := T.i_MAX_INTEGER
    exact do_ret (ee_call (f_is_between T) hr (.int d, 0 - maxI, maxI) (ea_cons (ev hs 0) (ea_cons (ee_sub ee_int (ee_gint ht)) (ea_cons (ee_gint ht) ea_nil))) rfl) fun v H1 e1 hv => q v H1 e1 (by
      rw [Int.zero_sub] at hv
      exact hv)
theorem f_check_number : Fn P w K mg base 4 "check_number" ["value"] (spP K (fun x : Int => [.int x]) (fun x => -maxI ≤ x ∧ x ≤ maxI) (fun x => .none)) :=
  fn_ok T.d_check_number sc_check_number hb_check_number (sp_len fun _ => rfl) fun f cdv A outer s H vs Q E hr h => by
    obtain ⟨d, hb, hd, q⟩ := h
    obtain ⟨v, rfl, h1⟩ := dps1 hd
    have hs : SR K H (start n_check_number [v]) [some (.py (.int d))] := .py h1 rfl .nil
    refine do_not (.of_eq (et_not (et_val (ee_call (f_is_number T) hr d (ea_cons (ev hs 0) ea_nil) trivial))) ?_) fun H1 e1 => do_nil (q _ H1 e1 .non)
    rw [decide_eq_true hb.1, decide_eq_true hb.2]
    rfl
theorem f_is_node : Fn P w K mg base 1 "is_node" ["job"] (spP K (fun x : D => [x]) (fun x => noL x = true) (fun x => .bool (isT "tuple" x))) :=
  fn_ok T.d_is_node sc_is_node hb_is_node (sp_len fun _ => rfl) fun f cdv A outer s H vs Q E hr h => by
    obtain ⟨d, hn, hd, q⟩ := h
    obtain ⟨v, rfl, h1⟩ := dps1 hd
    have hs : SR K H (start n_is_node [v]) [some (.py d)] := .py h1 hn .nil
    exact do_ret (ee_isi (T := "tuple") T.b_isinstance T.b_tuple (ev hs 0)) q
end
end K30
namespace K30
open PySem PySem.Spec PyProof.Rows L2 Evl RZ
open K30m (Job jobS Pf)
theorem sok : PyData.strOk "seq" = true ∧ PyData.strOk "par" = true ∧ PyData.strOk "repeat" = true ∧ PyData.strOk "copies" = true := by decide +kernel
mutual
  theorem enc_lay : ∀ j : Job, (enc j).canLay0 = true ∧ (enc j).depth ≤ 2 * depth j
    | .step v => ⟨rfl, Nat.zero_le _⟩
    | .seq ps => by
      obtain ⟨h1, h2⟩ := encs_lay ps
      refine ⟨by simp only [enc, PyData.canLay0, PyData.canLayAll0, h1, sok.1]; rfl, ?_⟩
      simp only [enc, PyData.depth, PyData.depthAll, depth]
      omega
    | .par ps => by
      obtain ⟨h1, h2⟩ := encs_lay ps
      refine ⟨by simp only [enc, PyData.canLay0, PyData.canLayAll0, h1, sok.2.1]; rfl, ?_⟩
      simp only [enc, PyData.depth, PyData.depthAll, depth]
      omega
    | .rep n j => by
      obtain ⟨h1, h2⟩ := enc_lay j
      refine ⟨by simp only [enc, PyData.canLay0, PyData.canLayAll0, h1, sok.2.2.1]; rfl, ?_⟩
      simp only [enc, PyData.depth, PyData.depthAll, depth]
      omega
    | .cop n j => by
      obtain ⟨h1, h2⟩ := enc_lay j
      refine ⟨by simp only [enc, PyData.canLay0, PyData.canLayAll0, h1, sok.2.2.2]; rfl, ?_⟩
      simp only [enc, PyData.depth, PyData.depthAll, depth]
      omega
  theorem encs_lay : ∀ js : List Job, PyData.canLayAll0 (encs js) = true ∧ PyData.depthAll (encs js) ≤ 2 * depthS js
    | [] => ⟨rfl, Nat.le_refl _⟩
    | j :: js => by
      obtain ⟨h1, h2⟩ := enc_lay j
      obtain ⟨h3, h4⟩ := encs_lay js
      refine ⟨by simp only [encs, PyData.canLayAll0, h1, h3]; rfl, ?_⟩
      simp only [encs, PyData.depthAll, depthS]
      omega
end
theorem enc_shaped {j : Job} (h : depth j ≤ 20) : SeqAt.shaped (enc j) = true := by
  obtain ⟨h1, h2⟩ := enc_lay j
  show ((enc j).canLay0 && decide ((enc j).depth ≤ 64)) = true
  rw [h1, decide_eq_true (by omega)]
  rfl
def szD (a b : Nat) : D := .tuple [.int a, .int b]
section
variable {P : Program} {w : World} {K : PySem.W.Frag} {mg : Str → Option Value} {base : Heap} (T : Tops K mg)
include T
def okM (j : Job) (d : Nat) : Prop := depth j ≤ d ∧ d ≤ 20 ∧ okJ j ∧ nodes j ≤ 400 ∧ steps j ≤ 10 ^ 30
def okMs (js : List Job) (d : Nat) : Prop := depthS js ≤ d ∧ d ≤ 20 ∧ okJs js ∧ nodesS js ≤ 399 ∧ stepsS js ≤ 10 ^ 30
theorem f_measured_parts (d k : Nat) (F : Fn P w K mg base k "measured" ["value", "depth"] (spP K (fun j : Job => [enc j, .int (d : Nat)]) (fun j => okM j d) fun j => szD (nodes j) (steps j))) :
    Fn P w K mg base (k + 1) "measured_parts" ["parts", "depth"] (spP K (fun js : List Job => [.tuple (encs js), .int ((d + 1 : Nat) : Int)]) (fun js => okMs js d) fun js => szD (1 + nodesS js) (stepsS js)) :=
  fn_ok T.d_measured_parts sc_measured_parts hb_measured_parts (sp_len fun _ => rfl) fun f cdv A outer s H vs Q E hr h => by
    obtain ⟨js, ⟨hd1, hd2, hok, hno, hst⟩, hd, q⟩ := h
    obtain ⟨v, v1, rfl, h1, h2⟩ := dps2 hd
    have hs : SR K H (start n_measured_parts [v, v1]) [some (.py (.tuple (encs js))), some (.py (.int ((d + 1 : Nat) : Int))), none, none, none, none] := .py h1 (encs_nol js) (.py h2 rfl (.no (.no (.no (.no .nil)))))
    obtain ⟨t1, ht1⟩ := T.i_MAX_PARTS
    obtain ⟨t2, ht2⟩ := T.i_MAX_NODES
    obtain ⟨t3, ht3⟩ := T.i_MAX_COUNT
    have hlen := len_nodesS js
    have hel : (encs js).length = js.length := by rw [encs_map, List.length_map]
    refine do_not (.of_eq (et_w (ew_or (et_not (et_val (ee_isi (T := "tuple") T.b_isinstance T.b_tuple (ev hs 0)))) fun _ => ew_or1 (et_gt (ee_lenT T.b_len (ev hs 0)) (ee_gint ht1)))) ?_) fun H1 e1 => ?_
    · rw [isT_tuple, decide_eq_false (by rw [hel]; omega)]
      rfl
    refine do_unpack rfl sc_measured_parts.nd [2, 3] (hs.ex e1) (ee_tup (ea_cons ee_int (ea_cons ee_int ea_nil))) rfl rfl (fun σ2 H2 e2 hs2 => ?_) (.cons ⟨_, _, rfl, rfl, rfl⟩ (.cons ⟨_, _, rfl, rfl, rfl⟩ .nil))
    refine do_for (xs := js) (g := enc) PassesOwn.never rfl [] (fun pre => [some (.py (.tuple (encs js))), some (.py (.int ((d + 1 : Nat) : Int))), some (.py (.int ((1 + nodesS pre : Nat) : Int))), some (.py (.int ((stepsS pre : Nat) : Int))), none, none])
      (fun _ _ => True) (us := fun x => [(4, enc x)]) (encs_map js ▸ ei_tup (ev hs2 0) (encs_nol js)) (encs_map js ▸ encs_nol js) (fun a ha => by cases ha) (fun a ha => by cases ha) (fun x _ => tg_name sc_measured_parts.nd 4) (fun _ _ _ _ h => h) hs2 trivial ?_ ?_
    · intro pj j po hx σ3 H3 c3 t3' _ hs3 N hN
      subst hx
      have dj : depth j ≤ depthS (pj ++ j :: po) := depthS_mem (List.mem_append_right _ List.mem_cons_self)
      have oj : okJ j := okJs_mem.mp hok j (List.mem_append_right _ List.mem_cons_self)
      rw [nodesS_append] at hno
      rw [stepsS_append] at hst
      have n1 : nodesS (j :: po) = nodes j + nodesS po := rfl
      have s1 : stepsS (j :: po) = steps j + stepsS po := rfl
      refine do_asg sc_measured_parts.nd 5 hs3 (ee_call F hr j (ea_cons (ev hs3 4) (ea_cons (.of_eq (ee_sub (ev hs3 1) ee_int) ?_) ea_nil)) ⟨by omega, hd2, oj, by omega, by omega⟩ (Nat.le_refl _)) rfl fun σ4 H4 e4 hs4 => ?_
      · congr 1; omega
      refine do_not (et_isN (ev hs4 5)) fun H5 e5 => ?_
      have hs5 := hs4.ex e5
      refine do_par rfl sc_measured_parts.nd hs5 (ee_add (ev hs5 2) (ee_ixT (d := .int (nodes j)) (ev hs5 5) ee_int rfl)) (ee_add (ev hs5 3) (ee_ixT (d := .int (steps j)) (ev hs5 5) ee_int rfl)) rfl rfl 2 3 fun σ6 H6 e6 hs6 => ?_
      refine do_not (.of_eq (et_w (ew_or (et_gt (ev hs6 2) (ee_gint ht2)) fun _ => ew_or1 (et_gt (ev hs6 3) (ee_gint ht3)))) ?_) fun H7 e7 => ?_
      · rw [decide_eq_false (by omega), decide_eq_false (by omega)]
        rfl
      refine do_nil (hN _ _ (Ch.ex (e4.trans (e5.trans (e6.trans e7)))) trivial ?_)
      have hs7 := ((hs6.ex e7).drop 4).drop 5
      rw [nodesS_append, stepsS_append]
      have n2 : nodesS [j] = nodes j := by simp [nodesS]
      have s2 : stepsS [j] = steps j := by simp [stepsS]
      rw [n2, s2, show ((1 + (nodesS pj + nodes j) : Nat) : Int) = (1 + nodesS pj : Nat) + (nodes j : Nat) by omega, show ((stepsS pj + steps j : Nat) : Int) = (stepsS pj : Nat) + (steps j : Nat) by omega]
      exact hs7
    · intro σ3 H3 c3 t3' _ hs3
      refine do_ret (ee_tup (ea_cons (ev hs3 2) (ea_cons (ev hs3 3) ea_nil))) fun v H4 e4 hv => q v H4 (e1.trans (e2.trans (c3.nil.trans e4))) hv
end
end K30
namespace K30
open PySem PySem.Spec PyProof.Rows L2 Evl RZ
open K30m (Job jobS Pf)
section
variable {P : Program} {w : World} {K : PySem.W.Frag} {mg : Str → Option Value} {base : Heap} (T : Tops K mg)
include T
theorem f_measured_multiple (d k : Nat) (F : Fn P w K mg base k "measured" ["value", "depth"] (spP K (fun j : Job => [enc j, .int (d : Nat)]) (fun j => okM j d) fun j => szD (nodes j) (steps j))) :
    Fn P w K mg base (k + 2 + 1) "measured_multiple" ["count", "inner", "depth"] (spP K (fun x : Nat × Job => [.int (x.1 : Nat), enc x.2, .int ((d + 1 : Nat) : Int)]) (fun x => okM x.2 d ∧ x.1 ≤ 1000 ∧ nodes x.2 ≤ 399 ∧ x.1 * steps x.2 ≤ 10 ^ 30) fun x => szD (1 + nodes x.2) (x.1 * steps x.2)) :=
  fn_ok T.d_measured_multiple sc_measured_multiple hb_measured_multiple (sp_len fun _ => rfl) fun f cdv A outer s H vs Q E hr h => by
    obtain ⟨⟨n, j⟩, ⟨hm, hn, hno, hst⟩, hd, q⟩ := h
    have hn : n ≤ 1000 := hn
    have hst : n * steps j ≤ 10 ^ 30 := hst
    have hno : nodes j ≤ 399 := hno
    match vs, hd with
    | [v, v1, v2], .cons h1 (.cons h2 (.cons h3 .nil)) =>
      have hs : SR K H (start n_measured_multiple [v, v1, v2]) [some (.py (.int (n : Nat))), some (.py (enc j)), some (.py (.int ((d + 1 : Nat) : Int))), none] := .py h1 rfl (.py h2 (enc_nol j) (.py h3 rfl (.no .nil)))
      obtain ⟨t2, ht2⟩ := T.i_MAX_NODES
      obtain ⟨t3, ht3⟩ := T.i_MAX_COUNT
      refine do_not (.of_eq (et_not (et_val (ee_call (f_is_between T) hr (.int (n : Nat), 0, 1000000000000000000000000000000) (ea_cons (ev hs 0) (ea_cons ee_int (ea_cons (ee_gint ht3) ea_nil))) rfl (by omega)))) ?_) fun H1 e1 => ?_
      · show (!(decide ((0 : Int) ≤ (n : Nat)) && decide (((n : Nat) : Int) ≤ 1000000000000000000000000000000))) = false
        rw [decide_eq_true (by omega), decide_eq_true (by omega)]; rfl
      refine do_asg sc_measured_multiple.nd 3 (hs.ex e1) (ee_call F hr j (ea_cons (ev (hs.ex e1) 1) (ea_cons (.of_eq (ee_sub (ev (hs.ex e1) 2) ee_int) ?_) ea_nil)) hm (by omega)) rfl fun σ2 H2 e2 hs2 => ?_
      · congr 1; omega
      have cm : CMul (n : Nat) (steps j : Nat) := .inl ⟨by omega, by omega⟩
      refine do_not (.of_eq (et_w (ew_or (et_isN (ev hs2 3)) fun _ => ew_or (et_eqI (ee_ixT (d := .int (nodes j : Nat)) (ev hs2 3) ee_int rfl) (ee_gint ht2)) fun _ => ew_or1 (et_gt (ee_mul (ev hs2 0) (ee_ixT (d := .int (steps j : Nat)) (ev hs2 3) ee_int rfl) cm) (ee_gint ht3)))) ?_) fun H3 e3 => ?_
      · have e : ((n : Int) * (steps j : Nat)) = ((n * steps j : Nat) : Int) := by rw [Int.natCast_mul]
        rw [e, decide_eq_false (by omega), decide_eq_false (by omega)]
        rfl
      have hs3 := hs2.ex e3
      refine do_ret (ee_tup (ea_cons (ee_add ee_int (ee_ixT (d := .int (nodes j : Nat)) (ev hs3 3) ee_int rfl)) (ea_cons (ee_mul (ev hs3 0) (ee_ixT (d := .int (steps j : Nat)) (ev hs3 3) ee_int rfl) cm) ea_nil))) fun v H4 e4 hv => q v H4 (e1.trans (e2.trans (e3.trans e4))) ?_
      show Dp _ _ _ (szD (1 + nodes j) (n * steps j))
      unfold szD
      rw [Int.natCast_mul, Int.natCast_add]
      exact hv
abbrev BB : Int := 1000000000000000000000000000000
abbrev meas (d k : Nat) (P : Program) (w : World) (K : PySem.W.Frag) (mg : Str → Option Value) (base : Heap) : Prop := Fn P w K mg base k "measured" ["value", "depth"] (spP K (fun j : Job => [enc j, .int (d : Nat)]) (fun j => okM j d) fun j => szD (nodes j) (steps j))
theorem f_measured : ∀ d : Nat, meas d (4 * d + 4) P w K mg base
  | 0 => by
    refine fn_ok T.d_measured sc_measured hb_measured (sp_len fun _ => rfl) fun f cdv A outer s H vs Q E hr h => ?_
    obtain ⟨j, ⟨h1, _⟩, _⟩ := h
    have := depth_pos j
    omega
  | d + 1 => by
    have F := f_measured d
    have Fp := f_measured_parts T d _ F
    have Fm := f_measured_multiple T d _ F
    refine fn_ok (k := 4 * d + 7) T.d_measured sc_measured hb_measured (sp_len fun _ => rfl) fun f cdv A outer s H vs Q E hr h => ?_
    obtain ⟨j, ⟨hd1, hd2, hok, hno, hst⟩, hd, q⟩ := h
    obtain ⟨v, v1, rfl, h1, h2⟩ := dps2 hd
    have hs : SR K H (start n_measured [v, v1]) [some (.py (enc j)), some (.py (.int ((d + 1 : Nat) : Int)))] := .py h1 (enc_nol j) (.py h2 rfl .nil)
    obtain ⟨t1, ht1⟩ := T.i_MAX_STEP
    obtain ⟨l1, hg1, hg2⟩ := T.groups
    obtain ⟨l2, hm1, hm2⟩ := T.multiples
    have hu := hr.units
    refine do_not (.of_eq (et_eqI (ev hs 1) ee_int) (decide_eq_false (by omega))) fun H1 e1 => ?_
    have hs1 := hs.ex e1
    refine do_when (et_val (ee_call (f_is_between T) hr (enc j, 0 - BB, BB) (ea_cons (ev hs1 0) (ea_cons (ee_sub ee_int (ee_gint ht1)) (ea_cons (ee_gint ht1) ea_nil))) (enc_nol j) (by omega))) (fun hb H2 e2 => ?_) (fun hb H2 e2 => ?_)
    · cases j with
      | step v => exact do_ret (ee_tup (ea_cons ee_int (ea_cons ee_int ea_nil))) fun v H3 e3 hv => q v H3 (e1.trans (e2.trans e3)) hv
      | _ => cases hb
    · have hs2 := hs1.ex e2
      have sh := enc_shaped (j := j) (by omega)
      have cs : (∃ (g : Str) (js : List Job), enc j = .tuple [.str g, .tuple (encs js)] ∧ okMs js d ∧ (["seq", "par"] : List Str).contains g = true ∧ nodes j = 1 + nodesS js ∧ steps j = stepsS js) ∨
          ∃ (g : Str) (n : Nat) (i : Job), enc j = .tuple [.str g, .int (n : Nat), enc i] ∧ okM i d ∧ n ≤ 1000 ∧ (["seq", "par"] : List Str).contains g = false ∧ (["repeat", "copies"] : List Str).contains g = true ∧ nodes j = 1 + nodes i ∧ steps j = n * steps i := by
        cases j with
        | step v =>
          exfalso
          obtain ⟨o1, o2⟩ := hok
          have h : (decide (0 - BB ≤ v) && decide (v ≤ BB)) = false := hb
          rw [decide_eq_true (by unfold BB; omega), decide_eq_true (by unfold BB; omega)] at h
          cases h
        | seq js =>
          have e : depth (.seq js) = 1 + depthS js := rfl
          have e' : nodes (.seq js) = 1 + nodesS js := rfl
          exact .inl ⟨"seq", js, rfl, ⟨by omega, by omega, hok, by omega, hst⟩, by decide, rfl, rfl⟩
        | par js =>
          have e : depth (.par js) = 1 + depthS js := rfl
          have e' : nodes (.par js) = 1 + nodesS js := rfl
          exact .inl ⟨"par", js, rfl, ⟨by omega, by omega, hok, by omega, hst⟩, by decide, rfl, rfl⟩
        | rep n i =>
          have e : depth (.rep n i) = 1 + depth i := rfl
          have e' : nodes (.rep n i) = 1 + nodes i := rfl
          exact .inr ⟨"repeat", n, i, rfl, ⟨by omega, by omega, hok.2.2, by omega, hok.2.1⟩, hok.1, by decide, by decide, rfl, rfl⟩
        | cop n i =>
          have e : depth (.cop n i) = 1 + depth i := rfl
          have e' : nodes (.cop n i) = 1 + nodes i := rfl
          exact .inr ⟨"copies", n, i, rfl, ⟨by omega, by omega, hok.2.2, by omega, hok.2.1⟩, hok.1, by decide, by decide, rfl, rfl⟩
      rcases cs with ⟨g, js, ej, om, hg, en, es⟩ | ⟨g, n, i, ej, om, o2, hg0, hg, en, es⟩
      · rw [ej] at hs2 sh
        have q2 : ∀ v H3, Ex H H3 → Dp K H3 v (szD (1 + nodesS js) (stepsS js)) → Q v H3 := fun v H3 e3 hv => q v H3 e3 (by
          show Dp K H3 v (szD (nodes j) (steps j))
          rw [en, es]; exact hv)
        refine do_not (.of_eq (et_w (ew_or (et_not (et_val (ee_isi (T := "tuple") T.b_isinstance T.b_tuple (ev hs2 0)))) fun _ => ew_or (et_eqD hu (ev hs2 0) (ee_tup ea_nil) sh rfl) fun _ => ew_or1 (et_not (et_val (ee_isi (T := "str") T.b_isinstance T.b_str (ee_ixT (d := .str g) (ev hs2 0) ee_int rfl)))))) ?_) fun H3 e3 => ?_
        · rw [isT_tuple, isT_str]; rfl
        have hs3 := hs2.ex e3
        refine do_if (t := true) (.of_eq (et_w (ew_and (et_inS (ys := ["seq", "par"]) (ee_ixT (d := .str g) (ev hs3 0) ee_int rfl) (ee_gtup hg1 hg2)) fun _ => ew_and1 (et_eqI (ee_lenT T.b_len (ev hs3 0)) ee_int))) (by rw [hg]; rfl)) (fun _ H4 e4 => ?_) (fun h => by cases h)
        have hs4 := hs3.ex e4
        exact do_ret (d := szD (1 + nodesS js) (stepsS js)) (ee_cal Fp hr js (ea_cons (ee_ixT (d := .tuple (encs js)) (ev hs4 0) ee_int rfl) (ea_cons (ev hs4 1) ea_nil)) om (by omega)) fun v H5 e5 hv => q2 v H5 (e1.trans (e2.trans (e3.trans (e4.trans e5)))) hv
      · rw [ej] at hs2 sh
        have q2 : ∀ v H3, Ex H H3 → Dp K H3 v (szD (1 + nodes i) (n * steps i)) → Q v H3 := fun v H3 e3 hv => q v H3 e3 (by
          show Dp K H3 v (szD (nodes j) (steps j))
          rw [en, es]; exact hv)
        refine do_not (.of_eq (et_w (ew_or (et_not (et_val (ee_isi (T := "tuple") T.b_isinstance T.b_tuple (ev hs2 0)))) fun _ => ew_or (et_eqD hu (ev hs2 0) (ee_tup ea_nil) sh rfl) fun _ => ew_or1 (et_not (et_val (ee_isi (T := "str") T.b_isinstance T.b_str (ee_ixT (d := .str g) (ev hs2 0) ee_int rfl)))))) ?_) fun H3 e3 => ?_
        · rw [isT_tuple, isT_str]; rfl
        have hs3 := hs2.ex e3
        refine do_not (.of_eq (et_w (ew_and (y := false) (et_inS (ys := ["seq", "par"]) (ee_ixT (d := .str g) (ev hs3 0) ee_int rfl) (ee_gtup hg1 hg2)) fun z => by rw [hg0] at z; cases z)) (by rw [hg0]; rfl)) fun H4 e4 => ?_
        have hs4 := hs3.ex e4
        refine do_if (t := true) (.of_eq (et_w (ew_and (et_inS (ys := ["repeat", "copies"]) (ee_ixT (d := .str g) (ev hs4 0) ee_int rfl) (ee_gtup hm1 hm2)) fun _ => ew_and1 (et_eqI (ee_lenT T.b_len (ev hs4 0)) ee_int))) (by rw [hg]; rfl)) (fun _ H5 e5 => ?_) (fun h => by cases h)
        have hs5 := hs4.ex e5
        exact do_ret (d := szD (1 + nodes i) (n * steps i)) (ee_cal Fm hr (n, i) (ea_cons (ee_ixT (d := .int (n : Nat)) (ev hs5 0) ee_int rfl) (ea_cons (ee_ixT (d := enc i) (ev hs5 0) ee_int rfl) (ea_cons (ev hs5 1) ea_nil))) ⟨om, o2, (show nodes i ≤ 399 by omega), (show n * steps i ≤ 10 ^ 30 by rw [← es]; exact hst)⟩ (by omega)) fun v H6 e6 hv => q2 v H6 (e1.trans (e2.trans (e3.trans (e4.trans (e5.trans e6))))) hv
theorem f_is_job : Fn P w K mg base 57 "is_job" ["value"] (spP K (fun j : Job => [enc j]) (fun j => okM j 13) fun _ => .bool true) :=
  fn_ok T.d_is_job sc_is_job hb_is_job (sp_len fun _ => rfl) fun f cdv A outer s H vs Q E hr h => by
    obtain ⟨j, hok, hd, q⟩ := h
    obtain ⟨v, rfl, h1⟩ := dps1 hd
    have hs : SR K H (start n_is_job [v]) [some (.py (enc j))] := .py h1 (enc_nol j) .nil
    obtain ⟨t1, ht1⟩ := T.i_MAX_DEPTH
    exact do_ret (d := .bool true) (ee_notN (d := szD (nodes j) (steps j)) (ee_cal (f_measured T 13) hr j (ea_cons (ev hs 0) (ea_cons (ee_gint ht1) ea_nil)) hok (by omega))) q
theorem f_check_job : Fn P w K mg base 58 "check_job" ["job"] (spP K (fun j : Job => [enc j]) (fun j => okM j 13) fun _ => .none) :=
  fn_ok T.d_check_job sc_check_job hb_check_job (sp_len fun _ => rfl) fun f cdv A outer s H vs Q E hr h => by
    obtain ⟨j, hok, hd, q⟩ := h
    obtain ⟨v, rfl, h1⟩ := dps1 hd
    have hs : SR K H (start n_check_job [v]) [some (.py (enc j))] := .py h1 (enc_nol j) .nil
    exact do_not (et_not (et_val (ee_call (f_is_job T) hr j (ea_cons (ev hs 0) ea_nil) hok))) fun H1 e1 => do_nil (q _ H1 e1 .non)
end
end K30
namespace K30
open PySem PySem.Spec PyProof.Rows L2 Evl RZ
open K30m (Job jobS Pf mirrorJ mirrorJs)
theorem mirrorJs_map : ∀ js, mirrorJs js = js.map mirrorJ
  | [] => rfl
  | j :: js => by
    show mirrorJ j :: mirrorJs js = _
    rw [mirrorJs_map js]; rfl
section
variable {P : Program} {w : World} {K : PySem.W.Frag} {mg : Str → Option Value} {base : Heap} (T : Tops K mg)
include T
abbrev mirr (d k : Nat) (P : Program) (w : World) (K : PySem.W.Frag) (mg : Str → Option Value) (base : Heap) : Prop := Fn P w K mg base k "mirror_by" ["job"] (spP K (fun j : Job => [enc j]) (fun j => depth j ≤ d ∧ nodes j ≤ 100000) fun j => enc (mirrorJ j))
theorem f_mirror_by : ∀ d : Nat, mirr d (d + 1) P w K mg base
  | 0 => by
    refine fn_ok T.d_mirror_by sc_mirror_by hb_mirror_by (sp_len fun _ => rfl) fun f cdv A outer s H vs Q E hr h => ?_
    obtain ⟨j, ⟨h1, _⟩, _⟩ := h
    have := depth_pos j
    omega
  | d + 1 => by
    have F := f_mirror_by d
    refine fn_ok (k := d + 1) T.d_mirror_by sc_mirror_by hb_mirror_by (sp_len fun _ => rfl) fun f cdv A outer s H vs Q E hr h => ?_
    obtain ⟨j, ⟨hd1, hno⟩, hd, q⟩ := h
    obtain ⟨v, rfl, h1⟩ := dps1 hd
    have hs : SR K H (start n_mirror_by [v]) [some (.py (enc j)), none, none] := .py h1 (enc_nol j) (.no (.no .nil))
    obtain ⟨l2, hm1, hm2⟩ := T.multiples
    have q2 : ∀ v H3, Ex H H3 → Dp K H3 v (enc (mirrorJ j)) → Q v H3 := q
    refine do_when (et_not (et_val (ee_call (f_is_node T) hr (enc j) (ea_cons (ev hs 0) ea_nil) (enc_nol j) (by omega)))) (fun hb H1 e1 => ?_) (fun hb H1 e1 => ?_)
    · cases j with
      | step v => exact do_ret (.of_eq (ee_sub ee_int (ev (hs.ex e1) 0)) (show PyData.int (0 - v) = .int (-v) by rw [Int.zero_sub])) fun v H2 e2 hv => q2 v H2 (e1.trans e2) hv
      | _ => rw [isT_tuple] at hb; cases hb
    · have hs1 := hs.ex e1
      have cs : (∃ (g : Str) (js : List Job), enc j = .tuple [.str g, .tuple (encs js)] ∧ depthS js ≤ d ∧ nodesS js ≤ 99999 ∧ (["repeat", "copies"] : List Str).contains g = false ∧ enc (mirrorJ j) = .tuple [.str g, .tuple (if decide (g = "seq") then ((js.map fun i => enc (mirrorJ i))).reverse else js.map fun i => enc (mirrorJ i))]) ∨
          ∃ (g : Str) (n : Nat) (i : Job), enc j = .tuple [.str g, .int (n : Nat), enc i] ∧ depth i ≤ d ∧ nodes i ≤ 100000 ∧ (["repeat", "copies"] : List Str).contains g = true ∧ enc (mirrorJ j) = .tuple [.str g, .int (n : Nat), enc (mirrorJ i)] := by
        cases j with
        | step v => rw [isT_tuple] at hb; cases hb
        | seq js =>
          have e : depth (.seq js) = 1 + depthS js := rfl
          have e' : nodes (.seq js) = 1 + nodesS js := rfl
          refine .inl ⟨"seq", js, rfl, by omega, by omega, by decide, ?_⟩
          show PyData.tuple [.str "seq", .tuple (encs (mirrorJs js).reverse)] = _
          rw [if_pos (by decide), encs_map, mirrorJs_map, ← List.map_reverse, List.map_reverse, List.map_reverse, List.map_map]
          rfl
        | par js =>
          have e : depth (.par js) = 1 + depthS js := rfl
          have e' : nodes (.par js) = 1 + nodesS js := rfl
          refine .inl ⟨"par", js, rfl, by omega, by omega, by decide, ?_⟩
          show PyData.tuple [.str "par", .tuple (encs (mirrorJs js))] = _
          rw [if_neg (by decide), encs_map, mirrorJs_map, List.map_map]
          rfl
        | rep n i =>
          have e : depth (.rep n i) = 1 + depth i := rfl
          have e' : nodes (.rep n i) = 1 + nodes i := rfl
          exact .inr ⟨"repeat", n, i, rfl, by omega, by omega, by decide, rfl⟩
        | cop n i =>
          have e : depth (.cop n i) = 1 + depth i := rfl
          have e' : nodes (.cop n i) = 1 + nodes i := rfl
          exact .inr ⟨"copies", n, i, rfl, by omega, by omega, by decide, rfl⟩
      rcases cs with ⟨g, js, ej, hdj, hnj, hg, em⟩ | ⟨g, n, i, ej, hdi, hni, hg, em⟩
      · rw [ej] at hs1
        rw [em] at q2
        refine do_not (.of_eq (et_inS (ys := ["repeat", "copies"]) (ee_ixT (d := .str g) (ev hs1 0) ee_int rfl) (ee_gtup hm1 hm2)) hg) fun H2 e2 => ?_
        have hs2 := hs1.ex e2
        have hlen := len_nodesS js
        refine do_setLc rfl sc_mirror_by.nd 1 hs2 (lc_allM (xs := js) (g := enc) (f := fun i => enc (mirrorJ i)) (us := fun i => [(2, enc i)]) (own := [("part", 2)]) rfl hs2 (encs_map js ▸ ei_tup (ee_ixT (d := .tuple (encs js)) (ev hs2 0) ee_int rfl) (encs_nol js)) (encs_map js ▸ encs_nol js) (by omega)
          (fun _ _ _ _ _ i _ => tg_name sc_mirror_by.nd 2) (fun i _ u hu => by rw [List.mem_singleton.mp hu]; exact List.mem_cons_self) (fun _ _ _ _ _ i hi σ' H' e hs' => ee_cal F hr i (ea_cons (ev hs' 2) ea_nil) ⟨Nat.le_trans (depthS_mem hi) hdj, Nat.le_trans (nodesS_mem hi) (by omega)⟩ (by omega)) (fun i _ => enc_nol _)) fun p vs σ3 H3 hp e3 h3 hd3 hs3 => ?_
        have la : LsAt K H3 p (js.map fun i => enc (mirrorJ i)) := ⟨vs, h3, hd3⟩
        have nl : noLs (js.map fun i => enc (mirrorJ i)) = true := noLs_mem.mpr fun z hz => by
          obtain ⟨i, _, rfl⟩ := List.mem_map.mp hz
          exact enc_nol _
        refine do_ret (ee_tup (ea_cons (ee_ixT (d := .str g) (ev hs3 0) ee_int rfl) (ea_cons (ee_tupleL T.b_tuple (ds := if decide (g = "seq") then ((js.map fun i => enc (mirrorJ i))).reverse else js.map fun i => enc (mirrorJ i)) (ee_if (et_eqS (ee_ixT (d := .str g) (ev hs3 0) ee_int rfl) ee_str) (fun h => ?_) (fun h => ?_)) ?_) ea_nil))) fun v H4 e4 hv => q2 v H4 (e1.trans (e2.trans (e3.trans e4))) hv
        · rw [if_pos h]
          exact (en_revL (ep_slot hs3 1 la).ev).ev
        · rw [if_neg (by rw [h]; decide)]
          exact (ep_slot hs3 1 la).ev
        · split
          · exact noLs_mem.mpr fun z hz => noLs_mem.mp nl z (List.mem_reverse.mp hz)
          · exact nl
      · rw [ej] at hs1
        rw [em] at q2
        refine do_if (t := true) (.of_eq (et_inS (ys := ["repeat", "copies"]) (ee_ixT (d := .str g) (ev hs1 0) ee_int rfl) (ee_gtup hm1 hm2)) hg) (fun _ H2 e2 => ?_) (fun h => by cases h)
        have hs2 := hs1.ex e2
        exact do_ret (ee_tup (ea_cons (ee_ixT (d := .str g) (ev hs2 0) ee_int rfl) (ea_cons (ee_ixT (d := .int (n : Nat)) (ev hs2 0) ee_int rfl) (ea_cons (ee_cal (d := enc (mirrorJ i)) F hr i (ea_cons (ee_ixT (d := enc i) (ev hs2 0) ee_int rfl) ea_nil) ⟨hdi, hni⟩ (by omega)) ea_nil)))) fun v H4 e4 hv => q2 v H4 (e1.trans (e2.trans e4)) hv
theorem f_mirror : Fn P w K mg base 59 "mirror" ["job"] (spP K (fun j : Job => [enc j]) (fun j => okM j 13) fun j => enc (mirrorJ j)) :=
  fn_ok T.d_mirror sc_mirror hb_mirror (sp_len fun _ => rfl) fun f cdv A outer s H vs Q E hr h => by
    obtain ⟨j, hok, hd, q⟩ := h
    obtain ⟨v, rfl, h1⟩ := dps1 hd
    have hs : SR K H (start n_mirror [v]) [some (.py (enc j))] := .py h1 (enc_nol j) .nil
    refine do_expr (ee_call (f_check_job T) hr j (ea_cons (ev hs 0) ea_nil) hok) fun H1 e1 => ?_
    exact do_ret (d := enc (mirrorJ j)) (ee_cal (f_mirror_by T 13) hr j (ea_cons (ev (hs.ex e1) 0) ea_nil) ⟨hok.1, by have := hok.2.2.2.1; omega⟩) fun v H2 e2 hv => q v H2 (e1.trans e2) hv
end
end K30
namespace K30
open PySem PySem.Spec PyProof.Rows L2 Evl RZ
open K30m (Job jobS Pf hd lt Valleys Strict Good mv)
def pfD (p : Pf) : D := .tuple [.int p.n, .int p.k, psD p.s, psD p.e]
theorem psD_nol (ps : List Pr) : noL (psD ps) = true := psD_nols ps
theorem pfD_nol (p : Pf) : noL (pfD p) = true := by
  show (true && (true && (noL (psD p.s) && (noL (psD p.e) && true)))) = true
  rw [psD_nol, psD_nol]; rfl
theorem at_hd {ps : List Pr} (h : ps ≠ []) : atI (ps.map pD) 0 = some (pD (hd ps)) := by
  cases ps with
  | nil => exact absurd rfl h
  | cons p ps =>
    unfold atI ixN
    rw [if_pos (Int.le_refl _), if_pos (by rw [List.length_map, List.length_cons]; omega)]
    rfl
theorem at_lt {ps : List Pr} (h : ps ≠ []) : atI (ps.map pD) (-1) = some (pD (lt ps)) := by
  have hl : 0 < ps.length := List.length_pos_iff.mpr h
  unfold atI ixN
  rw [if_neg (by omega), if_pos (by rw [List.length_map]; omega), List.length_map]
  show (ps.map pD)[((-1 : Int) + ps.length).toNat]? = _
  rw [List.getElem?_map, show ((-1 : Int) + ps.length).toNat = ps.length - 1 by omega, ← List.getLast?_eq_getElem?, K30m.lt_eq h]
  rfl
theorem at_nat {ps : List Pr} {i : Nat} {p : Pr} (h : ps[i]? = some p) : atI (ps.map pD) (i : Nat) = some (pD p) := by
  have hl : i < ps.length := (List.getElem?_eq_some_iff.mp h).1
  unfold atI ixN
  rw [if_pos (by omega), if_pos (by rw [List.length_map]; omega)]
  show (ps.map pD)[((i : Nat) : Int).toNat]? = _
  rw [Int.toNat_natCast, List.getElem?_map, h]
  rfl
def adj (ps : List Pr) : List (Pr × Pr) := ps.zip (ps.drop 1)
theorem zip_adj (ps : List Pr) : zipD (ps.map pD) ((ps.map pD).drop 1) = (adj ps).map fun q => PyData.tuple [pD q.1, pD q.2] := by
  unfold zipD adj
  rw [← List.map_drop, List.zip_map, List.map_map]
  rfl
theorem adj_strict : ∀ {ps : List Pr}, Strict ps → ∀ q ∈ adj ps, q.1.1 < q.2.1 ∧ q.2.2 < q.1.2
  | [], _, q, h => by cases h
  | [p], _, q, h => by cases h
  | p :: p' :: ps, hs, q, h => by
    have h : q ∈ (p, p') :: adj (p' :: ps) := h
    rcases List.mem_cons.mp h with rfl | h
    · exact (List.pairwise_cons.mp hs).1 p' List.mem_cons_self
    · exact adj_strict (List.pairwise_cons.mp hs).2 q h
theorem adj_len (ps : List Pr) : (adj ps).length ≤ ps.length := by
  unfold adj
  rw [List.length_zip, List.length_drop]
  omega
theorem adj_nols (ps : List Pr) : noLs ((adj ps).map fun q => PyData.tuple [pD q.1, pD q.2]) = true := noLs_mem.mpr fun z hz => by
  obtain ⟨q, _, rfl⟩ := List.mem_map.mp hz
  rfl
def okV (ps : List Pr) : Prop := Valleys ps ∧ ps.length ≤ 400
def optD : Option Int → D
  | none => .none
  | some i => .int i
theorem optD_nol (o : Option Int) : noL (optD o) = true := by cases o <;> rfl
def valBy (ps : List Pr) (R : Int) : Option Int := ps.foldl (fun f q => if q.1 ≤ R then some q.2 else f) none
def okP (p : Pf) : Prop := Good p ∧ p.s.length ≤ 400 ∧ p.e.length ≤ 400
section
variable {P : Program} {w : World} {K : PySem.W.Frag} {mg : Str → Option Value} {base : Heap} (T : Tops K mg)
include T
theorem f_is_pair : Fn P w K mg base 2 "is_pair" ["value"] (spP K (fun p : Pr => [pD p]) (fun _ => True) fun _ => .bool true) :=
  fn_ok T.d_is_pair sc_is_pair hb_is_pair (sp_len fun _ => rfl) fun f cdv A outer s H vs Q E hr h => by
    obtain ⟨p, _, hd, q⟩ := h
    obtain ⟨v, rfl, h1⟩ := dps1 hd
    have hs : SR K H (start n_is_pair [v]) [some (.py (pD p)), none] := .py h1 (pD_nol p) (.no .nil)
    refine do_ret (d := .bool true) (.of_eq (ee_and (ee_isi (T := "tuple") T.b_isinstance T.b_tuple (ev hs 0)) fun _ => ee_and (ee_eqI (ee_lenT (ds := [.int p.1, .int p.2]) T.b_len (ev hs 0)) ee_int) fun _ => ee_one (ee_all (bs := [true, true]) rfl T.b_all
      (en_lc rfl sc_is_pair.nd (lc_allM (xs := [p.1, p.2]) (g := PyData.int) (f := fun _ => .bool true) (us := fun i => [(1, .int i)]) (own := [("number", 1)]) rfl hs (ei_tup (ev hs 0) rfl) rfl (Nat.le_of_ble_eq_true rfl)
        (fun _ _ _ _ _ i _ => tg_name sc_is_pair.nd 1) (fun i _ u hu => by rw [List.mem_singleton.mp hu]; exact List.mem_cons_self) (fun _ _ _ _ _ i hi σ' H' e hs' => ee_cal (f_is_integer T) hr (.int i) (ea_cons (ev hs' 1) ea_nil) rfl) (fun _ _ => rfl))).ev)) ?_) q
    rw [isT_tuple]; rfl
theorem f_is_valleys : Fn P w K mg base 3 "is_valleys" ["value"] (spP K (fun ps : List Pr => [psD ps]) okV fun _ => .bool true) :=
  fn_ok T.d_is_valleys sc_is_valleys hb_is_valleys (sp_len fun _ => rfl) fun f cdv A outer s H vs Q E hr h => by
    obtain ⟨ps, ⟨⟨hne, hst⟩, hlen⟩, hd, q⟩ := h
    obtain ⟨v, rfl, h1⟩ := dps1 hd
    have hs : SR K H (start n_is_valleys [v]) [some (.py (psD ps)), none, none, none] := .py h1 (psD_nol ps) (.no (.no (.no .nil)))
    obtain ⟨t1, ht1⟩ := T.i_MAX_VALLEYS
    have hl : 0 < ps.length := List.length_pos_iff.mpr hne
    refine do_not (.of_eq (et_w (ew_or (et_not (et_val (ee_isi (T := "tuple") T.b_isinstance T.b_tuple (ev hs 0)))) fun _ => ew_or1 (et_not (et_chain (ee_int) (ee_lenT (ds := ps.map pD) T.b_len (ev hs 0)) fun _ => ee_gint ht1)))) ?_) fun H1 e1 => ?_
    · rw [isT_tuple, List.length_map, decide_eq_true (by omega), decide_eq_true (by omega)]; rfl
    have hs1 := hs.ex e1
    refine do_not (.of_eq (et_not (et_val (ee_all (bs := ps.map fun _ => true) rfl T.b_all (EvN.ev (.of_eq (en_lc rfl sc_is_valleys.nd (lc_allM (xs := ps) (g := pD) (f := fun _ => .bool true) (us := fun p => [(1, pD p)]) (own := [("pair", 1)]) rfl hs1 (ei_tup (ev hs1 0) (psD_nols ps)) (psD_nols ps) (by omega)
        (fun _ _ _ _ _ i _ => tg_name sc_is_valleys.nd 1) (fun i _ u hu => by rw [List.mem_singleton.mp hu]; exact List.mem_cons_self) (fun _ _ _ _ _ i hi σ' H' e hs' => ee_cal (f_is_pair T) hr i (ea_cons (ev hs' 1) ea_nil) trivial) (fun _ _ => rfl))) (by rw [List.map_map]; rfl)))))) ?_) fun H2 e2 => ?_
    · rw [show (ps.map fun _ => true).all id = true by simp]; rfl
    have hs2 := hs1.ex e2
    refine do_ret (d := .bool true) (.of_eq (ee_all (bs := (adj ps).map fun q => decide (q.1.1 < q.2.1) && decide (q.2.2 < q.1.2)) rfl T.b_all (EvN.ev (.of_eq (en_lc rfl sc_is_valleys.nd (lc_allM (xs := adj ps) (g := fun q => PyData.tuple [pD q.1, pD q.2]) (f := fun q => .bool (decide (q.1.1 < q.2.1) && decide (q.2.2 < q.1.2))) (us := fun q => [(2, pD q.1), (3, pD q.2)]) (own := [("one", 2), ("other", 3)]) rfl hs2
        (zip_adj ps ▸ ei_zipT T.b_zip (ev hs2 0) (ee_dropT (ev hs2 0) ee_int (by rw [List.length_map]; omega)) (psD_nols ps) (by rw [← List.map_drop]; exact psD_nols _)) (adj_nols ps) (by have := adj_len ps; omega)
        (fun _ _ _ _ _ q _ => tg_tup rfl (tgs_cons (tg_name sc_is_valleys.nd 2) (tgs_cons (tg_name sc_is_valleys.nd 3) tgs_nil))) (fun q _ u hu => by
          rcases List.mem_cons.mp hu with rfl | hu
          · exact List.mem_cons_self
          · rw [List.mem_singleton.mp hu]; exact List.mem_cons_of_mem _ List.mem_cons_self)
        (fun _ _ _ _ _ q hq σ' H' e hs' => ee_and (ee_lt (ee_ixT (d := .int q.1.1) (ev hs' 2) ee_int rfl) (ee_ixT (d := .int q.2.1) (ev hs' 3) ee_int rfl)) fun _ => ee_one (ee_gt (ee_ixT (d := .int q.1.2) (ev hs' 2) ee_int rfl) (ee_ixT (d := .int q.2.2) (ev hs' 3) ee_int rfl))) (fun _ _ => rfl))) (by rw [List.map_map]; rfl)))) ?_) fun v H3 e3 hv => q v H3 (e1.trans (e2.trans e3)) hv
    congr 1
    rw [List.all_eq_true]
    intro b hb
    obtain ⟨q, hq, rfl⟩ := List.mem_map.mp hb
    obtain ⟨s1, s2⟩ := adj_strict hst q hq
    show (decide _ && decide _) = true
    rw [decide_eq_true s1, decide_eq_true s2]; rfl
theorem f_check_valleys : Fn P w K mg base 4 "check_valleys" ["valleys"] (spP K (fun ps : List Pr => [psD ps]) okV fun _ => .none) :=
  fn_ok T.d_check_valleys sc_check_valleys hb_check_valleys (sp_len fun _ => rfl) fun f cdv A outer s H vs Q E hr h => by
    obtain ⟨ps, hok, hd, q⟩ := h
    obtain ⟨v, rfl, h1⟩ := dps1 hd
    have hs : SR K H (start n_check_valleys [v]) [some (.py (psD ps))] := .py h1 (psD_nol ps) .nil
    exact do_not (et_not (et_val (ee_cal (d := .bool true) (f_is_valleys T) hr ps (ea_cons (ev hs 0) ea_nil) hok))) fun H1 e1 => do_nil (q _ H1 e1 .non)
theorem f_value_by : Fn P w K mg base 1 "value_by" ["valleys", "capacity"] (spP K (fun x : List Pr × Int => [psD x.1, .int x.2]) (fun _ => True) fun x => optD (valBy x.1 x.2)) :=
  fn_ok T.d_value_by sc_value_by hb_value_by (sp_len fun _ => rfl) fun f cdv A outer s H vs Q E hr h => by
    obtain ⟨⟨ps, R⟩, _, hd, q⟩ := h
    obtain ⟨v, v1, rfl, h1, h2⟩ := dps2 hd
    have hs : SR K H (start n_value_by [v, v1]) [some (.py (psD ps)), some (.py (.int R)), none, none, none] := .py h1 (psD_nol ps) (.py h2 rfl (.no (.no (.no .nil))))
    refine do_asg sc_value_by.nd 2 hs ee_non rfl fun σ1 H1 e1 hs1 => ?_
    refine do_for (xs := ps) (g := pD) PassesOwn.never rfl [] (fun pre => [some (.py (psD ps)), some (.py (.int R)), some (.py (optD (valBy pre R))), none, none]) (fun _ _ => True) (us := fun p => [(3, .int p.1), (4, .int p.2)])
      (ei_tup (ev hs1 0) (psD_nols ps)) (psD_nols ps) (fun a ha => by cases ha) (fun a ha => by cases ha) (fun p _ => tg_tup rfl (tgs_cons (tg_name sc_value_by.nd 3) (tgs_cons (tg_name sc_value_by.nd 4) tgs_nil))) (fun _ _ _ _ h => h) hs1 trivial ?_ ?_
    · intro pre p post hx σ2 H2 c2 t2 _ hs2 N hN
      have ev : valBy (pre ++ [p]) R = if p.1 ≤ R then some p.2 else valBy pre R := by
        unfold valBy
        rw [List.foldl_append]; rfl
      refine do_when (et_le (K30.ev hs2 3) (K30.ev hs2 1)) (fun hb H3 e3 => ?_) (fun hb H3 e3 => ?_)
      · refine do_asg sc_value_by.nd 2 (hs2.ex e3) (K30.ev (hs2.ex e3) 4) rfl fun σ4 H4 e4 hs4 => do_nil (do_nil (hN _ _ (Ch.ex (e3.trans e4)) trivial ?_))
        rw [ev, if_pos (of_decide_eq_true hb)]
        exact (hs4.drop 3).drop 4
      · refine do_nil (hN _ _ (Ch.ex e3) trivial ?_)
        rw [ev, if_neg (of_decide_eq_false hb)]
        exact ((hs2.ex e3).drop 3).drop 4
    · intro σ2 H2 c2 t2 _ hs2
      exact do_ret (ev hs2 2) fun v H3 e3 hv => q v H3 (e1.trans (c2.nil.trans e3)) hv
theorem f_valley_at : Fn P w K mg base 5 "valley_at" ["valleys", "capacity"] (spP K (fun x : List Pr × Int => [psD x.1, .int x.2]) (fun x => okV x.1 ∧ -maxI ≤ x.2 ∧ x.2 ≤ maxI) fun x => optD (valBy x.1 x.2)) :=
  fn_ok T.d_valley_at sc_valley_at hb_valley_at (sp_len fun _ => rfl) fun f cdv A outer s H vs Q E hr h => by
    obtain ⟨⟨ps, R⟩, ⟨hok, hR⟩, hd, q⟩ := h
    obtain ⟨v, v1, rfl, h1, h2⟩ := dps2 hd
    have hs : SR K H (start n_valley_at [v, v1]) [some (.py (psD ps)), some (.py (.int R))] := .py h1 (psD_nol ps) (.py h2 rfl .nil)
    refine do_expr (ee_call (f_check_valleys T) hr ps (ea_cons (ev hs 0) ea_nil) hok) fun H1 e1 => ?_
    refine do_expr (ee_call (f_check_number T) hr R (ea_cons (ev (hs.ex e1) 1) ea_nil) hR) fun H2 e2 => ?_
    have hs2 := (hs.ex e1).ex e2
    exact do_ret (d := optD (valBy ps R)) (ee_cal (f_value_by T) hr (ps, R) (ea_cons (ev hs2 0) (ea_cons (ev hs2 1) ea_nil)) trivial) fun v H3 e3 hv => q v H3 (e1.trans (e2.trans e3)) hv
theorem f_is_start : Fn P w K mg base 4 "is_start" ["valleys"] (spP K (fun ps : List Pr => [psD ps]) (fun ps => okV ps ∧ (hd ps).1 = 0 ∧ (hd ps).2 ≤ 0) fun _ => .bool true) :=
  fn_ok T.d_is_start sc_is_start hb_is_start (sp_len fun _ => rfl) fun f cdv A outer s H vs Q E hr h => by
    obtain ⟨ps, ⟨hok, h0, h3⟩, hd', q⟩ := h
    obtain ⟨v, rfl, h1⟩ := dps1 hd'
    have hs : SR K H (start n_is_start [v]) [some (.py (psD ps))] := .py h1 (psD_nol ps) .nil
    have at0 := at_hd hok.1.1
    refine do_ret (d := .bool true) (.of_eq (ee_and (ee_call (f_is_valleys T) hr ps (ea_cons (ev hs 0) ea_nil) hok) fun _ => ee_and (ee_eqI (ee_ixT (d := .int (hd ps).1) (ee_ixT (ds := ps.map pD) (ev hs 0) ee_int at0) ee_int rfl) ee_int) fun _ => ee_one (ee_le (ee_ixT (d := .int (hd ps).2) (ee_ixT (ds := ps.map pD) (ev hs 0) ee_int at0) ee_int rfl) ee_int)) ?_) q
    rw [decide_eq_true h0, decide_eq_true h3]; rfl
theorem f_is_end : Fn P w K mg base 4 "is_end" ["valleys", "net"] (spP K (fun x : List Pr × Int => [psD x.1, .int x.2]) (fun x => okV x.1 ∧ (hd x.1).1 = x.2 ∧ (hd x.1).2 ≤ x.2) fun _ => .bool true) :=
  fn_ok T.d_is_end sc_is_end hb_is_end (sp_len fun _ => rfl) fun f cdv A outer s H vs Q E hr h => by
    obtain ⟨⟨ps, n⟩, ⟨hok, h0, h3⟩, hd', q⟩ := h
    obtain ⟨v, v1, rfl, h1, h2⟩ := dps2 hd'
    have hs : SR K H (start n_is_end [v, v1]) [some (.py (psD ps)), some (.py (.int n))] := .py h1 (psD_nol ps) (.py h2 rfl .nil)
    have at0 := at_hd hok.1.1
    refine do_ret (d := .bool true) (.of_eq (ee_and (ee_call (f_is_valleys T) hr ps (ea_cons (ev hs 0) ea_nil) hok) fun _ => ee_and (ee_eqI (ee_ixT (d := .int (hd ps).1) (ee_ixT (ds := ps.map pD) (ev hs 0) ee_int at0) ee_int rfl) (ev hs 1)) fun _ => ee_one (ee_le (ee_ixT (d := .int (hd ps).2) (ee_ixT (ds := ps.map pD) (ev hs 0) ee_int at0) ee_int rfl) (ev hs 1))) ?_) q
    rw [decide_eq_true h0, decide_eq_true h3]; rfl
theorem f_is_profile_by : Fn P w K mg base 5 "is_profile_by" ["value"] (spP K (fun p : Pf => [pfD p]) okP fun _ => .bool true) :=
  fn_ok T.d_is_profile_by sc_is_profile_by hb_is_profile_by (sp_len fun _ => rfl) fun f cdv A outer s H vs Q E hr h => by
    obtain ⟨⟨n, k, ps, es⟩, ⟨g, l1, l2⟩, hd', q⟩ := h
    obtain ⟨v, rfl, h1⟩ := dps1 hd'
    have hs : SR K H (start n_is_profile_by [v]) [some (.py (pfD ⟨n, k, ps, es⟩)), none, none, none, none] := .py h1 (pfD_nol _) (.no (.no (.no (.no .nil))))
    obtain ⟨g1, g2, g3, g4, g5, g6, g7, g8, g9, g10, g11⟩ := g
    simp only at g1 g2 g3 g4 g5 g6 g7 g8 g9 g10 g11 l1 l2
    refine do_not (.of_eq (et_w (ew_or (et_not (et_val (ee_isi (T := "tuple") T.b_isinstance T.b_tuple (ev hs 0)))) fun _ => ew_or1 (et_neI (ee_lenT (ds := [.int n, .int k, psD ps, psD es]) T.b_len (ev hs 0)) ee_int))) ?_) fun H1 e1 => ?_
    · rw [isT_tuple]; rfl
    refine do_unpack (ds := [.int n, .int k, psD ps, psD es]) rfl sc_is_profile_by.nd [1, 2, 3, 4] (hs.ex e1) (ev (hs.ex e1) 0) (pfD_nol ⟨n, k, ps, es⟩) rfl (fun σ2 H2 e2 hs2 => ?_) (.cons ⟨_, _, rfl, rfl, rfl⟩ (.cons ⟨_, _, rfl, rfl, rfl⟩ (.cons ⟨_, _, rfl, rfl, rfl⟩ (.cons ⟨_, _, rfl, rfl, rfl⟩ .nil))))
    refine do_not (.of_eq (et_w (ew_or (et_not (et_val (ee_call (f_is_integer T) hr (.int n) (ea_cons (ev hs2 1) ea_nil) rfl))) fun _ => ew_or (et_not (et_val (ee_call (f_is_integer T) hr (.int k) (ea_cons (ev hs2 2) ea_nil) rfl))) fun _ =>
      ew_or (et_not (et_val (ee_cal (d := .bool true) (f_is_start T) hr ps (ea_cons (ev hs2 3) ea_nil) ⟨⟨g1, l1⟩, g3, g4⟩))) fun _ => ew_or1 (et_not (et_val (ee_cal (d := .bool true) (f_is_end T) hr (es, n) (ea_cons (ev hs2 4) (ea_cons (ev hs2 1) ea_nil)) ⟨⟨g2, l2⟩, g5, g6⟩))))) ?_) fun H3 e3 => ?_
    · rfl
    have hs3 := hs2.ex e3
    have aS := at_lt g1.1
    have aE := at_lt g2.1
    refine do_ret (d := .bool true) (.of_eq (ee_and (ee_eqI (ee_ixT (d := .int (lt ps).2) (ee_ixT (ds := ps.map pD) (ev hs3 3) (ee_neg ee_int) aS) ee_int rfl) (ee_ixT (d := .int (lt es).2) (ee_ixT (ds := es.map pD) (ev hs3 4) (ee_neg ee_int) aE) ee_int rfl)) fun _ => ee_one (ee_ge (ev hs3 2) (ee_max4 rfl T.b_max ee_int (ev hs3 1) (ee_ixT (d := .int (lt ps).1) (ee_ixT (ds := ps.map pD) (ev hs3 3) (ee_neg ee_int) aS) ee_int rfl) (ee_ixT (d := .int (lt es).1) (ee_ixT (ds := es.map pD) (ev hs3 4) (ee_neg ee_int) aE) ee_int rfl)))) ?_) fun v H4 e4 hv => q v H4 (e1.trans (e2.trans (e3.trans e4))) hv
    rw [decide_eq_true g7, decide_eq_true (by omega)]; rfl
theorem f_check_profile : Fn P w K mg base 6 "check_profile" ["profile"] (spP K (fun p : Pf => [pfD p]) okP fun _ => .none) :=
  fn_ok T.d_check_profile sc_check_profile hb_check_profile (sp_len fun _ => rfl) fun f cdv A outer s H vs Q E hr h => by
    obtain ⟨p, hok, hd', q⟩ := h
    obtain ⟨v, rfl, h1⟩ := dps1 hd'
    have hs : SR K H (start n_check_profile [v]) [some (.py (pfD p))] := .py h1 (pfD_nol _) .nil
    exact do_not (et_not (et_val (ee_cal (d := .bool true) (f_is_profile_by T) hr p (ea_cons (ev hs 0) ea_nil) hok))) fun H1 e1 => do_nil (q _ H1 e1 .non)
theorem f_is_profile : Fn P w K mg base 6 "is_profile" ["value"] (spP K (fun p : Pf => [pfD p]) okP fun _ => .bool true) :=
  fn_ok T.d_is_profile sc_is_profile hb_is_profile (sp_len fun _ => rfl) fun f cdv A outer s H vs Q E hr h => by
    obtain ⟨p, hok, hd', q⟩ := h
    obtain ⟨v, rfl, h1⟩ := dps1 hd'
    have hs : SR K H (start n_is_profile [v]) [some (.py (pfD p))] := .py h1 (pfD_nol _) .nil
    exact do_ret (d := .bool true) (ee_cal (f_is_profile_by T) hr p (ea_cons (ev hs 0) ea_nil) hok) q
end
end K30
namespace K30
open PySem PySem.Spec PyProof.Rows L2 Evl RZ
open K30m (Job jobS Pf hd lt Valleys Strict Good mv sortP scanD stepD desc lle)
/-! ### sorted(pairs) -/
noncomputable def keyOf (K : PySem.W.Frag) (H : Hp) (v : V) : Pr := by
  classical exact if h : ∃ p : Pr, ∃ t, v = .ref t ∧ SqT K H t [.int p.1, .int p.2] then Classical.choose h else (0, 0)
theorem keyOf_ok {K : PySem.W.Frag} {H : Hp} {v : V} {p : Pr} (h : ∃ t, v = .ref t ∧ SqT K H t [.int p.1, .int p.2]) : ∃ t, v = .ref t ∧ SqT K H t [.int (keyOf K H v).1, .int (keyOf K H v).2] := by
  unfold keyOf
  have h' : ∃ p : Pr, ∃ t, v = .ref t ∧ SqT K H t [.int p.1, .int p.2] := ⟨p, h⟩
  rw [dif_pos h']
  exact Classical.choose_spec h'
theorem dp_pD {K : PySem.W.Frag} {H : Hp} {v : V} {p : Pr} (h : Dp K H v (pD p)) : ∃ t, v = .ref t ∧ SqT K H t [.int p.1, .int p.2] := by
  obtain ⟨t, vs, rfl, h1, h2⟩ := dp_tup h
  obtain ⟨a, b, rfl, ha, hb⟩ := dps2 h2
  rw [dp_int ha, dp_int hb] at h1
  exact ⟨t, rfl, h1⟩
def rSrt3 (K : PySem.W.Frag) : List V → Hp → VK → Prop := fun ws H Q => ∃ (l : Addr) (vs : List V) (ps : List Pr), ws = [V.ref l] ∧ SqL K H l vs ∧ DpAll K H vs (ps.map pD) ∧ ∀ zs p, DpAll K H zs ((sortP ps).map pD) → H p = none → Q (.ref p) (upd H p (.lst zs))
theorem cr_srt3 {X : Cx} : CallR X (.builtin "sorted") (rSrt3 X.K) := by
  intro pins s σ H ws us Q J r h
  obtain ⟨l, vs, ps, rfl, hl, hd, q⟩ := h
  have key : ∀ (vs : List V) (ps : List Pr), DpAll X.K H vs (ps.map pD) → vs.map (keyOf X.K H) = ps ∧ ∀ v ∈ vs, ∃ t, v = V.ref t ∧ SqT X.K H t [.int (keyOf X.K H v).1, .int (keyOf X.K H v).2] := by
    intro vs ps
    induction ps generalizing vs with
    | nil => intro h; cases h; exact ⟨rfl, fun _ h => by cases h⟩
    | cons p ps ih =>
      intro h
      cases h with
      | cons a b =>
        obtain ⟨i1, i2⟩ := ih _ b
        obtain ⟨t, rfl, ht⟩ := dp_pD a
        obtain ⟨t', e, ht'⟩ := keyOf_ok (K := X.K) (H := H) (v := .ref t) (p := p) ⟨t, rfl, ht⟩
        cases e
        have u := J.tuple_inj ht ht'
        have e2 : keyOf X.K H (.ref t) = p := by
          simp only [List.cons.injEq, V.int.injEq, and_true] at u
          exact Prod.ext u.1.symm u.2.symm
        refine ⟨by rw [List.map_cons, i1, e2], fun v hv => ?_⟩
        rcases List.mem_cons.mp hv with rfl | hv
        · exact ⟨t, rfl, ht'⟩
        · exact i2 v hv
  obtain ⟨k1, k2⟩ := key vs ps hd
  refine cr_srt2 pins s σ H _ us Q J r ⟨l, vs, keyOf X.K H, rfl, hl, k2, fun zs p hz hst hp => q zs p ?_ hp⟩
  have hperm : (zs.map (keyOf X.K H)).Perm ps := by
    rw [← k1]
    exact hst.perm.map _
  have hsort : (zs.map (keyOf X.K H)).Pairwise (fun p q => lle p q = true) := by
    refine List.pairwise_map.mpr (List.Pairwise.imp (fun {x y} h => ?_) hz)
    have := SrtO.lexB_no.mp h
    rw [K30m.lle_iff]
    omega
  rw [← K30m.sorted_uniq hperm hsort]
  have all : ∀ zs : List V, (∀ z ∈ zs, z ∈ vs) → DpAll X.K H zs ((zs.map (keyOf X.K H)).map pD) := by
    intro zs
    induction zs with
    | nil => intro _; exact .nil
    | cons z zs ih =>
      intro h
      obtain ⟨t, rfl, ht⟩ := k2 z (h z List.mem_cons_self)
      exact .cons (.tup ht (.cons (.int _) (.cons (.int _) .nil))) (ih fun y hy => h y (List.mem_cons_of_mem _ hy))
  exact all zs fun z hz => hst.perm.mem_iff.mp hz
section
variable {X : Cx} {e : Expr} {σ : L2.St} {H : Hp} {pos p : Pos}
theorem en_sorted {ps : List Pr} (hm : X.mg "sorted" = none) (ha : EvE X e σ H (.list (ps.map pD))) (hg : Gl X "sorted" := by rfl) (s1 : starEach [e] X.env = (false, eval e X.env) :: starEach [] X.env := by rfl) : EvN X (.Call (.Name "sorted" p) [e] [] pos) σ H ((sortP ps).map pD) := fun H1 e1 Q q =>
  of_pe (pe_callB cr_srt3 hg hm (by decide +kernel) pa_sem (by decide) (by decide) s1 rfl) ((ea_cons ha ea_nil s1) H1 e1 _ fun vs H2 e2 hvs => by
    obtain ⟨v, rfl, h⟩ := dps1 hvs
    obtain ⟨t, ws, rfl, h1, h2⟩ := dp_lst h
    exact ⟨t, ws, ps, rfl, h1, h2, fun zs l hz hl => q l zs _ (fresh_back e2 hl) (e2.trans (Ex.new hl)) upd_same (dps_ex (Ex.new hl) _ _ hz)⟩)
end
theorem lay_ps : ∀ ps : List Pr, PyData.canLayAll0 (ps.map pD) = true
  | [] => rfl
  | p :: ps => by
    simp only [List.map_cons, PyData.canLayAll0, lay_ps ps, pD, PyData.canLay0]
    rfl
theorem shaped_ps (ps : List Pr) : SeqAt.shaped (.list (ps.map pD)) = true := by
  have h2 := depth_pDs ps
  show (PyData.canLay0 (.list (ps.map pD)) && decide (PyData.depth (.list (ps.map pD)) ≤ 64)) = true
  simp only [PyData.canLay0, PyData.depth, lay_ps, Bool.true_and]
  exact decide_eq_true (by omega)
theorem nt1 {H : Hp} {fa : Addr} {vs : List V} (h : H fa = some (.lst vs)) : ∀ a ∈ [fa], ∃ o, H a = some o ∧ NT o := fun a ha => by
  rw [List.mem_singleton.mp ha]
  exact ⟨_, h, trivial⟩
theorem Ex.over {S : List Addr} {H H1 H2 : Hp} (e : Ex H H1) (hS : ∀ a ∈ S, H a = none) (c : Ch S H1 H2) : Ex H H2 := fun b o h => c b o (fun z => by rw [hS b z] at h; cases h) (e b o h)
theorem no1 {H : Hp} {fa : Addr} (h : H fa = none) : ∀ a ∈ [fa], H a = none := fun a ha => by rw [List.mem_singleton.mp ha]; exact h
theorem eqv_nil (ps : List Pr) : PyData.eqv (.list (ps.map pD)) (.list []) = ps.isEmpty := by cases ps <;> rfl
theorem scan_len : ∀ (ys F : List Pr), (ys.foldl stepD F).length ≤ F.length + ys.length
  | [], F => Nat.le_refl _
  | y :: ys, F => by
    have := scan_len ys (stepD F y)
    have h : (stepD F y).length ≤ F.length + 1 := by
      unfold stepD
      split
      · simp
      · split <;> simp
    rw [List.foldl_cons, List.length_cons]
    omega
theorem lsat_nil {K : PySem.W.Frag} {H : Hp} {p : Addr} {vs : List V} (h : H p = some (.lst vs)) (hd : DpAll K H vs []) : LsAt K H p [] := ⟨vs, h, hd⟩
theorem lsat_app {K : PySem.W.Frag} {H H1 : Hp} {l : Addr} {ds : List D} {vs : List V} {v : V} {d : D} (e : Ex H H1) (hl : H l = some (.lst vs)) (hd : DpAll K H vs ds) (hv : Dp K H1 v d) (hn : noLs ds = true) (hn2 : noL d = true) : LsAt K (upd H1 l (.lst (vs ++ [v]))) l (ds ++ [d]) := by
  have tx : TX H1 (upd H1 l (.lst (vs ++ [v]))) := TX.upd (e _ _ hl) trivial
  exact ⟨vs ++ [v], upd_same, dps_append (dps_tx tx _ _ hn (dps_ex e _ _ hd)) (dps_one (dp_tx tx _ _ hn2 hv))⟩
section
variable {P : Program} {w : World} {K : PySem.W.Frag} {mg : Str → Option Value} {base : Heap} (T : Tops K mg)
include T
theorem f_descending : Fn P w K mg base 1 "descending" ["pairs"] (spA K (fun ps : List Pr => [.l (ps.map pD)]) (fun ps => ps.length ≤ 10000) fun ps => psD (desc ps)) :=
  fn_ok T.d_descending sc_descending hb_descending (spA_len fun _ => rfl) fun f cdv A outer s H vs Q E hr h => by
    obtain ⟨ps, hlen, hd', q⟩ := h
    match vs, hd' with
    | [v], .cons ⟨l, hv, hl⟩ .nil =>
      subst hv
      have hu := hr.units
      have hs : SR K H (start n_descending [.ref l]) [some (.at l), none, none, none] := .at (.no (.no (.no .nil)))
      refine do_asgN sc_descending.nd 1 hs (en_lst ea_nil) fun fa fv σ1 H1 hfa e1 h1 hd1 hs1 => ?_
      have hl1 := hl.ex e1
      have slen : (sortP ps).length = ps.length := (K30m.sortP_perm ps).length_eq
      refine do_for (xs := sortP ps) (g := pD) PassesOwn.never rfl [fa] (fun _ => [some (.at l), some (.at fa), none, none]) (fun pre H => LsAt K H fa ((pre.foldl stepD []).map pD)) (us := fun p => [(2, .int p.1), (3, .int p.2)])
        (ei_new (en_sorted T.b_sorted (ep_slot hs1 0 hl1).ev) (psD_nols _)) (psD_nols _) (nt1 h1) (fun a ha => by cases ha) (fun p _ => tg_tup rfl (tgs_cons (tg_name sc_descending.nd 2) (tgs_cons (tg_name sc_descending.nd 3) tgs_nil)))
        (fun pre H1 H2 e h => h.ex e) hs1 ⟨fv, h1, hd1⟩ ?_ ?_
      · intro pre p post hx σ2 H2 c2 t2 hv2 hs2 N hN
        have ef : (pre ++ [p]).foldl stepD [] = stepD (pre.foldl stepD []) p := by rw [List.foldl_append]; rfl
        have hfl : (pre.foldl stepD []).length ≤ pre.length := by have := scan_len pre []; simpa using this
        have hpl : pre.length < ps.length := by
          have := congrArg List.length hx
          rw [slen, List.length_append, List.length_cons] at this
          omega
        generalize hF : pre.foldl stepD [] = F at hv2 ef hfl
        obtain ⟨vs2, h2, hd2⟩ := id hv2
        have vlen := dps_length hd2
        rw [List.length_map] at vlen
        refine do_if (t := F.isEmpty || decide (p.2 < (lt F).2)) (.of_eq (et_w (ew_or (et_eqD hu (ep_slot hs2 1 hv2).ev (en_lst ea_nil).ev (shaped_ps F) rfl) fun hne => ew_or1 (et_lt (ev hs2 3) (ee_ixT (d := .int (lt F).2) (ee_ixL (ep_slot hs2 1 hv2).ev (ee_neg ee_int) (at_lt (ps := F) ?_)) ee_int rfl)))) (by rw [eqv_nil])) (fun hb H3 e3 => ?_) (fun hb H3 e3 => ?_)
        · rw [eqv_nil] at hne
          intro z
          rw [z] at hne
          cases hne
        · have es : stepD F p = F ++ [p] := by
            unfold stepD
            split
            · rfl
            · rename_i q0 hq
              have hF0 : F ≠ [] := fun z => by rw [z] at hq; cases hq
              have : F.isEmpty = false := by cases F <;> simp_all
              rw [this, Bool.false_or] at hb
              rw [K30m.lt_eq hF0] at hq
              cases hq
              rw [if_pos (of_decide_eq_true hb)]
          refine do_app (hs2.ex e3) 1 (e3 _ _ h2) (by omega) (ee_tup (ds := [.int p.1, .int p.2]) (ea_cons (ev (hs2.ex e3) 2) (ea_cons (ev (hs2.ex e3) 3) ea_nil))) fun v H4 e4 hv => ?_
          have e34 := e3.trans e4
          have tx : TX H4 (upd H4 fa (.lst (vs2 ++ [v]))) := TX.upd (e34 _ _ h2) trivial
          refine do_nil (do_nil (hN _ _ ((Ch.ex e34).trans (Ch.upd List.mem_cons_self)) ?_ ((((hs2.ex e34).tx tx).drop 2).drop 3)))
          rw [ef, es, List.map_append]
          exact lsat_app e34 h2 hd2 hv (psD_nols F) rfl
        · have es : stepD F p = F := by
            unfold stepD
            split
            · rename_i hq
              have : F = [] := List.getLast?_eq_none_iff.mp hq
              rw [this] at hb
              cases hb
            · rename_i q0 hq
              have hF0 : F ≠ [] := fun z => by rw [z] at hq; cases hq
              rw [K30m.lt_eq hF0] at hq
              cases hq
              have hb2 : decide (p.2 < (lt F).2) = false := by
                cases hF1 : F.isEmpty with
                | true => rw [hF1] at hb; cases hb
                | false => rw [hF1, Bool.false_or] at hb; exact hb
              rw [if_neg (of_decide_eq_false hb2)]
          refine do_nil (do_nil (hN _ _ (Ch.ex e3) ?_ (((hs2.ex e3).drop 2).drop 3)))
          rw [ef, es]
          exact hv2.ex e3
      · intro σ2 H2 c2 t2 hv2 hs2
        refine do_ret (d := psD (desc ps)) (ee_tupleL T.b_tuple (ep_slot hs2 1 hv2).ev (psD_nols _)) fun v H3 e3 hv => q v H3 ((Ex.over e1 (no1 hfa) c2).trans e3) hv
end
end K30
namespace K30
open PySem PySem.Spec PyProof.Rows L2 Evl RZ
open K30m (Job jobS Pf hd lt Valleys Strict Good mv sortP scanD stepD desc lle startBehind endBehind two)
section
variable {X : Cx} {tg e : Expr} {σ : L2.St} {H : Hp} {pos : Pos} {d : D} {us : List (Nat × D)} {Γ : List (Option Sl)} {rest : List Stmt} {De : Ends}
theorem do_asgG (hs : SR X.K H σ Γ) (he : EvE X e σ H d) (hn : noL d = true) (ht : TgE X tg d us) (k : ∀ σ1 H1, Ex H H1 → SR X.K H1 σ1 (setsG Γ us) → Do X rest De σ1 H1)
    (hw1 : swapsWithSole [tg] e pos.line X.env = pure false := by rfl) (hw2 : swappedStores [tg] e X.env = pure none := by rfl) (h1 : (assignEach [tg] X.env).map (·.2) = [assign tg X.env] := by rfl) : Do X (.Assign [tg] e pos :: rest) De σ H :=
  do_st (of_ps (ps_asg pe_sem pg_sem hw1 hw2 h1) (he H (Ex.refl H) _ fun v H1 e1 hv => ht v σ H1 Γ _ (hs.ex e1) hv hn fun σ1 hs1 _ => k σ1 H1 e1 hs1))
end
theorem ints2_nols {a b : Int} : noLs [PyData.int a, PyData.int b] = true := rfl
def okL (p : Pf) : Prop := p.s ≠ [] ∧ p.e ≠ [] ∧ p.s.length ≤ 2000 ∧ p.e.length ≤ 2000
section
variable {P : Program} {w : World} {K : PySem.W.Frag} {mg : Str → Option Value} {base : Heap} (T : Tops K mg)
include T
theorem f_moved : Fn P w K mg base 1 "moved" ["valleys", "amount"] (spP K (fun x : List Pr × Int => [psD x.1, .int x.2]) (fun x => x.1.length ≤ 10000) fun x => psD (mv x.1 x.2)) :=
  fn_ok T.d_moved sc_moved hb_moved (sp_len fun _ => rfl) fun f cdv A outer s H vs Q E hr h => by
    obtain ⟨⟨ps, k⟩, hlen, hd', q⟩ := h
    obtain ⟨v, v1, rfl, h1, h2⟩ := dps2 hd'
    have hlen : ps.length ≤ 10000 := hlen
    have hs : SR K H (start n_moved [v, v1]) [some (.py (psD ps)), some (.py (.int k)), none, none] := .py h1 (psD_nol ps) (.py h2 rfl (.no (.no .nil)))
    refine do_ret (d := psD (mv ps k)) (ee_tupleL T.b_tuple (EvN.ev (.of_eq (en_lc rfl sc_moved.nd (lc_allM (xs := ps) (g := pD) (f := fun p => pD (p.1 + k, p.2 + k)) (us := fun p => [(2, .int p.1), (3, .int p.2)]) (own := [("capacity", 2), ("usage", 3)]) rfl hs (ei_tup (ev hs 0) (psD_nols ps)) (psD_nols ps) (by omega)
        (fun _ _ _ _ _ p _ => tg_tup rfl (tgs_cons (tg_name sc_moved.nd 2) (tgs_cons (tg_name sc_moved.nd 3) tgs_nil))) (fun q _ u hu => by
          rcases List.mem_cons.mp hu with rfl | hu
          · exact List.mem_cons_self
          · rw [List.mem_singleton.mp hu]; exact List.mem_cons_of_mem _ List.mem_cons_self)
        (fun _ _ _ _ _ p hp σ' H' e hs' => ee_tup (ds := [.int (p.1 + k), .int (p.2 + k)]) (ea_cons (ee_add (ev hs' 2) (ev hs' 1)) (ea_cons (ee_add (ev hs' 3) (ev hs' 1)) ea_nil))) (fun _ _ => rfl))) (show (ps.map fun p => pD (p.1 + k, p.2 + k)) = (mv ps k).map pD by unfold mv; rw [List.map_map]; rfl))) (psD_nols _)) q
theorem f_step_profile_by : Fn P w K mg base 1 "step_profile_by" ["value"] (spP K (fun x : Int => [.int x]) (fun _ => True) fun x => pfD (K30m.stepP x)) :=
  fn_ok T.d_step_profile_by sc_step_profile_by hb_step_profile_by (sp_len fun _ => rfl) fun f cdv A outer s H vs Q E hr h => by
    obtain ⟨x, _, hd', q⟩ := h
    obtain ⟨v, rfl, h1⟩ := dps1 hd'
    have hs : SR K H (start n_step_profile_by [v]) [some (.py (.int x))] := .py h1 rfl .nil
    refine do_when (et_gt (ev hs 0) ee_int) (fun hb H1 e1 => ?_) (fun hb H1 e1 => ?_)
    · have hs1 := hs.ex e1
      refine do_ret (d := pfD (K30m.stepP x)) (.of_eq (ee_tup (ea_cons (ev hs1 0) (ea_cons (ev hs1 0) (ea_cons (ee_tup (ea_cons (ee_tup (ea_cons ee_int (ea_cons ee_int ea_nil))) ea_nil)) (ea_cons (ee_tup (ea_cons (ee_tup (ea_cons (ev hs1 0) (ea_cons ee_int ea_nil))) ea_nil)) ea_nil))))) ?_) fun v H2 e2 hv => q v H2 (e1.trans e2) hv
      unfold K30m.stepP
      rw [if_pos (of_decide_eq_true hb)]
      rfl
    · have hs1 := hs.ex e1
      refine do_ret (d := pfD (K30m.stepP x)) (.of_eq (ee_tup (ea_cons (ev hs1 0) (ea_cons ee_int (ea_cons (ee_tup (ea_cons (ee_tup (ea_cons ee_int (ea_cons (ev hs1 0) ea_nil))) ea_nil)) (ea_cons (ee_tup (ea_cons (ee_tup (ea_cons (ev hs1 0) (ea_cons (ev hs1 0) ea_nil))) ea_nil)) ea_nil))))) ?_) fun v H2 e2 hv => q v H2 (e1.trans e2) hv
      unfold K30m.stepP
      rw [if_neg (of_decide_eq_false hb)]
      rfl
theorem f_start_behind : Fn P w K mg base 2 "start_behind" ["first", "second"] (spP K (fun x : Pf × Pf => [pfD x.1, pfD x.2]) (fun x => okL x.1 ∧ okL x.2) fun x => psD (startBehind x.1 x.2)) :=
  fn_ok T.d_start_behind sc_start_behind hb_start_behind (sp_len fun _ => rfl) fun f cdv A outer s H vs Q E hr h => by
    obtain ⟨⟨p, r⟩, ⟨⟨p1, p2, p3, p4⟩, r1, r2, r3, r4⟩, hd', q⟩ := h
    obtain ⟨v, v1, rfl, h1, h2⟩ := dps2 hd'
    simp only at p1 p2 p3 p4 r1 r2 r3 r4
    have hs : SR K H (start n_start_behind [v, v1]) [some (.py (pfD p)), some (.py (pfD r)), none, none, none, none, none, none, none, none] := .py h1 (pfD_nol p) (.py h2 (pfD_nol r) (.no (.no (.no (.no (.no (.no (.no (.no .nil)))))))))
    refine do_asgG hs (ev hs 0) (pfD_nol p) (tg_tup (ds := [.int p.n, .int p.k, psD p.s, psD p.e]) rfl (tgs_cons (tg_name sc_start_behind.nd 2) (tgs_cons (tg_name sc_start_behind.nd 3) (tgs_cons (tg_name sc_start_behind.nd 4) (tgs_cons (tg_name sc_start_behind.nd 5) tgs_nil))))) fun σ1 H1 e1 hs1 => ?_
    have l1 : (p.s.filter fun c => decide (c.1 < p.k)).length ≤ p.s.length := List.length_filter_le ..
    refine do_asgN sc_start_behind.nd 6 hs1 (.of_eq (en_catP (EvN.ep (en_lc rfl sc_start_behind.nd (lc_ifM (xs := p.s) (g := pD) (kp := fun c => decide (c.1 < p.k)) (f := pD) (us := fun c => [(7, pD c)]) (own := [("pair", 7)]) rfl hs1 (ei_tup (ds := p.s.map pD) (ev hs1 4) (psD_nols _)) (psD_nols _) (by omega)
        (fun _ _ _ _ _ i _ => tg_name sc_start_behind.nd 7) (fun i _ u hu => by rw [List.mem_singleton.mp hu]; exact List.mem_cons_self) (fun _ _ _ _ _ c hc σ' H' e hs' => et_lt (ee_ixT (d := .int c.1) (ev hs' 7) ee_int rfl) (ev hs' 3)) (fun _ _ _ _ _ c hc _ σ' H' e hs' => ev hs' 7) (fun _ _ _ => rfl))))
      (EvN.ep (en_lst (ea_cons (ee_tup (ea_cons (ev hs1 3) (ea_cons (ee_ixT (d := .int (lt p.s).2) (ee_ixT (ds := p.s.map pD) (ev hs1 4) (ee_neg ee_int) (at_lt p1)) ee_int rfl) ea_nil))) ea_nil))) (by rw [List.length_map, List.length_singleton]; omega))
      (show _ = ((p.s.filter fun c => decide (c.1 < p.k)) ++ [(p.k, (lt p.s).2)]).map pD by rw [List.map_append]; rfl)) fun pa pv σ2 H2 hpa e2 h2 hd2 hs2 => ?_
    have l2 := dps_length hd2
    rw [List.length_map, List.length_append, List.length_singleton] at l2
    have l3 : (mv r.s p.n).length = r.s.length := by unfold mv; rw [List.length_map]
    refine do_ext hs2 6 h2 (EvN.ep (.of_eq (en_lc rfl sc_start_behind.nd (lc_allM (xs := mv r.s p.n) (g := pD) (f := fun c => pD (max p.k c.1, c.2)) (us := fun c => [(8, .int c.1), (9, .int c.2)]) (own := [("capacity", 8), ("usage", 9)]) rfl hs2 (ei_tup (ee_cal (d := psD (mv r.s p.n)) (f_moved T) hr (r.s, p.n) (ea_cons (ee_ixT (d := psD r.s) (ds := [.int r.n, .int r.k, psD r.s, psD r.e]) (ev hs2 1) ee_int rfl) (ea_cons (ev hs2 2) ea_nil)) (show r.s.length ≤ 10000 by omega)) (psD_nols _)) (psD_nols _) (by omega)
        (fun _ _ _ _ _ c _ => tg_tup rfl (tgs_cons (tg_name sc_start_behind.nd 8) (tgs_cons (tg_name sc_start_behind.nd 9) tgs_nil))) (fun c _ u hu => by
          rcases List.mem_cons.mp hu with rfl | hu
          · exact List.mem_cons_self
          · rw [List.mem_singleton.mp hu]; exact List.mem_cons_of_mem _ List.mem_cons_self)
        (fun _ _ _ _ _ c hc σ' H' e hs' => ee_tup (ds := [.int (max p.k c.1), .int c.2]) (ea_cons (ee_max2 rfl T.b_max (ev hs' 3) (ev hs' 8)) (ea_cons (ev hs' 9) ea_nil))) (fun _ _ => rfl))) (show (mv r.s p.n).map (fun c => pD (max p.k c.1, c.2)) = ((mv r.s p.n).map fun c => (max p.k c.1, c.2)).map pD by rw [List.map_map]; rfl))) (by rw [List.length_map, List.length_map, l3]; omega) fun ws H3 e3 hd3 => ?_
    have tx : TX H3 (upd H3 pa (.lst (pv ++ ws))) := TX.upd (e3 _ _ h2) trivial
    have hs3 := (hs2.ex e3).tx tx
    have la : LsAt K (upd H3 pa (.lst (pv ++ ws))) pa (((p.s.filter fun c => decide (c.1 < p.k)) ++ [(p.k, (lt p.s).2)] ++ (mv r.s p.n).map fun c => (max p.k c.1, c.2)).map pD) := by
      refine ⟨_, upd_same, ?_⟩
      rw [List.map_append]
      exact dps_append (dps_tx tx _ _ (psD_nols _) (dps_ex e3 _ _ hd2)) (dps_tx tx _ _ (psD_nols _) hd3)
    refine do_ret (d := psD (startBehind p r)) (ee_calA (f_descending T) hr _ (er_cons (ep_slot hs3 6 la).v er_nil) ?_) fun v H4 e4 hv => q v H4 ((Ex.over (e1.trans e2) (no1 (H := H) ?_) ((Ch.ex e3).trans (Ch.upd List.mem_cons_self))).trans e4) hv
    · rw [List.length_append, List.length_append, List.length_map, l3, List.length_singleton]; omega
    · cases hx : H pa with
      | none => rfl
      | some o => rw [e1 _ _ hx] at hpa; cases hpa
theorem f_end_behind : Fn P w K mg base 2 "end_behind" ["first", "second"] (spP K (fun x : Pf × Pf => [pfD x.1, pfD x.2]) (fun x => okL x.1 ∧ okL x.2) fun x => psD (endBehind x.1 x.2)) :=
  fn_ok T.d_end_behind sc_end_behind hb_end_behind (sp_len fun _ => rfl) fun f cdv A outer s H vs Q E hr h => by
    obtain ⟨⟨p, r⟩, ⟨⟨p1, p2, p3, p4⟩, r1, r2, r3, r4⟩, hd', q⟩ := h
    obtain ⟨v, v1, rfl, h1, h2⟩ := dps2 hd'
    simp only at p1 p2 p3 p4 r1 r2 r3 r4
    have hs : SR K H (start n_end_behind [v, v1]) [some (.py (pfD p)), some (.py (pfD r)), none, none, none, none, none, none] := .py h1 (pfD_nol p) (.py h2 (pfD_nol r) (.no (.no (.no (.no (.no (.no .nil)))))))
    have pf4 : ∀ x : Pf, pfD x = .tuple [.int x.n, .int x.k, psD x.s, psD x.e] := fun _ => rfl
    refine do_asg sc_end_behind.nd 2 hs (ee_ixT (d := .int p.n) (ds := [.int p.n, .int p.k, psD p.s, psD p.e]) (ev hs 0) ee_int rfl) rfl fun σ1 H1 e1 hs1 => ?_
    refine do_asg sc_end_behind.nd 3 hs1 (ee_add (ev hs1 2) (ee_ixT (d := .int r.k) (ds := [.int r.n, .int r.k, psD r.s, psD r.e]) (ev hs1 1) ee_int rfl)) rfl fun σ2 H2 e2 hs2 => ?_
    have l3 : (mv r.e p.n).length = r.e.length := by unfold mv; rw [List.length_map]
    have l1 : ((mv r.e p.n).filter fun c => decide (c.1 < p.n + r.k)).length ≤ r.e.length := by rw [← l3]; exact List.length_filter_le ..
    refine do_asgN sc_end_behind.nd 4 hs2 (.of_eq (en_catP (EvN.ep (en_lc rfl sc_end_behind.nd (lc_ifM (xs := mv r.e p.n) (g := pD) (kp := fun c => decide (c.1 < p.n + r.k)) (f := pD) (us := fun c => [(5, pD c)]) (own := [("pair", 5)]) rfl hs2
        (ei_tup (ee_cal (d := psD (mv r.e p.n)) (f_moved T) hr (r.e, p.n) (ea_cons (ee_ixT (d := psD r.e) (ds := [.int r.n, .int r.k, psD r.s, psD r.e]) (ev hs2 1) ee_int rfl) (ea_cons (ev hs2 2) ea_nil)) (show r.e.length ≤ 10000 by omega)) (psD_nols _)) (psD_nols _) (by omega)
        (fun _ _ _ _ _ i _ => tg_name sc_end_behind.nd 5) (fun i _ u hu => by rw [List.mem_singleton.mp hu]; exact List.mem_cons_self) (fun _ _ _ _ _ c hc σ' H' e hs' => et_lt (ee_ixT (d := .int c.1) (ev hs' 5) ee_int rfl) (ev hs' 3)) (fun _ _ _ _ _ c hc _ σ' H' e hs' => ev hs' 5) (fun _ _ _ => rfl))))
      (EvN.ep (en_lst (ea_cons (ee_tup (ea_cons (ev hs2 3) (ea_cons (ee_add (ev hs2 2) (ee_ixT (d := .int (lt r.e).2) (ee_ixT (ds := r.e.map pD) (ee_ixT (d := psD r.e) (ds := [.int r.n, .int r.k, psD r.s, psD r.e]) (ev hs2 1) ee_int rfl) (ee_neg ee_int) (at_lt r2)) ee_int rfl)) ea_nil))) ea_nil))) (by rw [List.length_map, List.length_singleton]; omega))
      (show _ = (((mv r.e p.n).filter fun c => decide (c.1 < p.n + r.k)) ++ [(p.n + r.k, p.n + (lt r.e).2)]).map pD by rw [List.map_append]; rfl)) fun pa pv σ3 H3 hpa e3 h3 hd3 hs3 => ?_
    have l2 := dps_length hd3
    rw [List.length_map, List.length_append, List.length_singleton] at l2
    refine do_ext hs3 4 h3 (EvN.ep (.of_eq (en_lc rfl sc_end_behind.nd (lc_allM (xs := p.e) (g := pD) (f := fun c => pD (max (p.n + r.k) c.1, c.2)) (us := fun c => [(6, .int c.1), (7, .int c.2)]) (own := [("capacity", 6), ("usage", 7)]) rfl hs3 (ei_tup (ee_ixT (d := psD p.e) (ds := [.int p.n, .int p.k, psD p.s, psD p.e]) (ev hs3 0) ee_int rfl) (psD_nols _)) (psD_nols _) (by omega)
        (fun _ _ _ _ _ c _ => tg_tup rfl (tgs_cons (tg_name sc_end_behind.nd 6) (tgs_cons (tg_name sc_end_behind.nd 7) tgs_nil))) (fun c _ u hu => by
          rcases List.mem_cons.mp hu with rfl | hu
          · exact List.mem_cons_self
          · rw [List.mem_singleton.mp hu]; exact List.mem_cons_of_mem _ List.mem_cons_self)
        (fun _ _ _ _ _ c hc σ' H' e hs' => ee_tup (ds := [.int (max (p.n + r.k) c.1), .int c.2]) (ea_cons (ee_max2 rfl T.b_max (ev hs' 3) (ev hs' 6)) (ea_cons (ev hs' 7) ea_nil))) (fun _ _ => rfl))) (show p.e.map (fun c => pD (max (p.n + r.k) c.1, c.2)) = (p.e.map fun c => (max (p.n + r.k) c.1, c.2)).map pD by rw [List.map_map]; rfl))) (by rw [List.length_map, List.length_map]; omega) fun ws H4 e4 hd4 => ?_
    have tx : TX H4 (upd H4 pa (.lst (pv ++ ws))) := TX.upd (e4 _ _ h3) trivial
    have hs4 := (hs3.ex e4).tx tx
    have la : LsAt K (upd H4 pa (.lst (pv ++ ws))) pa ((((mv r.e p.n).filter fun c => decide (c.1 < p.n + r.k)) ++ [(p.n + r.k, p.n + (lt r.e).2)] ++ p.e.map fun c => (max (p.n + r.k) c.1, c.2)).map pD) := by
      refine ⟨_, upd_same, ?_⟩
      rw [List.map_append]
      exact dps_append (dps_tx tx _ _ (psD_nols _) (dps_ex e4 _ _ hd3)) (dps_tx tx _ _ (psD_nols _) hd4)
    refine do_ret (d := psD (endBehind p r)) (ee_calA (f_descending T) hr _ (er_cons (ep_slot hs4 4 la).v er_nil) ?_) fun v H5 e5 hv => q v H5 ((Ex.over (e1.trans (e2.trans e3)) (no1 (H := H) ?_) ((Ch.ex e4).trans (Ch.upd List.mem_cons_self))).trans e5) hv
    · rw [List.length_append, List.length_append, List.length_map, List.length_singleton]; omega
    · cases hx : H pa with
      | none => rfl
      | some o => rw [(e1.trans e2) _ _ hx] at hpa; cases hpa
theorem f_two_profiles_by : Fn P w K mg base 3 "two_profiles_by" ["first", "second"] (spP K (fun x : Pf × Pf => [pfD x.1, pfD x.2]) (fun x => okL x.1 ∧ okL x.2) fun x => pfD (two x.1 x.2)) :=
  fn_ok T.d_two_profiles_by sc_two_profiles_by hb_two_profiles_by (sp_len fun _ => rfl) fun f cdv A outer s H vs Q E hr h => by
    obtain ⟨⟨p, r⟩, ok, hd', q⟩ := h
    obtain ⟨v, v1, rfl, h1, h2⟩ := dps2 hd'
    have hs : SR K H (start n_two_profiles_by [v, v1]) [some (.py (pfD p)), some (.py (pfD r)), none, none] := .py h1 (pfD_nol p) (.py h2 (pfD_nol r) (.no (.no .nil)))
    refine do_par rfl sc_two_profiles_by.nd hs (ee_add (ee_ixT (d := .int p.n) (ds := [.int p.n, .int p.k, psD p.s, psD p.e]) (ev hs 0) ee_int rfl) (ee_ixT (d := .int r.n) (ds := [.int r.n, .int r.k, psD r.s, psD r.e]) (ev hs 1) ee_int rfl))
      (ee_max2 rfl T.b_max (ee_ixT (d := .int p.k) (ds := [.int p.n, .int p.k, psD p.s, psD p.e]) (ev hs 0) ee_int rfl) (ee_add (ee_ixT (d := .int p.n) (ds := [.int p.n, .int p.k, psD p.s, psD p.e]) (ev hs 0) ee_int rfl) (ee_ixT (d := .int r.k) (ds := [.int r.n, .int r.k, psD r.s, psD r.e]) (ev hs 1) ee_int rfl))) rfl rfl 2 3 fun σ1 H1 e1 hs1 => ?_
    exact do_ret (d := pfD (two p r)) (ee_tup (ds := [.int (p.n + r.n), .int (max p.k (p.n + r.k)), psD (startBehind p r), psD (endBehind p r)]) (ea_cons (ev hs1 2) (ea_cons (ev hs1 3) (ea_cons (ee_cal (f_start_behind T) hr (p, r) (ea_cons (ev hs1 0) (ea_cons (ev hs1 1) ea_nil)) ok) (ea_cons (ee_cal (f_end_behind T) hr (p, r) (ea_cons (ev hs1 0) (ea_cons (ev hs1 1) ea_nil)) ok) ea_nil))))) fun v H2 e2 hv => q v H2 (e1.trans e2) hv
theorem pfs_nols : ∀ ps : List Pf, noLs (ps.map pfD) = true := fun ps => noLs_mem.mpr fun z hz => by
  obtain ⟨p, _, rfl⟩ := List.mem_map.mp hz
  exact pfD_nol p
theorem f_seq_profiles_by : Fn P w K mg base 4 "seq_profiles_by" ["profiles"] (spA K (fun ps : List Pf => [.l (ps.map pfD)]) (fun ps => ∀ pre x post, ps = pre ++ x :: post → okL (pre.foldl two K30m.emptyP) ∧ okL x) fun ps => pfD (ps.foldl two K30m.emptyP)) :=
  fn_ok T.d_seq_profiles_by sc_seq_profiles_by hb_seq_profiles_by (spA_len fun _ => rfl) fun f cdv A outer s H vs Q E hr h => by
    obtain ⟨ps, ok, hd', q⟩ := h
    match vs, hd' with
    | [v], .cons ⟨l, hv, hl⟩ .nil =>
      subst hv
      have hs : SR K H (start n_seq_profiles_by [.ref l]) [some (.at l), none, none] := .at (.no (.no .nil))
      obtain ⟨el, he1, he2⟩ := T.empty
      refine do_asg (d := pfD K30m.emptyP) sc_seq_profiles_by.nd 1 hs (ee_gtup (ds := [.int 0, .int 0, .tuple [.tuple [.int 0, .int 0]], .tuple [.tuple [.int 0, .int 0]]]) he1 he2) (pfD_nol _) fun σ1 H1 e1 hs1 => ?_
      refine do_for (xs := ps) (g := pfD) PassesOwn.never rfl [] (fun pre => [some (.at l), some (.py (pfD (pre.foldl two K30m.emptyP))), none]) (fun _ _ => True) (us := fun p => [(2, pfD p)])
        (ei_slot hs1 0 (hl.ex e1) (pfs_nols T ps)) (pfs_nols T ps) (fun a ha => by cases ha) (fun a ha => by simp) (fun p _ => tg_name sc_seq_profiles_by.nd 2) (fun _ _ _ _ h => h) hs1 trivial ?_ ?_
      · intro pre p post hx σ2 H2 c2 t2 _ hs2 N hN
        have o := ok pre p post hx
        refine do_asg (d := pfD ((pre ++ [p]).foldl two K30m.emptyP)) sc_seq_profiles_by.nd 1 hs2 (ee_cal (f_two_profiles_by T) hr (pre.foldl two K30m.emptyP, p) (ea_cons (ev hs2 1) (ea_cons (ev hs2 2) ea_nil)) o (hd := by rw [List.foldl_append]; rfl)) (pfD_nol _) fun σ3 H3 e3 hs3 => do_nil (hN _ _ (Ch.ex e3) trivial (hs3.drop 2))
      · intro σ2 H2 c2 t2 _ hs2
        exact do_ret (ev hs2 1) fun v H3 e3 hv => q v H3 (e1.trans (c2.nil.trans e3)) hv
end
end K30
/-! The joint loop as a function. -/
namespace K30
open K30m (Pf hd lt Valleys Strict Good mv desc JInv JointOk)
structure JSt where
  places : List Nat
  lows : List Int
  cap : Int
  pairs : List Pr
def dropOf (places : List Nat) (lows : List Int) (x : List Pr × Nat) : Option Pr :=
  if places.getD x.2 0 + 1 < x.1.length then some ((x.1.getD (places.getD x.2 0 + 1) (0, 0)).1 + lows.sum - lows.getD x.2 0, (x.2 : Nat)) else none
def drops (parts : List (List Pr)) (places : List Nat) (lows : List Int) : List Pr := parts.zipIdx.filterMap (dropOf places lows)
def nextDrop (parts : List (List Pr)) (places : List Nat) (lows : List Int) : Option Pr := match drops parts places lows with
  | [] => none
  | p :: ps => some (minP p ps)
def jmove (parts : List (List Pr)) (st : JSt) (p : Pr) : JSt :=
  let i := p.2.toNat
  let k := st.places.getD i 0 + 1
  let lows := st.lows.set i ((parts.getD i []).getD k (0, 0)).2
  ⟨st.places.set i k, lows, max st.cap p.1, st.pairs ++ [(max st.cap p.1, lows.sum)]⟩
def jrun (parts : List (List Pr)) : Nat → JSt → JSt
  | 0, st => st
  | n + 1, st => match nextDrop parts st.places st.lows with
    | none => st
    | some p => jrun parts n (jmove parts st p)
def jst0 (parts : List (List Pr)) : JSt := ⟨parts.map fun _ => 0, parts.map fun v => (hd v).2, 0, [(0, (parts.map fun v => (hd v).2).sum)]⟩
def jlen (parts : List (List Pr)) : Nat := (parts.map List.length).sum
def jointS (parts : List (List Pr)) : List Pr := (jrun parts (jlen parts) (jst0 parts)).pairs
def jointD (parts : List (List Pr)) : List Pr := desc (jointS parts)
abbrev JI (parts : List (List Pr)) (st : JSt) : Prop := JInv parts st.places st.lows st.cap st.pairs
theorem getD_some {α : Type} {l : List α} {i : Nat} {d a : α} (h : l[i]? = some a) : l.getD i d = a := by
  rw [List.getD_eq_getElem?_getD, h]; rfl
theorem mem_drops {parts : List (List Pr)} {places : List Nat} {lows : List Int} {p : Pr} : p ∈ drops parts places lows ↔ ∃ (i : Nat) (v : List Pr), parts[i]? = some v ∧ dropOf places lows (v, i) = some p := by
  unfold drops
  rw [List.mem_filterMap]
  constructor
  · rintro ⟨⟨v, i⟩, h, h2⟩
    rw [List.mem_zipIdx_iff_getElem?] at h
    exact ⟨i, v, h, h2⟩
  · rintro ⟨i, v, h, h2⟩
    refine ⟨(v, i), ?_, h2⟩
    rw [List.mem_zipIdx_iff_getElem?]
    exact h
theorem next_some {parts : List (List Pr)} {st : JSt} (J : JI parts st) {p : Pr} (h : nextDrop parts st.places st.lows = some p) :
    ∃ (i : Nat) (v : List Pr) (k : Nat) (a : Int) (q : Pr), parts[i]? = some v ∧ st.places[i]? = some k ∧ st.lows[i]? = some a ∧ v[k + 1]? = some q ∧ p = (q.1 + st.lows.sum - a, ((i : Nat) : Int)) ∧
      (∀ (j : Nat) v' k' a' q', parts[j]? = some v' → st.places[j]? = some k' → st.lows[j]? = some a' → v'[k' + 1]? = some q' → q.1 + st.lows.sum - a ≤ q'.1 + st.lows.sum - a') ∧
      jmove parts st p = ⟨st.places.set i (k + 1), st.lows.set i q.2, max st.cap p.1, st.pairs ++ [(max st.cap p.1, (st.lows.set i q.2).sum)]⟩ := by
  unfold nextDrop at h
  split at h
  · cases h
  · rename_i p0 ps hd
    have h : minP p0 ps = p := Option.some.inj h
    obtain ⟨m1, m2, m3⟩ := minP_le ps p0
    rw [h] at m1 m2 m3
    have hm : p ∈ drops parts st.places st.lows := by
      rw [hd]
      rcases m1 with m | m
      · rw [m]; exact List.mem_cons_self
      · exact List.mem_cons_of_mem _ m
    have hall : ∀ q ∈ drops parts st.places st.lows, p.1 ≤ q.1 := fun q hq => by
      rw [hd] at hq
      rcases List.mem_cons.mp hq with rfl | hq
      · exact m2
      · exact m3 q hq
    have fwd : ∀ (j : Nat) v' k' a' q', parts[j]? = some v' → st.places[j]? = some k' → st.lows[j]? = some a' → v'[k' + 1]? = some q' → (q'.1 + st.lows.sum - a', (j : Int)) ∈ drops parts st.places st.lows := fun j v' k' a' q' e1 e2 e3 e4 => by
      refine mem_drops.mpr ⟨j, v', e1, ?_⟩
      unfold dropOf
      rw [getD_some e2, if_pos (List.getElem?_eq_some_iff.mp e4).1, getD_some e4, getD_some e3]
    obtain ⟨i, v, e1, e2⟩ := mem_drops.mp hm
    have hi : i < parts.length := (List.getElem?_eq_some_iff.mp e1).1
    have e3 : st.places[i]? = some (st.places[i]'(by rw [J.lenP]; exact hi)) := List.getElem?_eq_getElem _
    have e4 : st.lows[i]? = some (st.lows[i]'(by rw [J.lenL]; exact hi)) := List.getElem?_eq_getElem _
    generalize st.places[i]'(by rw [J.lenP]; exact hi) = k at e3
    generalize st.lows[i]'(by rw [J.lenL]; exact hi) = a at e4
    unfold dropOf at e2
    split at e2
    · rename_i hlt
      have hlt : k + 1 < v.length := by
        rw [show (v, i).2 = i from rfl, getD_some e3] at hlt
        exact hlt
      have e5 : v[k + 1]? = some v[k + 1] := List.getElem?_eq_getElem hlt
      generalize v[k + 1] = q at e5
      have e2 : some ((v.getD (st.places.getD i 0 + 1) (0, 0)).1 + st.lows.sum - st.lows.getD i 0, ((i : Nat) : Int)) = some p := e2
      rw [getD_some e3, getD_some e5, getD_some e4] at e2
      have ep : p = (q.1 + st.lows.sum - a, ((i : Nat) : Int)) := (Option.some.inj e2).symm
      refine ⟨i, v, k, a, q, e1, e3, e4, e5, ep, fun j v' k' a' q' f1 f2 f3 f4 => ?_, ?_⟩
      · have := hall _ (fwd j v' k' a' q' f1 f2 f3 f4)
        rw [ep] at this
        exact this
      · unfold jmove
        have hp2 : p.2.toNat = i := by rw [ep]; exact Int.toNat_natCast i
        simp only
        rw [hp2, getD_some e3, getD_some e1, getD_some e5]
    · cases e2
theorem next_none {parts : List (List Pr)} {st : JSt} (h : nextDrop parts st.places st.lows = none) : ∀ (j : Nat) v k, parts[j]? = some v → st.places[j]? = some k → v.length ≤ k + 1 := fun j v k e1 e2 => by
  have hd : drops parts st.places st.lows = [] := by
    unfold nextDrop at h
    split at h
    · assumption
    · cases h
  refine Nat.le_of_not_lt fun hlt => ?_
  have : ((v.getD (k + 1) (0, 0)).1 + st.lows.sum - st.lows.getD j 0, ((j : Nat) : Int)) ∈ drops parts st.places st.lows := by
    refine mem_drops.mpr ⟨j, v, e1, ?_⟩
    unfold dropOf
    rw [getD_some e2, if_pos hlt]
  rw [hd] at this
  cases this
theorem jmove_inv {parts : List (List Pr)} (hv : ∀ v ∈ parts, Valleys v) {st : JSt} (J : JI parts st) {p : Pr} (h : nextDrop parts st.places st.lows = some p) : JI parts (jmove parts st p) ∧ (jmove parts st p).places.sum = st.places.sum + 1 := by
  obtain ⟨i, v, k, a, q, e1, e2, e3, e4, ep, hall, em⟩ := next_some J h
  have hp1 : p.1 = q.1 + st.lows.sum - a := by rw [ep]
  have J2 : JI parts (jmove parts st p) := by
    show JInv parts (jmove parts st p).places (jmove parts st p).lows (jmove parts st p).cap (jmove parts st p).pairs
    rw [em, hp1]
    exact K30m.jstep J hv e1 e2 e3 e4 hall
  refine ⟨J2, ?_⟩
  have c1 := J2.cnt
  have c2 := J.cnt
  have c3 : (jmove parts st p).pairs.length = st.pairs.length + 1 := by rw [em]; simp
  omega
theorem jrun_ok {parts : List (List Pr)} (hv : ∀ v ∈ parts, Valleys v) : ∀ (n : Nat) (st : JSt), JI parts st → jlen parts ≤ n + st.places.sum + parts.length → JI parts (jrun parts n st) ∧ nextDrop parts (jrun parts n st).places (jrun parts n st).lows = none
  | 0, st, J, h => by
    refine ⟨J, ?_⟩
    show nextDrop parts st.places st.lows = none
    cases hn : nextDrop parts st.places st.lows with
    | none => rfl
    | some p =>
      obtain ⟨J2, h2⟩ := jmove_inv hv J hn
      have := J2.places_sum
      unfold jlen at h
      omega
  | n + 1, st, J, h => by
    cases hn : nextDrop parts st.places st.lows with
    | none =>
      have e : jrun parts (n + 1) st = st := by
        show (match nextDrop parts st.places st.lows with | none => st | some p => jrun parts n (jmove parts st p)) = st
        rw [hn]
      rw [e]
      exact ⟨J, hn⟩
    | some p =>
      have e : jrun parts (n + 1) st = jrun parts n (jmove parts st p) := by
        show (match nextDrop parts st.places st.lows with | none => st | some p => jrun parts n (jmove parts st p)) = _
        rw [hn]
      rw [e]
      obtain ⟨J2, h2⟩ := jmove_inv hv J hn
      exact jrun_ok hv n _ J2 (by omega)
def okParts (parts : List (List Pr)) : Prop := ∀ v ∈ parts, Valleys v ∧ (hd v).1 = 0 ∧ (hd v).2 ≤ 0
theorem jst0_inv {parts : List (List Pr)} (h : okParts parts) : JI parts (jst0 parts) := K30m.jinit fun v hv => ⟨(h v hv).1.1, (h v hv).2.1, (h v hv).2.2⟩
theorem zeros_sum {α : Type} : ∀ l : List α, (l.map fun _ => (0 : Nat)).sum = 0
  | [] => rfl
  | _ :: l => by rw [List.map_cons, List.sum_cons, zeros_sum l]
theorem jointS_ok {parts : List (List Pr)} (h : okParts parts) : JointOk parts (jointS parts) ∧ (jointS parts).length + parts.length ≤ 1 + jlen parts := by
  have hv : ∀ v ∈ parts, Valleys v := fun v hv => (h v hv).1
  obtain ⟨J, hn⟩ := jrun_ok hv (jlen parts) (jst0 parts) (jst0_inv h) (by omega)
  refine ⟨K30m.jend J hv (next_none hn), ?_⟩
  have c1 := J.cnt
  have c2 := J.places_sum
  unfold jlen at c1 c2 ⊢
  unfold jointS jlen
  omega
end K30
namespace K30
open PySem PySem.Spec PyProof.Rows L2 Evl RZ
open K30m (Job jobS Pf hd lt Valleys Strict Good mv sortP scanD stepD desc lle startBehind endBehind two JInv JointOk)
theorem enum_map {α : Type} (xs : List α) (h : α → D) : enumD (xs.map h) = xs.zipIdx.map fun x => PyData.tuple [.int (x.2 : Nat), h x.1] := by
  refine List.ext_getElem? fun i => ?_
  unfold enumD
  rw [List.getElem?_mapIdx, List.getElem?_map, List.getElem?_map, List.getElem?_zipIdx]
  cases xs[i]? with
  | none => rfl
  | some x => simp
theorem at_N {ds : List D} {i : Nat} {d : D} (h : ds[i]? = some d) : atI ds (i : Nat) = some d := by
  have hl : i < ds.length := (List.getElem?_eq_some_iff.mp h).1
  unfold atI ixN
  rw [if_pos (by omega), if_pos (by omega)]
  show ds[((i : Nat) : Int).toNat]? = _
  rw [Int.toNat_natCast, h]
theorem at_N1 {ds : List D} {i : Nat} {d : D} (h : ds[i + 1]? = some d) : atI ds ((i : Nat) + 1) = some d := at_N h
def natsD (ks : List Nat) : List D := ks.map fun k => PyData.int (k : Nat)
theorem nats_nols (ks : List Nat) : noLs (natsD ks) = true := noLs_mem.mpr fun z hz => by
  obtain ⟨k, _, rfl⟩ := List.mem_map.mp hz
  rfl
theorem parts_nols (parts : List (List Pr)) : noLs (parts.map psD) = true := noLs_mem.mpr fun z hz => by
  obtain ⟨k, _, rfl⟩ := List.mem_map.mp hz
  exact psD_nol k
theorem enum_parts_nols (parts : List (List Pr)) : noLs (parts.zipIdx.map fun x => PyData.tuple [.int (x.2 : Nat), psD x.1]) = true := by
  rw [← enum_map]
  exact enum_nol (parts_nols parts)
def dropD : Option Pr → D
  | none => .none
  | some p => pD p
theorem dropD_nol (o : Option Pr) : noL (dropD o) = true := by cases o <;> rfl
section
variable {P : Program} {w : World} {K : PySem.W.Frag} {mg : Str → Option Value} {base : Heap} (T : Tops K mg)
include T
theorem f_next_drop : Fn P w K mg base 1 "next_drop" ["parts", "places", "lows"] (spA K (fun x : List (List Pr) × List Nat × List Int => [.l (x.1.map psD), .l (natsD x.2.1), .l (x.2.2.map PyData.int)]) (fun x => x.2.1.length = x.1.length ∧ x.2.2.length = x.1.length ∧ x.1.length ≤ 2000) fun x => dropD (nextDrop x.1 x.2.1 x.2.2)) :=
  fn_ok T.d_next_drop sc_next_drop hb_next_drop (spA_len fun _ => rfl) fun f cdv A outer s H vs Q E hr h => by
    obtain ⟨⟨parts, places, lows⟩, ⟨lP, lL, lN⟩, hd', q⟩ := h
    simp only at lP lL lN
    match vs, hd' with
    | [v1, v2, v3], .cons ⟨a1, hv1, la1⟩ (.cons ⟨a2, hv2, la2⟩ (.cons ⟨a3, hv3, la3⟩ .nil)) =>
      subst hv1 hv2 hv3
      have hu := hr.units
      have hs : SR K H (start n_next_drop [.ref a1, .ref a2, .ref a3]) [some (.at a1), some (.at a2), some (.at a3), none, none, none, none] := .at (.at (.at (.no (.no (.no (.no .nil))))))
      refine do_asg sc_next_drop.nd 3 hs (ee_sum rfl T.b_sum (ep_slot hs 2 la3).ev) rfl fun σ1 H1 e1 hs1 => ?_
      refine do_asgN sc_next_drop.nd 4 hs1 (en_lst ea_nil) fun fa fv σ2 H2 hfa e2 h2 hd2 hs2 => ?_
      have e12 := e1.trans e2
      have b1 := la1.ex e12
      have b2 := la2.ex e12
      have b3 := la3.ex e12
      have ne : ∀ a ds, LsAt K H a ds → a ∉ [fa] := fun a ds ⟨ws, hw, _⟩ z => by
        rw [List.mem_singleton.mp z] at hw
        rw [e1 _ _ hw] at hfa
        cases hfa
      refine do_for (xs := parts.zipIdx) (g := fun x => PyData.tuple [.int (x.2 : Nat), psD x.1]) PassesOwn.never rfl [fa] (fun _ => [some (.at a1), some (.at a2), some (.at a3), some (.py (.int lows.sum)), some (.at fa), none, none])
        (fun pre H => LsAt K H fa ((pre.filterMap (dropOf places lows)).map pD)) (us := fun x => [(5, .int (x.2 : Nat)), (6, psD x.1)])
        (enum_map parts psD ▸ ei_enum T.b_enumerate hs2 0 b1 (parts_nols parts)) (enum_parts_nols parts) (nt1 h2) (fun a ha => by
          rw [List.mem_singleton.mp ha]; exact ne a1 _ la1) (fun x _ => tg_tup rfl (tgs_cons (tg_name sc_next_drop.nd 5) (tgs_cons (tg_name sc_next_drop.nd 6) tgs_nil)))
        (fun pre H1 H2 e h => h.ex e) hs2 ⟨fv, h2, hd2⟩ ?_ ?_
      · rintro pre ⟨v, i⟩ post hx σ3 H3 c3 t3 hv3 hs3 N hN
        have hmem : (v, i) ∈ parts.zipIdx := by rw [hx]; exact List.mem_append_right _ List.mem_cons_self
        rw [List.mem_zipIdx_iff_getElem?] at hmem
        have hi : i < parts.length := (List.getElem?_eq_some_iff.mp hmem).1
        have p1 : places[i]? = some (places[i]'(by omega)) := List.getElem?_eq_getElem _
        have p2 : lows[i]? = some (lows[i]'(by omega)) := List.getElem?_eq_getElem _
        generalize places[i]'(by omega) = k at p1
        generalize lows[i]'(by omega) = a at p2
        have d2 := b2.ch c3 t3 (ne a2 _ la2) (nats_nols _)
        have d3 := b3.ch c3 t3 (ne a3 _ la3) (ints_nols _)
        have atP : atI (natsD places) (i : Nat) = some (.int (k : Nat)) := at_N (by unfold natsD; rw [List.getElem?_map, p1]; rfl)
        have atL : atI (lows.map PyData.int) (i : Nat) = some (.int a) := at_N (by rw [List.getElem?_map, p2]; rfl)
        have hfl : (pre.filterMap (dropOf places lows)).length ≤ pre.length := List.length_filterMap_le ..
        have hpl : pre.length < parts.length := by
          have := congrArg List.length hx
          rw [List.length_zipIdx, List.length_append, List.length_cons] at this
          omega
        have ef : ∀ r, dropOf places lows (v, i) = r → (pre ++ [(v, i)]).filterMap (dropOf places lows) = pre.filterMap (dropOf places lows) ++ r.toList := fun r hr => by
          rw [List.filterMap_append, List.filterMap_cons, hr]
          cases r <;> rfl
        obtain ⟨vs2, h3, hd3⟩ := id hv3
        have vlen := dps_length hd3
        rw [List.length_map] at vlen
        refine do_when (et_lt (ee_add (ee_ixL (ep_slot hs3 1 d2).ev (ev hs3 5) atP) ee_int) (ee_lenT (ds := v.map pD) T.b_len (ev hs3 6))) (fun hb H4 e4 => ?_) (fun hb H4 e4 => ?_)
        · have hlt : k + 1 < v.length := by
            have := of_decide_eq_true hb
            rw [List.length_map] at this
            omega
          have v1 : v[k + 1]? = some v[k + 1] := List.getElem?_eq_getElem hlt
          generalize v[k + 1] = r at v1
          have hs4 := hs3.ex e4
          have dr : dropOf places lows (v, i) = some (r.1 + lows.sum - a, ((i : Nat) : Int)) := by
            unfold dropOf
            show (if places.getD i 0 + 1 < v.length then some ((v.getD (places.getD i 0 + 1) (0, 0)).1 + lows.sum - lows.getD i 0, ((i : Nat) : Int)) else none) = _
            rw [getD_some p1, if_pos hlt, getD_some v1, getD_some p2]
          refine do_app hs4 4 (e4 _ _ h3) (by omega) (ee_tup (ds := [.int (r.1 + lows.sum - a), .int (i : Nat)]) (ea_cons (ee_sub (ee_add (ee_ixT (d := .int r.1) (ee_ixT (ds := v.map pD) (ev hs4 6) (ee_add (ee_ixL (ep_slot hs4 1 (d2.ex e4)).ev (ev hs4 5) atP) ee_int) (at_N1 (d := pD r) (by rw [List.getElem?_map, v1]; rfl))) ee_int rfl) (ev hs4 3)) (ee_ixL (ep_slot hs4 2 (d3.ex e4)).ev (ev hs4 5) atL)) (ea_cons (ev hs4 5) ea_nil))) fun v' H5 e5 hv' => ?_
          have e45 := e4.trans e5
          have tx : TX H5 (upd H5 fa (.lst (vs2 ++ [v']))) := TX.upd (e45 _ _ h3) trivial
          refine do_nil (do_nil (hN _ _ ((Ch.ex e45).trans (Ch.upd List.mem_cons_self)) ?_ ((((hs4.ex e5).tx tx).drop 5).drop 6)))
          rw [ef _ dr, List.map_append]
          exact lsat_app e45 h3 hd3 hv' (psD_nols _) rfl
        · have hlt : ¬ k + 1 < v.length := by
            have := of_decide_eq_false hb
            rw [List.length_map] at this
            omega
          have dr : dropOf places lows (v, i) = none := by
            unfold dropOf
            show (if places.getD i 0 + 1 < v.length then some ((v.getD (places.getD i 0 + 1) (0, 0)).1 + lows.sum - lows.getD i 0, ((i : Nat) : Int)) else none) = _
            rw [getD_some p1, if_neg hlt]
          refine do_nil (hN _ _ (Ch.ex e4) ?_ (((hs3.ex e4).drop 5).drop 6))
          rw [ef _ dr, show (none : Option Pr).toList = [] from rfl, List.append_nil]
          exact hv3.ex e4
      · intro σ3 H3 c3 t3 hv3 hs3
        have hv3 : LsAt K H3 fa ((drops parts places lows).map pD) := hv3
        refine do_ret (d := dropD (nextDrop parts places lows)) (ee_if (t := !(drops parts places lows).isEmpty) (.of_eq (et_neD hu (ep_slot hs3 4 hv3).ev (en_lst ea_nil).ev (shaped_ps _) rfl) (by rw [eqv_nil])) (fun hb => ?_) (fun hb => ?_)) fun v H4 e4 hv => q v H4 ((Ex.over e12 (no1 (H := H) ?_) c3).trans e4) hv
        · unfold nextDrop
          cases hdr : drops parts places lows with
          | nil => rw [hdr] at hb; cases hb
          | cons p ps =>
            rw [hdr] at hv3
            exact ee_minP rfl hu T.b_min (ep_slot hs3 4 hv3).ev
        · unfold nextDrop
          cases hdr : drops parts places lows with
          | nil => exact ee_non
          | cons p ps => rw [hdr] at hb; cases hb
        · cases hx : H fa with
          | none => rfl
          | some o => rw [e1 _ _ hx] at hfa; cases hfa
end
end K30
namespace K30
open PySem PySem.Spec PyProof.Rows L2 Evl RZ
open K30m (Job jobS Pf hd lt Valleys Strict Good mv sortP scanD stepD desc lle startBehind endBehind two JInv JointOk)
theorem LsAt.off {K : PySem.W.Frag} {H : Hp} {l p : Addr} {vs ws : List V} {ds : List D} (hl : H l = some (.lst vs)) (hp : p ≠ l) (hn : noLs ds = true) (h : LsAt K H p ds) : LsAt K (upd H l (.lst ws)) p ds := by
  obtain ⟨us, h1, h2⟩ := h
  exact ⟨us, by rw [upd_ne hp]; exact h1, dps_tx (TX.upd hl trivial) _ _ hn h2⟩
theorem lsat_set {K : PySem.W.Frag} {H H1 : Hp} {l : Addr} {ds : List D} {vs : List V} {v : V} {d : D} {n : Nat} (e : Ex H H1) (hl : H l = some (.lst vs)) (hd : DpAll K H vs ds) (hv : Dp K H1 v d) (hn : noLs ds = true) (hn2 : noL d = true) : LsAt K (upd H1 l (.lst (vs.set n v))) l (ds.set n d) := by
  have tx : TX H1 (upd H1 l (.lst (vs.set n v))) := TX.upd (e _ _ hl) trivial
  exact ⟨_, upd_same, dps_set n (dps_tx tx _ _ hn (dps_ex e _ _ hd)) (dp_tx tx _ _ hn2 hv)⟩
theorem nats_set {ks : List Nat} {i k : Nat} : (natsD ks).set i (.int (k : Nat)) = natsD (ks.set i k) := by
  unfold natsD
  rw [List.map_set]
theorem ints_set {ks : List Int} {i : Nat} {k : Int} : (ks.map PyData.int).set i (.int k) = (ks.set i k).map PyData.int := by
  rw [List.map_set]
def okPs (parts : List (List Pr)) : Prop := okParts parts ∧ parts.length ≤ 400 ∧ jlen parts ≤ 2000
section
variable {P : Program} {w : World} {K : PySem.W.Frag} {mg : Str → Option Value} {base : Heap} (T : Tops K mg)
include T
theorem f_joint : Fn P w K mg base 2 "joint" ["parts"] (spA K (fun parts : List (List Pr) => [.l (parts.map psD)]) okPs fun parts => psD (jointD parts)) :=
  fn_ok T.d_joint sc_joint hb_joint (spA_len fun _ => rfl) fun f cdv A outer s H vs Q E hr h => by
    obtain ⟨parts, ⟨ok, hlen, hjl⟩, hd', q⟩ := h
    match vs, hd' with
    | [v1], .cons ⟨a1, hv1, la⟩ .nil =>
      subst hv1
      have hs : SR K H (start n_joint [.ref a1]) [some (.at a1), none, none, none, none, none, none, none] := .at (.no (.no (.no (.no (.no (.no (.no .nil)))))))
      have hv : ∀ v ∈ parts, Valleys v := fun v h => (ok v h).1
      refine do_setLc rfl sc_joint.nd 1 hs (LcP.of_eq (lc_allM (xs := parts) (g := psD) (f := fun _ => .int 0) (us := fun v => [(7, psD v)]) (own := [("valleys", 7)]) rfl hs (ei_slot hs 0 la (parts_nols parts)) (parts_nols parts) (by omega)
        (fun _ _ _ _ _ i _ => tg_name sc_joint.nd 7) (fun i _ u hu => by rw [List.mem_singleton.mp hu]; exact List.mem_cons_self) (fun _ _ _ _ _ v hv σ' H' e hs' => ee_int) (fun _ _ => rfl)) (show _ = natsD (parts.map fun _ => 0) by unfold natsD; rw [List.map_map]; rfl)) fun pl vpl σ1 H1 hpl e1 h1 hd1 hs1 => ?_
      have la1 := la.ex e1
      refine do_setLc rfl sc_joint.nd 2 hs1 (LcP.of_eq (lc_allM (xs := parts) (g := psD) (f := fun v => .int (hd v).2) (us := fun v => [(7, psD v)]) (own := [("valleys", 7)]) rfl hs1 (ei_slot hs1 0 la1 (parts_nols parts)) (parts_nols parts) (by omega)
        (fun _ _ _ _ _ i _ => tg_name sc_joint.nd 7) (fun i _ u hu => by rw [List.mem_singleton.mp hu]; exact List.mem_cons_self) (fun _ _ _ _ _ v hv' σ' H' e hs' => ee_ixT (d := .int (hd v).2) (ee_ixT (ds := v.map pD) (ev hs' 7) ee_int (at_hd (hv v hv').1)) ee_int rfl) (fun _ _ => rfl)) (show _ = (parts.map fun v => (hd v).2).map PyData.int by rw [List.map_map]; rfl)) fun lo vlo σ2 H2 hlo e2 h2 hd2 hs2 => ?_
      refine do_asgN sc_joint.nd 3 hs2 (en_lst (ds := [pD (0, (parts.map fun v => (hd v).2).sum)]) (ea_cons (ee_tup (ea_cons ee_int (ea_cons (ee_sum rfl T.b_sum (ep_slot hs2 2 ⟨vlo, h2, hd2⟩).ev) ea_nil))) ea_nil)) fun pa vpa σ3 H3 hpa e3 h3 hd3 hs3 => ?_
      refine do_asg sc_joint.nd 4 hs3 ee_int rfl fun σ4 H4 e4 hs4 => ?_
      have x14 : Ex H1 H4 := e2.trans (e3.trans e4)
      have x24 : Ex H2 H4 := e3.trans e4
      have pl4 : LsAt K H4 pl (natsD (parts.map fun _ => 0)) := LsAt.ex x14 ⟨vpl, h1, hd1⟩
      have lo4 : LsAt K H4 lo ((parts.map fun v => (hd v).2).map PyData.int) := LsAt.ex x24 ⟨vlo, h2, hd2⟩
      have pa4 : LsAt K H4 pa ([((0 : Int), (parts.map fun v => (hd v).2).sum)].map pD) := LsAt.ex e4 ⟨vpa, h3, hd3⟩
      have lap4 := la.ex (e1.trans x14)
      have n1 : lo ≠ pl := fun z => by rw [z, h1] at hlo; cases hlo
      have n2 : pa ≠ pl := fun z => by rw [z, e2 _ _ h1] at hpa; cases hpa
      have n3 : pa ≠ lo := fun z => by rw [z, h2] at hpa; cases hpa
      have nw : ∀ a ∈ [pl, lo, pa], H a = none := fun a ha => by
        have back : ∀ (x : Addr) (A B : Hp), Ex A B → B x = none → A x = none := fun x A B e h => by
          cases hx : A x with
          | none => rfl
          | some o => rw [e _ _ hx] at h; cases h
        rcases List.mem_cons.mp ha with rfl | ha
        · exact hpl
        · rcases List.mem_cons.mp ha with rfl | ha
          · exact back _ _ _ e1 hlo
          · rw [List.mem_singleton.mp ha]
            exact back _ _ _ (e1.trans e2) hpa
      have na : a1 ∉ [pl, lo, pa] := fun z => by
        obtain ⟨ws, hw, _⟩ := la
        rw [nw _ z] at hw
        cases hw
      refine do_asg (d := dropD (nextDrop parts (jst0 parts).places (jst0 parts).lows)) sc_joint.nd 5 hs4 (ee_calA (f_next_drop T) hr (parts, (jst0 parts).places, (jst0 parts).lows) (er_cons (ep_slot hs4 0 lap4).v (er_cons (ep_slot hs4 1 pl4).v (er_cons (ep_slot hs4 2 lo4).v er_nil))) ⟨List.length_map _, List.length_map _, (show parts.length ≤ 2000 by omega)⟩) (dropD_nol _) fun σ5 H5 e5 hs5 => ?_
      refine do_while (ι := JSt × Nat) PassesOwn.never [pl, lo, pa] (fun x => [some (.at a1), some (.at pl), some (.at lo), some (.at pa), some (.py (.int x.1.cap)), some (.py (dropD (nextDrop parts x.1.places x.1.lows))), none, none])
        (fun x H => (LsAt K H pl (natsD x.1.places) ∧ LsAt K H lo (x.1.lows.map PyData.int) ∧ LsAt K H pa (x.1.pairs.map pD)) ∧ JI parts x.1 ∧ jrun parts x.2 x.1 = jrun parts (jlen parts) (jst0 parts) ∧ jlen parts ≤ x.2 + x.1.places.sum + parts.length) (fun x => x.2) (fun x => (nextDrop parts x.1.places x.1.lows).isSome) (jst0 parts, jlen parts)
        (fun a ha => ?_) (fun x A B e h => ⟨⟨h.1.1.ex e, h.1.2.1.ex e, h.1.2.2.ex e⟩, h.2⟩) hs5 ⟨⟨pl4.ex e5, lo4.ex e5, pa4.ex e5⟩, jst0_inv ok, rfl, by show jlen parts ≤ jlen parts + _ + _; omega⟩ ?_ ?_ ?_
      · rcases List.mem_cons.mp ha with rfl | ha
        · obtain ⟨ws, hw, _⟩ := pl4.ex e5; exact ⟨_, hw, trivial⟩
        · rcases List.mem_cons.mp ha with rfl | ha
          · obtain ⟨ws, hw, _⟩ := lo4.ex e5; exact ⟨_, hw, trivial⟩
          · rw [List.mem_singleton.mp ha]
            obtain ⟨ws, hw, _⟩ := pa4.ex e5; exact ⟨_, hw, trivial⟩
      · intro x σ6 H6 c6 t6 hv6 hs6
        refine .of_eq (et_notN (ev hs6 5)) ?_
        cases nextDrop parts x.1.places x.1.lows <;> rfl
      · rintro ⟨st, n⟩ σ6 H6 ht c6 t6 ⟨⟨lp6, ll6, lq6⟩, J, hrun, hbd⟩ hs6 N hN
        simp only at ht J hrun hbd lp6 ll6 lq6
        cases hnd : nextDrop parts st.places st.lows with
        | none => rw [hnd] at ht; cases ht
        | some pr =>
          obtain ⟨J2, hsum⟩ := jmove_inv hv J hnd
          obtain ⟨i, v, k, a, r, f1, f2, f3, f4, ep, _, em⟩ := next_some J hnd
          have hps := J2.places_sum
          unfold jlen at hbd
          have hn1 : ∃ m, n = m + 1 := ⟨n - 1, by omega⟩
          obtain ⟨m, rfl⟩ := hn1
          have hrun2 : jrun parts m (jmove parts st pr) = jrun parts (jlen parts) (jst0 parts) := by
            rw [← hrun]
            show _ = (match nextDrop parts st.places st.lows with | none => st | some p => jrun parts m (jmove parts st p))
            rw [hnd]
          have hs6 : SR K H6 σ6 [some (.at a1), some (.at pl), some (.at lo), some (.at pa), some (.py (.int st.cap)), some (.py (pD pr)), none, none] := by
            simp only at hs6
            rw [hnd] at hs6
            exact hs6
          have la6 : LsAt K H6 a1 (parts.map psD) := (lap4.ex e5).ch c6 t6 na (parts_nols parts)
          have hi : i < parts.length := (List.getElem?_eq_some_iff.mp f1).1
          refine do_asg sc_joint.nd 4 hs6 (ee_max2 rfl T.b_max (ev hs6 4) (ee_ixT (d := .int pr.1) (ev hs6 5) ee_int rfl)) rfl fun σ7 H7 e7 hs7 => ?_
          refine do_asg sc_joint.nd 6 hs7 (ee_ixT (d := .int pr.2) (ev hs7 5) ee_int rfl) rfl fun σ8 H8 e8 hs8 => ?_
          have ei : pr.2 = (i : Nat) := by rw [ep]
          rw [ei] at hs8
          have x68 := e7.trans e8
          obtain ⟨vsP, hP, dP⟩ := lp6.ex x68
          have atv : vsP[i]? = some (.int (k : Nat)) := by
            obtain ⟨z, hz, dz⟩ := dps_get dP (show (natsD st.places)[i]? = some (.int (k : Nat)) by unfold natsD; rw [List.getElem?_map, f2]; rfl)
            rw [hz, dp_int dz]
          refine do_augI hs8 1 hP (ev hs8 6) ee_int atv fun H9 e9 => ?_
          generalize hH10 : upd H9 pl (.lst (vsP.set i (.int ((k : Nat) + 1)))) = H10
          have x69 := x68.trans e9
          have hP9 := e9 _ _ hP
          have tx10 : TX H9 H10 := by rw [← hH10]; exact TX.upd hP9 trivial
          have hs10 := (hs8.ex e9).tx tx10
          have lp10 : LsAt K H10 pl (natsD (st.places.set i (k + 1))) := by
            rw [← hH10, ← nats_set]
            exact lsat_set e9 hP dP (.int _) (nats_nols _) rfl
          have ll10 : LsAt K H10 lo (st.lows.map PyData.int) := by
            rw [← hH10]
            exact LsAt.off hP9 n1 (ints_nols _) (ll6.ex x69)
          have lq10 : LsAt K H10 pa (st.pairs.map pD) := by
            rw [← hH10]
            exact LsAt.off hP9 n2 (psD_nols _) (lq6.ex x69)
          have la10 : LsAt K H10 a1 (parts.map psD) := by
            rw [← hH10]
            exact LsAt.off hP9 (fun z => na (by rw [z]; exact List.mem_cons_self)) (parts_nols _) (la6.ex x69)
          have c10 : Ch [pl, lo, pa] H6 H10 := (Ch.ex x69).trans (by rw [← hH10]; exact Ch.upd List.mem_cons_self)
          obtain ⟨vsL, hL, dL⟩ := id ll10
          have hlL : vsL.length = parts.length := by rw [dps_length dL, List.length_map, J.lenL]
          refine do_setI (d := .int r.2) (n := (i : Nat)) (j := i) hs10 2 hL (ev hs10 6) (ee_ixT (ds := [.int r.1, .int r.2]) (ee_ixT (d := pD r) (ds := v.map pD) (ee_ixL (d := psD v) (ep_slot hs10 0 la10).ev (ev hs10 6) (at_N (by rw [List.getElem?_map, f1]; rfl))) (ee_ixL (d := .int ((k + 1 : Nat) : Int)) (ep_slot hs10 1 lp10).ev (ev hs10 6) (at_N ?_)) (at_N (by rw [List.getElem?_map, f4]; rfl))) ee_int rfl) ?_ fun v11 H11 e11 hv11 => ?_
          · unfold natsD
            rw [List.getElem?_map, List.getElem?_set_self (List.getElem?_eq_some_iff.mp f2).1]
            rfl
          · unfold ixN
            rw [if_pos (by omega), if_pos (by omega), Int.toNat_natCast]
          generalize hH12 : upd H11 lo (.lst (vsL.set i v11)) = H12
          have hL11 := e11 _ _ hL
          have tx12 : TX H11 H12 := by rw [← hH12]; exact TX.upd hL11 trivial
          have hs12 := (hs10.ex e11).tx tx12
          have lp12 : LsAt K H12 pl (natsD (st.places.set i (k + 1))) := by
            rw [← hH12]
            exact LsAt.off hL11 (Ne.symm n1) (nats_nols _) (lp10.ex e11)
          have ll12 : LsAt K H12 lo ((st.lows.set i r.2).map PyData.int) := by
            rw [← hH12, ← ints_set]
            exact lsat_set e11 hL dL hv11 (ints_nols _) rfl
          have lq12 : LsAt K H12 pa (st.pairs.map pD) := by
            rw [← hH12]
            exact LsAt.off hL11 n3 (psD_nols _) (lq10.ex e11)
          have la12 : LsAt K H12 a1 (parts.map psD) := by
            rw [← hH12]
            exact LsAt.off hL11 (fun z => na (by rw [z]; exact List.mem_cons_of_mem _ List.mem_cons_self)) (parts_nols _) (la10.ex e11)
          have c12 : Ch [pl, lo, pa] H6 H12 := c10.trans ((Ch.ex e11).trans (by rw [← hH12]; exact Ch.upd (List.mem_cons_of_mem _ List.mem_cons_self)))
          obtain ⟨vsQ, hQ, dQ⟩ := id lq12
          have hqz : vsQ.length < 100000 := by
            rw [dps_length dQ, List.length_map, J.cnt]
            unfold jlen at hjl
            omega
          refine do_app hs12 3 hQ hqz (ee_tup (ds := [.int (max st.cap pr.1), .int (st.lows.set i r.2).sum]) (ea_cons (ev hs12 4) (ea_cons (ee_sum rfl T.b_sum (ep_slot hs12 2 ll12).ev) ea_nil))) fun v13 H13 e13 hv13 => ?_
          generalize hH14 : upd H13 pa (.lst (vsQ ++ [v13])) = H14
          have hQ13 := e13 _ _ hQ
          have tx14 : TX H13 H14 := by rw [← hH14]; exact TX.upd hQ13 trivial
          have hs14 := (hs12.ex e13).tx tx14
          have lp14 : LsAt K H14 pl (natsD (st.places.set i (k + 1))) := by
            rw [← hH14]
            exact LsAt.off hQ13 (Ne.symm n2) (nats_nols _) (lp12.ex e13)
          have ll14 : LsAt K H14 lo ((st.lows.set i r.2).map PyData.int) := by
            rw [← hH14]
            exact LsAt.off hQ13 (Ne.symm n3) (ints_nols _) (ll12.ex e13)
          have lq14 : LsAt K H14 pa ((st.pairs ++ [(max st.cap pr.1, (st.lows.set i r.2).sum)]).map pD) := by
            rw [← hH14, List.map_append]
            exact lsat_app e13 hQ dQ hv13 (psD_nols _) rfl
          have la14 : LsAt K H14 a1 (parts.map psD) := by
            rw [← hH14]
            exact LsAt.off hQ13 (fun z => na (by rw [z]; simp)) (parts_nols _) (la12.ex e13)
          have c14 : Ch [pl, lo, pa] H6 H14 := c12.trans ((Ch.ex e13).trans (by rw [← hH14]; exact Ch.upd (by simp)))
          refine do_asg (d := dropD (nextDrop parts (jmove parts st pr).places (jmove parts st pr).lows)) sc_joint.nd 5 hs14 (ee_calA (f_next_drop T) hr (parts, st.places.set i (k + 1), st.lows.set i r.2) (er_cons (ep_slot hs14 0 la14).v (er_cons (ep_slot hs14 1 lp14).v (er_cons (ep_slot hs14 2 ll14).v er_nil))) ⟨by rw [List.length_set]; exact J.lenP, by rw [List.length_set]; exact J.lenL, (show parts.length ≤ 2000 by omega)⟩ (hd := by rw [em])) (dropD_nol _) fun σ15 H15 e15 hs15 => ?_
          refine do_nil (hN (jmove parts st pr, m) _ _ (Nat.lt_succ_self m) (c14.trans (.ex e15)) ⟨⟨?_, ?_, ?_⟩, J2, hrun2, ?_⟩ ?_)
          · rw [em]; exact lp14.ex e15
          · rw [em]; exact ll14.ex e15
          · rw [em]; exact lq14.ex e15
          · show jlen parts ≤ m + (jmove parts st pr).places.sum + parts.length
            unfold jlen
            omega
          · have hz := hs15.drop 6
            rw [em] at hz ⊢
            exact hz
      · rintro ⟨st, n⟩ σ6 H6 ht c6 t6 ⟨⟨lp6, ll6, lq6⟩, J, hrun, hbd⟩ hs6
        simp only at ht J hrun hbd lp6 ll6 lq6
        have hnone : nextDrop parts st.places st.lows = none := by
          cases hx : nextDrop parts st.places st.lows with
          | none => rfl
          | some p => rw [hx] at ht; cases ht
        have e : jrun parts n st = st := by
          cases n with
          | zero => rfl
          | succ n =>
            show (match nextDrop parts st.places st.lows with | none => st | some p => jrun parts n (jmove parts st p)) = st
            rw [hnone]
        rw [e] at hrun
        have hp : st.pairs = jointS parts := by unfold jointS; rw [← hrun]
        have hjs := (jointS_ok ok).2
        rw [hp] at lq6
        refine do_ret (d := psD (jointD parts)) (ee_calA (f_descending T) hr (jointS parts) (er_cons (ep_slot hs6 3 lq6).v er_nil) (by show (jointS parts).length ≤ 10000; omega)) fun v H7 e7 hv => q v H7 ((Ex.over (e1.trans (x14.trans e5)) nw c6).trans e7) hv
end
end K30
namespace K30
open PySem PySem.Spec PyProof.Rows L2 Evl RZ
open K30m (Job jobS Pf hd lt Valleys Strict Good mv sortP scanD stepD desc lle startBehind endBehind two JInv JointOk RSz repZ emptyP)
/-! ### max of three -/
def rMax3 : List V → Hp → VK → Prop := fun ws H Q => ∃ i j k : Int, ws = [.int i, .int j, .int k] ∧ Q (.int (max (max i j) k)) H
theorem cr_max3 {X : Cx} (hc : X.calm = true) : CallR X (.builtin "max") rMax3 := by
  intro pins s σ H ws us Q J r h
  obtain ⟨i, j, k, rfl, q⟩ := h
  cases r with
  | cons r1 r =>
    obtain ⟨u2, u3, rfl, r2, r3⟩ := vals2 r
    obtain ⟨t1, rfl⟩ := r1
    obtain ⟨t2, rfl⟩ := r2
    obtain ⟨t3, rfl⟩ := r3
    refine max_three_ints (J.ok.hd hc) fun h' tk hk => ⟨.int (max (max i j) k), H, J.kept (t' := tk) hk, ?_, q⟩
    by_cases h1 : j > i
    · rw [if_pos h1]
      by_cases h2 : k > j
      · rw [if_pos h2, show max (max i j) k = k by omega]; exact ⟨_, rfl⟩
      · rw [if_neg h2, show max (max i j) k = j by omega]; exact ⟨_, rfl⟩
    · rw [if_neg h1]
      by_cases h2 : k > i
      · rw [if_pos h2, show max (max i j) k = k by omega]; exact ⟨_, rfl⟩
      · rw [if_neg h2, show max (max i j) k = i by omega]; exact ⟨_, rfl⟩
theorem ee_max3 {X : Cx} {a b c : Expr} {σ : L2.St} {H : Hp} {pos p : Pos} {i j k : Int} (hc : X.calm = true) (hm : X.mg "max" = none) (h1 : EvE X a σ H (.int i)) (h2 : EvE X b σ H (.int j)) (h3 : EvE X c σ H (.int k)) (hg : Gl X "max" := by rfl)
    (s1 : starEach [a, b, c] X.env = (false, eval a X.env) :: starEach [b, c] X.env := by rfl) (s2 : starEach [b, c] X.env = (false, eval b X.env) :: starEach [c] X.env := by rfl)
    (s3 : starEach [c] X.env = (false, eval c X.env) :: starEach [] X.env := by rfl) (hpl : (backTo pos (starEach [b, c] X.env)).any (·.1) = false := by rfl) : EvE X (.Call (.Name "max" p) [a, b, c] [] pos) σ H (.int (max (max i j) k)) :=
  ee_B (cr_max3 hc) hm (ea_cons h1 (ea_cons h2 (ea_cons h3 ea_nil s3) s2) s1) (fun vs H1 _ hvs Q q => by
    cases hvs with
    | cons w1 r =>
      obtain ⟨v2, v3, rfl, w2, w3⟩ := dps2 r
      rw [dp_int w1, dp_int w2, dp_int w3]
      exact ⟨i, j, k, rfl, q _ H1 (Ex.refl _) (.int _)⟩) hg (he := s1) (hpl := hpl)
theorem pf_nols (ps : List Pf) : noLs (ps.map pfD) = true := noLs_mem.mpr fun z hz => by
  obtain ⟨p, _, rfl⟩ := List.mem_map.mp hz
  exact pfD_nol p
theorem mv_nil {ps : List Pr} {k : Int} (h : ps ≠ []) : mv ps k ≠ [] := fun z => h (List.map_eq_nil_iff.mp z)
theorem mv_len (ps : List Pr) (k : Int) : (mv ps k).length = ps.length := by unfold mv; rw [List.length_map]
def lowB (ps : List Pf) : Int := (ps.map fun p => (lt p.s).2).sum
def peakB (ps : List Pf) (S E : List Pr) : Int := ((lt E).1 :: ps.map fun p => p.k + lowB ps - (lt p.s).2).foldl max (lt S).1
def parS0 (ps : List Pf) : List Pr := jointD (ps.map fun p => p.s)
def parE0 (ps : List Pf) : List Pr := mv (jointD (ps.map fun p => mv p.e (-p.n))) (ps.map fun p => p.n).sum
def parF (ps : List Pf) : Pf := ⟨(ps.map fun p => p.n).sum, peakB ps (parS0 ps) (parE0 ps), parS0 ps, parE0 ps⟩
def okPar (ps : List Pf) : Prop := (∀ p ∈ ps, okL p) ∧ okPs (ps.map fun p => p.s) ∧ okPs (ps.map fun p => mv p.e (-p.n)) ∧ parS0 ps ≠ [] ∧ parE0 ps ≠ [] ∧ (parE0 ps).length ≤ 2000
section
variable {P : Program} {w : World} {K : PySem.W.Frag} {mg : Str → Option Value} {base : Heap} (T : Tops K mg)
include T
theorem f_peak_beside : Fn P w K mg base 1 "peak_beside" ["profiles", "start", "end"] (spA K (fun x : List Pf × List Pr × List Pr => [.l (x.1.map pfD), .d (psD x.2.1), .d (psD x.2.2)]) (fun x => (∀ p ∈ x.1, okL p) ∧ x.1.length ≤ 400 ∧ x.2.1 ≠ [] ∧ x.2.2 ≠ []) fun x => .int (peakB x.1 x.2.1 x.2.2)) :=
  fn_ok T.d_peak_beside sc_peak_beside hb_peak_beside (spA_len fun _ => rfl) fun f cdv A outer s H vs Q E hr h => by
    obtain ⟨⟨ps, S, E'⟩, ⟨ok, hlen, nS, nE⟩, hd', q⟩ := h
    simp only at ok hlen nS nE
    match vs, hd' with
    | [v1, v2, v3], .cons ⟨a1, hv1, la⟩ (.cons h2 (.cons h3 .nil)) =>
      subst hv1
      have h2 : Dp K H v2 (psD S) := h2
      have h3 : Dp K H v3 (psD E') := h3
      have hs : SR K H (start n_peak_beside [.ref a1, v2, v3]) [some (.at a1), some (.py (psD S)), some (.py (psD E')), none, none, none] := .at (.py h2 (psD_nol _) (.py h3 (psD_nol _) (.no (.no (.no .nil)))))
      refine do_asg sc_peak_beside.nd 3 hs (ee_sum (ns := ps.map fun p => (lt p.s).2) rfl T.b_sum (EvN.ev (.of_eq (en_lc rfl sc_peak_beside.nd (lc_allM (xs := ps) (g := pfD) (f := fun p => .int (lt p.s).2) (us := fun p => [(5, pfD p)]) (own := [("profile", 5)]) rfl hs (ei_slot hs 0 la (pf_nols ps)) (pf_nols ps) (by omega)
        (fun _ _ _ _ _ i _ => tg_name sc_peak_beside.nd 5) (fun i _ u hu => by rw [List.mem_singleton.mp hu]; exact List.mem_cons_self) (fun _ _ _ _ _ p hp σ' H' e hs' => ee_ixT (d := .int (lt p.s).2) (ee_ixT (ds := p.s.map pD) (ee_ixT (d := psD p.s) (ds := [.int p.n, .int p.k, psD p.s, psD p.e]) (ev hs' 5) ee_int rfl) (ee_neg ee_int) (at_lt (ok p hp).1)) ee_int rfl) (fun _ _ => rfl))) (by rw [List.map_map]; rfl)))) rfl fun σ1 H1 e1 hs1 => ?_
      refine do_setLc rfl sc_peak_beside.nd 4 hs1 (LcP.of_eq (lc_allM (xs := ps) (g := pfD) (f := fun p => .int (p.k + lowB ps - (lt p.s).2)) (us := fun p => [(5, pfD p)]) (own := [("profile", 5)]) rfl hs1 (ei_slot hs1 0 (la.ex e1) (pf_nols ps)) (pf_nols ps) (by omega)
        (fun _ _ _ _ _ i _ => tg_name sc_peak_beside.nd 5) (fun i _ u hu => by rw [List.mem_singleton.mp hu]; exact List.mem_cons_self) (fun _ _ _ _ _ p hp σ' H' e hs' => ee_sub (ee_add (ee_ixT (d := .int p.k) (ds := [.int p.n, .int p.k, psD p.s, psD p.e]) (ev hs' 5) ee_int rfl) (ev (d := .int (lowB ps)) hs' 3)) (ee_ixT (d := .int (lt p.s).2) (ee_ixT (ds := p.s.map pD) (ee_ixT (d := psD p.s) (ds := [.int p.n, .int p.k, psD p.s, psD p.e]) (ev hs' 5) ee_int rfl) (ee_neg ee_int) (at_lt (ok p hp).1)) ee_int rfl)) (fun _ _ => rfl)) (show _ = (ps.map fun p => p.k + lowB ps - (lt p.s).2).map PyData.int by rw [List.map_map]; rfl)) fun pa va σ2 H2 hpa e2 h2' hd2 hs2 => ?_
      refine do_ret (d := .int (peakB ps S E')) (ee_maxL (n := (lt S).1) (ns := (lt E').1 :: ps.map fun p => p.k + lowB ps - (lt p.s).2) rfl T.b_max (EvN.ev (en_catP (ds1 := [.int (lt S).1, .int (lt E').1]) (EvN.ep (en_lst (ea_cons (ee_ixT (d := .int (lt S).1) (ee_ixT (ds := S.map pD) (ev hs2 1) (ee_neg ee_int) (at_lt nS)) ee_int rfl) (ea_cons (ee_ixT (d := .int (lt E').1) (ee_ixT (ds := E'.map pD) (ev hs2 2) (ee_neg ee_int) (at_lt nE)) ee_int rfl) ea_nil)))) (ep_slot hs2 4 ⟨va, h2', hd2⟩) (by simp; omega)))) fun v H3 e3 hv => q v H3 (e1.trans (e2.trans e3)) hv
theorem f_par_profiles_by : Fn P w K mg base 3 "par_profiles_by" ["profiles"] (spA K (fun ps : List Pf => [.l (ps.map pfD)]) okPar fun ps => pfD (parF ps)) :=
  fn_ok T.d_par_profiles_by sc_par_profiles_by hb_par_profiles_by (spA_len fun _ => rfl) fun f cdv A outer s H vs Q E hr h => by
    obtain ⟨ps, ⟨ok, oS, oE, nS, nE, lE⟩, hd', q⟩ := h
    have hlen : ps.length ≤ 400 := by have := oS.2.1; rw [List.length_map] at this; exact this
    match vs, hd' with
    | [v1], .cons ⟨a1, hv1, la⟩ .nil =>
      subst hv1
      have hs : SR K H (start n_par_profiles_by [.ref a1]) [some (.at a1), none, none, none, none] := .at (.no (.no (.no (.no .nil))))
      refine do_asg sc_par_profiles_by.nd 1 hs (ee_sum (ns := ps.map fun p => p.n) rfl T.b_sum (EvN.ev (.of_eq (en_lc rfl sc_par_profiles_by.nd (lc_allM (xs := ps) (g := pfD) (f := fun p => .int p.n) (us := fun p => [(4, pfD p)]) (own := [("profile", 4)]) rfl hs (ei_slot hs 0 la (pf_nols ps)) (pf_nols ps) (by omega)
        (fun _ _ _ _ _ i _ => tg_name sc_par_profiles_by.nd 4) (fun i _ u hu => by rw [List.mem_singleton.mp hu]; exact List.mem_cons_self) (fun _ _ _ _ _ p hp σ' H' e hs' => ee_ixT (d := .int p.n) (ds := [.int p.n, .int p.k, psD p.s, psD p.e]) (ev hs' 4) ee_int rfl) (fun _ _ => rfl))) (by rw [List.map_map]; rfl)))) rfl fun σ1 H1 e1 hs1 => ?_
      refine do_asg (d := psD (parS0 ps)) sc_par_profiles_by.nd 2 hs1 (ee_calA (f_joint T) hr (ps.map fun p => p.s) (er_cons (EvN.v (.of_eq (en_lc rfl sc_par_profiles_by.nd (lc_allM (xs := ps) (g := pfD) (f := fun p => psD p.s) (us := fun p => [(4, pfD p)]) (own := [("profile", 4)]) rfl hs1 (ei_slot hs1 0 (la.ex e1) (pf_nols ps)) (pf_nols ps) (by omega)
        (fun _ _ _ _ _ i _ => tg_name sc_par_profiles_by.nd 4) (fun i _ u hu => by rw [List.mem_singleton.mp hu]; exact List.mem_cons_self) (fun _ _ _ _ _ p hp σ' H' e hs' => ee_ixT (d := psD p.s) (ds := [.int p.n, .int p.k, psD p.s, psD p.e]) (ev hs' 4) ee_int rfl) (fun _ _ => psD_nol _))) (by rw [List.map_map]; rfl))) er_nil) oS) (psD_nol _) fun σ2 H2 e2 hs2 => ?_
      refine do_asg (d := psD (parE0 ps)) sc_par_profiles_by.nd 3 hs2 (ee_cal (f_moved T) hr (jointD (ps.map fun p => mv p.e (-p.n)), (ps.map fun p => p.n).sum) (ea_cons (ee_calA (f_joint T) hr (ps.map fun p => mv p.e (-p.n)) (er_cons (EvN.v (.of_eq (en_lc rfl sc_par_profiles_by.nd (lc_allM (xs := ps) (g := pfD) (f := fun p => psD (mv p.e (0 - p.n))) (us := fun p => [(4, pfD p)]) (own := [("profile", 4)]) rfl hs2 (ei_slot hs2 0 (la.ex (e1.trans e2)) (pf_nols ps)) (pf_nols ps) (by omega)
        (fun _ _ _ _ _ i _ => tg_name sc_par_profiles_by.nd 4) (fun i _ u hu => by rw [List.mem_singleton.mp hu]; exact List.mem_cons_self) (fun _ _ _ _ _ p hp σ' H' e hs' => ee_cal (f_moved T) hr (p.e, 0 - p.n) (ea_cons (ee_ixT (d := psD p.e) (ds := [.int p.n, .int p.k, psD p.s, psD p.e]) (ev hs' 4) ee_int rfl) (ea_cons (ee_sub ee_int (ee_ixT (d := .int p.n) (ds := [.int p.n, .int p.k, psD p.s, psD p.e]) (ev hs' 4) ee_int rfl)) ea_nil)) (by show p.e.length ≤ 10000; have := (ok p hp).2.2.2; omega)) (fun _ _ => psD_nol _))) (by rw [List.map_map]; refine List.map_congr_left fun p _ => ?_; rw [Int.zero_sub]; rfl))) er_nil) oE) (ea_cons (ev hs2 1) ea_nil)) (by show (jointD _).length ≤ 10000; have : (parE0 ps).length = (jointD (ps.map fun p => mv p.e (-p.n))).length := mv_len _ _; omega)) (psD_nol _) fun σ3 H3 e3 hs3 => ?_
      refine do_ret (d := pfD (parF ps)) (ee_tup (ds := [.int (ps.map fun p => p.n).sum, .int (peakB ps (parS0 ps) (parE0 ps)), psD (parS0 ps), psD (parE0 ps)]) (ea_cons (ev hs3 1) (ea_cons (ee_calA (f_peak_beside T) hr (ps, parS0 ps, parE0 ps) (er_cons (ep_slot hs3 0 (la.ex (e1.trans (e2.trans e3)))).v (er_cons (EvE.v (ev hs3 2)) (er_cons (EvE.v (ev hs3 3)) er_nil))) ⟨ok, hlen, nS, nE⟩) (ea_cons (ev hs3 2) (ea_cons (ev hs3 3) ea_nil))))) fun v H4 e4 hv => q v H4 (e1.trans (e2.trans (e3.trans e4))) hv
end
end K30
namespace K30
open PySem PySem.Spec PyProof.Rows L2 Evl RZ
open K30m (Job jobS Pf hd lt Valleys Strict Good mv sortP scanD stepD desc lle startBehind endBehind two JInv JointOk RSz repZ emptyP earlyP)
/-- the state of copies_start's loop -/
structure CSt where
  cap : Int
  low : Int
  pairs : List Pr
def cmove (n : Nat) (st : CSt) (q : Pr) : CSt := ⟨max st.cap (q.1 + ((n : Int) - 1) * st.low), q.2, st.pairs ++ [(max st.cap (q.1 + ((n : Int) - 1) * st.low), (n : Int) * q.2)]⟩
def copS (n : Nat) (s : List Pr) : List Pr := (s.foldl (cmove n) ⟨0, 0, []⟩).pairs
theorem cop_len (n : Nat) : ∀ (s : List Pr) (st : CSt), (s.foldl (cmove n) st).pairs.length = st.pairs.length + s.length
  | [], st => rfl
  | q :: s, st => by
    rw [List.foldl_cons, cop_len n s]
    show (st.pairs ++ [_]).length + s.length = _
    simp
    omega
def repF (n : Nat) (p : Pf) : Pf := if n = 0 then emptyP else repZ (((n : Int) - 1) * p.n) p
def copB (n : Nat) (p : Pf) : List Pr := mv (desc (copS n (mv p.e (-p.n)))) ((n : Int) * p.n)
def copF (n : Nat) (p : Pf) : Pf := if n = 0 then emptyP else ⟨(n : Int) * p.n, max (max (p.k + ((n : Int) - 1) * (lt p.s).2) (lt (desc (copS n p.s))).1) (lt (copB n p)).1, desc (copS n p.s), copB n p⟩
section
variable {P : Program} {w : World} {K : PySem.W.Frag} {mg : Str → Option Value} {base : Heap} (T : Tops K mg)
include T
theorem f_rounds_start : Fn P w K mg base 2 "rounds_start" ["count", "net", "peak", "start"] (spP K (fun x : Nat × Int × Int × List Pr => [.int (x.1 : Nat), .int x.2.1, .int x.2.2.1, psD x.2.2.2]) (fun x => x.1 ≤ 1000 ∧ x.2.2.2 ≠ [] ∧ x.2.2.2.length ≤ 2000) fun x => psD (RSz (((x.1 : Int) - 1) * x.2.1) x.2.1 x.2.2.1 x.2.2.2)) :=
  fn_ok T.d_rounds_start sc_rounds_start hb_rounds_start (sp_len fun _ => rfl) fun f cdv A outer s H vs Q E hr h => by
    obtain ⟨⟨n, a, k, ps⟩, ⟨hn, hne, hlen⟩, hd', q⟩ := h
    simp only at hn hne hlen
    match vs, hd' with
    | [v, v1, v2, v3], .cons h1 (.cons h2 (.cons h3 (.cons h4 .nil))) =>
      have q : ∀ v H', Ex H H' → Dp K H' v (psD (RSz (((n : Int) - 1) * a) a k ps)) → Q v H' := q
      have hs : SR K H (start n_rounds_start [v, v1, v2, v3]) [some (.py (.int (n : Nat))), some (.py (.int a)), some (.py (.int k)), some (.py (psD ps)), none, none] := .py h1 rfl (.py h2 rfl (.py h3 rfl (.py h4 (psD_nol _) (.no (.no .nil)))))
      refine do_when (et_ge (ev hs 1) ee_int) (fun hb H1 e1 => ?_) (fun hb H1 e1 => ?_)
      · refine do_ret (ev (hs.ex e1) 3) fun v H2 e2 hv => q v H2 (e1.trans e2) ?_
        unfold RSz
        rw [if_pos (of_decide_eq_true hb)]
        exact hv
      · have hs1 := hs.ex e1
        have l1 : (ps.filter fun c => decide (c.1 < k)).length ≤ ps.length := List.length_filter_le ..
        have l1' : (earlyP k ps).length ≤ ps.length := List.length_filter_le ..
        refine do_setLc rfl sc_rounds_start.nd 4 hs1 (lc_ifM (xs := ps) (g := pD) (kp := fun c => decide (c.1 < k)) (f := pD) (us := fun c => [(5, pD c)]) (own := [("pair", 5)]) rfl hs1 (ei_tup (ds := ps.map pD) (ev hs1 3) (psD_nols _)) (psD_nols _) (by omega)
          (fun _ _ _ _ _ i _ => tg_name sc_rounds_start.nd 5) (fun i _ u hu => by rw [List.mem_singleton.mp hu]; exact List.mem_cons_self) (fun _ _ _ _ _ c hc σ' H' e hs' => et_lt (ee_ixT (d := .int c.1) (ev hs' 5) ee_int rfl) (ev hs' 2)) (fun _ _ _ _ _ c hc _ σ' H' e hs' => ev hs' 5) (fun _ _ _ => rfl)) fun pa va σ2 H2 hpa e2 h2' hd2 hs2 => ?_
        have cm : CMul ((n : Nat) - 1) a := .inl ⟨by omega, by omega⟩
        refine do_ret (d := psD (desc (earlyP k ps ++ [(k, ((n : Int) - 1) * a + (lt ps).2)]))) (ee_calA (f_descending T) hr (earlyP k ps ++ [(k, ((n : Int) - 1) * a + (lt ps).2)]) (er_cons (EvN.v (.of_eq (en_catP (ep_slot hs2 4 ⟨va, h2', hd2⟩) (EvN.ep (en_lst (ds := [pD (k, ((n : Int) - 1) * a + (lt ps).2)]) (ea_cons (ee_tup (ea_cons (ev hs2 2) (ea_cons (ee_add (ee_mul (ee_sub (ev hs2 0) ee_int) (ev hs2 1) cm) (ee_ixT (d := .int (lt ps).2) (ee_ixT (ds := ps.map pD) (ev hs2 3) (ee_neg ee_int) (at_lt hne)) ee_int rfl)) ea_nil))) ea_nil))) (by rw [List.length_map, List.length_singleton]; omega))
          (show (ps.filter fun c => decide (c.1 < k)).map pD ++ [pD (k, ((n : Int) - 1) * a + (lt ps).2)] = _ by rw [List.map_append]; rfl))) er_nil) (by show (earlyP k ps ++ _).length ≤ 10000; rw [List.length_append, List.length_singleton]; omega)) fun v H3 e3 hv => q v H3 (e1.trans (e2.trans e3)) ?_
        unfold RSz
        rw [if_neg (of_decide_eq_false hb)]
        exact hv
theorem f_repeat_profile_by : Fn P w K mg base 3 "repeat_profile_by" ["count", "profile"] (spP K (fun x : Nat × Pf => [.int (x.1 : Nat), pfD x.2]) (fun x => x.1 ≤ 1000 ∧ okL x.2) fun x => pfD (repF x.1 x.2)) :=
  fn_ok T.d_repeat_profile_by sc_repeat_profile_by hb_repeat_profile_by (sp_len fun _ => rfl) fun f cdv A outer s H vs Q E hr h => by
    obtain ⟨⟨n, p⟩, ⟨hn, p1, p2, p3, p4⟩, hd', q⟩ := h
    simp only at hn p1 p2 p3 p4
    have q : ∀ v H', Ex H H' → Dp K H' v (pfD (repF n p)) → Q v H' := q
    obtain ⟨v, v1, rfl, h1, h2⟩ := dps2 hd'
    have hs : SR K H (start n_repeat_profile_by [v, v1]) [some (.py (.int (n : Nat))), some (.py (pfD p)), none, none, none, none, none, none] := .py h1 rfl (.py h2 (pfD_nol p) (.no (.no (.no (.no (.no (.no .nil)))))))
    obtain ⟨el, he1, he2⟩ := T.empty
    refine do_when (et_eqI (ev hs 0) ee_int) (fun hb H1 e1 => ?_) (fun hb H1 e1 => ?_)
    · have hz : n = 0 := by have := of_decide_eq_true hb; omega
      refine do_ret (d := pfD emptyP) (ee_gtup (ds := [.int 0, .int 0, .tuple [.tuple [.int 0, .int 0]], .tuple [.tuple [.int 0, .int 0]]]) he1 he2) fun v H2 e2 hv => q v H2 (e1.trans e2) ?_
      unfold repF
      rw [if_pos hz]
      exact hv
    · have hz : n ≠ 0 := by have := of_decide_eq_false hb; omega
      refine do_asgG (hs.ex e1) (ev (hs.ex e1) 1) (pfD_nol p) (tg_tup (ds := [.int p.n, .int p.k, psD p.s, psD p.e]) rfl (tgs_cons (tg_name sc_repeat_profile_by.nd 2) (tgs_cons (tg_name sc_repeat_profile_by.nd 3) (tgs_cons (tg_name sc_repeat_profile_by.nd 4) (tgs_cons (tg_name sc_repeat_profile_by.nd 5) tgs_nil))))) fun σ2 H2 e2 hs2 => ?_
      refine do_asg sc_repeat_profile_by.nd 6 hs2 (ee_mul (ev hs2 0) (ev hs2 2) (.inl ⟨by omega, by omega⟩)) rfl fun σ3 H3 e3 hs3 => ?_
      have nm : mv p.e (0 - p.n) ≠ [] := mv_nil p2
      have lm : (mv p.e (0 - p.n)).length = p.e.length := mv_len _ _
      generalize hbk : RSz (((n : Int) - 1) * (0 - p.n)) (0 - p.n) (p.k - p.n) (mv p.e (0 - p.n)) = bk
      have lb : bk.length ≤ 10000 := by
        rw [← hbk]
        unfold RSz
        split
        · omega
        · refine Nat.le_trans (K30m.desc_length (Q := earlyP (p.k - p.n) (mv p.e (0 - p.n)) ++ [(p.k - p.n, ((n : Int) - 1) * (0 - p.n) + (lt (mv p.e (0 - p.n))).2)]) (.refl _) (.refl _)) ?_
          rw [List.length_append, List.length_singleton]
          have : (earlyP (p.k - p.n) (mv p.e (0 - p.n))).length ≤ (mv p.e (0 - p.n)).length := by unfold earlyP; exact List.length_filter_le ..
          omega
      refine do_asg (d := psD bk) sc_repeat_profile_by.nd 7 hs3 (ee_cal (f_rounds_start T) hr (n, 0 - p.n, p.k - p.n, mv p.e (0 - p.n)) (ea_cons (ev hs3 0) (ea_cons (ee_sub ee_int (ev hs3 2)) (ea_cons (ee_sub (ev hs3 3) (ev hs3 2)) (ea_cons (ee_cal (d := psD (mv p.e (0 - p.n))) (f_moved T) hr (p.e, 0 - p.n) (ea_cons (ev hs3 5) (ea_cons (ee_sub ee_int (ev hs3 2)) ea_nil)) (by show p.e.length ≤ 10000; omega)) ea_nil)))) ⟨hn, nm, by show (mv p.e (0 - p.n)).length ≤ 2000; omega⟩ (hd := by rw [← hbk])) (psD_nol _) fun σ4 H4 e4 hs4 => ?_
      refine do_ret (d := pfD (repF n p)) (.of_eq (ee_tup (ea_cons (ev hs4 6) (ea_cons (ee_add (ev hs4 3) (ee_max2 rfl T.b_max ee_int (ee_sub (ev hs4 6) (ev hs4 2)))) (ea_cons (ee_call (f_rounds_start T) hr (n, p.n, p.k, p.s) (ea_cons (ev hs4 0) (ea_cons (ev hs4 2) (ea_cons (ev hs4 3) (ea_cons (ev hs4 4) ea_nil)))) ⟨hn, p1, p3⟩) (ea_cons (ee_cal (d := psD (mv bk ((n : Int) * p.n))) (f_moved T) hr (bk, (n : Int) * p.n) (ea_cons (ev hs4 7) (ea_cons (ev hs4 6) ea_nil)) lb) ea_nil))))) ?_) fun v H5 e5 hv => q v H5 (e1.trans (e2.trans (e3.trans (e4.trans e5)))) hv
      have ez : ((n : Int) - 1) * p.n + p.n = (n : Int) * p.n := by rw [Int.sub_mul, Int.one_mul]; omega
      have ez2 : (n : Int) * p.n - p.n = ((n : Int) - 1) * p.n := by rw [Int.sub_mul, Int.one_mul]
      have ez3 : ((n : Int) - 1) * (0 - p.n) = -(((n : Int) - 1) * p.n) := by rw [Int.zero_sub, Int.mul_neg]
      unfold repF
      rw [if_neg hz, ← hbk, ez2, ez3, Int.zero_sub]
      show PyData.tuple _ = PyData.tuple [.int (((n : Int) - 1) * p.n + p.n), .int (p.k + max 0 (((n : Int) - 1) * p.n)), psD (RSz (((n : Int) - 1) * p.n) p.n p.k p.s), psD (mv (RSz (-(((n : Int) - 1) * p.n)) (-p.n) (p.k - p.n) (mv p.e (-p.n))) (((n : Int) - 1) * p.n + p.n))]
      rw [ez]
theorem f_copies_start : Fn P w K mg base 2 "copies_start" ["count", "start"] (spP K (fun x : Nat × List Pr => [.int (x.1 : Nat), psD x.2]) (fun x => x.1 ≤ 1000 ∧ x.2.length ≤ 2000) fun x => psD (desc (copS x.1 x.2))) :=
  fn_ok T.d_copies_start sc_copies_start hb_copies_start (sp_len fun _ => rfl) fun f cdv A outer s H vs Q E hr h => by
    obtain ⟨⟨n, ps⟩, ⟨hn, hlen⟩, hd', q⟩ := h
    simp only at hn hlen
    obtain ⟨v, v1, rfl, h1, h2⟩ := dps2 hd'
    have hs : SR K H (start n_copies_start [v, v1]) [some (.py (.int (n : Nat))), some (.py (psD ps)), none, none, none, none, none] := .py h1 rfl (.py h2 (psD_nol _) (.no (.no (.no (.no (.no .nil))))))
    refine do_asgN sc_copies_start.nd 2 hs (en_lst ea_nil) fun fa fv σ1 H1 hfa e1 h1' hd1 hs1 => ?_
    refine do_asgG (d := .tuple [.int 0, .int 0]) hs1 (ee_tup (ea_cons ee_int (ea_cons ee_int ea_nil))) rfl (tg_tup rfl (tgs_cons (tg_name sc_copies_start.nd 3) (tgs_cons (tg_name sc_copies_start.nd 4) tgs_nil))) fun σ2 H2 e2 hs2 => ?_
    have h2' := e2 _ _ h1'
    refine do_for (xs := ps) (g := pD) PassesOwn.never rfl [fa] (fun pre => [some (.py (.int (n : Nat))), some (.py (psD ps)), some (.at fa), some (.py (.int (pre.foldl (cmove n) ⟨0, 0, []⟩).cap)), some (.py (.int (pre.foldl (cmove n) ⟨0, 0, []⟩).low)), none, none])
      (fun pre H => LsAt K H fa ((pre.foldl (cmove n) ⟨0, 0, []⟩).pairs.map pD)) (us := fun p => [(5, .int p.1), (6, .int p.2)])
      (ei_tup (ev hs2 1) (psD_nols ps)) (psD_nols ps) (nt1 h2') (fun a ha => by cases ha) (fun p _ => tg_tup rfl (tgs_cons (tg_name sc_copies_start.nd 5) (tgs_cons (tg_name sc_copies_start.nd 6) tgs_nil))) (fun pre H1 H2 e h => h.ex e) hs2 ⟨fv, h2', dps_ex e2 _ _ hd1⟩ ?_ ?_
    · intro pre p post hx σ3 H3 c3 t3 hv3 hs3 N hN
      have ef : (pre ++ [p]).foldl (cmove n) ⟨0, 0, []⟩ = cmove n (pre.foldl (cmove n) ⟨0, 0, []⟩) p := by rw [List.foldl_append]; rfl
      have hfl := cop_len n pre ⟨0, 0, []⟩
      have hpl : pre.length < ps.length := by
        have := congrArg List.length hx
        rw [List.length_append, List.length_cons] at this
        omega
      rw [ef] at hN
      generalize pre.foldl (cmove n) ⟨0, 0, []⟩ = st at hv3 hs3 hN hfl
      have hfl : st.pairs.length = 0 + pre.length := hfl
      obtain ⟨vs2, h3, hd3⟩ := id hv3
      have vlen := dps_length hd3
      rw [List.length_map] at vlen
      refine do_asg sc_copies_start.nd 3 hs3 (ee_max2 rfl T.b_max (ev hs3 3) (ee_add (ev hs3 5) (ee_mul (ee_sub (ev hs3 0) ee_int) (ev hs3 4) (.inl ⟨by omega, by omega⟩)))) rfl fun σ4 H4 e4 hs4 => ?_
      refine do_asg sc_copies_start.nd 4 hs4 (ev hs4 6) rfl fun σ5 H5 e5 hs5 => ?_
      have e35 := e4.trans e5
      refine do_app hs5 2 (e35 _ _ h3) (by omega) (ee_tup (ds := [.int (max st.cap (p.1 + ((n : Int) - 1) * st.low)), .int ((n : Int) * p.2)]) (ea_cons (ev hs5 3) (ea_cons (ee_mul (ev hs5 0) (ev hs5 4) (.inl ⟨by omega, by omega⟩)) ea_nil))) fun v' H6 e6 hv' => ?_
      have e36 := e35.trans e6
      have tx : TX H6 (upd H6 fa (.lst (vs2 ++ [v']))) := TX.upd (e36 _ _ h3) trivial
      refine do_nil (hN _ _ ((Ch.ex e36).trans (Ch.upd List.mem_cons_self)) ?_ ((((hs5.ex e6).tx tx).drop 5).drop 6))
      show LsAt K _ fa ((st.pairs ++ [_]).map pD)
      rw [List.map_append]
      exact lsat_app e36 h3 hd3 hv' (psD_nols _) rfl
    · intro σ3 H3 c3 t3 hv3 hs3
      refine do_ret (d := psD (desc (copS n ps))) (ee_calA (f_descending T) hr (copS n ps) (er_cons (ep_slot hs3 2 hv3).v er_nil) (by
        show (copS n ps).length ≤ 10000
        have := cop_len n ps ⟨0, 0, []⟩
        unfold copS
        rw [this]
        show 0 + ps.length ≤ 10000
        omega)) fun v H4 e4 hv => q v H4 ((Ex.over (e1.trans e2) (no1 (H := H) hfa) c3).trans e4) hv
theorem f_copies_profile_by : Fn P w K mg base 3 "copies_profile_by" ["count", "profile"] (spP K (fun x : Nat × Pf => [.int (x.1 : Nat), pfD x.2]) (fun x => x.1 ≤ 1000 ∧ okL x.2) fun x => pfD (copF x.1 x.2)) :=
  fn_ok T.d_copies_profile_by sc_copies_profile_by hb_copies_profile_by (sp_len fun _ => rfl) fun f cdv A outer s H vs Q E hr h => by
    obtain ⟨⟨n, p⟩, ⟨hn, p1, p2, p3, p4⟩, hd', q⟩ := h
    simp only at hn p1 p2 p3 p4
    have q : ∀ v H', Ex H H' → Dp K H' v (pfD (copF n p)) → Q v H' := q
    obtain ⟨v, v1, rfl, h1, h2⟩ := dps2 hd'
    have hs : SR K H (start n_copies_profile_by [v, v1]) [some (.py (.int (n : Nat))), some (.py (pfD p)), none, none, none, none, none, none, none, none] := .py h1 rfl (.py h2 (pfD_nol p) (.no (.no (.no (.no (.no (.no (.no (.no .nil)))))))))
    obtain ⟨el, he1, he2⟩ := T.empty
    refine do_when (et_eqI (ev hs 0) ee_int) (fun hb H1 e1 => ?_) (fun hb H1 e1 => ?_)
    · have hz : n = 0 := by have := of_decide_eq_true hb; omega
      refine do_ret (d := pfD emptyP) (ee_gtup (ds := [.int 0, .int 0, .tuple [.tuple [.int 0, .int 0]], .tuple [.tuple [.int 0, .int 0]]]) he1 he2) fun v H2 e2 hv => q v H2 (e1.trans e2) ?_
      unfold copF
      rw [if_pos hz]
      exact hv
    · have hz : n ≠ 0 := by have := of_decide_eq_false hb; omega
      refine do_asgG (hs.ex e1) (ev (hs.ex e1) 1) (pfD_nol p) (tg_tup (ds := [.int p.n, .int p.k, psD p.s, psD p.e]) rfl (tgs_cons (tg_name sc_copies_profile_by.nd 2) (tgs_cons (tg_name sc_copies_profile_by.nd 3) (tgs_cons (tg_name sc_copies_profile_by.nd 4) (tgs_cons (tg_name sc_copies_profile_by.nd 5) tgs_nil))))) fun σ2 H2 e2 hs2 => ?_
      refine do_asg sc_copies_profile_by.nd 6 hs2 (ee_mul (ev hs2 0) (ev hs2 2) (.inl ⟨by omega, by omega⟩)) rfl fun σ3 H3 e3 hs3 => ?_
      have cne : ∀ s : List Pr, s ≠ [] → desc (copS n s) ≠ [] := fun s hs => K30m.desc_ne fun z => by
        have := cop_len n s ⟨0, 0, []⟩
        have hz : (copS n s).length = 0 + s.length := this
        rw [z] at hz
        have := List.length_pos_iff.mpr hs
        simp only [List.length_nil] at hz
        omega
      have cl : ∀ s : List Pr, (desc (copS n s)).length ≤ s.length := fun s => Nat.le_trans (K30m.desc_length (.refl _) (.refl _)) (by
        have : (copS n s).length = 0 + s.length := cop_len n s ⟨0, 0, []⟩
        omega)
      refine do_asg (d := psD (desc (copS n p.s))) sc_copies_profile_by.nd 7 hs3 (ee_cal (f_copies_start T) hr (n, p.s) (ea_cons (ev hs3 0) (ea_cons (ev hs3 4) ea_nil)) ⟨hn, p3⟩) (psD_nol _) fun σ4 H4 e4 hs4 => ?_
      have lm : (mv p.e (0 - p.n)).length = p.e.length := mv_len _ _
      have eB : mv (desc (copS n (mv p.e (0 - p.n)))) ((n : Int) * p.n) = copB n p := by unfold copB; rw [Int.zero_sub]
      refine do_asg (d := psD (copB n p)) sc_copies_profile_by.nd 8 hs4 (ee_cal (f_moved T) hr (desc (copS n (mv p.e (0 - p.n))), (n : Int) * p.n) (ea_cons (ee_cal (f_copies_start T) hr (n, mv p.e (0 - p.n)) (ea_cons (ev hs4 0) (ea_cons (ee_cal (f_moved T) hr (p.e, 0 - p.n) (ea_cons (ev hs4 5) (ea_cons (ee_sub ee_int (ev hs4 2)) ea_nil)) (by show p.e.length ≤ 10000; omega)) ea_nil)) ⟨hn, by show (mv p.e (0 - p.n)).length ≤ 2000; omega⟩) (ea_cons (ev hs4 6) ea_nil)) (by show (desc (copS n (mv p.e (0 - p.n)))).length ≤ 10000; have := cl (mv p.e (0 - p.n)); omega) (hd := by rw [← eB])) (psD_nol _) fun σ5 H5 e5 hs5 => ?_
      refine do_asg (d := .int (p.k + ((n : Int) - 1) * (lt p.s).2)) sc_copies_profile_by.nd 9 hs5 (ee_add (ev hs5 3) (ee_mul (ee_sub (ev hs5 0) ee_int) (ee_ixT (d := .int (lt p.s).2) (ee_ixT (ds := p.s.map pD) (ev hs5 4) (ee_neg ee_int) (at_lt p1)) ee_int rfl) (.inl ⟨by omega, by omega⟩))) rfl fun σ6 H6 e6 hs6 => ?_
      have nB : copB n p ≠ [] := mv_nil (cne _ (mv_nil p2))
      refine do_ret (d := pfD ⟨(n : Int) * p.n, max (max (p.k + ((n : Int) - 1) * (lt p.s).2) (lt (desc (copS n p.s))).1) (lt (copB n p)).1, desc (copS n p.s), copB n p⟩) (ee_tup (ea_cons (ev hs6 6) (ea_cons (ee_max3 rfl T.b_max (ev hs6 9) (ee_ixT (d := .int (lt (desc (copS n p.s))).1) (ee_ixT (ds := (desc (copS n p.s)).map pD) (ev hs6 7) (ee_neg ee_int) (at_lt (cne _ p1))) ee_int rfl) (ee_ixT (d := .int (lt (copB n p)).1) (ee_ixT (ds := (copB n p).map pD) (ev hs6 8) (ee_neg ee_int) (at_lt nB)) ee_int rfl)) (ea_cons (ev hs6 7) (ea_cons (ev hs6 8) ea_nil))))) fun v H7 e7 hv => q v H7 (e1.trans (e2.trans (e3.trans (e4.trans (e5.trans (e6.trans e7)))))) ?_
      unfold copF
      rw [if_neg hz]
      exact hv
end
end K30
/-! The program's profile as a function; it is the job's. -/
namespace K30
open K30m (Job jobS jobsS jobLat jobLats Pf hd lt Valleys Strict Good mv desc startBehind endBehind two opP JInv JointOk RSz repZ emptyP earlyP Covers Sys Lat Lats Pfs IsPf seqL parL unitS stepP seqS Reach)
mutual
  def profJ : Job → Pf
    | .step v => stepP v
    | .seq ps => (profJs ps).foldl two emptyP
    | .par ps => parF (profJs ps)
    | .rep n j => repF n (profJ j)
    | .cop n j => copF n (profJ j)
  def profJs : List Job → List Pf
    | [] => []
    | j :: js => profJ j :: profJs js
end
theorem profJs_map : ∀ js : List Job, profJs js = js.map profJ
  | [] => rfl
  | j :: js => by
    show profJ j :: profJs js = _
    rw [profJs_map js]; rfl
theorem sb_len {p q : Pf} (v : Valleys p.s) (h : (lt p.s).1 ≤ p.k) : (startBehind p q).length ≤ p.s.length + q.s.length := by
  have hm := K30m.lt_eq v.1
  have hlm : lt p.s ∈ p.s := List.mem_of_getLast? hm
  have lq : ((mv q.s p.n).map fun c => (max p.k c.1, c.2)).length = q.s.length := by rw [List.length_map, mv_len]
  unfold startBehind
  by_cases hlt : (lt p.s).1 < p.k
  · have all : ∀ c ∈ p.s, c.1 < p.k := fun c hc => by
      have := (K30m.Valleys.last_le v c hc).1
      omega
    refine Nat.le_trans (K30m.desc_length (Q := p.s ++ (mv q.s p.n).map fun c => (max p.k c.1, c.2)) (Covers.of_sub fun c hc => ?_) (fun c hc => ?_)) (by rw [List.length_append, lq]; exact Nat.le_refl _)
    · rcases List.mem_append.mp hc with hc | hc
      · exact List.mem_append_left _ (List.mem_append_left _ (List.mem_filter.mpr ⟨hc, decide_eq_true (all c hc)⟩))
      · exact List.mem_append_right _ hc
    · rcases List.mem_append.mp hc with hc | hc
      · rcases List.mem_append.mp hc with hc | hc
        · exact ⟨c, List.mem_append_left _ (List.mem_filter.mp hc).1, Int.le_refl _, Int.le_refl _⟩
        · rw [List.mem_singleton.mp hc]
          exact ⟨lt p.s, List.mem_append_left _ hlm, by show (lt p.s).1 ≤ p.k; omega, Int.le_refl _⟩
      · exact ⟨c, List.mem_append_right _ hc, Int.le_refl _, Int.le_refl _⟩
  · refine Nat.le_trans (K30m.desc_length (Covers.refl _) (Covers.refl _)) ?_
    rw [List.length_append, List.length_append, lq, List.length_singleton]
    have : (p.s.filter fun c => decide (c.1 < p.k)).length < p.s.length := by
      refine List.length_filter_lt_length_iff_exists.mpr ⟨lt p.s, hlm, ?_⟩
      rw [decide_eq_false hlt]
      decide
    omega
theorem two_len {p q : Pf} (gp : Good p) (gq : Good q) : (two p q).s.length ≤ p.s.length + q.s.length ∧ (two p q).e.length ≤ p.e.length + q.e.length := by
  refine ⟨sb_len gp.vs gp.ks, ?_⟩
  show (endBehind p q).length ≤ _
  rw [K30m.endBehind_eq gq.ve.1, mv_len]
  have := sb_len (p := opP q) (q := opP p) (K30m.mv_valleys gq.ve) (by
    show (lt (mv q.e (-q.n))).1 ≤ q.k - q.n
    rw [K30m.lt_mv gq.ve.1]
    have := gq.ke
    show (lt q.e).1 + -q.n ≤ q.k - q.n
    omega)
  have e1 : (opP q).s.length = q.e.length := mv_len _ _
  have e2 : (opP p).s.length = p.e.length := mv_len _ _
  omega
def sumS (ps : List Pf) : Nat := (ps.map fun p => p.s.length).sum
def sumE (ps : List Pf) : Nat := (ps.map fun p => p.e.length).sum
theorem sumS_cons (p : Pf) (ps : List Pf) : sumS (p :: ps) = p.s.length + sumS ps := by unfold sumS; rw [List.map_cons, List.sum_cons]
theorem sumE_cons (p : Pf) (ps : List Pf) : sumE (p :: ps) = p.e.length + sumE ps := by unfold sumE; rw [List.map_cons, List.sum_cons]
def okB (B : Nat) (p : Pf) : Prop := Good p ∧ p.s.length ≤ B ∧ p.e.length ≤ B
theorem fold_len (B : Nat) : ∀ (l : List Sys) (ps : List Pf) (A : Sys) (p : Pf), Lats l → Lat A → Pfs l ps → IsPf A p → p.s.length + sumS ps ≤ B → p.e.length + sumE ps ≤ B →
    (ps.foldl two p).s.length ≤ p.s.length + sumS ps ∧ (ps.foldl two p).e.length ≤ p.e.length + sumE ps ∧ ∀ pre x post, ps = pre ++ x :: post → okB B (pre.foldl two p) ∧ okB B x
  | [], [], _, p, _, _, _, _, _, _ => ⟨Nat.le_add_right _ _, Nat.le_add_right _ _, fun pre x post h => by
    have := congrArg List.length h
    simp at this⟩
  | [], _ :: _, _, _, _, _, h, _, _, _ => h.elim
  | _ :: _, [], _, _, _, _, h, _, _, _ => h.elim
  | C :: l, q :: ps, A, p, L, M, h, hp, b1, b2 => by
    have gp := hp.good M
    have gq := h.1.good L.1
    obtain ⟨t1, t2⟩ := two_len gp gq
    rw [sumS_cons] at b1 ⊢
    rw [sumE_cons] at b2 ⊢
    obtain ⟨i1, i2, i3⟩ := fold_len B l ps (seqS A C) (two p q) L.2 (M.seq L.1) h.2 (K30m.two_ok M L.1 hp h.1) (by omega) (by omega)
    refine ⟨by rw [List.foldl_cons]; omega, by rw [List.foldl_cons]; omega, fun pre x post hx => ?_⟩
    cases pre with
    | nil =>
      have hx : q :: ps = x :: post := hx
      cases hx
      exact ⟨⟨gp, by show p.s.length ≤ B; omega, by show p.e.length ≤ B; omega⟩, gq, by omega, by omega⟩
    | cons y pre =>
      have hx : q :: ps = y :: (pre ++ x :: post) := hx
      cases hx
      exact i3 pre x post rfl
theorem parts_okPs {l : List Sys} {ps : List Pf} (L : Lats l) (h : Pfs l ps) : okParts (ps.map fun p => p.s) ∧ okParts (ps.map fun p => mv p.e (-p.n)) := by
  obtain ⟨v1, v2, v3, v4⟩ := K30m.valid_of L h
  exact ⟨fun v hv => ⟨v2 v hv, (v1 v hv).2⟩, fun v hv => ⟨v4 v hv, (v3 v hv).2⟩⟩
theorem jlen_s (ps : List Pf) : jlen (ps.map fun p => p.s) = sumS ps := by unfold jlen sumS; rw [List.map_map]; rfl
theorem jlen_e (ps : List Pf) : jlen (ps.map fun p => mv p.e (-p.n)) = sumE ps := by
  unfold jlen sumE
  rw [List.map_map]
  congr 1
  exact List.map_congr_left fun p _ => mv_len _ _
theorem jointD_len {parts : List (List Pr)} (h : okParts parts) : (jointD parts).length ≤ 1 + jlen parts ∧ jointD parts ≠ [] := by
  obtain ⟨h1, h2⟩ := jointS_ok h
  refine ⟨Nat.le_trans (K30m.desc_length (Covers.refl _) (Covers.refl _)) (by omega), K30m.desc_ne fun z => ?_⟩
  obtain ⟨p, hp, _⟩ := h1.full 0 (Int.le_refl 0)
  rw [z] at hp
  cases hp
theorem foldl_max_cases (n : Int) (ns : List Int) : (n ≤ ns.foldl max n ∧ ∀ y ∈ ns, y ≤ ns.foldl max n) ∧ (ns.foldl max n = n ∨ ns.foldl max n ∈ ns) :=
  ⟨⟨(foldl_max_ge ns n).1, (foldl_max_ge ns n).2.1⟩, (foldl_max_ge ns n).2.2⟩
theorem parF_ok {l : List Sys} (L : Lats l) {ps : List Pf} (h : Pfs l ps) : IsPf (parL l) (parF ps) ∧ (parF ps).s.length ≤ 1 + sumS ps ∧ (parF ps).e.length ≤ 1 + sumE ps ∧ parS0 ps ≠ [] ∧ parE0 ps ≠ [] := by
  obtain ⟨o1, o2⟩ := parts_okPs L h
  obtain ⟨l1, n1⟩ := jointD_len o1
  obtain ⟨l2, n2⟩ := jointD_len o2
  have jS := (jointS_ok o1).1
  have jE := (jointS_ok o2).1
  rw [jlen_s] at l1
  rw [jlen_e] at l2
  obtain ⟨⟨m1, m2⟩, m3⟩ := foldl_max_cases (lt (parS0 ps)).1 ((lt (parE0 ps)).1 :: ps.map fun p => p.k + lowB ps - (lt p.s).2)
  refine ⟨?_, l1, by show (mv _ _).length ≤ _; rw [mv_len]; exact l2, n1, mv_nil n2⟩
  refine K30m.par_ok L h jS jE m1 (m2 _ List.mem_cons_self) (fun p hp => m2 _ (List.mem_cons_of_mem _ (List.mem_map.mpr ⟨p, hp, rfl⟩))) ?_
  rcases m3 with m | m
  · exact .inl m
  · rcases List.mem_cons.mp m with m | m
    · exact .inr (.inl m)
    · obtain ⟨p, hp, e⟩ := List.mem_map.mp m
      exact .inr (.inr ⟨p, hp, e.symm⟩)
theorem RSz_len (z n k : Int) (s : List Pr) : (RSz z n k s).length ≤ s.length + 1 := by
  unfold RSz
  split
  · omega
  · refine Nat.le_trans (K30m.desc_length (Covers.refl _) (Covers.refl _)) ?_
    rw [List.length_append, List.length_singleton]
    have : (earlyP k s).length ≤ s.length := List.length_filter_le ..
    omega
theorem cfold_ok {n : Nat} (n0 : 0 < n) {v : List Pr} (hv : Valleys v) (h1 : (hd v).1 = 0) (h2 : (hd v).2 ≤ 0) : ∀ (post pre : List Pr) (st : CSt), v = pre ++ post → K30m.CInv n v pre.length st.cap st.low st.pairs → K30m.CInv n v v.length (post.foldl (cmove n) st).cap (post.foldl (cmove n) st).low (post.foldl (cmove n) st).pairs
  | [], pre, st, e, h => by
    rw [List.append_nil] at e
    rw [e]
    have : K30m.CInv n pre pre.length st.cap st.low st.pairs := by
      rw [← e] at h ⊢
      exact h
    rw [e] at h
    exact h
  | q :: post, pre, st, e, h => by
    have hq : v[pre.length]? = some q := by rw [e]; simp
    have hs := K30m.cstep n0 hv h1 h2 h hq
    have := cfold_ok n0 hv h1 h2 post (pre ++ [q]) (cmove n st q) (by rw [e]; simp) (by
      rw [List.length_append, List.length_singleton]
      exact hs)
    exact this
theorem copS_ok {n : Nat} (n0 : 0 < n) {v : List Pr} (hv : Valleys v) (h1 : (hd v).1 = 0) (h2 : (hd v).2 ≤ 0) : JointOk (List.replicate n v) (copS n v) :=
  K30m.cend hv (cfold_ok n0 hv h1 h2 v [] ⟨0, 0, []⟩ rfl (K30m.cinit n v))
theorem desc_len (P : List Pr) : (desc P).length ≤ P.length := K30m.desc_length (Covers.refl _) (Covers.refl _)
theorem copS_len (n : Nat) (s : List Pr) : (copS n s).length = s.length := by
  have : (copS n s).length = 0 + s.length := cop_len n s ⟨0, 0, []⟩
  omega
theorem copF_ok {A : Sys} (L : Lat A) {p : Pf} (h : IsPf A p) (n : Nat) : IsPf (parL (List.replicate n A)) (copF n p) ∧ (copF n p).s.length ≤ p.s.length + 1 ∧ (copF n p).e.length ≤ p.e.length + 1 := by
  by_cases hn : n = 0
  · subst hn
    have e : copF 0 p = emptyP := if_pos rfl
    rw [e]
    exact ⟨K30m.empty_ok, Nat.le_add_left _ _, Nat.le_add_left _ _⟩
  · have n0 : 0 < n := Nat.pos_of_ne_zero hn
    have g := h.good L
    have jS := copS_ok n0 g.vs g.s1 g.s2
    have jE := copS_ok n0 (v := mv p.e (-p.n)) (K30m.mv_valleys g.ve) (by
      rw [K30m.hd_mv g.ve.1]
      have := g.e1
      show (hd p.e).1 + -p.n = 0
      omega) (by
      rw [K30m.hd_mv g.ve.1]
      have := g.e2
      show (hd p.e).2 + -p.n ≤ 0
      omega)
    have key := K30m.cop_ok L h n0 jS jE
    have e : copF n p = ⟨(n : Int) * p.n, max (p.k + ((n : Int) - 1) * (lt p.s).2) (max (lt (desc (copS n p.s))).1 (lt (mv (desc (copS n (mv p.e (-p.n)))) ((n : Int) * p.n))).1), desc (copS n p.s), mv (desc (copS n (mv p.e (-p.n)))) ((n : Int) * p.n)⟩ := by
      unfold copF
      rw [if_neg hn, Int.max_assoc]
      rfl
    rw [e]
    refine ⟨key, ?_, ?_⟩
    · have := desc_len (copS n p.s)
      rw [copS_len] at this
      show (desc (copS n p.s)).length ≤ _
      omega
    · show (mv _ _).length ≤ _
      rw [mv_len]
      have := desc_len (copS n (mv p.e (-p.n)))
      rw [copS_len, mv_len] at this
      omega
theorem repF_ok {A : Sys} (L : Lat A) {p : Pf} (h : IsPf A p) (n : Nat) : IsPf (seqL (List.replicate n A)) (repF n p) ∧ (repF n p).s.length ≤ p.s.length + 1 ∧ (repF n p).e.length ≤ p.e.length + 1 := by
  by_cases hn : n = 0
  · subst hn
    have e : repF 0 p = emptyP := if_pos rfl
    rw [e]
    exact ⟨K30m.empty_ok, Nat.le_add_left _ _, Nat.le_add_left _ _⟩
  · obtain ⟨m, rfl⟩ : ∃ m, n = m + 1 := ⟨n - 1, by omega⟩
    have e : repF (m + 1) p = repZ ((m : Int) * p.n) p := by
      unfold repF
      rw [if_neg hn, show ((m + 1 : Nat) : Int) - 1 = m by omega]
    rw [e]
    refine ⟨K30m.rep_ok L h m, RSz_len _ _ _ _, ?_⟩
    show (mv _ _).length ≤ _
    rw [mv_len]
    have := RSz_len (-((m : Int) * p.n)) (-p.n) (p.k - p.n) (mv p.e (-p.n))
    rw [mv_len] at this
    exact this
mutual
  theorem prof_ok : ∀ j : Job, IsPf (jobS j) (profJ j) ∧ (profJ j).s.length ≤ nodes j ∧ (profJ j).e.length ≤ nodes j
    | .step v => by
      refine ⟨K30m.step_ok v, ?_, ?_⟩ <;> (unfold profJ K30m.stepP nodes; split <;> exact Nat.le_refl 1)
    | .seq ps => by
      obtain ⟨h, h1, h2⟩ := profs_ok ps
      obtain ⟨i1, i2, _⟩ := fold_len (1 + nodesS ps) (jobsS ps) (profJs ps) unitS emptyP (jobLats ps) Lat.unit h K30m.empty_ok (by show 1 + _ ≤ _; omega) (by show 1 + _ ≤ _; omega)
      have e1 : emptyP.s.length = 1 := rfl
      have e2 : emptyP.e.length = 1 := rfl
      exact ⟨K30m.seqL_ok (jobLats ps) h, by show _ ≤ 1 + nodesS ps; exact Nat.le_trans i1 (by omega), by show _ ≤ 1 + nodesS ps; exact Nat.le_trans i2 (by omega)⟩
    | .par ps => by
      obtain ⟨h, h1, h2⟩ := profs_ok ps
      obtain ⟨i1, i2, i3, _, _⟩ := parF_ok (jobLats ps) h
      exact ⟨i1, by show _ ≤ 1 + nodesS ps; exact Nat.le_trans i2 (by omega), by show _ ≤ 1 + nodesS ps; exact Nat.le_trans i3 (by omega)⟩
    | .rep n j => by
      obtain ⟨h, h1, h2⟩ := prof_ok j
      obtain ⟨i1, i2, i3⟩ := repF_ok (jobLat j) h n
      exact ⟨i1, by show _ ≤ 1 + nodes j; exact Nat.le_trans i2 (by omega), by show _ ≤ 1 + nodes j; exact Nat.le_trans i3 (by omega)⟩
    | .cop n j => by
      obtain ⟨h, h1, h2⟩ := prof_ok j
      obtain ⟨i1, i2, i3⟩ := copF_ok (jobLat j) h n
      exact ⟨i1, by show _ ≤ 1 + nodes j; exact Nat.le_trans i2 (by omega), by show _ ≤ 1 + nodes j; exact Nat.le_trans i3 (by omega)⟩
  theorem profs_ok : ∀ js : List Job, Pfs (jobsS js) (profJs js) ∧ sumS (profJs js) ≤ nodesS js ∧ sumE (profJs js) ≤ nodesS js
    | [] => ⟨trivial, Nat.le_refl _, Nat.le_refl _⟩
    | j :: js => by
      obtain ⟨h, h1, h2⟩ := prof_ok j
      obtain ⟨i, i1, i2⟩ := profs_ok js
      refine ⟨⟨h, i⟩, ?_, ?_⟩
      · show sumS (profJ j :: profJs js) ≤ nodes j + nodesS js
        rw [sumS_cons]; omega
      · show sumE (profJ j :: profJs js) ≤ nodes j + nodesS js
        rw [sumE_cons]; omega
end
theorem prof_good (j : Job) : Good (profJ j) := (prof_ok j).1.good (jobLat j)
end K30
namespace K30
open PySem PySem.Spec PyProof.Rows L2 Evl RZ
open K30m (Job jobS jobsS jobLat jobLats Lat unitS Pf hd lt Valleys Strict Good mv desc two emptyP)
theorem profJs_nols (js : List Job) : noLs (js.map fun i => pfD (profJ i)) = true := noLs_mem.mpr fun z hz => by
  obtain ⟨p, _, rfl⟩ := List.mem_map.mp hz
  exact pfD_nol _
theorem okB_L {B : Nat} {p : Pf} (h : okB B p) (hB : B ≤ 2000) : okL p := ⟨h.1.vs.1, h.1.ve.1, Nat.le_trans h.2.1 hB, Nat.le_trans h.2.2 hB⟩
theorem prof_okL {j : Job} (h : nodes j ≤ 400) : okL (profJ j) := by
  obtain ⟨_, h1, h2⟩ := prof_ok j
  have g := prof_good j
  exact ⟨g.vs.1, g.ve.1, by omega, by omega⟩
theorem prof_okP {j : Job} (h : nodes j ≤ 400) : okP (profJ j) := by
  obtain ⟨_, h1, h2⟩ := prof_ok j
  exact ⟨prof_good j, by omega, by omega⟩
theorem seq_pre {js : List Job} (h : nodesS js ≤ 399) : ∀ pre x post, profJs js = pre ++ x :: post → okL (pre.foldl two emptyP) ∧ okL x := fun pre x post hx => by
  obtain ⟨h0, h1, h2⟩ := profs_ok js
  have e1 : emptyP.s.length = 1 := rfl
  have e2 : emptyP.e.length = 1 := rfl
  obtain ⟨_, _, i3⟩ := fold_len 400 (jobsS js) (profJs js) unitS emptyP (jobLats js) Lat.unit h0 K30m.empty_ok (by omega) (by omega)
  obtain ⟨a, b⟩ := i3 pre x post hx
  exact ⟨okB_L a (by omega), okB_L b (by omega)⟩
theorem par_pre {js : List Job} (h : nodesS js ≤ 399) : okPar (profJs js) := by
  obtain ⟨h0, h1, h2⟩ := profs_ok js
  obtain ⟨o1, o2⟩ := parts_okPs (jobLats js) h0
  obtain ⟨_, i2, i3, i4, i5⟩ := parF_ok (jobLats js) h0
  have hl : (profJs js).length ≤ 399 := by
    rw [profJs_map, List.length_map]
    have := len_nodesS js
    omega
  refine ⟨fun p hp => ?_, ⟨o1, by rw [List.length_map]; omega, by rw [jlen_s]; omega⟩, ⟨o2, by rw [List.length_map]; omega, by rw [jlen_e]; omega⟩, i4, i5, by have : (parE0 (profJs js)).length ≤ 1 + sumE (profJs js) := i3; omega⟩
  rw [profJs_map] at hp
  obtain ⟨j, hj, rfl⟩ := List.mem_map.mp hp
  have := nodesS_mem hj
  exact prof_okL (by omega)
section
variable {P : Program} {w : World} {K : PySem.W.Frag} {mg : Str → Option Value} {base : Heap} (T : Tops K mg)
include T
abbrev prfl (d k : Nat) (P : Program) (w : World) (K : PySem.W.Frag) (mg : Str → Option Value) (base : Heap) : Prop := Fn P w K mg base k "profile_by" ["job"] (spP K (fun j : Job => [enc j]) (fun j => depth j ≤ d ∧ nodes j ≤ 400 ∧ okJ j) fun j => pfD (profJ j))
theorem f_profile_by : ∀ d : Nat, prfl d (d + 5) P w K mg base
  | 0 => by
    refine fn_ok T.d_profile_by sc_profile_by hb_profile_by (sp_len fun _ => rfl) fun f cdv A outer s H vs Q E hr h => ?_
    obtain ⟨j, ⟨h1, _⟩, _⟩ := h
    have := depth_pos j
    omega
  | d + 1 => by
    have F := f_profile_by d
    refine fn_ok (k := d + 5) T.d_profile_by sc_profile_by hb_profile_by (sp_len fun _ => rfl) fun f cdv A outer s H vs Q E hr h => ?_
    obtain ⟨j, ⟨hd1, hno, hok⟩, hd', q⟩ := h
    obtain ⟨v, rfl, h1⟩ := dps1 hd'
    have q2 : ∀ v H3, Ex H H3 → Dp K H3 v (pfD (profJ j)) → Q v H3 := q
    have hs : SR K H (start n_profile_by [v]) [some (.py (enc j)), none, none, none, none] := .py h1 (enc_nol j) (.no (.no (.no (.no .nil))))
    refine do_when (et_val (ee_call (f_is_integer T) hr (enc j) (ea_cons (ev hs 0) ea_nil) (enc_nol j) (by omega))) (fun hb H1 e1 => ?_) (fun hb H1 e1 => ?_)
    · cases j with
      | step x => exact do_ret (d := pfD (profJ (.step x))) (ee_cal (f_step_profile_by T) hr x (ea_cons (ev (hs.ex e1) 0) ea_nil) trivial (by omega)) fun v H2 e2 hv => q2 v H2 (e1.trans e2) hv
      | _ => cases hb
    · have hs1 := hs.ex e1
      have comp : ∀ (js : List Job) (g : Str) (H2 : Hp) (σ : L2.St) (B : Cx → Prop), True := fun _ _ _ _ _ => trivial
      cases j with
      | step x => cases hb
      | seq js =>
        have e : depth (.seq js) = 1 + depthS js := rfl
        have e' : nodes (.seq js) = 1 + nodesS js := rfl
        have hok' : okJs js := hok
        have hs1 : SR K H1 (start n_profile_by [v]) [some (.py (.tuple [.str "seq", .tuple (encs js)])), none, none, none, none] := hs1
        have hl := len_nodesS js
        refine do_if (t := true) (.of_eq (et_eqS (ee_ixT (d := .str "seq") (ev hs1 0) ee_int rfl) ee_str) (by decide)) (fun _ H2 e2 => ?_) (fun h => by cases h)
        have hs2 := hs1.ex e2
        exact do_ret (d := pfD (profJ (.seq js))) (ee_calA (f_seq_profiles_by T) hr (profJs js) (er_cons (EvN.v (.of_eq (en_lc rfl sc_profile_by.nd (lc_allM (xs := js) (g := enc) (f := fun i => pfD (profJ i)) (us := fun i => [(4, enc i)]) (own := [("part", 4)]) rfl hs2 (encs_map js ▸ ei_tup (ee_ixT (d := .tuple (encs js)) (ev hs2 0) ee_int rfl) (encs_nol js)) (encs_map js ▸ encs_nol js) (by omega)
          (fun _ _ _ _ _ i _ => tg_name sc_profile_by.nd 4) (fun i _ u hu => by rw [List.mem_singleton.mp hu]; exact List.mem_cons_self) (fun _ _ _ _ _ i hi σ' H' e hs' => ee_cal F hr i (ea_cons (ev hs' 4) ea_nil) ⟨by have := depthS_mem hi; omega, by have := nodesS_mem hi; omega, okJs_mem.mp hok' i hi⟩ (Nat.le_refl _)) (fun i _ => pfD_nol _))) (by rw [profJs_map, List.map_map]; rfl))) er_nil) (seq_pre (by omega)) (by omega)) fun v H3 e3 hv => q2 v H3 (e1.trans (e2.trans e3)) hv
      | par js =>
        have e : depth (.par js) = 1 + depthS js := rfl
        have e' : nodes (.par js) = 1 + nodesS js := rfl
        have hok' : okJs js := hok
        have hs1 : SR K H1 (start n_profile_by [v]) [some (.py (.tuple [.str "par", .tuple (encs js)])), none, none, none, none] := hs1
        have hl := len_nodesS js
        refine do_not (.of_eq (et_eqS (ee_ixT (d := .str "par") (ev hs1 0) ee_int rfl) ee_str) (by decide)) fun H0 e0 => ?_
        have hs0 := hs1.ex e0
        refine do_if (t := true) (.of_eq (et_eqS (ee_ixT (d := .str "par") (ev hs0 0) ee_int rfl) ee_str) (by decide)) (fun _ H2 e2 => ?_) (fun h => by cases h)
        have hs2 := hs0.ex e2
        exact do_ret (d := pfD (profJ (.par js))) (ee_calA (f_par_profiles_by T) hr (profJs js) (er_cons (EvN.v (.of_eq (en_lc rfl sc_profile_by.nd (lc_allM (xs := js) (g := enc) (f := fun i => pfD (profJ i)) (us := fun i => [(4, enc i)]) (own := [("part", 4)]) rfl hs2 (encs_map js ▸ ei_tup (ee_ixT (d := .tuple (encs js)) (ev hs2 0) ee_int rfl) (encs_nol js)) (encs_map js ▸ encs_nol js) (by omega)
          (fun _ _ _ _ _ i _ => tg_name sc_profile_by.nd 4) (fun i _ u hu => by rw [List.mem_singleton.mp hu]; exact List.mem_cons_self) (fun _ _ _ _ _ i hi σ' H' e hs' => ee_cal F hr i (ea_cons (ev hs' 4) ea_nil) ⟨by have := depthS_mem hi; omega, by have := nodesS_mem hi; omega, okJs_mem.mp hok' i hi⟩ (Nat.le_refl _)) (fun i _ => pfD_nol _))) (by rw [profJs_map, List.map_map]; rfl))) er_nil) (par_pre (by omega)) (by omega)) fun v H3 e3 hv => q2 v H3 (e1.trans (e0.trans (e2.trans e3))) hv
      | rep n i =>
        have e : depth (.rep n i) = 1 + depth i := rfl
        have e' : nodes (.rep n i) = 1 + nodes i := rfl
        have hs1 : SR K H1 (start n_profile_by [v]) [some (.py (.tuple [.str "repeat", .int (n : Nat), enc i])), none, none, none, none] := hs1
        refine do_not (.of_eq (et_eqS (ee_ixT (d := .str "repeat") (ev hs1 0) ee_int rfl) ee_str) (by decide)) fun H0 e0 => ?_
        have hs0 := hs1.ex e0
        refine do_not (.of_eq (et_eqS (ee_ixT (d := .str "repeat") (ev hs0 0) ee_int rfl) ee_str) (by decide)) fun H2 e2 => ?_
        have hs2 := hs0.ex e2
        refine do_asgG (d := .tuple [.str "repeat", .int (n : Nat), enc i]) hs2 (ev hs2 0) (enc_nol (.rep n i)) (tg_tup rfl (tgs_cons (tg_name sc_profile_by.nd 1) (tgs_cons (tg_name sc_profile_by.nd 2) (tgs_cons (tg_name sc_profile_by.nd 3) tgs_nil)))) fun σ3 H3 e3 hs3 => ?_
        refine do_not (.of_eq (et_eqS (K30.ev (d := .str "repeat") hs3 1) ee_str) (by decide)) fun H4 e4 => ?_
        have hs4 := hs3.ex e4
        exact do_ret (d := pfD (profJ (.rep n i))) (ee_cal (f_repeat_profile_by T) hr (n, profJ i) (ea_cons (K30.ev hs4 2) (ea_cons (ee_cal F hr i (ea_cons (K30.ev hs4 3) ea_nil) ⟨by omega, by omega, hok.2.2⟩ (Nat.le_refl _)) ea_nil)) ⟨hok.1, prof_okL (by omega)⟩ (by omega)) fun v H5 e5 hv => q2 v H5 (e1.trans (e0.trans (e2.trans (e3.trans (e4.trans e5))))) hv
      | cop n i =>
        have e : depth (.cop n i) = 1 + depth i := rfl
        have e' : nodes (.cop n i) = 1 + nodes i := rfl
        have hs1 : SR K H1 (start n_profile_by [v]) [some (.py (.tuple [.str "copies", .int (n : Nat), enc i])), none, none, none, none] := hs1
        refine do_not (.of_eq (et_eqS (ee_ixT (d := .str "copies") (ev hs1 0) ee_int rfl) ee_str) (by decide)) fun H0 e0 => ?_
        have hs0 := hs1.ex e0
        refine do_not (.of_eq (et_eqS (ee_ixT (d := .str "copies") (ev hs0 0) ee_int rfl) ee_str) (by decide)) fun H2 e2 => ?_
        have hs2 := hs0.ex e2
        refine do_asgG (d := .tuple [.str "copies", .int (n : Nat), enc i]) hs2 (ev hs2 0) (enc_nol (.cop n i)) (tg_tup rfl (tgs_cons (tg_name sc_profile_by.nd 1) (tgs_cons (tg_name sc_profile_by.nd 2) (tgs_cons (tg_name sc_profile_by.nd 3) tgs_nil)))) fun σ3 H3 e3 hs3 => ?_
        refine do_if (t := true) (.of_eq (et_eqS (K30.ev (d := .str "copies") hs3 1) ee_str) (by decide)) (fun _ H4 e4 => ?_) (fun h => by cases h)
        have hs4 := hs3.ex e4
        exact do_ret (d := pfD (profJ (.cop n i))) (ee_cal (f_copies_profile_by T) hr (n, profJ i) (ea_cons (K30.ev hs4 2) (ea_cons (ee_cal F hr i (ea_cons (K30.ev hs4 3) ea_nil) ⟨by omega, by omega, hok.2.2⟩ (Nat.le_refl _)) ea_nil)) ⟨hok.1, prof_okL (by omega)⟩ (by omega)) fun v H5 e5 hv => q2 v H5 (e1.trans (e0.trans (e2.trans (e3.trans (e4.trans e5))))) hv
theorem f_profile : Fn P w K mg base 59 "profile" ["job"] (spP K (fun j : Job => [enc j]) (fun j => okM j 13) fun j => pfD (profJ j)) :=
  fn_ok T.d_profile sc_profile hb_profile (sp_len fun _ => rfl) fun f cdv A outer s H vs Q E hr h => by
    obtain ⟨j, hok, hd', q⟩ := h
    obtain ⟨v, rfl, h1⟩ := dps1 hd'
    have hs : SR K H (start n_profile [v]) [some (.py (enc j))] := .py h1 (enc_nol j) .nil
    refine do_expr (ee_call (f_check_job T) hr j (ea_cons (ev hs 0) ea_nil) hok) fun H1 e1 => ?_
    exact do_ret (d := pfD (profJ j)) (ee_cal (f_profile_by T 13) hr j (ea_cons (ev (hs.ex e1) 0) ea_nil) ⟨hok.1, hok.2.2.2.1, hok.2.2.1⟩) fun v H2 e2 hv => q v H2 (e1.trans e2) hv
theorem okV_s {j : Job} (h : nodes j ≤ 400) : okV (profJ j).s := ⟨(prof_good j).vs, by have := (prof_ok j).2.1; omega⟩
theorem okV_e {j : Job} (h : nodes j ≤ 400) : okV (profJ j).e := ⟨(prof_good j).ve, by have := (prof_ok j).2.2; omega⟩
theorem f_start_low : Fn P w K mg base 59 "start_low" ["job", "capacity"] (spP K (fun x : Job × Int => [enc x.1, .int x.2]) (fun x => okM x.1 13 ∧ -maxI ≤ x.2 ∧ x.2 ≤ maxI) fun x => optD (valBy (profJ x.1).s x.2)) :=
  fn_ok T.d_start_low sc_start_low hb_start_low (sp_len fun _ => rfl) fun f cdv A outer s H vs Q E hr h => by
    obtain ⟨⟨j, R⟩, ⟨hok, hR⟩, hd', q⟩ := h
    simp only at hok hR
    obtain ⟨v, v1, rfl, h1, h2⟩ := dps2 hd'
    have hs : SR K H (start n_start_low [v, v1]) [some (.py (enc j)), some (.py (.int R))] := .py h1 (enc_nol j) (.py h2 rfl .nil)
    refine do_expr (ee_call (f_check_job T) hr j (ea_cons (ev hs 0) ea_nil) hok) fun H1 e1 => ?_
    refine do_expr (ee_call (f_check_number T) hr R (ea_cons (ev (hs.ex e1) 1) ea_nil) hR) fun H2 e2 => ?_
    have hs2 := (hs.ex e1).ex e2
    exact do_ret (d := optD (valBy (profJ j).s R)) (ee_cal (f_valley_at T) hr ((profJ j).s, R) (ea_cons (ee_ixT (d := psD (profJ j).s) (ds := [.int (profJ j).n, .int (profJ j).k, psD (profJ j).s, psD (profJ j).e]) (ee_cal (d := pfD (profJ j)) (f_profile_by T 13) hr j (ea_cons (ev hs2 0) ea_nil) ⟨hok.1, hok.2.2.2.1, hok.2.2.1⟩) ee_int rfl) (ea_cons (ev hs2 1) ea_nil)) ⟨okV_s T hok.2.2.2.1, hR⟩) fun v H3 e3 hv => q v H3 (e1.trans (e2.trans e3)) hv
theorem f_end_low : Fn P w K mg base 59 "end_low" ["job", "capacity"] (spP K (fun x : Job × Int => [enc x.1, .int x.2]) (fun x => okM x.1 13 ∧ -maxI ≤ x.2 ∧ x.2 ≤ maxI) fun x => optD (valBy (profJ x.1).e x.2)) :=
  fn_ok T.d_end_low sc_end_low hb_end_low (sp_len fun _ => rfl) fun f cdv A outer s H vs Q E hr h => by
    obtain ⟨⟨j, R⟩, ⟨hok, hR⟩, hd', q⟩ := h
    simp only at hok hR
    obtain ⟨v, v1, rfl, h1, h2⟩ := dps2 hd'
    have hs : SR K H (start n_end_low [v, v1]) [some (.py (enc j)), some (.py (.int R))] := .py h1 (enc_nol j) (.py h2 rfl .nil)
    refine do_expr (ee_call (f_check_job T) hr j (ea_cons (ev hs 0) ea_nil) hok) fun H1 e1 => ?_
    refine do_expr (ee_call (f_check_number T) hr R (ea_cons (ev (hs.ex e1) 1) ea_nil) hR) fun H2 e2 => ?_
    have hs2 := (hs.ex e1).ex e2
    exact do_ret (d := optD (valBy (profJ j).e R)) (ee_cal (f_valley_at T) hr ((profJ j).e, R) (ea_cons (ee_ixT (d := psD (profJ j).e) (ds := [.int (profJ j).n, .int (profJ j).k, psD (profJ j).s, psD (profJ j).e]) (ee_cal (d := pfD (profJ j)) (f_profile_by T 13) hr j (ea_cons (ev hs2 0) ea_nil) ⟨hok.1, hok.2.2.2.1, hok.2.2.1⟩) ee_int rfl) (ea_cons (ev hs2 1) ea_nil)) ⟨okV_e T hok.2.2.2.1, hR⟩) fun v H3 e3 hv => q v H3 (e1.trans (e2.trans e3)) hv
end
end K30
namespace K30
open PySem PySem.Spec PyProof.Rows L2 Evl RZ
open K30m (Job jobS jobsS jobLat jobLats Lat unitS Pf hd lt Valleys Strict Good mv desc two emptyP flatP backP midP turn nf diffsNZ)
/-- n, n - 1, .., 1 -/
def downN : Nat → List Nat
  | 0 => []
  | n + 1 => (n + 1) :: downN n
theorem downN_len : ∀ n, (downN n).length = n
  | 0 => rfl
  | n + 1 => by show (downN n).length + 1 = _; rw [downN_len n]
theorem downN_get : ∀ (n i : Nat), i < n → (downN n)[i]? = some (n - i)
  | 0, i, h => by omega
  | n + 1, 0, _ => rfl
  | n + 1, i + 1, h => by
    show (downN n)[i]? = _
    rw [downN_get n i (by omega), show n + 1 - (i + 1) = n - i by omega]
theorem downN_succ : ∀ n, downN (n + 1) = (downN n).map (· + 1) ++ [1]
  | 0 => rfl
  | n + 1 => by
    show (n + 1 + 1) :: downN (n + 1) = (n + 1 + 1) :: ((downN n).map (· + 1) ++ [1])
    rw [downN_succ n]
theorem fm_congr {α β : Type} {f g : α → List β} : ∀ {l : List α}, (∀ i ∈ l, f i = g i) → l.flatMap f = l.flatMap g
  | [], _ => rfl
  | a :: l, h => by
    rw [List.flatMap_cons, List.flatMap_cons, h a List.mem_cons_self, fm_congr fun i hi => h i (List.mem_cons_of_mem _ hi)]
theorem downN_mem : ∀ {n i : Nat}, i ∈ downN n → 1 ≤ i ∧ i ≤ n
  | n + 1, i, h => by
    rcases List.mem_cons.mp h with rfl | h
    · omega
    · have := downN_mem h
      omega
def backG (D : List Pr) (i : Nat) : List Int := [(D.getD i (0, 0)).1, (D.getD (i - 1) (0, 0)).2]
theorem backP_eq : ∀ D : List Pr, backP D = (downN (D.length - 1)).flatMap (backG D)
  | [] => rfl
  | [a] => rfl
  | a :: b :: r => by
    show backP (b :: r) ++ [b.1, a.2] = (downN (r.length + 1)).flatMap (backG (a :: b :: r))
    rw [backP_eq (b :: r), downN_succ, List.flatMap_append]
    show (downN r.length).flatMap (backG (b :: r)) ++ [b.1, a.2] = _ ++ (backG (a :: b :: r) 1 ++ [])
    congr 1
    rw [List.flatMap_map]
    refine fm_congr fun i hi => ?_
    have := downN_mem hi
    obtain ⟨k, rfl⟩ : ∃ k, i = k + 1 := ⟨i - 1, by omega⟩
    rfl
section
variable {X : Cx} {tg a b c e e2 : Expr} {σ : L2.St} {H : Hp} {pos : Pos} {Γ : List (Option Sl)} {rest : List Stmt} {De : Ends}
/-- range(n, 0, -1) -/
theorem ei_down {n : Nat} {p : Pos} (hm : X.mg "range" = none) (ha : EvE X a σ H (.int (n : Nat))) (hb : EvE X b σ H (.int 0)) (hc : EvE X c σ H (.int (-1))) (hn : n ≤ 100000) (hg : Gl X "range" := by rfl)
    (s1 : starEach [a, b, c] X.env = (false, eval a X.env) :: starEach [b, c] X.env := by rfl) (s2 : starEach [b, c] X.env = (false, eval b X.env) :: starEach [c] X.env := by rfl) (s3 : starEach [c] X.env = (false, eval c X.env) :: starEach [] X.env := by rfl)
    (hpl : (backTo pos (starEach [b, c] X.env)).any (·.1) = false := by rfl) : EvI X tg (.Call (.Name "range" p) [a, b, c] [] pos) σ H [] ((downN n).map fun i => PyData.int (i : Nat)) := fun H1 e1 R q =>
  of_pi (pi_range3 hg hm pa_sem s1 hpl) ((ea_cons ha (ea_cons hb (ea_cons hc ea_nil s3) s2) s1) H1 e1 _ fun vs H2 e2 hvs => by
    cases hvs with
    | cons w1 r =>
      obtain ⟨v2, v3, rfl, w2, w3⟩ := dps2 r
      rw [dp_int w1, dp_int w2, dp_int w3]
      have rg := RgC.neg (i := (n : Nat)) (j := 0) (by omega) (by omega) (by decide) (by decide)
      rw [show ((n : Nat) - 0 : Int).toNat = n by omega] at rg
      refine ⟨(n : Nat), 0, -1, n, rfl, rg, q _ [] H2 e2 Hold.nil (fun _ h => by cases h) ⟨?_⟩⟩
      rw [List.length_map, downN_len]
      refine walk_rangeC.mono (fun _ _ => trivial) fun i H3 x H4 hi h3 y => ?_
      obtain ⟨rfl, rfl⟩ := y
      refine ⟨Ex.refl _, .int ((n : Int) + (i : Nat) * (-1)), ?_, .int _⟩
      rw [List.getElem?_map, downN_get n i hi]
      show some (PyData.int ((n - i : Nat) : Int)) = some (PyData.int ((n : Int) + (i : Nat) * (-1)))
      rw [show ((n - i : Nat) : Int) = (n : Int) + (i : Nat) * (-1) by omega])
/-- zip of the list in a slot with a new list -/
theorem ei_zipSN {elts : List Expr} {kk : Nat} {tpos p px : Pos} {x : Str} {l : Addr} {as bs : List D} (hm : X.mg "zip" = none) (hs : SR X.K H σ Γ) (i : Nat) (hl : LsAt X.K H l as) (hb : EvN X e2 σ H bs) (n1 : noLs as = true) (n2 : noLs bs = true)
    (hgs : Γ[i]? = some (some (.at l)) := by rfl) (hN : X.N[i]? = some x := by rfl) (hv : Vis X.env.scope x := by first | exact Or.inl rfl | exact Or.inr (Or.inl rfl) | exact Or.inr (Or.inr rfl)) (hd : (x == ("__debug__" : Str)) = false := by decide) (hcd : (x == ("__classdict__" : Str)) = false := by decide)
    (hg : Gl X "zip" := by rfl) (hpl : (backTo pos (starEach [e2] X.env)).any (·.1) = false := by rfl)
    (s1 : starEach [.Name x px, e2] X.env = (false, eval (.Name x px) X.env) :: starEach [e2] X.env := by rfl) (s2 : starEach [e2] X.env = (false, eval e2 X.env) :: starEach [] X.env := by rfl) :
    EvI X (.Tuple elts kk tpos) (.Call (.Name "zip" p) [.Name x px, e2] [] pos) σ H [l] (zipD as bs) := fun H1 e1 R q => by
  obtain ⟨vs, h1, h2⟩ := hl
  refine of_pi (pi_zipA hg hm (pa_cons (pe_var hN hv hd hcd) (pa_cons pe_sem pa_nil s2) s1) s1 hpl) ⟨_, hs.get_at hgs, hb H1 e1 _ fun p2 ws H2 hp2 e2 h3 h4 => ?_⟩
  have h1' := e2 _ _ (e1 _ _ h1)
  refine ⟨l, p2, vs, ws, rfl, .inl ⟨SqL.of h1', SqL.of h3, q (Itz X.K l p2) [(l, .lst vs), (p2, .lst ws)] H2 e2 (fun z hz => ?_) (fun z hz => ?_) (itw_zipL (dps_ex (e1.trans e2) _ _ h2) h4 n1 n2 fun H3 _ hh => ⟨SqL.of (hh (l, .lst vs) List.mem_cons_self), SqL.of (hh (p2, .lst ws) (List.mem_cons_of_mem _ List.mem_cons_self))⟩)⟩⟩
  · rcases List.mem_cons.mp hz with rfl | hz
    · exact h1'
    · rw [List.mem_singleton.mp hz]; exact h3
  · rcases List.mem_cons.mp hz with rfl | hz
    · exact .inr List.mem_cons_self
    · rw [List.mem_singleton.mp hz]; exact .inl hp2
theorem do_ifC {t : Bool} {A B : List Stmt} (Mid : L2.St → Hp → Prop) (hc : EvT X c σ H t) (h1 : t = true → ∀ H1, Ex H H1 → Do X A { De with nx := Mid } σ H1) (h2 : t = false → ∀ H1, Ex H H1 → Do X B { De with nx := Mid } σ H1) (k : ∀ σ' H', Mid σ' H' → Do X rest De σ' H') : Do X (.If c A B pos :: rest) De σ H :=
  of_pss (pss_cut (ps_if pt_sem pss_sem pss_sem) pss_sem) ⟨Mid, hc H (Ex.refl H) _ fun H1 e1 => by
    cases t with
    | true => exact iteT (h1 rfl H1 e1)
    | false => exact iteF (h2 rfl H1 e1), k⟩
end
/-- a promise whose answer is a new list -/
def spN {ι : Type} (K : PySem.W.Frag) (args : ι → List Arg) (pre : ι → Prop) (f : ι → List D) : Sp := fun vs H Q _ => ∃ x, pre x ∧ ArAll K H vs (args x) ∧ ∀ p ws H', H p = none → Ex H H' → H' p = some (.lst ws) → DpAll K H' ws (f x) → Q (.ref p) H'
theorem spN_len {ι : Type} {K : PySem.W.Frag} {args : ι → List Arg} {pre : ι → Prop} {f : ι → List D} {n : Nat} (h : ∀ x, (args x).length = n) : ∀ vs H Q E, spN K args pre f vs H Q E → vs.length = n := fun vs H Q E hs => by
  obtain ⟨x, _, hd, _⟩ := hs
  rw [arall_length hd, h]
theorem en_call {X : Cx} {e : Expr} {es : List Expr} {σ : L2.St} {H : Hp} {pos p : Pos} {ι : Type} {k j : Nat} {x : Str} {ps : List Str} {args : ι → List Arg} {pre : ι → Prop} {f : ι → List D} (G : Fn X.prog X.w X.K X.mg X.base j x ps (spN X.K args pre f)) (hr : Room k X.A) (y : ι) (ha : EvR X (e :: es) σ H (args y)) (hp : pre y) (hj : j ≤ k := by decide)
    (hg : Gl X x := by rfl) (hdb : (x == ("__debug__" : Str)) = false := by decide) (he : starEach (e :: es) X.env = (false, eval e X.env) :: starEach es X.env := by rfl) (hpl : (backTo pos (starEach es X.env)).any (·.1) = false := by rfl) :
    EvN X (.Call (.Name x p) (e :: es) [] pos) σ H (f y) := fun H1 e1 Q q =>
  ee_callR G hr ha e1 (fun vs H2 e2 hvs => ⟨y, hp, hvs, fun l ws H3 hl e3 h3 h4 => q l ws H3 (fresh_back e2 hl) (e2.trans e3) h3 h4⟩) hj hg hdb he hpl
theorem lsat_ext {K : PySem.W.Frag} {H H1 : Hp} {l : Addr} {ds es : List D} {vs ws : List V} (e : Ex H H1) (hl : H l = some (.lst vs)) (hd : DpAll K H vs ds) (hv : DpAll K H1 ws es) (hn : noLs ds = true) (hn2 : noLs es = true) : LsAt K (upd H1 l (.lst (vs ++ ws))) l (ds ++ es) := by
  have tx : TX H1 (upd H1 l (.lst (vs ++ ws))) := TX.upd (e _ _ hl) trivial
  exact ⟨vs ++ ws, upd_same, dps_append (dps_tx tx _ _ hn (dps_ex e _ _ hd)) (dps_tx tx _ _ hn2 hv)⟩
theorem flatP_append (a b : List Pr) : flatP (a ++ b) = flatP a ++ flatP b := by unfold flatP; rw [List.flatMap_append]
theorem flatP_len : ∀ a : List Pr, (flatP a).length = 2 * a.length
  | [] => rfl
  | p :: a => by
    have := flatP_len a
    unfold flatP at this ⊢
    rw [List.flatMap_cons, List.length_append, this]
    simp only [List.length_cons, List.length_nil]
    omega
theorem backs_len (D : List Pr) : ∀ l : List Nat, (l.flatMap (backG D)).length = 2 * l.length
  | [] => rfl
  | i :: l => by
    rw [List.flatMap_cons, List.length_append, backs_len D l]
    simp only [backG, List.length_cons, List.length_nil]
    omega
theorem adj_diffs : ∀ (r : List Int) (a : Int), (((a :: r).zip r).filter fun q => !decide (q.2 = q.1)).map (fun q => q.2 - q.1) = diffsNZ a r
  | [], a => rfl
  | b :: r, a => by
    rw [List.zip_cons_cons, List.filter_cons]
    show _ = (if b ≠ a then (b - a) :: diffsNZ b r else diffsNZ b r)
    by_cases h : b = a
    · rw [if_neg (by simpa using h), if_neg (by simpa using h), adj_diffs r b]
    · rw [if_pos (by simpa using h), if_pos h, List.map_cons, adj_diffs r b]
theorem turn_len (p : Pf) : (turn p).length ≤ 4 + 2 * p.s.length + 2 * p.e.length := by
  have ml : (midP p).length ≤ 2 := by unfold midP; split <;> simp
  unfold turn
  rw [backP_eq, List.length_cons, List.length_append, List.length_append, List.length_append, flatP_len, List.length_drop, backs_len, downN_len]
  simp only [List.length_cons, List.length_nil]
  omega
section
variable {P : Program} {w : World} {K : PySem.W.Frag} {mg : Str → Option Value} {base : Heap} (T : Tops K mg)
include T
theorem f_turning_usages : Fn P w K mg base 1 "turning_usages" ["whole"] (spN K (fun p : Pf => [.d (pfD p)]) okP fun p => (0 :: turn p).map PyData.int) :=
  fn_ok T.d_turning_usages sc_turning_usages hb_turning_usages (spN_len fun _ => rfl) fun f cdv A outer s H vs Q E hr h => by
    obtain ⟨p, ⟨g, l1, l2⟩, hd', q⟩ := h
    match vs, hd' with
    | [v], .cons h1 .nil =>
      have h1 : Dp K H v (pfD p) := h1
      have hs : SR K H (start n_turning_usages [v]) [some (.py (pfD p)), none, none, none, none, none, none, none] := .py h1 (pfD_nol p) (.no (.no (.no (.no (.no (.no (.no .nil)))))))
      refine do_asgG hs (ev hs 0) (pfD_nol p) (tg_tup (ds := [.int p.n, .int p.k, psD p.s, psD p.e]) rfl (tgs_cons (tg_name sc_turning_usages.nd 1) (tgs_cons (tg_name sc_turning_usages.nd 2) (tgs_cons (tg_name sc_turning_usages.nd 3) (tgs_cons (tg_name sc_turning_usages.nd 4) tgs_nil))))) fun σ1 H1 e1 hs1 => ?_
      refine do_asgN sc_turning_usages.nd 5 hs1 (en_lst (ds := [.int 0, .int (hd p.s).2]) (ea_cons ee_int (ea_cons (ee_ixT (d := .int (hd p.s).2) (ee_ixT (ds := p.s.map pD) (ev hs1 3) ee_int (at_hd g.vs.1)) ee_int rfl) ea_nil))) fun fa fv σ2 H2 hfa e2 h2 hd2 hs2 => ?_
      have hs2 : SR K H2 σ2 [some (.py (pfD p)), some (.py (.int p.n)), some (.py (.int p.k)), some (.py (psD p.s)), some (.py (psD p.e)), some (.at fa), none, none] := hs2
      have hsl : 0 < p.s.length := List.length_pos_iff.mpr g.vs.1
      have hel : 0 < p.e.length := List.length_pos_iff.mpr g.ve.1
      refine do_for (xs := p.s.drop 1) (g := pD) PassesOwn.never rfl [fa] (fun _ => [some (.py (pfD p)), some (.py (.int p.n)), some (.py (.int p.k)), some (.py (psD p.s)), some (.py (psD p.e)), some (.at fa), none, none])
        (fun pre H => LsAt K H fa (([0, (hd p.s).2] ++ flatP pre).map PyData.int)) (us := fun c => [(6, pD c)])
        (by rw [List.map_drop]; exact ei_tup (ee_dropT (ev hs2 3) ee_int (by rw [List.length_map]; omega)) (by rw [← List.map_drop]; exact psD_nols _)) (psD_nols _) (nt1 h2) (fun a ha => by cases ha) (fun c _ => tg_name sc_turning_usages.nd 6) (fun pre H1 H2 e h => h.ex e) hs2 ⟨fv, h2, hd2⟩ ?_ ?_
      · intro pre c post hx σ3 H3 c3 t3 hv3 hs3 N hN
        obtain ⟨vs2, h3, hd3⟩ := id hv3
        have vl := dps_length hd3
        have pl : pre.length < p.s.length := by
          have := congrArg List.length hx
          rw [List.length_drop, List.length_append, List.length_cons] at this
          omega
        rw [List.length_map, List.length_append, flatP_len] at vl
        simp only [List.length_cons, List.length_nil] at vl
        refine do_extT (ds := [.int c.1, .int c.2]) hs3 5 h3 (ev hs3 6) (by simp only [List.length_cons, List.length_nil]; omega) fun ws H4 e4 hd4 => ?_
        have tx : TX H4 (upd H4 fa (.lst (vs2 ++ ws))) := TX.upd (e4 _ _ h3) trivial
        refine do_nil (hN _ _ ((Ch.ex e4).trans (Ch.upd List.mem_cons_self)) ?_ (((hs3.ex e4).tx tx).drop 6))
        have := lsat_ext e4 h3 hd3 hd4 (ints_nols _) rfl
        rw [flatP_append, ← List.append_assoc, List.map_append]
        exact this
      · intro σ3 H3 c3 t3 hv3 hs3
        have mid : midP p = if p.k > max (lt p.s).1 (lt p.e).1 then [p.k, (lt p.s).2] else [] := rfl
        refine do_ifC (fun σ' H' => Ch [fa] H2 H' ∧ LsAt K H' fa (([0, (hd p.s).2] ++ flatP (p.s.drop 1) ++ midP p).map PyData.int) ∧ SR K H' σ' [some (.py (pfD p)), some (.py (.int p.n)), some (.py (.int p.k)), some (.py (psD p.s)), some (.py (psD p.e)), some (.at fa), none, none])
          (et_gt (ev hs3 2) (ee_max2 rfl T.b_max (ee_ixT (d := .int (lt p.s).1) (ee_ixT (ds := p.s.map pD) (ev hs3 3) (ee_neg ee_int) (at_lt g.vs.1)) ee_int rfl) (ee_ixT (d := .int (lt p.e).1) (ee_ixT (ds := p.e.map pD) (ev hs3 4) (ee_neg ee_int) (at_lt g.ve.1)) ee_int rfl))) (fun hb H4 e4 => ?_) (fun hb H4 e4 => ?_) ?_
        · have hs4 := hs3.ex e4
          obtain ⟨vs2, h4, hd4⟩ := hv3.ex e4
          have vl := dps_length hd4
          rw [List.length_map, List.length_append, flatP_len, List.length_drop] at vl
          simp only [List.length_cons, List.length_nil] at vl
          refine do_ext (ds := [.int p.k, .int (lt p.s).2]) hs4 5 h4 (EvN.ep (en_lst (ea_cons (ev hs4 2) (ea_cons (ee_ixT (d := .int (lt p.s).2) (ee_ixT (ds := p.s.map pD) (ev hs4 3) (ee_neg ee_int) (at_lt g.vs.1)) ee_int rfl) ea_nil)))) (by simp only [List.length_cons, List.length_nil]; omega) fun ws H5 e5 hd5 => ?_
          have tx : TX H5 (upd H5 fa (.lst (vs2 ++ ws))) := TX.upd (e5 _ _ h4) trivial
          refine do_nil ⟨c3.trans ((Ch.ex (e4.trans e5)).trans (Ch.upd List.mem_cons_self)), ?_, (hs4.ex e5).tx tx⟩
          have := lsat_ext e5 h4 hd4 hd5 (ints_nols _) rfl
          rw [mid, if_pos (of_decide_eq_true hb), List.map_append]
          exact this
        · refine do_nil ⟨c3.trans (.ex e4), ?_, hs3.ex e4⟩
          rw [mid, if_neg (of_decide_eq_false hb), List.append_nil]
          exact hv3.ex e4
        · rintro σ4 H4 ⟨c4, hv4, hs4⟩
          have ml : (midP p).length ≤ 2 := by rw [mid]; split <;> simp
          obtain ⟨vs4, h4, hd4⟩ := id hv4
          have e0 : ∀ a, p.e[a]? = some (p.e.getD a (0, 0)) ∨ ¬ a < p.e.length := fun a => by
            by_cases ha : a < p.e.length
            · exact .inl (by rw [List.getD_eq_getElem?_getD, List.getElem?_eq_getElem ha]; rfl)
            · exact .inr ha
          refine do_for (xs := downN (p.e.length - 1)) (g := fun i => PyData.int (i : Nat)) PassesOwn.never rfl [fa] (fun _ => [some (.py (pfD p)), some (.py (.int p.n)), some (.py (.int p.k)), some (.py (psD p.s)), some (.py (psD p.e)), some (.at fa), none, none])
            (fun pre H => LsAt K H fa (([0, (hd p.s).2] ++ flatP (p.s.drop 1) ++ midP p ++ pre.flatMap (backG p.e)).map PyData.int)) (us := fun i => [(7, .int (i : Nat))])
            (ei_down T.b_range (.of_eq (ee_sub (ee_lenT (ds := p.e.map pD) T.b_len (ev hs4 4)) ee_int) (by rw [List.length_map]; congr 1; omega)) ee_int (ee_neg ee_int) (by omega)) (nats_nols _) (nt1 h4) (fun a ha => by cases ha) (fun c _ => tg_name sc_turning_usages.nd 7) (fun pre H1 H2 e h => h.ex e) hs4 (by
              show LsAt K H4 fa ((_ ++ []).map PyData.int)
              rw [List.append_nil]
              exact hv4) ?_ ?_
          · intro pre i post hx σ5 H5 c5 t5 hv5 hs5 N hN
            obtain ⟨vs5, h5, hd5⟩ := id hv5
            have vl := dps_length hd5
            have im : i ∈ downN (p.e.length - 1) := by rw [hx]; exact List.mem_append_right _ List.mem_cons_self
            have ib := downN_mem im
            have pl : pre.length < p.e.length := by
              have := congrArg List.length hx
              rw [downN_len, List.length_append, List.length_cons] at this
              omega
            rw [List.length_map, List.length_append, List.length_append, List.length_append, flatP_len, List.length_drop, backs_len] at vl
            simp only [List.length_cons, List.length_nil] at vl
            have a1 : p.e[i]? = some (p.e.getD i (0, 0)) := by
              rcases e0 i with h | h
              · exact h
              · omega
            have a2 : p.e[i - 1]? = some (p.e.getD (i - 1) (0, 0)) := by
              rcases e0 (i - 1) with h | h
              · exact h
              · omega
            refine do_ext (ds := [.int (p.e.getD i (0, 0)).1, .int (p.e.getD (i - 1) (0, 0)).2]) hs5 5 h5 (EvN.ep (en_lst (ea_cons (ee_ixT (d := .int (p.e.getD i (0, 0)).1) (ee_ixT (d := pD (p.e.getD i (0, 0))) (ds := p.e.map pD) (ev hs5 4) (ev hs5 7) (at_nat a1)) ee_int rfl) (ea_cons (ee_ixT (d := .int (p.e.getD (i - 1) (0, 0)).2) (ee_ixT (d := pD (p.e.getD (i - 1) (0, 0))) (ds := p.e.map pD) (i := ((i - 1 : Nat) : Int)) (ev hs5 4) (.of_eq (ee_sub (ev hs5 7) ee_int) (by congr 1; omega)) (at_nat a2)) ee_int rfl) ea_nil)))) (by simp only [List.length_cons, List.length_nil]; omega) fun ws H6 e6 hd6 => ?_
            have tx : TX H6 (upd H6 fa (.lst (vs5 ++ ws))) := TX.upd (e6 _ _ h5) trivial
            refine do_nil (hN _ _ ((Ch.ex e6).trans (Ch.upd List.mem_cons_self)) ?_ (((hs5.ex e6).tx tx).drop 7))
            have := lsat_ext e6 h5 hd5 hd6 (ints_nols _) rfl
            rw [List.flatMap_append, ← List.append_assoc, List.map_append]
            exact this
          · intro σ5 H5 c5 t5 hv5 hs5
            have e5 : Ex H H5 := Ex.over (e1.trans e2) (no1 (H := H) (by
              cases hx : H fa with
              | none => rfl
              | some o => rw [e1 _ _ hx] at hfa; cases hfa)) (c4.trans c5)
            obtain ⟨vs5, h5, hd5⟩ := id hv5
            have vl := dps_length hd5
            rw [List.length_map, List.length_append, List.length_append, List.length_append, flatP_len, List.length_drop, backs_len, downN_len] at vl
            simp only [List.length_cons, List.length_nil] at vl
            refine do_st (of_ps (ps_ret pe_sem) ((en_catP (ds2 := [.int p.n]) (ep_slot hs5 5 hv5) (EvN.ep (en_lst (ea_cons (ev hs5 1) ea_nil))) (by rw [← dps_length hd5, vl]; simp only [List.length_cons, List.length_nil]; omega)) H5 (Ex.refl _) _ fun l ws H6 hl e6 h6 hd6 => ?_))
            refine q l ws H6 (fresh_back e5 hl) (e5.trans e6) h6 ?_
            have et : ([0, (hd p.s).2] ++ flatP (p.s.drop 1) ++ midP p ++ (downN (p.e.length - 1)).flatMap (backG p.e)).map PyData.int ++ [.int p.n] = (0 :: turn p).map PyData.int := by
              unfold turn
              rw [backP_eq]
              simp only [List.map_append, List.map_cons, List.map_nil, List.cons_append, List.nil_append, List.append_assoc]
            show DpAll K H6 ws ((0 :: turn p).map PyData.int)
            rw [← et]
            exact hd6
theorem f_normal_form : Fn P w K mg base 7 "normal_form" ["whole"] (spP K (fun p : Pf => [pfD p]) okP fun p => .tuple ((nf p).map PyData.int)) :=
  fn_ok T.d_normal_form sc_normal_form hb_normal_form (sp_len fun _ => rfl) fun f cdv A outer s H vs Q E hr h => by
    obtain ⟨p, ok, hd', q⟩ := h
    obtain ⟨v, rfl, h1⟩ := dps1 hd'
    have hs : SR K H (start n_normal_form [v]) [some (.py (pfD p)), none, none, none] := .py h1 (pfD_nol p) (.no (.no (.no .nil)))
    refine do_expr (ee_call (f_check_profile T) hr p (ea_cons (ev hs 0) ea_nil) ok) fun H1 e1 => ?_
    refine do_asgN sc_normal_form.nd 1 (hs.ex e1) (en_call (f_turning_usages T) hr p (er_cons (EvE.v (ev (hs.ex e1) 0)) er_nil) ok) fun ua uv σ2 H2 hua e2 h2 hd2 hs2 => ?_
    have la : LsAt K H2 ua ((0 :: turn p).map PyData.int) := ⟨uv, h2, hd2⟩
    have tl := turn_len p
    have o1 := ok.2.1
    have o2 := ok.2.2
    have zl : ((0 :: turn p).zip (turn p)).length ≤ (turn p).length := by rw [List.length_zip]; omega
    have zd : zipD ((0 :: turn p).map PyData.int) ((turn p).map PyData.int) = ((0 :: turn p).zip (turn p)).map fun q => PyData.tuple [.int q.1, .int q.2] := by
      unfold zipD
      rw [List.zip_map, List.map_map]
      rfl
    have zn : noLs (((0 :: turn p).zip (turn p)).map fun q => PyData.tuple [.int q.1, .int q.2]) = true := by
      rw [← zd]
      exact zip_nol (ints_nols _) (ints_nols _)
    refine do_ret (d := .tuple ((nf p).map PyData.int)) (ee_tupleL T.b_tuple (EvN.ev (.of_eq (en_lc rfl sc_normal_form.nd (lc_ifM (xs := (0 :: turn p).zip (turn p)) (g := fun q => PyData.tuple [.int q.1, .int q.2]) (kp := fun q => !decide (q.2 = q.1)) (f := fun q => .int (q.2 - q.1)) (us := fun q => [(2, .int q.1), (3, .int q.2)]) (own := [("sooner", 2), ("later", 3)]) rfl hs2
      (zd ▸ ei_zipSN T.b_zip hs2 1 la (en_dropL (n := 1) (ep_slot hs2 1 la).ev ee_int (by simp)) (ints_nols _) (ints_nols _)) zn (by omega)
      (fun _ _ _ _ _ q _ => tg_tup rfl (tgs_cons (tg_name sc_normal_form.nd 2) (tgs_cons (tg_name sc_normal_form.nd 3) tgs_nil))) (fun q _ u hu => by
          rcases List.mem_cons.mp hu with rfl | hu
          · exact List.mem_cons_self
          · rw [List.mem_singleton.mp hu]; exact List.mem_cons_of_mem _ List.mem_cons_self)
      (fun _ _ _ _ _ q _ σ' H' e hs' => et_neI (ev hs' 3) (ev hs' 2)) (fun _ _ _ _ _ q _ _ σ' H' e hs' => ee_sub (ev hs' 3) (ev hs' 2)) (fun _ _ _ => rfl))) (by
        have := adj_diffs (turn p) 0
        show _ = (nf p).map PyData.int
        unfold nf
        rw [← this, List.map_map]
        rfl))) (ints_nols _)) fun v H3 e3 hv => q v H3 (e1.trans (e2.trans e3)) hv
end
end K30
namespace K30
open PySem PySem.Spec PyProof.Rows L2 Evl RZ
open K30m (Job jobS jobsS jobLat jobLats Lat unitS Pf hd lt Valleys Strict Good mv desc two emptyP sortP scanD stepD lle opP)
section
variable {P : Program} {w : World} {K : PySem.W.Frag} {mg : Str → Option Value} {base : Heap} (T : Tops K mg)
include T
theorem f_law_valleys : Fn P w K mg base 1 "_law_valleys" ["_law_pairs"] (spA K (fun ps : List Pr => [.l (ps.map pD)]) (fun ps => ps.length ≤ 10000) fun ps => psD (desc ps)) :=
  fn_ok T.d_law_valleys sc_law_valleys hb_law_valleys (spA_len fun _ => rfl) fun f cdv A outer s H vs Q E hr h => by
    obtain ⟨ps, hlen, hd', q⟩ := h
    match vs, hd' with
    | [v], .cons ⟨l, hv, hl⟩ .nil =>
      subst hv
      have hu := hr.units
      have hs : SR K H (start n_law_valleys [.ref l]) [some (.at l), none, none, none] := .at (.no (.no (.no .nil)))
      refine do_asgN sc_law_valleys.nd 1 hs (en_lst ea_nil) fun fa fv σ1 H1 hfa e1 h1 hd1 hs1 => ?_
      have hl1 := hl.ex e1
      have slen : (sortP ps).length = ps.length := (K30m.sortP_perm ps).length_eq
      refine do_for (xs := sortP ps) (g := pD) PassesOwn.never rfl [fa] (fun _ => [some (.at l), some (.at fa), none, none]) (fun pre H => LsAt K H fa ((pre.foldl stepD []).map pD)) (us := fun p => [(2, .int p.1), (3, .int p.2)])
        (ei_new (en_sorted T.b_sorted (ep_slot hs1 0 hl1).ev) (psD_nols _)) (psD_nols _) (nt1 h1) (fun a ha => by cases ha) (fun p _ => tg_tup rfl (tgs_cons (tg_name sc_law_valleys.nd 2) (tgs_cons (tg_name sc_law_valleys.nd 3) tgs_nil)))
        (fun pre H1 H2 e h => h.ex e) hs1 ⟨fv, h1, hd1⟩ ?_ ?_
      · intro pre p post hx σ2 H2 c2 t2 hv2 hs2 N hN
        have ef : (pre ++ [p]).foldl stepD [] = stepD (pre.foldl stepD []) p := by rw [List.foldl_append]; rfl
        have hfl : (pre.foldl stepD []).length ≤ pre.length := by have := scan_len pre []; simpa using this
        have hpl : pre.length < ps.length := by
          have := congrArg List.length hx
          rw [slen, List.length_append, List.length_cons] at this
          omega
        generalize hF : pre.foldl stepD [] = F at hv2 ef hfl
        obtain ⟨vs2, h2, hd2⟩ := id hv2
        have vlen := dps_length hd2
        rw [List.length_map] at vlen
        refine do_if (t := F.isEmpty || decide (p.2 < (lt F).2)) (.of_eq (et_w (ew_or (et_eqD hu (ep_slot hs2 1 hv2).ev (en_lst ea_nil).ev (shaped_ps F) rfl) fun hne => ew_or1 (et_lt (ev hs2 3) (ee_ixT (d := .int (lt F).2) (ee_ixL (ep_slot hs2 1 hv2).ev (ee_neg ee_int) (at_lt (ps := F) ?_)) ee_int rfl)))) (by rw [eqv_nil])) (fun hb H3 e3 => ?_) (fun hb H3 e3 => ?_)
        · rw [eqv_nil] at hne
          intro z
          rw [z] at hne
          cases hne
        · have es : stepD F p = F ++ [p] := by
            unfold stepD
            split
            · rfl
            · rename_i q0 hq
              have hF0 : F ≠ [] := fun z => by rw [z] at hq; cases hq
              have : F.isEmpty = false := by cases F <;> simp_all
              rw [this, Bool.false_or] at hb
              rw [K30m.lt_eq hF0] at hq
              cases hq
              rw [if_pos (of_decide_eq_true hb)]
          refine do_app (hs2.ex e3) 1 (e3 _ _ h2) (by omega) (ee_tup (ds := [.int p.1, .int p.2]) (ea_cons (ev (hs2.ex e3) 2) (ea_cons (ev (hs2.ex e3) 3) ea_nil))) fun v H4 e4 hv => ?_
          have e34 := e3.trans e4
          have tx : TX H4 (upd H4 fa (.lst (vs2 ++ [v]))) := TX.upd (e34 _ _ h2) trivial
          refine do_nil (do_nil (hN _ _ ((Ch.ex e34).trans (Ch.upd List.mem_cons_self)) ?_ ((((hs2.ex e34).tx tx).drop 2).drop 3)))
          rw [ef, es, List.map_append]
          exact lsat_app e34 h2 hd2 hv (psD_nols F) rfl
        · have es : stepD F p = F := by
            unfold stepD
            split
            · rename_i hq
              have : F = [] := List.getLast?_eq_none_iff.mp hq
              rw [this] at hb
              cases hb
            · rename_i q0 hq
              have hF0 : F ≠ [] := fun z => by rw [z] at hq; cases hq
              rw [K30m.lt_eq hF0] at hq
              cases hq
              have hb2 : decide (p.2 < (lt F).2) = false := by
                cases hF1 : F.isEmpty with
                | true => rw [hF1] at hb; cases hb
                | false => rw [hF1, Bool.false_or] at hb; exact hb
              rw [if_neg (of_decide_eq_false hb2)]
          refine do_nil (do_nil (hN _ _ (Ch.ex e3) ?_ (((hs2.ex e3).drop 2).drop 3)))
          rw [ef, es]
          exact hv2.ex e3
      · intro σ2 H2 c2 t2 hv2 hs2
        refine do_ret (d := psD (desc ps)) (ee_tupleL T.b_tuple (ep_slot hs2 1 hv2).ev (psD_nols _)) fun v H3 e3 hv => q v H3 ((Ex.over e1 (no1 hfa) c2).trans e3) hv
theorem f_law_turned : Fn P w K mg base 1 "_law_turned" ["_law_value"] (spP K (fun p : Pf => [pfD p]) (fun p => p.s.length ≤ 2000 ∧ p.e.length ≤ 2000) fun p => pfD (opP p)) :=
  fn_ok T.d_law_turned sc_law_turned hb_law_turned (sp_len fun _ => rfl) fun f cdv A outer s H vs Q E hr h => by
    obtain ⟨p, ⟨l1, l2⟩, hd', q⟩ := h
    obtain ⟨v, rfl, h1⟩ := dps1 hd'
    have hs : SR K H (start n_law_turned [v]) [some (.py (pfD p)), none, none, none, none, none, none, none, none] := .py h1 (pfD_nol p) (.no (.no (.no (.no (.no (.no (.no (.no .nil))))))))
    refine do_asgG hs (ev hs 0) (pfD_nol p) (tg_tup (ds := [.int p.n, .int p.k, psD p.s, psD p.e]) rfl (tgs_cons (tg_name sc_law_turned.nd 1) (tgs_cons (tg_name sc_law_turned.nd 2) (tgs_cons (tg_name sc_law_turned.nd 3) (tgs_cons (tg_name sc_law_turned.nd 4) tgs_nil))))) fun σ1 H1 e1 hs1 => ?_
    have em : ∀ ps : List Pr, (ps.map fun c => pD (c.1 - p.n, c.2 - p.n)) = (mv ps (-p.n)).map pD := fun ps => by
      unfold mv
      rw [List.map_map]
      rfl
    refine do_asg (d := psD (mv p.e (-p.n))) sc_law_turned.nd 5 hs1 (ee_tupleL T.b_tuple (EvN.ev (.of_eq (en_lc rfl sc_law_turned.nd (lc_allM (xs := p.e) (g := pD) (f := fun c => pD (c.1 - p.n, c.2 - p.n)) (us := fun c => [(7, .int c.1), (8, .int c.2)]) (own := [("_law_bound", 7), ("_law_held", 8)]) rfl hs1 (ei_tup (ds := p.e.map pD) (ev hs1 4) (psD_nols _)) (psD_nols _) (by omega)
        (fun _ _ _ _ _ c _ => tg_tup rfl (tgs_cons (tg_name sc_law_turned.nd 7) (tgs_cons (tg_name sc_law_turned.nd 8) tgs_nil))) (fun c _ u hu => by
          rcases List.mem_cons.mp hu with rfl | hu
          · exact List.mem_cons_self
          · rw [List.mem_singleton.mp hu]; exact List.mem_cons_of_mem _ List.mem_cons_self)
        (fun _ _ _ _ _ c hc σ' H' e hs' => ee_tup (ds := [.int (c.1 - p.n), .int (c.2 - p.n)]) (ea_cons (ee_sub (ev hs' 7) (ev hs' 1)) (ea_cons (ee_sub (ev hs' 8) (ev hs' 1)) ea_nil))) (fun _ _ => rfl))) (em p.e))) (psD_nols _)) (psD_nol _) fun σ2 H2 e2 hs2 => ?_
    refine do_asg (d := psD (mv p.s (-p.n))) sc_law_turned.nd 6 hs2 (ee_tupleL T.b_tuple (EvN.ev (.of_eq (en_lc rfl sc_law_turned.nd (lc_allM (xs := p.s) (g := pD) (f := fun c => pD (c.1 - p.n, c.2 - p.n)) (us := fun c => [(7, .int c.1), (8, .int c.2)]) (own := [("_law_bound", 7), ("_law_held", 8)]) rfl hs2 (ei_tup (ds := p.s.map pD) (ev hs2 3) (psD_nols _)) (psD_nols _) (by omega)
        (fun _ _ _ _ _ c _ => tg_tup rfl (tgs_cons (tg_name sc_law_turned.nd 7) (tgs_cons (tg_name sc_law_turned.nd 8) tgs_nil))) (fun c _ u hu => by
          rcases List.mem_cons.mp hu with rfl | hu
          · exact List.mem_cons_self
          · rw [List.mem_singleton.mp hu]; exact List.mem_cons_of_mem _ List.mem_cons_self)
        (fun _ _ _ _ _ c hc σ' H' e hs' => ee_tup (ds := [.int (c.1 - p.n), .int (c.2 - p.n)]) (ea_cons (ee_sub (ev hs' 7) (ev hs' 1)) (ea_cons (ee_sub (ev hs' 8) (ev hs' 1)) ea_nil))) (fun _ _ => rfl))) (em p.s))) (psD_nols _)) (psD_nol _) fun σ3 H3 e3 hs3 => ?_
    refine do_ret (d := pfD (opP p)) (.of_eq (ee_tup (ea_cons (ee_sub ee_int (ev hs3 1)) (ea_cons (ee_sub (ev hs3 2) (ev hs3 1)) (ea_cons (ev hs3 5) (ea_cons (ev hs3 6) ea_nil))))) ?_) fun v H4 e4 hv => q v H4 (e1.trans (e2.trans (e3.trans e4))) hv
    rw [Int.zero_sub]
    rfl
theorem stepsS_sum : ∀ js : List Job, ((js.map fun i => ((steps i : Nat) : Int))).sum = (stepsS js : Nat)
  | [] => rfl
  | j :: js => by
    rw [List.map_cons, List.sum_cons, stepsS_sum js]
    show ((steps j : Nat) : Int) + (stepsS js : Nat) = ((steps j + stepsS js : Nat) : Int)
    omega
abbrev stpc (d k : Nat) (P : Program) (w : World) (K : PySem.W.Frag) (mg : Str → Option Value) (base : Heap) : Prop := Fn P w K mg base k "_law_step_count" ["_law_job_here"] (spP K (fun j : Job => [enc j]) (fun j => depth j ≤ d ∧ nodes j ≤ 400 ∧ okJ j) fun j => .int (steps j : Nat))
theorem f_law_step_count : ∀ d : Nat, stpc d (d + 1) P w K mg base
  | 0 => by
    refine fn_ok T.d_law_step_count sc_law_step_count hb_law_step_count (sp_len fun _ => rfl) fun f cdv A outer s H vs Q E hr h => ?_
    obtain ⟨j, ⟨h1, _⟩, _⟩ := h
    have := depth_pos j
    omega
  | d + 1 => by
    have F := f_law_step_count d
    refine fn_ok (k := d + 1) T.d_law_step_count sc_law_step_count hb_law_step_count (sp_len fun _ => rfl) fun f cdv A outer s H vs Q E hr h => ?_
    obtain ⟨j, ⟨hd1, hno, hok⟩, hd', q⟩ := h
    obtain ⟨v, rfl, h1⟩ := dps1 hd'
    have q2 : ∀ v H3, Ex H H3 → Dp K H3 v (.int (steps j : Nat)) → Q v H3 := q
    have hs : SR K H (start n_law_step_count [v]) [some (.py (enc j)), none] := .py h1 (enc_nol j) (.no .nil)
    refine do_when (et_val (ee_isi (T := "int") T.b_isinstance T.b_int (ev hs 0))) (fun hb H1 e1 => ?_) (fun hb H1 e1 => ?_)
    · rw [isT_int] at hb
      cases j with
      | step x => exact do_ret (d := .int 1) ee_int fun v H2 e2 hv => q2 v H2 (e1.trans e2) hv
      | _ => cases hb
    · rw [isT_int] at hb
      have hs1 := hs.ex e1
      have cs : (∃ (g : Str) (js : List Job), enc j = .tuple [.str g, .tuple (encs js)] ∧ depthS js ≤ d ∧ nodesS js ≤ 400 ∧ okJs js ∧ (["seq", "par"] : List Str).contains g = true ∧ steps j = stepsS js) ∨
          ∃ (g : Str) (n : Nat) (i : Job), enc j = .tuple [.str g, .int (n : Nat), enc i] ∧ depth i ≤ d ∧ nodes i ≤ 400 ∧ okJ i ∧ n ≤ 1000 ∧ (["seq", "par"] : List Str).contains g = false ∧ steps j = n * steps i := by
        cases j with
        | step v => cases hb
        | seq js =>
          have e : depth (.seq js) = 1 + depthS js := rfl
          have e' : nodes (.seq js) = 1 + nodesS js := rfl
          exact .inl ⟨"seq", js, rfl, by omega, by omega, hok, by decide, rfl⟩
        | par js =>
          have e : depth (.par js) = 1 + depthS js := rfl
          have e' : nodes (.par js) = 1 + nodesS js := rfl
          exact .inl ⟨"par", js, rfl, by omega, by omega, hok, by decide, rfl⟩
        | rep n i =>
          have e : depth (.rep n i) = 1 + depth i := rfl
          have e' : nodes (.rep n i) = 1 + nodes i := rfl
          exact .inr ⟨"repeat", n, i, rfl, by omega, by omega, hok.2.2, hok.1, by decide, rfl⟩
        | cop n i =>
          have e : depth (.cop n i) = 1 + depth i := rfl
          have e' : nodes (.cop n i) = 1 + nodes i := rfl
          exact .inr ⟨"copies", n, i, rfl, by omega, by omega, hok.2.2, hok.1, by decide, rfl⟩
      rcases cs with ⟨g, js, ej, hdj, hnj, hoj, hg, es⟩ | ⟨g, n, i, ej, hdi, hni, hoi, hn, hg, es⟩
      · rw [ej] at hs1
        rw [es] at q2
        have hl := len_nodesS js
        refine do_if (t := true) (.of_eq (et_inS (ys := ["seq", "par"]) (ee_ixT (d := .str g) (ev hs1 0) ee_int rfl) (ee_tup (ea_cons ee_str (ea_cons ee_str ea_nil)))) hg) (fun _ H2 e2 => ?_) (fun h => by cases h)
        have hs2 := hs1.ex e2
        refine do_ret (d := .int (stepsS js : Nat)) (.of_eq (ee_sum (ns := js.map fun i => ((steps i : Nat) : Int)) rfl T.b_sum (EvN.ev (.of_eq (en_lc rfl sc_law_step_count.nd (lc_allM (xs := js) (g := enc) (f := fun i => .int (steps i : Nat)) (us := fun i => [(1, enc i)]) (own := [("_law_part", 1)]) rfl hs2 (encs_map js ▸ ei_tup (ee_ixT (d := .tuple (encs js)) (ev hs2 0) ee_int rfl) (encs_nol js)) (encs_map js ▸ encs_nol js) (by omega)
          (fun _ _ _ _ _ i _ => tg_name sc_law_step_count.nd 1) (fun i _ u hu => by rw [List.mem_singleton.mp hu]; exact List.mem_cons_self) (fun _ _ _ _ _ i hi σ' H' e hs' => ee_cal F hr i (ea_cons (ev hs' 1) ea_nil) ⟨by have := depthS_mem hi; omega, by have := nodesS_mem hi; omega, okJs_mem.mp hoj i hi⟩ (Nat.le_refl _)) (fun i _ => rfl))) (by rw [List.map_map]; rfl)))) (by rw [stepsS_sum T])) fun v H3 e3 hv => q2 v H3 (e1.trans (e2.trans e3)) hv
      · rw [ej] at hs1
        rw [es] at q2
        refine do_not (.of_eq (et_inS (ys := ["seq", "par"]) (ee_ixT (d := .str g) (ev hs1 0) ee_int rfl) (ee_tup (ea_cons ee_str (ea_cons ee_str ea_nil)))) hg) fun H2 e2 => ?_
        have hs2 := hs1.ex e2
        refine do_ret (d := .int ((n * steps i : Nat) : Int)) (.of_eq (ee_mul (ee_ixT (d := .int (n : Nat)) (ev hs2 0) ee_int rfl) (ee_cal (d := .int (steps i : Nat)) F hr i (ea_cons (ee_ixT (d := enc i) (ev hs2 0) ee_int rfl) ea_nil) ⟨hdi, hni, hoi⟩ (Nat.le_refl _)) (.inl ⟨by omega, by omega⟩)) (by rw [Int.natCast_mul])) fun v H3 e3 hv => q2 v H3 (e1.trans (e2.trans e3)) hv
end
end K30
/-! The rows as the program makes them; they are the job's rows, shifted. -/
namespace K30
open K30m (Job lrows lrowsS Row full testBit_full shR seqRows parRows)
abbrev R3 := Int × Nat × List Nat
abbrev RF := List R3 → Nat → List Nat → List R3 × Nat
def loopF (sq : Bool) : List RF → Nat → List R3 → Nat → Nat → List Nat → List R3 × Nat
  | [], _, rows, dn, _, _ => (rows, dn)
  | f :: fs, i, rows, dn, a, ad => loopF sq fs (i + 1) (f rows (if sq then a ||| dn else a) (ad ++ [i])).1 (dn ||| (f rows (if sq then a ||| dn else a) (ad ++ [i])).2) a ad
mutual
  def rowsF : Job → RF
    | .step v => fun rows a ad => (rows ++ [(v, a, ad)], 2 ^ rows.length)
    | .seq ps => fun rows a ad => loopF true (rowsFs ps) 0 rows 0 a ad
    | .par ps => fun rows a ad => loopF false (rowsFs ps) 0 rows 0 a ad
    | .rep n j => fun rows a ad => loopF true (List.replicate n (rowsF j)) 0 rows 0 a ad
    | .cop n j => fun rows a ad => loopF false (List.replicate n (rowsF j)) 0 rows 0 a ad
  def rowsFs : List Job → List RF
    | [] => []
    | j :: js => rowsF j :: rowsFs js
end
theorem rowsFs_map : ∀ js : List Job, rowsFs js = js.map rowsF
  | [] => rfl
  | j :: js => by
    show rowsF j :: rowsFs js = _
    rw [rowsFs_map js]; rfl
theorem lrowsS_map : ∀ js : List Job, lrowsS js = js.map lrows
  | [] => rfl
  | j :: js => by
    show lrows j :: lrowsS js = _
    rw [lrowsS_map js]; rfl
def two2 (r : R3) : Row := (r.1, r.2.1)
def up (o a : Nat) (r : Row) : Row := (r.1, (r.2 <<< o) ||| a)
def Ab (f : RF) (L : List Row) : Prop := ∀ rows a ad, ∃ new : List R3, (f rows a ad).1 = rows ++ new ∧ new.map two2 = L.map (up rows.length a) ∧ (f rows a ad).2 = full L.length <<< rows.length
theorem full_join (m l : Nat) : full m ||| (full l <<< m) = full (m + l) := Nat.eq_of_testBit_eq fun j => by
  rw [Nat.testBit_or, Nat.testBit_shiftLeft, testBit_full, testBit_full, testBit_full]
  by_cases h1 : j < m <;> by_cases h2 : j < m + l <;> by_cases h3 : m ≤ j <;> by_cases h4 : j - m < l <;> simp [h1, h2, h3, h4] <;> omega
theorem shl_or (x y o : Nat) : (x ||| y) <<< o = (x <<< o) ||| (y <<< o) := Nat.eq_of_testBit_eq fun j => by
  rw [Nat.testBit_or, Nat.testBit_shiftLeft, Nat.testBit_shiftLeft, Nat.testBit_shiftLeft, Nat.testBit_or]
  cases decide (j ≥ o) <;> simp
theorem up_sh (o a m more : Nat) (r : Row) : up o a (shR m more r) = up (o + m) (a ||| (more <<< o)) r := by
  unfold up shR
  simp only
  rw [shl_or, ← Nat.shiftLeft_add, Nat.add_comm m o, Nat.or_assoc, Nat.or_comm (more <<< o) a]
theorem loop_seq : ∀ (fs : List RF) (Ls : List (List Row)), (∀ (i : Nat) f L, fs[i]? = some f → Ls[i]? = some L → Ab f L) → fs.length = Ls.length → ∀ (i : Nat) (rows0 : List R3) (acc : List Row) (new0 : List R3) (a : Nat) (ad : List Nat), new0.map two2 = acc.map (up rows0.length a) →
    ∃ new, (loopF true fs i (rows0 ++ new0) (full acc.length <<< rows0.length) a ad).1 = rows0 ++ new ∧ new.map two2 = (Ls.foldl seqRows acc).map (up rows0.length a) ∧ (loopF true fs i (rows0 ++ new0) (full acc.length <<< rows0.length) a ad).2 = full (Ls.foldl seqRows acc).length <<< rows0.length
  | [], [], _, _, i, rows0, acc, new0, a, ad, h => ⟨new0, rfl, h, rfl⟩
  | [], _ :: _, _, hl, _, _, _, _, _, _, _ => by simp at hl
  | _ :: _, [], _, hl, _, _, _, _, _, _, _ => by simp at hl
  | f :: fs, L :: Ls, hA, hl, i, rows0, acc, new0, a, ad, h => by
    obtain ⟨n1, e1, e2, e3⟩ := hA 0 f L rfl rfl (rows0 ++ new0) (a ||| (full acc.length <<< rows0.length)) (ad ++ [i])
    have hlen : (rows0 ++ new0).length = rows0.length + acc.length := by
      have := congrArg List.length h
      rw [List.length_map, List.length_map] at this
      rw [List.length_append, this]
    have hsl : (seqRows acc L).length = acc.length + L.length := by unfold seqRows; simp
    have hn : (new0 ++ n1).map two2 = (seqRows acc L).map (up rows0.length a) := by
      unfold seqRows
      rw [List.map_append, List.map_append, h, e2, List.map_map, hlen]
      congr 1
      exact List.map_congr_left fun r _ => (up_sh _ _ _ _ r).symm
    have hd : full acc.length <<< rows0.length ||| (f (rows0 ++ new0) (a ||| (full acc.length <<< rows0.length)) (ad ++ [i])).2 = full (seqRows acc L).length <<< rows0.length := by
      rw [e3, hlen, hsl, ← full_join, shl_or, ← Nat.shiftLeft_add, Nat.add_comm acc.length rows0.length]
    have ih := loop_seq fs Ls (fun j g M h1 h2 => hA (j + 1) g M (by simpa using h1) (by simpa using h2)) (by simpa using hl) (i + 1) rows0 (seqRows acc L) (new0 ++ n1) a ad hn
    rw [← hd, ← List.append_assoc, ← e1] at ih
    exact ih
theorem loop_par : ∀ (fs : List RF) (Ls : List (List Row)), (∀ (i : Nat) f L, fs[i]? = some f → Ls[i]? = some L → Ab f L) → fs.length = Ls.length → ∀ (i : Nat) (rows0 : List R3) (acc : List Row) (new0 : List R3) (a : Nat) (ad : List Nat), new0.map two2 = acc.map (up rows0.length a) →
    ∃ new, (loopF false fs i (rows0 ++ new0) (full acc.length <<< rows0.length) a ad).1 = rows0 ++ new ∧ new.map two2 = (Ls.foldl parRows acc).map (up rows0.length a) ∧ (loopF false fs i (rows0 ++ new0) (full acc.length <<< rows0.length) a ad).2 = full (Ls.foldl parRows acc).length <<< rows0.length
  | [], [], _, _, i, rows0, acc, new0, a, ad, h => ⟨new0, rfl, h, rfl⟩
  | [], _ :: _, _, hl, _, _, _, _, _, _, _ => by simp at hl
  | _ :: _, [], _, hl, _, _, _, _, _, _, _ => by simp at hl
  | f :: fs, L :: Ls, hA, hl, i, rows0, acc, new0, a, ad, h => by
    obtain ⟨n1, e1, e2, e3⟩ := hA 0 f L rfl rfl (rows0 ++ new0) a (ad ++ [i])
    have hlen : (rows0 ++ new0).length = rows0.length + acc.length := by
      have := congrArg List.length h
      rw [List.length_map, List.length_map] at this
      rw [List.length_append, this]
    have hsl : (parRows acc L).length = acc.length + L.length := by unfold parRows; simp
    have hn : (new0 ++ n1).map two2 = (parRows acc L).map (up rows0.length a) := by
      unfold parRows
      rw [List.map_append, List.map_append, h, e2, List.map_map, hlen]
      congr 1
      refine List.map_congr_left fun r _ => ?_
      show _ = up rows0.length a (shR acc.length 0 r)
      rw [up_sh, Nat.zero_shiftLeft, Nat.or_zero]
    have hd : full acc.length <<< rows0.length ||| (f (rows0 ++ new0) a (ad ++ [i])).2 = full (parRows acc L).length <<< rows0.length := by
      rw [e3, hlen, hsl, ← full_join, shl_or, ← Nat.shiftLeft_add, Nat.add_comm acc.length rows0.length]
    have ih := loop_par fs Ls (fun j g M h1 h2 => hA (j + 1) g M (by simpa using h1) (by simpa using h2)) (by simpa using hl) (i + 1) rows0 (parRows acc L) (new0 ++ n1) a ad hn
    rw [← hd, ← List.append_assoc, ← e1] at ih
    exact ih
theorem full0 : full 0 = 0 := rfl
theorem loop_ab {sq : Bool} {fs : List RF} {Ls : List (List Row)} (h : ∀ (i : Nat) f L, fs[i]? = some f → Ls[i]? = some L → Ab f L) (hl : fs.length = Ls.length) : Ab (fun rows a ad => loopF sq fs 0 rows 0 a ad) (Ls.foldl (if sq then seqRows else parRows) []) := fun rows a ad => by
  cases sq with
  | true =>
    have := loop_seq fs Ls h hl 0 rows [] [] a ad rfl
    rw [List.append_nil, List.length_nil, full0, Nat.zero_shiftLeft] at this
    exact this
  | false =>
    have := loop_par fs Ls h hl 0 rows [] [] a ad rfl
    rw [List.append_nil, List.length_nil, full0, Nat.zero_shiftLeft] at this
    exact this
mutual
  theorem rows_ab : ∀ j : Job, Ab (rowsF j) (lrows j)
    | .step v => fun rows a ad => ⟨[(v, a, ad)], rfl, by
        show [((v, a) : Row)] = [(v, (0 <<< rows.length) ||| a)]
        rw [Nat.zero_shiftLeft, Nat.zero_or], by
        show 2 ^ rows.length = (2 ^ 1 - 1) <<< rows.length
        rw [Nat.shiftLeft_eq]; omega⟩
    | .seq ps => loop_ab (sq := true) (rowss_ab ps).1 (rowss_ab ps).2
    | .par ps => loop_ab (sq := false) (rowss_ab ps).1 (rowss_ab ps).2
    | .rep n j => loop_ab (sq := true) (fun i f L h1 h2 => by
        have e1 := List.eq_of_mem_replicate (List.mem_of_getElem? h1)
        have e2 := List.eq_of_mem_replicate (List.mem_of_getElem? h2)
        rw [e1, e2]
        exact rows_ab j) (by rw [List.length_replicate, List.length_replicate])
    | .cop n j => loop_ab (sq := false) (fun i f L h1 h2 => by
        have e1 := List.eq_of_mem_replicate (List.mem_of_getElem? h1)
        have e2 := List.eq_of_mem_replicate (List.mem_of_getElem? h2)
        rw [e1, e2]
        exact rows_ab j) (by rw [List.length_replicate, List.length_replicate])
  theorem rowss_ab : ∀ js : List Job, (∀ (i : Nat) f L, (rowsFs js)[i]? = some f → (lrowsS js)[i]? = some L → Ab f L) ∧ (rowsFs js).length = (lrowsS js).length
    | [] => ⟨fun i f L h => by simp [rowsFs] at h, rfl⟩
    | j :: js => ⟨fun i f L h1 h2 => by
        cases i with
        | zero =>
          have e1 : rowsF j = f := Option.some.inj h1
          have e2 : lrows j = L := Option.some.inj h2
          rw [← e1, ← e2]
          exact rows_ab j
        | succ i => exact (rowss_ab js).1 i f L h1 h2, congrArg Nat.succ (rowss_ab js).2⟩
end
theorem up_zero (r : Row) : up 0 0 r = r := by
  unfold up
  rw [Nat.shiftLeft_zero, Nat.or_zero]
/-- at the top: the job's rows -/
theorem rows_top (j : Job) : ((rowsF j [] 0 []).1).map two2 = lrows j ∧ (rowsF j [] 0 []).2 = full (lrows j).length := by
  obtain ⟨new, h1, h2, h3⟩ := rows_ab j [] 0 []
  rw [List.nil_append] at h1
  rw [h1, h2, h3, List.length_nil, Nat.shiftLeft_zero]
  refine ⟨?_, rfl⟩
  rw [show (up 0 0) = id from funext up_zero, List.map_id]
theorem loop_append (sq : Bool) : ∀ (fs gs : List RF) (i : Nat) (rows : List R3) (dn a : Nat) (ad : List Nat), loopF sq (fs ++ gs) i rows dn a ad = loopF sq gs (i + fs.length) (loopF sq fs i rows dn a ad).1 (loopF sq fs i rows dn a ad).2 a ad
  | [], gs, i, rows, dn, a, ad => rfl
  | f :: fs, gs, i, rows, dn, a, ad => by
    show loopF sq (fs ++ gs) (i + 1) _ _ a ad = loopF sq gs (i + (fs.length + 1)) _ _ a ad
    rw [loop_append sq fs gs, show i + 1 + fs.length = i + (fs.length + 1) by omega]
    rfl
end K30
namespace K30
open PySem PySem.Spec PyProof.Rows L2 Evl RZ
open K30m (Job jobS jobsS lrows lrowsS full)
theorem bor_nat (a b : Nat) : Builtin.bitOr (a : Nat) (b : Nat) = ((a ||| b : Nat) : Int) := by
  unfold Builtin.bitOr Builtin.bitAnd Builtin.bitNot
  rw [decide_eq_false (by omega), decide_eq_false (by omega)]
  show -(-((((-(-((a : Nat) : Int) - 1) - 1).toNat ||| (-(-((b : Nat) : Int) - 1) - 1).toNat : Nat)) : Int) - 1) - 1 = _
  rw [show (-(-((a : Nat) : Int) - 1) - 1).toNat = a by omega, show (-(-((b : Nat) : Int) - 1) - 1).toNat = b by omega]
  omega
theorem band_nat (a b : Nat) : Builtin.bitAnd (a : Nat) (b : Nat) = ((a &&& b : Nat) : Int) := by
  unfold Builtin.bitAnd
  rw [decide_eq_true (by omega), decide_eq_true (by omega)]
  rfl
theorem at_c0 {d : D} {ds : List D} : atI (d :: ds) 0 = some d := by
  unfold atI ixN
  rw [if_pos (Int.le_refl _), if_pos (by rw [List.length_cons]; omega)]
  rfl
def r3D (r : R3) : D := .tuple [.int r.1, .int (r.2.1 : Nat), .tuple (natsD r.2.2)]
theorem r3D_nol (r : R3) : noL (r3D r) = true := by
  show (true && (true && (noLs (natsD r.2.2) && true))) = true
  rw [nats_nols]; rfl
theorem r3_nols (rs : List R3) : noLs (rs.map r3D) = true := noLs_mem.mpr fun z hz => by
  obtain ⟨p, _, rfl⟩ := List.mem_map.mp hz
  exact r3D_nol p
theorem rep_flat {α : Type} (x : α) : ∀ n, (List.replicate n [x]).flatten = List.replicate n x
  | 0 => rfl
  | n + 1 => by rw [List.replicate_succ, List.flatten_cons, rep_flat x n, List.replicate_succ]; rfl
theorem fold_len2 (f : List K30m.Row → List K30m.Row → List K30m.Row) (hf : ∀ a b, (f a b).length = a.length + b.length) : ∀ (l : List (List K30m.Row)) (acc : List K30m.Row), (l.foldl f acc).length = acc.length + (l.map List.length).sum
  | [], acc => rfl
  | x :: l, acc => by
    rw [List.foldl_cons, fold_len2 f hf l, hf, List.map_cons, List.sum_cons]
    omega
theorem seqRows_len (a b : List K30m.Row) : (K30m.seqRows a b).length = a.length + b.length := by unfold K30m.seqRows; simp
theorem parRows_len (a b : List K30m.Row) : (K30m.parRows a b).length = a.length + b.length := by unfold K30m.parRows; simp
theorem rep_sum (n k : Nat) : (List.replicate n k).sum = n * k := by
  induction n with
  | zero => simp
  | succ n ih => rw [List.replicate_succ, List.sum_cons, ih, Nat.succ_mul]; omega
mutual
  theorem lrows_len : ∀ j : Job, (lrows j).length = steps j
    | .step v => rfl
    | .seq ps => by
      show ((lrowsS ps).foldl K30m.seqRows []).length = stepsS ps
      rw [fold_len2 _ seqRows_len, lrowsS_len ps]; simp
    | .par ps => by
      show ((lrowsS ps).foldl K30m.parRows []).length = stepsS ps
      rw [fold_len2 _ parRows_len, lrowsS_len ps]; simp
    | .rep n j => by
      show ((List.replicate n (lrows j)).foldl K30m.seqRows []).length = n * steps j
      rw [fold_len2 _ seqRows_len, List.map_replicate, rep_sum, lrows_len j]; simp
    | .cop n j => by
      show ((List.replicate n (lrows j)).foldl K30m.parRows []).length = n * steps j
      rw [fold_len2 _ parRows_len, List.map_replicate, rep_sum, lrows_len j]; simp
  theorem lrowsS_len : ∀ js : List Job, ((lrowsS js).map List.length).sum = stepsS js
    | [] => rfl
    | j :: js => by
      show ((lrows j :: lrowsS js).map List.length).sum = steps j + stepsS js
      rw [List.map_cons, List.sum_cons, lrows_len j, lrowsS_len js]
end
theorem rowsF_len (j : Job) (rows : List R3) (a : Nat) (ad : List Nat) : (rowsF j rows a ad).1.length = rows.length + steps j := by
  obtain ⟨new, h1, h2, _⟩ := rows_ab j rows a ad
  have := congrArg List.length h2
  rw [List.length_map, List.length_map, lrows_len] at this
  rw [h1, List.length_append, this]
theorem loopF_len (sq : Bool) : ∀ (js : List Job) (i : Nat) (rows : List R3) (dn a : Nat) (ad : List Nat), (loopF sq (js.map rowsF) i rows dn a ad).1.length = rows.length + stepsS js
  | [], i, rows, dn, a, ad => rfl
  | j :: js, i, rows, dn, a, ad => by
    show (loopF sq (js.map rowsF) (i + 1) _ _ a ad).1.length = rows.length + (steps j + stepsS js)
    rw [loopF_len sq js, rowsF_len]
    omega
section
variable {X : Cx} {e : Expr} {σ : L2.St} {H : Hp} {pos pos' : Pos} {rest : List Stmt} {De : Ends}
theorem do_asgS {x : Str} (nd : X.N.Nodup) (i : Nat) (h : tSem X e σ H fun v H1 => Do X rest De (σ.set i (some v)) H1)
    (hi : X.N[i]? = some x := by rfl) (hx : Loc X.env.scope x := by first | exact Or.inl rfl | exact Or.inr rfl) (hw : swapsWith e (some (.Name x pos')) pos.line X.env = pure false := by rfl)
    (hf : X.fn x = true ∨ X.env.scope.names.lookup x = some .local := by first | exact .inl rfl | exact .inr rfl) : Do X (.Assign [.Name x pos'] e pos :: rest) De σ H := do_st (of_ps (ps_set nd hi hx pe_sem hw hf) h)
theorem do_exprS (h : tSem X e σ H fun _ H1 => Do X rest De σ H1) (hw : swapsWith e none pos.line X.env = pure false := by rfl) : Do X (.Expr e pos :: rest) De σ H := do_st (of_ps (ps_expr pe_sem hw) h)
end
mutual
  def cntJ : Job → Prop
    | .step _ => True
    | .seq ps => cntJs ps
    | .par ps => cntJs ps
    | .rep n j => n ≤ 1000 ∧ cntJ j
    | .cop n j => n ≤ 1000 ∧ cntJ j
  def cntJs : List Job → Prop
    | [] => True
    | j :: js => cntJ j ∧ cntJs js
end
theorem cntJs_mem : ∀ {js : List Job}, cntJs js ↔ ∀ j ∈ js, cntJ j
  | [] => ⟨fun _ j h => by simp at h, fun _ => trivial⟩
  | j :: js => by
    show cntJ j ∧ cntJs js ↔ _
    rw [cntJs_mem, List.forall_mem_cons]
mutual
  theorem okJ_cnt : ∀ j : Job, okJ j → cntJ j
    | .step _, _ => trivial
    | .seq ps, h => okJs_cnt ps h
    | .par ps, h => okJs_cnt ps h
    | .rep n j, h => ⟨h.1, okJ_cnt j h.2.2⟩
    | .cop n j, h => ⟨h.1, okJ_cnt j h.2.2⟩
  theorem okJs_cnt : ∀ js : List Job, okJs js → cntJs js
    | [], _ => trivial
    | j :: js, h => ⟨okJ_cnt j h.1, okJs_cnt js h.2⟩
end
/-- what _law_rows promises -/
def spRows (K : PySem.W.Frag) (d : Nat) : Sp := fun vs H Q _ => ∃ (j : Job) (l : Addr) (rows : List R3) (a : Nat) (ad : List Nat), (depth j ≤ d ∧ nodes j ≤ 4000 ∧ cntJ j ∧ rows.length + steps j ≤ 10000 ∧ ad.length + depth j ≤ 1000) ∧
  ArAll K H vs [.d (enc j), .at l, .d (.int (a : Nat)), .d (.tuple (natsD ad))] ∧ LsAt K H l (rows.map r3D) ∧ ∀ v H', Ch [l] H H' → LsAt K H' l ((rowsF j rows a ad).1.map r3D) → Dp K H' v (.int ((rowsF j rows a ad).2 : Nat)) → Q v H'
theorem spRows_len {K : PySem.W.Frag} {d : Nat} : ∀ vs H Q E, spRows K d vs H Q E → vs.length = 4 := fun vs H Q E h => by
  obtain ⟨j, l, rows, a, ad, _, ha, _⟩ := h
  rw [arall_length ha]
  rfl
section
variable {P : Program} {w : World} {K : PySem.W.Frag} {mg : Str → Option Value} {base : Heap} (T : Tops K mg)
include T
theorem f_law_rows : ∀ d : Nat, Fn P w K mg base (d + 1) "_law_rows" ["_law_job_here", "_law_rows_here", "_law_ahead", "_law_address"] (spRows K d)
  | 0 => by
    refine fn_ok T.d_law_rows sc_law_rows hb_law_rows spRows_len fun f cdv A outer s H vs Q E hr h => ?_
    obtain ⟨j, l, rows, a, ad, ⟨h1, _⟩, _⟩ := h
    have := depth_pos j
    omega
  | d + 1 => by
    have F := f_law_rows d
    refine fn_ok (k := d + 1) T.d_law_rows sc_law_rows hb_law_rows spRows_len fun f cdv A outer s H vs Q E hr h => ?_
    obtain ⟨j, l, rows, a, ad, ⟨hd1, hno, hok, hst, had⟩, ha, hl, q⟩ := h
    match vs, ha with
    | [v1, v2, v3, v4], .cons h1 (.cons h2 (.cons h3 (.cons h4 .nil))) =>
      have h1 : Dp K H v1 (enc j) := h1
      have h2 : v2 = .ref l := h2
      have h3 : Dp K H v3 (.int (a : Nat)) := h3
      have h4 : Dp K H v4 (.tuple (natsD ad)) := h4
      subst h2
      have hs : SR K H (start n_law_rows [v1, .ref l, v3, v4]) [some (.py (enc j)), some (.at l), some (.py (.int (a : Nat))), some (.py (.tuple (natsD ad))), none, none, none, none, none] := .py h1 (enc_nol j) (.at (.py h3 rfl (.py h4 (nats_nols ad) (.no (.no (.no (.no (.no .nil))))))))
      refine do_when (et_val (ee_isi (T := "int") T.b_isinstance T.b_int (ev hs 0))) (fun hb H1 e1 => ?_) (fun hb H1 e1 => ?_)
      · rw [isT_int] at hb
        cases j with
        | step x =>
          have hs1 := hs.ex e1
          obtain ⟨vsl, hl1, hd1'⟩ := hl.ex e1
          have vl := dps_length hd1'
          rw [List.length_map] at vl
          have hst : rows.length + 1 ≤ 10000 := hst
          refine do_app hs1 1 hl1 (by omega) (ee_tup (ds := [.int x, .int (a : Nat), .tuple (natsD ad)]) (ea_cons (ev (d := .int x) hs1 0) (ea_cons (ev hs1 2) (ea_cons (ev hs1 3) ea_nil)))) fun v H2 e2 hv => ?_
          have tx : TX H2 (upd H2 l (.lst (vsl ++ [v]))) := TX.upd (e2 _ _ hl1) trivial
          have la : LsAt K (upd H2 l (.lst (vsl ++ [v]))) l ((rows ++ [(x, a, ad)]).map r3D) := by
            rw [List.map_append]
            exact lsat_app e2 hl1 hd1' hv (r3_nols _) (r3D_nol (x, a, ad))
          have hs2 := (hs1.ex e2).tx tx
          refine do_ret (d := .int ((2 ^ rows.length : Nat) : Int)) (.of_eq (ee_shl ee_int (ee_sub (ee_lenL T.b_len (ep_slot hs2 1 la).ev) ee_int) ⟨by rw [List.length_map, List.length_append, List.length_singleton]; omega, by rw [List.length_map, List.length_append, List.length_singleton]; omega, by decide⟩) ?_) fun v' H3 e3 hv' => q v' H3 (((Ch.ex (e1.trans e2)).trans (Ch.upd List.mem_cons_self)).trans (.ex e3)) (la.ex e3) hv'
          rw [List.length_map, List.length_append, List.length_singleton, show ((rows.length + 1 : Nat) : Int) - 1 = (rows.length : Nat) by omega, Int.toNat_natCast, Int.one_mul, Int.natCast_pow]
          rfl
        | _ => cases hb
      · rw [isT_int] at hb
        have hs1 := hs.ex e1
        have cs : ∃ (g : Str) (sq : Bool) (xs : List Job) (dj : List D), enc j = .tuple (.str g :: dj) ∧ (["seq", "repeat"] : List Str).contains g = sq ∧ (∀ i ∈ xs, depth i ≤ d ∧ nodes i ≤ 4000 ∧ cntJ i ∧ depth i + 1 ≤ depth j) ∧ xs.length ≤ 4000 ∧ stepsS xs = steps j ∧ (rowsF j rows a ad = loopF sq (xs.map rowsF) 0 rows 0 a ad) ∧
            (((["seq", "par"] : List Str).contains g = true ∧ dj = [.tuple (xs.map enc)]) ∨ ∃ (n : Nat) (i : Job), (["seq", "par"] : List Str).contains g = false ∧ dj = [.int (n : Nat), enc i] ∧ n ≤ 1000 ∧ xs = List.replicate n i) := by
          have srep : ∀ (n : Nat) (i : Job), stepsS (List.replicate n i) = n * steps i := fun n i => by
            induction n with
            | zero => simp [stepsS]
            | succ n ih =>
              show steps i + stepsS (List.replicate n i) = _
              rw [ih, Nat.succ_mul]; omega
          cases j with
          | step v => cases hb
          | seq js =>
            have e : depth (.seq js) = 1 + depthS js := rfl
            have e' : nodes (.seq js) = 1 + nodesS js := rfl
            have hl := len_nodesS js
            exact ⟨"seq", true, js, [.tuple (js.map enc)], by rw [← encs_map]; rfl, by decide, fun i hi => ⟨by have := depthS_mem hi; omega, by have := nodesS_mem hi; omega, cntJs_mem.mp hok i hi, by have := depthS_mem hi; omega⟩, by omega, rfl, by rw [← rowsFs_map]; rfl, .inl ⟨by decide, rfl⟩⟩
          | par js =>
            have e : depth (.par js) = 1 + depthS js := rfl
            have e' : nodes (.par js) = 1 + nodesS js := rfl
            have hl := len_nodesS js
            exact ⟨"par", false, js, [.tuple (js.map enc)], by rw [← encs_map]; rfl, by decide, fun i hi => ⟨by have := depthS_mem hi; omega, by have := nodesS_mem hi; omega, cntJs_mem.mp hok i hi, by have := depthS_mem hi; omega⟩, by omega, rfl, by rw [← rowsFs_map]; rfl, .inl ⟨by decide, rfl⟩⟩
          | rep n i =>
            have e : depth (.rep n i) = 1 + depth i := rfl
            have e' : nodes (.rep n i) = 1 + nodes i := rfl
            exact ⟨"repeat", true, List.replicate n i, [.int (n : Nat), enc i], rfl, by decide, fun k hk => by rw [List.eq_of_mem_replicate hk]; exact ⟨by omega, by omega, hok.2, by omega⟩, by rw [List.length_replicate]; have := hok.1; omega, srep n i, by rw [List.map_replicate]; rfl, .inr ⟨n, i, by decide, rfl, hok.1, rfl⟩⟩
          | cop n i =>
            have e : depth (.cop n i) = 1 + depth i := rfl
            have e' : nodes (.cop n i) = 1 + nodes i := rfl
            exact ⟨"copies", false, List.replicate n i, [.int (n : Nat), enc i], rfl, by decide, fun k hk => by rw [List.eq_of_mem_replicate hk]; exact ⟨by omega, by omega, hok.2, by omega⟩, by rw [List.length_replicate]; have := hok.1; omega, srep n i, by rw [List.map_replicate]; rfl, .inr ⟨n, i, by decide, rfl, hok.1, rfl⟩⟩
        obtain ⟨g, sq, xs, dj, ej, hsq, hxs, hxl, hss, hrf, hparts⟩ := cs
        rw [ej] at hs1
        rw [hrf] at q
        have xn : noLs (xs.map enc) = true := by rw [← encs_map]; exact encs_nol xs
        have en : noLs (xs.zipIdx.map fun x => PyData.tuple [.int (x.2 : Nat), enc x.1]) = true := by
          rw [← enum_map]
          exact enum_nol xn
        refine do_asg (d := .tuple (xs.map enc)) sc_law_rows.nd 4 hs1 ?_ xn fun σ2 H2 e2 hs2 => ?_
        · rcases hparts with ⟨hg, rfl⟩ | ⟨n, i, hg, rfl, hn, rfl⟩
          · exact ee_if (et_inS (ys := ["seq", "par"]) (ee_ixT (d := .str g) (ev hs1 0) ee_int rfl) (ee_tup (ea_cons ee_str (ea_cons ee_str ea_nil)))) (fun _ => ee_ixT (d := .tuple (xs.map enc)) (ev hs1 0) ee_int rfl) (fun h => by rw [hg] at h; cases h)
          · refine ee_if (et_inS (ys := ["seq", "par"]) (ee_ixT (d := .str g) (ev hs1 0) ee_int rfl) (ee_tup (ea_cons ee_str (ea_cons ee_str ea_nil)))) (fun h => by rw [hg] at h; cases h) (fun _ => .of_eq (ee_repT (ds := [enc i]) (k := n) (ee_tup (ea_cons (ee_ixT (d := enc i) (ev hs1 0) ee_int rfl) ea_nil)) (ee_ixT (d := .int (n : Nat)) (ev hs1 0) ee_int rfl) (by simp) hn (by simp)) ?_)
            rw [List.map_replicate, rep_flat]
        refine do_asg sc_law_rows.nd 5 hs2 ee_int rfl fun σ3 H3 e3 hs3 => ?_
        have e13 := e1.trans (e2.trans e3)
        have l3 := hl.ex e13
        refine do_for (xs := xs.zipIdx) (g := fun x => PyData.tuple [.int (x.2 : Nat), enc x.1]) PassesOwn.never rfl [l] (fun pre => [some (.py (.tuple (.str g :: dj))), some (.at l), some (.py (.int (a : Nat))), some (.py (.tuple (natsD ad))), some (.py (.tuple (xs.map enc))), some (.py (.int ((loopF sq (pre.map fun (x : Job × Nat) => rowsF x.1) 0 rows 0 a ad).2 : Nat))), none, none, none])
          (fun pre H => LsAt K H l ((loopF sq (pre.map fun (x : Job × Nat) => rowsF x.1) 0 rows 0 a ad).1.map r3D)) (us := fun x => [(6, .int (x.2 : Nat)), (7, enc x.1)])
          (enum_map xs enc ▸ ei_enumT T.b_enumerate (ev hs3 4) xn) en (fun b hb => by
            rw [List.mem_singleton.mp hb]
            obtain ⟨ws, hw, _⟩ := l3
            exact ⟨_, hw, trivial⟩) (fun b hb => by cases hb) (fun x _ => tg_tup rfl (tgs_cons (tg_name sc_law_rows.nd 6) (tgs_cons (tg_name sc_law_rows.nd 7) tgs_nil))) (fun pre H1 H2 e h => h.ex e) hs3 l3 ?_ ?_
        · rintro pre ⟨i, n⟩ post hx σ4 H4 c4 t4 hv4 hs4 N hN
          have hn : n = pre.length := by
            have : xs.zipIdx[pre.length]? = some (i, n) := by rw [hx]; simp
            rw [List.getElem?_zipIdx] at this
            cases hq : xs[pre.length]? with
            | none => rw [hq] at this; cases this
            | some z =>
              rw [hq] at this
              have := (Prod.ext_iff.mp (Option.some.inj this)).2
              simp at this
              exact this.symm
          have him : i ∈ xs := by
            have : (i, n) ∈ xs.zipIdx := by rw [hx]; exact List.mem_append_right _ List.mem_cons_self
            rw [List.mem_zipIdx_iff_getElem?] at this
            exact List.mem_of_getElem? this
          obtain ⟨i1, i2, i3, i4⟩ := hxs i him
          have hpl : pre.map (fun (x : Job × Nat) => rowsF x.1) = (pre.map Prod.fst).map rowsF := by rw [List.map_map]; rfl
          have hxs2 : xs = pre.map Prod.fst ++ i :: post.map Prod.fst := by
            have := congrArg (List.map Prod.fst) hx
            rw [List.zipIdx_map_fst, List.map_append, List.map_cons] at this
            exact this
          have hsum : stepsS (pre.map Prod.fst) + steps i ≤ steps j := by
            rw [← hss, hxs2, stepsS_append]
            show _ ≤ _ + (steps i + stepsS _)
            omega
          have hln : (loopF sq (pre.map fun (x : Job × Nat) => rowsF x.1) 0 rows 0 a ad).1.length = rows.length + stepsS (pre.map Prod.fst) := by rw [hpl, loopF_len]
          have ef : loopF sq ((pre ++ [(i, n)]).map fun (x : Job × Nat) => rowsF x.1) 0 rows 0 a ad = ((rowsF i (loopF sq (pre.map fun (x : Job × Nat) => rowsF x.1) 0 rows 0 a ad).1 (if sq then a ||| (loopF sq (pre.map fun (x : Job × Nat) => rowsF x.1) 0 rows 0 a ad).2 else a) (ad ++ [n])).1, (loopF sq (pre.map fun (x : Job × Nat) => rowsF x.1) 0 rows 0 a ad).2 ||| (rowsF i (loopF sq (pre.map fun (x : Job × Nat) => rowsF x.1) 0 rows 0 a ad).1 (if sq then a ||| (loopF sq (pre.map fun (x : Job × Nat) => rowsF x.1) 0 rows 0 a ad).2 else a) (ad ++ [n])).2) := by
            rw [List.map_append, loop_append, List.length_map, Nat.zero_add, hn]
            rfl
          rw [ef] at hN
          generalize loopF sq (pre.map fun (x : Job × Nat) => rowsF x.1) 0 rows 0 a ad = st at hv4 hs4 hN hln
          obtain ⟨rs, dn⟩ := st
          simp only at hv4 hs4 hN hln
          refine do_asg (d := .int ((if sq then a ||| dn else a : Nat) : Int)) sc_law_rows.nd 8 hs4 (ee_if (et_inS (ys := ["seq", "repeat"]) (ee_ixT (d := .str g) (ev hs4 0) ee_int at_c0) (ee_tup (ea_cons ee_str (ea_cons ee_str ea_nil)))) (fun h => .of_eq (ee_bor (ev hs4 2) (ev hs4 5)) ?_) (fun h => .of_eq (ev hs4 2) ?_)) rfl fun σ5 H5 e5 hs5 => ?_
          · rw [bor_nat]
            rw [hsq] at h
            rw [if_pos h]
          · rw [hsq] at h
            rw [if_neg (by rw [h]; decide)]
          refine do_asgS sc_law_rows.nd 5 (of_pe (pe_op op_or pe_sem pe_sem) ((ev hs5 5) H5 (Ex.refl _) _ fun x H6 e6 hx6 => ?_))
          rw [dp_int hx6]
          refine ee_callR (as := [.d (enc i), .at l, .d (.int ((if sq then a ||| dn else a : Nat) : Int)), .d (.tuple (natsD (ad ++ [n])))]) F hr (er_cons (EvE.v (ev hs5 7)) (er_cons (evAt hs5 1) (er_cons (EvE.v (ev hs5 8)) (er_cons (EvE.v (.of_eq (ee_catT (ds2 := [.int (n : Nat)]) (ev hs5 3) (ee_tup (ea_cons (ev hs5 6) ea_nil)) ?_) ?_)) er_nil)))) e6 (fun vs7 H7 e7 hvs7 => ?_) (Nat.le_refl _)
          · show (natsD ad).length + 1 ≤ 100000
            unfold natsD
            rw [List.length_map]
            omega
          · unfold natsD
            rw [List.map_append]
            rfl
          · refine ⟨i, l, rs, if sq then a ||| dn else a, ad ++ [n], ⟨i1, i2, i3, by omega, by rw [List.length_append, List.length_singleton]; omega⟩, hvs7, hv4.ex (e5.trans (e6.trans e7)), fun v8 H8 c8 la8 hv8 => ?_⟩
            rw [dp_int hv8]
            refine ⟨_, _, rfl, rfl, ?_⟩
            have e57 := e6.trans e7
            have c58 : Ch [l] H5 H8 := (Ch.ex e57).trans c8
            have tx : TX H5 H8 := c58.tx fun b hb => by
              rw [List.mem_singleton.mp hb]
              obtain ⟨ws, hw, _⟩ := hv4.ex e5
              exact ⟨_, hw, trivial⟩
            have hs8 := (hs5.tx tx).set_py (K := K) (v := .int (Builtin.bitOr (dn : Nat) ((rowsF i rs (if sq then a ||| dn else a) (ad ++ [n])).2 : Nat))) (d := .int ((dn ||| (rowsF i rs (if sq then a ||| dn else a) (ad ++ [n])).2 : Nat) : Int)) (by rw [bor_nat]; exact .int _) rfl 5
            exact do_nil (hN _ _ ((Ch.ex e5).trans c58) la8 (((hs8.drop 6).drop 7).drop 8))
        · intro σ4 H4 c4 t4 hv4 hs4
          have em : (xs.zipIdx.map fun (x : Job × Nat) => rowsF x.1) = xs.map rowsF := by
            have := congrArg (List.map rowsF) (List.zipIdx_map_fst (l := xs) (i := 0))
            rw [List.map_map] at this
            exact this
          rw [em] at hv4 hs4
          exact do_ret (ev hs4 5) fun v H5 e5 hv => q v H5 (((Ch.ex e13).trans c4).trans (.ex e5)) (hv4.ex e5) hv
end
end K30
namespace K30
open PySem PySem.Spec PyProof.Rows L2 Evl RZ
/-! ### dicts of ints -/
abbrev DM := List (Nat × Int)
def dKv (m : DM) : List (Key × V) := m.map fun p => (Sum.inl (p.1 : Int), V.int p.2)
def getM (m : DM) (k : Nat) : Option Int := (m.find? fun p => decide (p.1 = k)).map (·.2)
theorem valV_dK : ∀ (m : DM) (k : Nat), valV (dKv m) (Sum.inl (k : Int) : Key) = (getM m k).map V.int
  | [], k => rfl
  | p :: m, k => by
    by_cases h : p.1 = k
    · subst h
      have e1 : valV (dKv (p :: m)) (Sum.inl (p.1 : Int) : Key) = some (V.int p.2) := valV_pos (p := (Sum.inl (p.1 : Int), V.int p.2)) rfl
      rw [e1]
      unfold getM
      rw [List.find?_cons_of_pos (by simp)]
      rfl
    · have hne : ¬ ((Sum.inl (p.1 : Int), V.int p.2) : Key × V).1 = Sum.inl (k : Int) := fun z => h (by
        have := Sum.inl.inj z
        omega)
      have e1 : valV (dKv (p :: m)) (Sum.inl (k : Int) : Key) = valV (dKv m) (Sum.inl (k : Int) : Key) := valV_neg hne
      rw [e1, valV_dK m k]
      unfold getM
      rw [List.find?_cons_of_neg (by simpa using h)]
theorem put_new {m : DM} {k : Nat} {v : Int} (h : getM m k = none) : putK (dKv m) (Sum.inl (k : Int) : Key) (V.int v) = dKv (m ++ [(k, v)]) := by
  have hn : ((dKv m).any fun kv => decide (kv.1 = (Sum.inl (k : Int) : Key))) = false := by
    rw [Bool.eq_false_iff]
    intro z
    rw [List.any_eq_true] at z
    obtain ⟨kv, hkv, e⟩ := z
    unfold dKv at hkv
    obtain ⟨p, hp, rfl⟩ := List.mem_map.mp hkv
    have e := Sum.inl.inj (of_decide_eq_true e)
    have e : p.1 = k := by omega
    unfold getM at h
    rw [Option.map_eq_none_iff, List.find?_eq_none] at h
    exact h p hp (by simpa using e)
  unfold putK
  rw [if_neg (by rw [hn]; decide)]
  unfold dKv
  rw [List.map_append]
  rfl
def RdD (H : Hp) (p : Addr) (m : DM) : Prop := Rd H p (.dK (dKv m))
theorem RdD.ex {H H' : Hp} {p : Addr} {m : DM} (e : Ex H H') (h : RdD H p m) : RdD H' p m := by
  rcases h with h | ⟨o, h⟩
  · exact .inl (e _ _ h)
  · exact .inr ⟨o, e _ _ h⟩
section
variable {X : Cx} {a b c e ie : Expr} {es : List Expr} {σ : L2.St} {H H' : Hp} {d : D} {ds : List D} {Γ : List (Option Sl)} {pos pos' px : Pos} {rest : List Stmt} {De : Ends} {m : DM} {k : Nat} {l : Addr} {x : Str}
theorem ee_dget {v : Int} (hu : X.A.units + 64 < cLine) (hs : SR X.K H σ Γ) (i : Nat) (hd : RdD H l m) (hi : EvE X ie σ H (.int (k : Nat))) (hv : getM m k = some v) (hg : Γ[i]? = some (some (.at l)) := by rfl) (hN : X.N[i]? = some x := by rfl)
    (hvi : Vis X.env.scope x := by first | exact Or.inl rfl | exact Or.inr (Or.inl rfl) | exact Or.inr (Or.inr rfl)) (hdb : (x == ("__debug__" : Str)) = false := by decide) (hcd : (x == ("__classdict__" : Str)) = false := by decide) (hsl : NoSl ie := by exact fun _ _ => rfl) :
    EvE X (.Subscript (.Name x px) ie pos) σ H (.int v) := fun H1 e1 Q q =>
  of_pe (pe_dget (by omega) (pe_var hN hvi hdb hcd) pe_sem hsl) ⟨_, hs.get_at hg, hi H1 e1 _ fun y H2 e2 hy => by
    rw [dp_int hy]
    refine ⟨l, .int v, rfl, .inl ⟨dKv m, Sum.inl (k : Int), hd.ex (e1.trans e2), rfl, ?_⟩, q _ H2 e2 (.int v)⟩
    rw [valV_dK, hv]
    rfl⟩
theorem et_din (hu : X.A.units + 64 < cLine) (hs : SR X.K H σ Γ) (i : Nat) (hd : RdD H l m) (hi : EvE X ie σ H (.int (k : Nat))) (hg : Γ[i]? = some (some (.at l)) := by rfl) (hN : X.N[i]? = some x := by rfl)
    (hvi : Vis X.env.scope x := by first | exact Or.inl rfl | exact Or.inr (Or.inl rfl) | exact Or.inr (Or.inr rfl)) (hdb : (x == ("__debug__" : Str)) = false := by decide) (hcd : (x == ("__classdict__" : Str)) = false := by decide) (hm : behindInMarks .In (.Name x px) = false := by rfl) :
    EvT X (.Compare ie [.In] [.Name x px] pos) σ H (getM m k).isSome := fun H1 e1 Q q =>
  of_pt (pt_cmp (pc_din (by omega) pe_sem (pe_var hN hvi hdb hcd)) hm) (hi H1 e1 _ fun y H2 e2 hy => ⟨_, hs.get_at hg, l, (getM m k).map V.int, rfl, by
    rw [dp_int hy]
    exact .inl ⟨dKv m, Sum.inl (k : Int), hd.ex (e1.trans e2), rfl, (valV_dK m k).symm⟩, _, by rw [Option.isSome_map], q H2 e2⟩)
theorem et_notin (hu : X.A.units + 64 < cLine) (hs : SR X.K H σ Γ) (i : Nat) (hd : RdD H l m) (hi : EvE X ie σ H (.int (k : Nat))) (hg : Γ[i]? = some (some (.at l)) := by rfl) (hN : X.N[i]? = some x := by rfl)
    (hvi : Vis X.env.scope x := by first | exact Or.inl rfl | exact Or.inr (Or.inl rfl) | exact Or.inr (Or.inr rfl)) (hdb : (x == ("__debug__" : Str)) = false := by decide) (hcd : (x == ("__classdict__" : Str)) = false := by decide) (hm : behindInMarks .NotIn (.Name x px) = false := by rfl) :
    EvT X (.Compare ie [.NotIn] [.Name x px] pos) σ H (!(getM m k).isSome) := fun H1 e1 Q q =>
  of_pt (pt_cmp (pc_dnotin (by omega) pe_sem (pe_var hN hvi hdb hcd)) hm) (hi H1 e1 _ fun y H2 e2 hy => ⟨_, hs.get_at hg, l, (getM m k).map V.int, rfl, by
    rw [dp_int hy]
    exact .inl ⟨dKv m, Sum.inl (k : Int), hd.ex (e1.trans e2), rfl, (valV_dK m k).symm⟩, _, by rw [Option.isSome_map], q H2 e2⟩)
/-- d[k] = v, k new -/
theorem do_dput {v : Int} (hu : X.A.units + 64 < cLine) (hs : SR X.K H σ Γ) (i : Nat) (hd : H l = some (.dK (dKv m))) (hi : EvE X ie σ H (.int (k : Nat))) (he : EvE X e σ H (.int v)) (hnew : getM m k = none) (hz : m.length < 100000)
    (kk : ∀ H1, Ex H H1 → Do X rest De σ (upd H1 l (.dK (dKv (m ++ [(k, v)]))))) (hg : Γ[i]? = some (some (.at l)) := by rfl) (hN : X.N[i]? = some x := by rfl)
    (hvi : Vis X.env.scope x := by first | exact Or.inl rfl | exact Or.inr (Or.inl rfl) | exact Or.inr (Or.inr rfl)) (hdb : (x == ("__debug__" : Str)) = false := by decide) (hcd : (x == ("__classdict__" : Str)) = false := by decide) (hw : swapsWith e (some (.Subscript (.Name x px) ie pos')) pos.line X.env = pure false := by rfl) :
    Do X (.Assign [.Subscript (.Name x px) ie pos'] e pos :: rest) De σ H :=
  do_st (of_ps (ps_dput (by omega) (pe_var hN hvi hdb hcd) pe_sem pe_sem hw) (he H (Ex.refl H) _ fun v1 H1 e1 hv1 => ⟨_, hs.get_at hg, hi H1 e1 _ fun y H2 e2 hy => by
    rw [dp_int hy, dp_int hv1]
    refine ⟨l, _, rfl, DPut.k (k := Sum.inl (k : Int)) ((e1.trans e2) _ _ hd) (sz_lt (by unfold dKv; rw [List.length_map]; exact hz)), ?_⟩
    rw [put_new hnew]
    exact kk H2 (e1.trans e2)⟩))
/-- a new object -/
def EvF (X : Cx) (e : Expr) (σ : L2.St) (H : Hp) (o : HO) : Prop := ∀ H1, Ex H H1 → ∀ Q : VK, (∀ p H2, H1 p = none → Ex H1 H2 → H2 p = some o → Q (.ref p) H2) → tSem X e σ H1 Q
theorem ef_dict0 : EvF X (.Dict [] [] pos) σ H (.dK (dKv [])) := fun H1 e1 Q q => of_pe pe_dnewK fun p hp => q p _ hp (Ex.new hp) upd_same
theorem ef_dict1 {kx vx : Expr} {v : Int} (hk : EvE X kx σ H (.int (k : Nat))) (hv : EvE X vx σ H (.int v)) : EvF X (.Dict [some kx] [vx] pos) σ H (.dK (dKv [(k, v)])) := fun H1 e1 Q q =>
  of_pe (pe_disp (pps_cons pe_sem pe_sem pps_nil) rfl rfl (by simp) (Nat.le_of_ble_eq_true rfl)) fun p hp => hk (upd H1 p (.dK [])) (e1.trans (Ex.new hp)) _ fun y H2 e2 hy => hv H2 ((e1.trans (Ex.new hp)).trans e2) _ fun z H3 e3 hz => by
    rw [dp_int hy, dp_int hz]
    have h3 : H3 p = some (.dK []) := e3 _ _ (e2 _ _ upd_same)
    refine ⟨h3, [(Sum.inl (k : Int), V.int v)], rfl, Nat.le_of_ble_eq_true rfl, q p _ hp ?_ upd_same⟩
    intro b o hb
    have hne : b ≠ p := fun z => by rw [z, hp] at hb; cases hb
    rw [upd_ne hne]
    exact e3 _ _ (e2 _ _ (by rw [upd_ne hne]; exact hb))
theorem do_asgF {o : HO} (nd : X.N.Nodup) (i : Nat) (hs : SR X.K H σ Γ) (he : EvF X e σ H o) (kk : ∀ p σ1 H1, H p = none → Ex H H1 → H1 p = some o → SR X.K H1 σ1 (Γ.set i (some (.at p))) → Do X rest De σ1 H1)
    (hi : X.N[i]? = some x := by rfl) (hx : Loc X.env.scope x := by first | exact Or.inl rfl | exact Or.inr rfl) (hw : swapsWith e (some (.Name x pos')) pos.line X.env = pure false := by rfl)
    (hf : X.fn x = true ∨ X.env.scope.names.lookup x = some .local := by first | exact .inl rfl | exact .inr rfl) : Do X (.Assign [.Name x pos'] e pos :: rest) De σ H :=
  do_st (of_ps (ps_set nd hi hx pe_sem hw hf) (he H (Ex.refl H) _ fun p H1 hp e1 h1 => kk p _ H1 hp e1 h1 ((hs.ex e1).set_at i)))
/-- a, b = a new object, a new list -/
theorem do_parF {x y : Str} {px py pt : Pos} {kt k2 pt2} {o : HO} (hc : X.calm = true) (nd : X.N.Nodup) (hs : SR X.K H σ Γ) (ha : EvF X a σ H o) (hb : EvN X b σ H ds) (hn : noLs ds = true) (i : Nat) (j : Nat)
    (kk : ∀ p q σ1 H1, H p = none → H q = none → p ≠ q → Ex H H1 → H1 p = some o → LsAt X.K H1 q ds → SR X.K H1 σ1 ((Γ.set i (some (.at p))).set j (some (.at q))) → Do X rest De σ1 H1)
    (hi : X.N[i]? = some x := by rfl) (hj : X.N[j]? = some y := by rfl) (hij : i ≠ j := by decide)
    (hx : X.env.scope.names.lookup x = some .local := by rfl) (hy : X.env.scope.names.lookup y = some .local := by rfl)
    (hw : swappedStores [.Tuple [.Name x px, .Name y py] kt pt] (.Tuple [a, b] k2 pt2) X.env = pure (some [x, y]) := by rfl)
    (hsw : swapsWithSole [.Tuple [.Name x px, .Name y py] kt pt] (.Tuple [a, b] k2 pt2) pos.line X.env = pure false := by rfl)
    (s1 : starEach [a, b] X.env = (false, eval a X.env) :: starEach [b] X.env := by rfl) (s2 : starEach [b] X.env = (false, eval b X.env) :: starEach [] X.env := by rfl) :
    Do X (.Assign [.Tuple [.Name x px, .Name y py] kt pt] (.Tuple [a, b] k2 pt2) pos :: rest) De σ H :=
  do_st (of_ps (ps_par hc nd hi hj hij hx hy (pa_cons pe_sem (pa_cons pe_sem pa_nil s2) s1) hw hsw) (ha H (Ex.refl H) _ fun p H1 hp e1 h1 => hb H1 e1 _ fun q vs H2 hq e2 h2 hd => by
    refine ⟨_, _, rfl, kk p q _ H2 hp ?_ (fun z => by rw [z, hq] at h1; cases h1) (e1.trans e2) (e2 _ _ h1) ⟨vs, h2, hd⟩ (((hs.ex (e1.trans e2)).set_at i).set_at j)⟩
    cases hx2 : H q with
    | none => rfl
    | some z => rw [e1 _ _ hx2] at hq; cases hq))
/-- the keys of a locked dict -/
theorem ei_keys {tg : Expr} {oo : Obj} (hs : SR X.K H σ Γ) (i : Nat) (hd : H l = some (.frz oo (.dK (dKv m)))) (hg : Γ[i]? = some (some (.at l)) := by rfl) (hN : X.N[i]? = some x := by rfl)
    (hvi : Vis X.env.scope x := by first | exact Or.inl rfl | exact Or.inr (Or.inl rfl) | exact Or.inr (Or.inr rfl)) (hdb : (x == ("__debug__" : Str)) = false := by decide) (hcd : (x == ("__classdict__" : Str)) = false := by decide) :
    EvI X tg (.Name x px) σ H [l] (m.map fun p => PyData.int (p.1 : Nat)) := fun H1 e1 R q =>
  of_pi (pi_keys (pe_var hN hvi hdb hcd)) ⟨_, hs.get_at hg, l, oo, rfl, .inl ⟨dKv m, e1 _ _ hd, q (Itk l oo (dKv m)) [(l, .frz oo (.dK (dKv m)))] H1 (Ex.refl H1) (.one (e1 _ _ hd)) (fun z hz => by rw [List.mem_singleton.mp hz]; exact .inr List.mem_cons_self) ⟨by
    have hl : (m.map fun p => PyData.int (p.1 : Nat)).length = (dKv m).length := by unfold dKv; rw [List.length_map, List.length_map]
    rw [hl]
    refine walk_keys.mono (fun H3 h3 => h3.2.get) fun i H3 x H4 hi h3 y => ?_
    obtain ⟨rfl, kk, v, hk, rfl⟩ := y
    unfold dKv at hk
    rw [List.getElem?_map] at hk
    obtain ⟨p, hp, e⟩ := Option.map_eq_some_iff.mp hk
    cases e
    exact ⟨Ex.refl _, .int (p.1 : Nat), by rw [List.getElem?_map, hp]; rfl, .int _⟩⟩⟩⟩
theorem do_lock {st : Stmt} {u : HO} (hd : H l = some u) (mu : L2.Mut (some u)) (h : ∀ od, tSemS X st ⟨fun σ' H' => H' l = some (.frz od u) ∧ Do X rest De σ' (upd H' l u), fun v H' => H' l = some (.frz od u) ∧ De.rt v (upd H' l u), fun σ' H' => H' l = some (.frz od u) ∧ De.bk σ' (upd H' l u), fun σ' H' => H' l = some (.frz od u) ∧ De.ct σ' (upd H' l u)⟩ σ (upd H l (.frz od u))) :
    Do X (st :: rest) De σ H := do_st (of_ps (ps_lock ps_sem) ⟨l, u, hd, mu, h⟩)
theorem en_lock {u : HO} (hd : H l = some u) (mu : L2.Mut (some u)) (hnt : NT u) (hn : noLs ds = true) (h : ∀ od, EvN X e σ (upd H l (.frz od u)) ds) : EvN X e σ H ds := fun H1 e1 Q q =>
  of_pe (pe_lock pe_sem) ⟨l, u, e1 _ _ hd, mu, fun od => h od (upd H1 l (.frz od u)) (fun b o hb => by
    by_cases hbl : b = l
    · subst hbl
      rw [upd_same] at hb ⊢
      exact hb
    · rw [upd_ne hbl] at hb ⊢
      exact e1 _ _ hb) _ fun p vs H2 hp e2 h2 hd2 => by
    have hl2 : H2 l = some (.frz od u) := e2 _ _ upd_same
    have hpl : p ≠ l := fun z => by rw [z, upd_same] at hp; cases hp
    have hnt2 : NT (HO.frz od u) := by cases u <;> first | exact trivial | exact hnt
    refine ⟨hl2, q p vs (upd H2 l u) (by rw [upd_ne hpl] at hp; exact hp) (fun b o hb => ?_) (by rw [upd_ne hpl]; exact h2) (dps_tx (TX.upd hl2 hnt2) _ _ hn hd2)⟩
    by_cases hbl : b = l
    · subst hbl
      rw [upd_same]
      rw [e1 _ _ hd] at hb
      exact hb
    · rw [upd_ne hbl]
      exact e2 _ _ (by rw [upd_ne hbl]; exact hb)⟩
end
section
variable {X : Cx} {tg iter c : Expr} {body rest : List Stmt} {σ : L2.St} {H : Hp} {ds : List D} {pos : Pos} {De : Ends}
theorem for_sem {ι : Type} {xs : List ι} {g : ι → D} {us : ι → List (Nat × D)} {ow : List Addr} (hp : PassesOwn (model X.prog X.w) X.A X.env X.xe) (hc : X.calm = true) (S : List Addr) (Γv : List ι → List (Option Sl)) (Hv : List ι → Hp → Prop)
    (hi : EvI X tg iter σ H ow (xs.map g)) (hnd : noLs (xs.map g) = true) (hS : ∀ a ∈ S, ∃ o, H a = some o ∧ NT o) (how : ∀ a ∈ ow, a ∉ S) (hg : ∀ x ∈ xs, TgE X tg (g x) (us x))
    (hst : ∀ pre H1 H2, Ex H1 H2 → Hv pre H1 → Hv pre H2) (hs0 : SR X.K H σ (Γv [])) (h0 : Hv [] H)
    (hb : ∀ pre x post, xs = pre ++ x :: post → ∀ σ1 H1, Ch S H H1 → TX H H1 → Hv pre H1 → SR X.K H1 σ1 (setsG (Γv pre) (us x)) →
      ∀ N : L2.St → Hp → Prop, (∀ σ2 H2, Ch S H1 H2 → Hv (pre ++ [x]) H2 → SR X.K H2 σ2 (Γv (pre ++ [x])) → N σ2 H2) → Do X body { De with nx := N, ct := N, bk := De.nx } σ1 H1)
    (k : ∀ σ1 H1, Ch S H H1 → TX H H1 → Hv xs H1 → SR X.K H1 σ1 (Γv xs) → De.nx σ1 H1) (hs : ∀ x, foldedSetIterable iter X.env x = pure x := by intro _; rfl) :
    tSemS X (.For tg iter body [] pos) De σ H :=
  (of_ps (ps_for hp hc pi_sem pg_sem pss_sem hs) (hi H (Ex.refl H) _ fun J src H2 e2 ho hsrc W => by
    have hS2 : ∀ a ∈ S, ∃ o, H2 a = some o ∧ NT o := fun a ha => by
      obtain ⟨o, h1, h2⟩ := hS a ha
      exact ⟨o, e2 _ _ h1, h2⟩
    have hoff : ∀ q ∈ src, q.1 ∉ S := fun q hq hm => by
      rcases hsrc q hq with h | h
      · obtain ⟨o, h1, _⟩ := hS _ hm
        rw [h] at h1; cases h1
      · exact how _ h hm
    have hlen : (xs.map g).length = xs.length := List.length_map _
    refine for_it W.walk (fun i σ1 H1 => Ch S H2 H1 ∧ Hv (xs.take i) H1 ∧ SR X.K H1 σ1 (Γv (xs.take i))) ⟨Ch.refl _ _, hst _ _ _ e2 h0, hs0.ex e2⟩
      (fun i σ1 H1 _ p => ⟨p.1.tx hS2, fun q hq => p.1 _ _ (hoff q hq) (ho q hq)⟩) (fun i v σ1 H1 H1' hi' p y => ?_) (fun σ1 H1 p => ?_)
    · obtain ⟨y1, d, y2, y3⟩ := y
      rw [List.getElem?_map] at y2
      obtain ⟨x, hx, rfl⟩ := Option.map_eq_some_iff.mp y2
      have hm : x ∈ xs := List.mem_of_getElem? hx
      have htk : xs.take (i + 1) = xs.take i ++ [x] := by rw [List.take_add_one, hx]; rfl
      have hdr : xs = xs.take i ++ x :: xs.drop (i + 1) := by
        have h1 : xs.drop i = x :: xs.drop (i + 1) := by
          obtain ⟨hlt, rfl⟩ := List.getElem?_eq_some_iff.mp hx
          exact List.drop_eq_getElem_cons hlt
        rw [← h1, List.take_append_drop]
      have c1 : Ch S H2 H1' := p.1.trans (.ex y1)
      have c0 : Ch S H H1' := (Ch.ex e2).trans c1
      refine hg x hm v σ1 H1' _ _ (p.2.2.ex y1) y3 (noLs_mem.mp hnd _ (List.mem_map.mpr ⟨x, hm, rfl⟩)) fun σ2 hs2 _ => ?_
      refine hb _ x _ hdr σ2 H1' c0 (c0.tx hS) (hst _ _ _ y1 p.2.1) hs2 _ fun σ3 H3 c3 hv3 hs3 => ?_
      rw [htk]
      exact ⟨c1.trans c3, hv3, hs3⟩
    · rw [hlen, List.take_length] at p
      have c0 : Ch S H H1 := (Ch.ex e2).trans p.1
      exact k σ1 H1 c0 (c0.tx hS) p.2.1 p.2.2))
/-- for key in d, the dict at l locked meanwhile -/
theorem do_forD {m : DM} {l : Addr} {x : Str} {px : Pos} {Γ : List (Option Sl)} {us : Nat × Int → List (Nat × D)} (hp : PassesOwn (model X.prog X.w) X.A X.env X.xe) (hc : X.calm = true) (S : List Addr) (Γv : DM → List (Option Sl)) (Hv : DM → Hp → Prop) (i : Nat)
    (hd : H l = some (.dK (dKv m))) (hlS : l ∉ S) (hS : ∀ a ∈ S, ∃ o, H a = some o ∧ NT o) (hg : ∀ p ∈ m, TgE X tg (.int (p.1 : Nat)) (us p))
    (hst : ∀ pre H1 H2, Ex H1 H2 → Hv pre H1 → Hv pre H2) (hs0 : SR X.K H σ (Γv [])) (h0 : ∀ od, Hv [] (upd H l (.frz od (.dK (dKv m))))) (hun : ∀ od H1, H1 l = some (.frz od (.dK (dKv m))) → Hv m H1 → Hv m (upd H1 l (.dK (dKv m))))
    (hb : ∀ pre p post, m = pre ++ p :: post → ∀ σ1 H1, TX H H1 → (∀ b o, b ∉ S → b ≠ l → H b = some o → H1 b = some o) → RdD H1 l m → Hv pre H1 → SR X.K H1 σ1 (setsG (Γv pre) (us p)) →
      ∀ (De' : Ends) (N : L2.St → Hp → Prop), (∀ σ2 H2, Ch S H1 H2 → Hv (pre ++ [p]) H2 → SR X.K H2 σ2 (Γv (pre ++ [p])) → N σ2 H2) → Do X body { De' with nx := N } σ1 H1)
    (k : ∀ σ1 H1, Ch S H H1 → TX H H1 → Hv m H1 → SR X.K H1 σ1 (Γv m) → Do X rest De σ1 H1)
    (hgi : (Γv [])[i]? = some (some (.at l)) := by rfl) (hN : X.N[i]? = some x := by rfl)
    (hvi : Vis X.env.scope x := by first | exact Or.inl rfl | exact Or.inr (Or.inl rfl) | exact Or.inr (Or.inr rfl)) (hdb : (x == ("__debug__" : Str)) = false := by decide) (hcd : (x == ("__classdict__" : Str)) = false := by decide) (hs : ∀ z, foldedSetIterable (.Name x px) X.env z = pure z := by intro _; rfl) :
    Do X (.For tg (.Name x px) body [] pos :: rest) De σ H :=
  do_lock (u := .dK (dKv m)) hd trivial fun od => by
    have tx0 : TX H (upd H l (.frz od (.dK (dKv m)))) := TX.upd hd trivial
    refine for_sem (xs := m) (g := fun p => PyData.int (p.1 : Nat)) hp hc S Γv Hv (ei_keys (oo := od) (hs0.tx tx0) i upd_same hgi hN hvi hdb hcd) (noLs_mem.mpr fun z hz => by
      obtain ⟨p, _, rfl⟩ := List.mem_map.mp hz
      rfl) (fun a ha => ?_) (fun a ha => by rw [List.mem_singleton.mp ha]; exact hlS) hg hst (hs0.tx tx0) (h0 od) ?_ ?_ hs
    · obtain ⟨o, h1, h2⟩ := hS a ha
      exact ⟨o, by rw [upd_ne (fun z => hlS (by rw [← z]; exact ha))]; exact h1, h2⟩
    · intro pre p post hx σ1 H1 c1 t1 hv1 hs1 N hN'
      have hl1 : H1 l = some (.frz od (.dK (dKv m))) := c1 _ _ hlS upd_same
      exact hb pre p post hx σ1 H1 (tx0.trans t1) (fun b o hbS hbl hbo => c1 b o hbS (by rw [upd_ne hbl]; exact hbo)) (.inr ⟨od, hl1⟩) hv1 hs1 ⟨N, _, _, _⟩ N hN'
    · intro σ1 H1 c1 t1 hv1 hs1
      have hl1 : H1 l = some (.frz od (.dK (dKv m))) := c1 _ _ hlS upd_same
      have tx1 : TX H1 (upd H1 l (.dK (dKv m))) := TX.upd hl1 trivial
      refine ⟨hl1, k σ1 _ (fun b o hbS hbo => ?_) (tx0.trans (t1.trans tx1)) (hun od H1 hl1 hv1) (hs1.tx tx1)⟩
      by_cases hbl : b = l
      · subst hbl
        rw [upd_same]
        rw [hd] at hbo
        exact hbo
      · rw [upd_ne hbl]
        exact c1 b o hbS (by rw [upd_ne hbl]; exact hbo)
end
end K30
/-! The breadth-first search as a function: its keys are the closed masks. -/
namespace K30
open K30m (Cl WF Sub val cnt full cl_pred cl_add cl_zero val_zero val_add cnt_add cnt_zero cnt_le sub_iff)
abbrev BSt := DM × List Nat
def bstep (s : Nat) (st : BSt) (x : K30m.Row × Nat) : BSt :=
  if (s ||| 2 ^ x.2 ≠ s ∧ s &&& x.1.2 = x.1.2) ∧ getM st.1 (s ||| 2 ^ x.2) = none then (st.1 ++ [(s ||| 2 ^ x.2, (getM st.1 s).getD 0 + x.1.1)], st.2 ++ [s ||| 2 ^ x.2]) else st
def brow (rs : List K30m.Row) (st : BSt) (s : Nat) : BSt := rs.zipIdx.foldl (bstep s) st
def blevel (rs : List K30m.Row) (st : BSt) : BSt := st.2.foldl (brow rs) (st.1, [])
def brun (rs : List K30m.Row) : Nat → BSt → BSt
  | 0, st => st
  | n + 1, st => if st.2 = [] then st else brun rs n (blevel rs st)
def bst0 : BSt := ([(0, 0)], [0])
def statesD (rs : List K30m.Row) : DM := (brun rs (rs.length + 1) bst0).1
theorem getM_none {m : DM} {k : Nat} : getM m k = none ↔ k ∉ m.map Prod.fst := by
  unfold getM
  rw [Option.map_eq_none_iff, List.find?_eq_none]
  constructor
  · intro h hk
    obtain ⟨p, hp, e⟩ := List.mem_map.mp hk
    exact h p hp (decide_eq_true e)
  · intro h p hp e
    exact h (List.mem_map.mpr ⟨p, hp, of_decide_eq_true e⟩)
theorem getM_mem : ∀ {m : DM} {k : Nat} {v : Int}, (m.map Prod.fst).Nodup → (k, v) ∈ m → getM m k = some v
  | p :: m, k, v, hn, h => by
    rw [List.map_cons, List.nodup_cons] at hn
    rcases List.mem_cons.mp h with e | h
    · subst e
      unfold getM
      rw [List.find?_cons_of_pos (by simp)]
      rfl
    · have hne : p.1 ≠ k := fun e => hn.1 (List.mem_map.mpr ⟨(k, v), h, e.symm⟩)
      unfold getM
      rw [List.find?_cons_of_neg (by simpa using hne)]
      exact getM_mem hn.2 h
/-- what is found: closed masks, their values, in the order of their size -/
structure Fnd (rs : List K30m.Row) (f : DM) : Prop where
  cl : ∀ p ∈ f, Cl rs p.1 ∧ p.2 = val 0 rs p.1
  nd : (f.map Prod.fst).Nodup
  ord : f.Pairwise fun p q => cnt rs p.1 ≤ cnt rs q.1
/-- inside the level k -/
structure BI (rs : List K30m.Row) (k : Nat) (st : BSt) : Prop where
  fnd : Fnd rs st.1
  old : ∀ x, Cl rs x → cnt rs x ≤ k → x ∈ st.1.map Prod.fst
  top : ∀ p ∈ st.1, cnt rs p.1 ≤ k + 1
  lat : ∀ x, x ∈ st.2 ↔ x ∈ st.1.map Prod.fst ∧ cnt rs x = k + 1
theorem bstep_ok {rs : List K30m.Row} {k : Nat} {st : BSt} (B : BI rs k st) {s : Nat} (hs : Cl rs s) (hc : cnt rs s = k) {r : K30m.Row} {i : Nat} (hr : rs[i]? = some r) : BI rs k (bstep s st (r, i)) ∧ (∀ x ∈ st.2, x ∈ (bstep s st (r, i)).2) ∧ (s ||| 2 ^ i ≠ s → Sub r.2 s → s ||| 2 ^ i ∈ (bstep s st (r, i)).2) ∧ (∀ p ∈ st.1, p ∈ (bstep s st (r, i)).1) := by
  have hil : i < rs.length := (List.getElem?_eq_some_iff.mp hr).1
  unfold bstep
  by_cases h : (s ||| 2 ^ i ≠ s ∧ s &&& r.2 = r.2) ∧ getM st.1 (s ||| 2 ^ i) = none
  · rw [if_pos h]
    obtain ⟨⟨h1, h2⟩, h3⟩ := h
    have hsub : Sub r.2 s := sub_iff.mp (by rw [Nat.and_comm]; exact h2)
    have hbit : s.testBit i = false := by
      cases hb : s.testBit i with
      | false => rfl
      | true =>
        exfalso
        refine h1 (Nat.eq_of_testBit_eq fun j => ?_)
        rw [Nat.testBit_or, Nat.testBit_two_pow]
        by_cases e : i = j
        · subst e; simp [hb]
        · simp [e]
    have hcl : Cl rs (s ||| 2 ^ i) := cl_add hs hr hsub
    have hcnt : cnt rs (s ||| 2 ^ i) = k + 1 := by rw [cnt_add hil hbit, hc]
    have hin : s ∈ st.1.map Prod.fst := B.old s hs (by rw [hc]; exact Int.le_refl _)
    obtain ⟨⟨s', v⟩, hsv, e⟩ := List.mem_map.mp hin
    have e : s' = s := e
    subst e
    have hv : (getM st.1 s').getD 0 = val 0 rs s' := by
      rw [getM_mem B.fnd.nd hsv]
      exact (B.fnd.cl _ hsv).2
    have hval : val 0 rs (s' ||| 2 ^ i) = val 0 rs s' + r.1 := by
      have := val_add rs 0 s' i r hr (by rw [Nat.zero_add]; exact hbit)
      rw [Nat.zero_add] at this
      exact this
    have hk : (s' ||| 2 ^ i) ∉ st.1.map Prod.fst := getM_none.mp h3
    refine ⟨⟨⟨fun p hp => ?_, ?_, ?_⟩, fun x hx hxc => ?_, fun p hp => ?_, fun x => ?_⟩, fun x hx => List.mem_append_left _ hx, fun _ _ => List.mem_append_right _ (List.mem_singleton.mpr rfl), fun p hp => List.mem_append_left _ hp⟩
    · rcases List.mem_append.mp hp with hp | hp
      · exact B.fnd.cl p hp
      · rw [List.mem_singleton.mp hp]
        exact ⟨hcl, by rw [hv, hval]⟩
    · show ((st.1 ++ [_]).map Prod.fst).Nodup
      rw [List.map_append, List.nodup_append]
      refine ⟨B.fnd.nd, by simp, fun a ha b hb => ?_⟩
      have : b = s' ||| 2 ^ i := by simpa using hb
      rintro rfl
      exact hk (this ▸ ha)
    · refine List.pairwise_append.mpr ⟨B.fnd.ord, List.pairwise_singleton _ _, fun p hp q hq => ?_⟩
      rw [List.mem_singleton.mp hq]
      show cnt rs p.1 ≤ cnt rs (s' ||| 2 ^ i)
      rw [hcnt]
      exact B.top p hp
    · show x ∈ (st.1 ++ [_]).map Prod.fst
      rw [List.map_append]
      exact List.mem_append_left _ (B.old x hx hxc)
    · rcases List.mem_append.mp hp with hp | hp
      · exact B.top p hp
      · rw [List.mem_singleton.mp hp]
        show cnt rs (s' ||| 2 ^ i) ≤ _
        omega
    · show x ∈ st.2 ++ [_] ↔ x ∈ (st.1 ++ [_]).map Prod.fst ∧ _
      rw [List.mem_append, List.map_append, List.mem_append, B.lat x]
      constructor
      · rintro (h | h)
        · exact ⟨.inl h.1, h.2⟩
        · have h := List.mem_singleton.mp h
          subst h
          exact ⟨.inr (by simp), hcnt⟩
      · rintro ⟨h | h, h'⟩
        · exact .inl ⟨h, h'⟩
        · have h : x = s' ||| 2 ^ i := by simpa using h
          exact .inr (List.mem_singleton.mpr h)
  · rw [if_neg h]
    refine ⟨B, fun x hx => hx, fun h1 h2 => ?_, fun p hp => hp⟩
    have h2' : s &&& r.2 = r.2 := by rw [Nat.and_comm]; exact sub_iff.mpr h2
    have hsome : getM st.1 (s ||| 2 ^ i) ≠ none := fun z => h ⟨⟨h1, h2'⟩, z⟩
    have hin : (s ||| 2 ^ i) ∈ st.1.map Prod.fst := by
      refine Classical.byContradiction fun z => hsome (getM_none.mpr z)
    have hbit : s.testBit i = false := by
      cases hb : s.testBit i with
      | false => rfl
      | true =>
        exfalso
        refine h1 (Nat.eq_of_testBit_eq fun j => ?_)
        rw [Nat.testBit_or, Nat.testBit_two_pow]
        by_cases e : i = j
        · subst e; simp [hb]
        · simp [e]
    exact (B.lat _).mpr ⟨hin, by rw [cnt_add hil hbit, hc]⟩
theorem bfold_ok {rs : List K30m.Row} {k : Nat} {s : Nat} (hs : Cl rs s) (hc : cnt rs s = k) : ∀ (xs : List (K30m.Row × Nat)) (st : BSt), (∀ x ∈ xs, rs[x.2]? = some x.1) → BI rs k st →
    BI rs k (xs.foldl (bstep s) st) ∧ (∀ x ∈ st.2, x ∈ (xs.foldl (bstep s) st).2) ∧ (∀ x ∈ xs, s ||| 2 ^ x.2 ≠ s → Sub x.1.2 s → s ||| 2 ^ x.2 ∈ (xs.foldl (bstep s) st).2)
  | [], st, _, B => ⟨B, fun _ h => h, fun _ h => by cases h⟩
  | (r, i) :: xs, st, hx, B => by
    have hr : rs[i]? = some r := hx (r, i) List.mem_cons_self
    obtain ⟨b1, b2, b3, _⟩ := bstep_ok B hs hc hr
    obtain ⟨c1, c2, c3⟩ := bfold_ok hs hc xs (bstep s st (r, i)) (fun x h => hx x (List.mem_cons_of_mem _ h)) b1
    refine ⟨c1, fun x h => c2 x (b2 x h), fun x h h1 h2 => ?_⟩
    rcases List.mem_cons.mp h with rfl | h
    · exact c2 _ (b3 h1 h2)
    · exact c3 x h h1 h2
theorem zip_at {α : Type} {l : List α} : ∀ x ∈ l.zipIdx, l[x.2]? = some x.1 := fun x h => by
  obtain ⟨a, i⟩ := x
  exact List.mem_zipIdx_iff_getElem?.mp h
theorem bl_ok {rs : List K30m.Row} {k : Nat} : ∀ (ls : List Nat) (st : BSt), (∀ s ∈ ls, Cl rs s ∧ cnt rs s = k) → BI rs k st →
    BI rs k (ls.foldl (brow rs) st) ∧ (∀ x ∈ st.2, x ∈ (ls.foldl (brow rs) st).2) ∧ (∀ s ∈ ls, ∀ (i : Nat) r, rs[i]? = some r → s ||| 2 ^ i ≠ s → Sub r.2 s → s ||| 2 ^ i ∈ (ls.foldl (brow rs) st).2)
  | [], st, _, B => ⟨B, fun _ h => h, fun _ h => by cases h⟩
  | s :: ls, st, hl, B => by
    obtain ⟨h1, h2⟩ := hl s List.mem_cons_self
    obtain ⟨b1, b2, b3⟩ := bfold_ok h1 h2 rs.zipIdx st zip_at B
    obtain ⟨c1, c2, c3⟩ := bl_ok ls (brow rs st s) (fun x h => hl x (List.mem_cons_of_mem _ h)) b1
    refine ⟨c1, fun x h => c2 x (b2 x h), fun x hx i r hr hn hsub => ?_⟩
    rcases List.mem_cons.mp hx with rfl | hx
    · exact c2 _ (b3 (r, i) (List.mem_zipIdx_iff_getElem?.mpr hr) hn hsub)
    · exact c3 x hx i r hr hn hsub
structure LI (rs : List K30m.Row) (k : Nat) (st : BSt) : Prop where
  fnd : Fnd rs st.1
  all : ∀ x, x ∈ st.1.map Prod.fst ↔ Cl rs x ∧ cnt rs x ≤ k
  lev : ∀ x, x ∈ st.2 ↔ Cl rs x ∧ cnt rs x = k
theorem li_start {rs : List K30m.Row} {k : Nat} {st : BSt} (L : LI rs k st) : BI rs k (st.1, []) where
  fnd := L.fnd
  old := fun x hx hc => (L.all x).mpr ⟨hx, hc⟩
  top := fun p hp => by
    have := ((L.all p.1).mp (List.mem_map.mpr ⟨p, hp, rfl⟩)).2
    omega
  lat := fun x => by
    constructor
    · intro h; cases h
    · rintro ⟨h, hc⟩
      have := ((L.all x).mp h).2
      omega
theorem blevel_ok {rs : List K30m.Row} (hw : WF rs) {k : Nat} {st : BSt} (L : LI rs k st) : LI rs (k + 1) (blevel rs st) := by
  obtain ⟨B, _, b3⟩ := bl_ok st.2 (st.1, []) (fun s hs => (L.lev s).mp hs) (li_start L)
  have full' : ∀ y, Cl rs y → cnt rs y = k + 1 → y ∈ (blevel rs st).2 := fun y hy hc => by
    have hy0 : y ≠ 0 := fun z => by
      rw [z, cnt_zero] at hc
      omega
    obtain ⟨x, i, hx, hi, hb, e⟩ := cl_pred hw hy hy0
    have hcx : cnt rs x = k := by
      have := cnt_add hi hb
      rw [← e, hc] at this
      omega
    have hr : rs[i]? = some rs[i] := List.getElem?_eq_getElem hi
    generalize rs[i] = r at hr
    have hsub : Sub r.2 x := fun j hj => by
      have h1 := hy.down i r hr (by rw [e, Nat.testBit_or, Nat.testBit_two_pow]; simp) j hj
      have h2 := hw i r hr j hj
      rw [e, Nat.testBit_or, Nat.testBit_two_pow] at h1
      have : ¬ i = j := by omega
      simpa [this] using h1
    have := b3 x ((L.lev x).mpr ⟨hx, hcx⟩) i r hr (fun z => by
      have h1 : (x ||| 2 ^ i).testBit i = true := by rw [Nat.testBit_or, Nat.testBit_two_pow]; simp
      rw [z, hb] at h1
      cases h1) hsub
    rw [← e] at this
    exact this
  have keycl : ∀ x, x ∈ (blevel rs st).1.map Prod.fst → Cl rs x ∧ cnt rs x ≤ (k : Int) + 1 := fun x hx => by
    obtain ⟨p, hp, rfl⟩ := List.mem_map.mp hx
    exact ⟨(B.fnd.cl p hp).1, B.top p hp⟩
  refine ⟨B.fnd, fun x => ⟨fun hx => ?_, fun ⟨hx, hc⟩ => ?_⟩, fun x => ⟨fun hx => ?_, fun ⟨hx, hc⟩ => full' x hx (by omega)⟩⟩
  · obtain ⟨h1, h2⟩ := keycl x hx
    exact ⟨h1, by omega⟩
  · by_cases h : cnt rs x ≤ k
    · exact B.old x hx h
    · exact ((B.lat x).mp (full' x hx (by omega))).1
  · obtain ⟨h1, h2⟩ := (B.lat x).mp hx
    exact ⟨(keycl x h1).1, by omega⟩
theorem li0 (rs : List K30m.Row) (hw : WF rs) : LI rs 0 bst0 := by
  have c0 := cnt_zero rs
  have z : ∀ x, Cl rs x → cnt rs x ≤ 0 → x = 0 := fun x hx hc => by
    by_cases h : x = 0
    · exact h
    · have := K30m.cnt_pos hw hx h
      omega
  refine ⟨⟨fun p hp => ?_, by simp [bst0], List.pairwise_singleton _ _⟩, fun x => ?_, fun x => ?_⟩
  · have hp : p = (0, 0) := List.mem_singleton.mp hp
    subst hp
    exact ⟨cl_zero rs, (val_zero rs 0).symm⟩
  · show x ∈ [0] ↔ _
    rw [List.mem_singleton]
    exact ⟨fun e => by rw [e]; exact ⟨cl_zero rs, by omega⟩, fun h => z x h.1 (by have := h.2; omega)⟩
  · show x ∈ [0] ↔ _
    rw [List.mem_singleton]
    exact ⟨fun e => by rw [e]; exact ⟨cl_zero rs, by omega⟩, fun h => z x h.1 (by have := h.2; omega)⟩
theorem brun_ok {rs : List K30m.Row} (hw : WF rs) : ∀ (m k : Nat) (st : BSt), LI rs k st → k + m = rs.length + 1 → (brun rs m st).2 = [] ∧ Fnd rs (brun rs m st).1 ∧ ∀ x, x ∈ (brun rs m st).1.map Prod.fst ↔ Cl rs x
  | 0, k, st, L, h => by
    have hle : ∀ x, cnt rs x ≤ rs.length := fun x => (cnt_le (rs := rs) (x := x)).2
    refine ⟨?_, L.fnd, fun x => ⟨fun hx => ((L.all x).mp hx).1, fun hx => (L.all x).mpr ⟨hx, by have := hle x; omega⟩⟩⟩
    refine List.eq_nil_iff_forall_not_mem.mpr fun x hx => ?_
    have := ((L.lev x).mp hx).2
    have := hle x
    omega
  | m + 1, k, st, L, h => by
    show ((if st.2 = [] then st else brun rs m (blevel rs st))).2 = [] ∧ Fnd rs (if st.2 = [] then st else brun rs m (blevel rs st)).1 ∧ ∀ x, x ∈ (if st.2 = [] then st else brun rs m (blevel rs st)).1.map Prod.fst ↔ Cl rs x
    by_cases he : st.2 = []
    · rw [if_pos he]
      refine ⟨he, L.fnd, fun x => ⟨fun hx => ((L.all x).mp hx).1, fun hx => (L.all x).mpr ⟨hx, ?_⟩⟩⟩
      -- no mask of size k: none greater
      have none_k : ∀ (d : Nat) (y : Nat), Cl rs y → cnt rs y = k + d → False := fun d => by
        induction d with
        | zero =>
          intro y hy hc
          have := (L.lev y).mpr ⟨hy, by omega⟩
          rw [he] at this
          cases this
        | succ d ih =>
          intro y hy hc
          have hy0 : y ≠ 0 := fun z => by
            rw [z, cnt_zero] at hc
            omega
          obtain ⟨x, i, hx, hi, hb, e⟩ := cl_pred hw hy hy0
          have := cnt_add hi hb
          rw [← e, hc] at this
          exact ih x hx (by omega)
      refine Classical.byContradiction fun hc => ?_
      have h0 := (cnt_le (rs := rs) (x := x)).1
      exact none_k ((cnt rs x).toNat - k) x hx (by omega)
    · rw [if_neg he]
      exact brun_ok hw m (k + 1) (blevel rs st) (blevel_ok hw L) (by omega)
theorem states_ok {rs : List K30m.Row} (hw : WF rs) : Fnd rs (statesD rs) ∧ ∀ x, x ∈ (statesD rs).map Prod.fst ↔ Cl rs x :=
  (brun_ok hw (rs.length + 1) 0 bst0 (li0 rs hw) (by omega)).2
end K30
namespace K30
open PySem PySem.Spec PyProof.Rows L2 Evl RZ
open K30m (Cl WF Sub val cnt full)
/-- a promise whose answer is a new object -/
def spF {ι : Type} (K : PySem.W.Frag) (args : ι → List Arg) (pre : ι → Prop) (f : ι → HO) : Sp := fun vs H Q _ => ∃ x, pre x ∧ ArAll K H vs (args x) ∧ ∀ p H', H p = none → Ex H H' → H' p = some (f x) → Q (.ref p) H'
theorem spF_len {ι : Type} {K : PySem.W.Frag} {args : ι → List Arg} {pre : ι → Prop} {f : ι → HO} {n : Nat} (h : ∀ x, (args x).length = n) : ∀ vs H Q E, spF K args pre f vs H Q E → vs.length = n := fun vs H Q E hs => by
  obtain ⟨x, _, hd, _⟩ := hs
  rw [arall_length hd, h]
theorem ef_call {X : Cx} {e : Expr} {es : List Expr} {σ : L2.St} {H : Hp} {pos p : Pos} {ι : Type} {k j : Nat} {x : Str} {ps : List Str} {args : ι → List Arg} {pre : ι → Prop} {f : ι → HO} (G : Fn X.prog X.w X.K X.mg X.base j x ps (spF X.K args pre f)) (hr : Room k X.A) (y : ι) (ha : EvR X (e :: es) σ H (args y)) (hp : pre y) (hj : j ≤ k := by decide)
    (hg : Gl X x := by rfl) (hdb : (x == ("__debug__" : Str)) = false := by decide) (he : starEach (e :: es) X.env = (false, eval e X.env) :: starEach es X.env := by rfl) (hpl : (backTo pos (starEach es X.env)).any (·.1) = false := by rfl) :
    EvF X (.Call (.Name x p) (e :: es) [] pos) σ H (f y) := fun H1 e1 Q q =>
  ee_callR G hr ha e1 (fun vs H2 e2 hvs => ⟨y, hp, hvs, fun l H3 hl e3 h3 => q l H3 (fresh_back e2 hl) (e2.trans e3) h3⟩) hj hg hdb he hpl
theorem ntd {H : Hp} {fa : Addr} {kvs : List (Key × V)} (h : H fa = some (.dK kvs)) : ∀ a ∈ [fa], ∃ o, H a = some o ∧ NT o := fun a ha => by
  rw [List.mem_singleton.mp ha]
  exact ⟨_, h, trivial⟩
def few (rs : List K30m.Row) : Prop := ∀ l : List Nat, l.Nodup → (∀ x ∈ l, Cl rs x) → l.length ≤ 10000
def okR (rows : List R3) : Prop := WF (rows.map two2) ∧ few (rows.map two2) ∧ rows.length ≤ 5000
theorem zip_two (rows : List R3) : (rows.map two2).zipIdx = rows.zipIdx.map fun x => (two2 x.1, x.2) := by
  rw [List.zipIdx_map]
  rfl
theorem pow_shl (i : Nat) : (1 : Int) * 2 ^ ((i : Nat) : Int).toNat = ((2 ^ i : Nat) : Int) := by
  rw [Int.toNat_natCast, Int.one_mul, Int.natCast_pow]
  rfl
theorem lay_nats : ∀ ks : List Nat, PyData.canLayAll0 (natsD ks) = true ∧ PyData.depthAll (natsD ks) = 0
  | [] => ⟨rfl, rfl⟩
  | k :: ks => by
    obtain ⟨h1, h2⟩ := lay_nats ks
    unfold natsD at h1 h2 ⊢
    simp only [List.map_cons, PyData.canLayAll0, PyData.depthAll, PyData.depth, PyData.canLay0, h1, h2]
    exact ⟨rfl, rfl⟩
theorem shaped_nats (ks : List Nat) : SeqAt.shaped (.list (natsD ks)) = true := by
  obtain ⟨h1, h2⟩ := lay_nats ks
  show (PyData.canLay0 (.list (natsD ks)) && decide (PyData.depth (.list (natsD ks)) ≤ 64)) = true
  simp only [PyData.canLay0, PyData.depth, h1, h2]
  rfl
theorem eqv_nats (ks : List Nat) : PyData.eqv (.list (natsD ks)) (.list []) = ks.isEmpty := by cases ks <;> rfl
theorem bstep_len (s : Nat) (st : BSt) (x : K30m.Row × Nat) (h : st.2.length ≤ st.1.length) : (bstep s st x).2.length ≤ (bstep s st x).1.length := by
  unfold bstep
  split
  · show (st.2 ++ [_]).length ≤ (st.1 ++ [_]).length
    rw [List.length_append, List.length_append, List.length_singleton, List.length_singleton]
    omega
  · exact h
theorem bfold_len (s : Nat) : ∀ (xs : List (K30m.Row × Nat)) (st : BSt), st.2.length ≤ st.1.length → (xs.foldl (bstep s) st).2.length ≤ (xs.foldl (bstep s) st).1.length
  | [], st, h => h
  | x :: xs, st, h => bfold_len s xs _ (bstep_len s st x h)
theorem bl_len (rs : List K30m.Row) : ∀ (ls : List Nat) (st : BSt), st.2.length ≤ st.1.length → (ls.foldl (brow rs) st).2.length ≤ (ls.foldl (brow rs) st).1.length
  | [], st, h => h
  | x :: xs, st, h => bl_len rs xs _ (bfold_len x _ st h)
section
variable {P : Program} {w : World} {K : PySem.W.Frag} {mg : Str → Option Value} {base : Heap} (T : Tops K mg)
include T
theorem f_law_states : Fn P w K mg base 1 "_law_states" ["_law_rows_here"] (spF K (fun rows : List R3 => [.l (rows.map r3D)]) okR fun rows => .dK (dKv (statesD (rows.map two2)))) :=
  fn_ok T.d_law_states sc_law_states hb_law_states (spF_len fun _ => rfl) fun f cdv A outer s H vs Q E hr h => by
    obtain ⟨rows, ⟨hw, hfew, hlen⟩, hd', q⟩ := h
    match vs, hd' with
    | [v1], .cons ⟨ra, hv1, la⟩ .nil =>
      subst hv1
      have hu := hr.units
      generalize hrs : rows.map two2 = rs at hw hfew
      have hrl : rs.length = rows.length := by rw [← hrs, List.length_map]
      have hs : SR K H (start n_law_states [.ref ra]) [some (.at ra), none, none, none, none, none, none, none, none, none] := .at (.no (.no (.no (.no (.no (.no (.no (.no (.no .nil)))))))))
      have bound : ∀ f : DM, Fnd rs f → f.length < 100000 := fun f F => by
        have := hfew (f.map Prod.fst) F.nd (fun x hx => by
          obtain ⟨p, hp, rfl⟩ := List.mem_map.mp hx
          exact (F.cl p hp).1)
        rw [List.length_map] at this
        omega
      refine (do_parF (o := .dK (dKv [(0, 0)])) (ds := natsD [0]) (Γ := [some (.at ra), none, none, none, none, none, none, none, none, none]) ?hc ?nd ?hs ?ha ?hb ?hn 1 2 ?kk ?hi ?hj ?hij ?hx ?hy ?hw ?hsw ?s1 ?s2 : Do _ _ _ _ _)
      case hc => rfl
      case nd => exact sc_law_states.nd
      case hs => exact hs
      case ha => exact (ef_dict1 (k := 0) ee_int ee_int : EvF _ _ _ _ _)
      case hb => exact en_lst (ea_cons ee_int ea_nil) (by simp [natsD])
      case hn => rfl
      case hi => rfl
      case hj => rfl
      case hij => decide
      case hx => rfl
      case hy => rfl
      case hw => rfl
      case hsw => rfl
      case s1 => rfl
      case s2 => rfl
      intro fd lv0 σ1 H1 hfd hlv hne e1 h1 hl1 hs1
      have la1 := la.ex e1
      have nra : ra ≠ fd := fun z => by
        obtain ⟨ws, hw', _⟩ := la
        rw [z, hfd] at hw'
        cases hw'
      refine do_while (ι := (BSt × Nat × Nat) × Addr) PassesOwn.never [fd] (fun x => [some (.at ra), some (.at fd), some (.at x.2), none, none, none, none, none, none, none])
        (fun x H => H fd = some (.dK (dKv x.1.1.1)) ∧ LsAt K H x.2 (natsD x.1.1.2) ∧ LI rs x.1.2.1 x.1.1 ∧ brun rs x.1.2.2 x.1.1 = brun rs (rs.length + 1) bst0 ∧ x.1.2.1 + x.1.2.2 = rs.length + 1) (fun x => x.1.2.2) (fun x => !x.1.1.2.isEmpty) ((bst0, 0, rs.length + 1), lv0)
        (ntd h1) (fun x A B e h => ⟨e _ _ h.1, h.2.1.ex e, h.2.2⟩) hs1 ?_ ?_ ?_ ?_
      · refine ⟨h1, hl1, li0 rs hw, ?_, Nat.zero_add _⟩
        exact Eq.refl (brun rs (rs.length + 1) bst0)
      · intro x σ2 H2 c2 t2 hv2 hs2
        exact .of_eq (et_neD hu (ep_slot hs2 2 hv2.2.1).ev (en_lst ea_nil).ev (shaped_nats _) rfl) (by rw [eqv_nats])
      · rintro ⟨⟨st, k, m⟩, lv⟩ σ2 H2 ht c2 t2 ⟨hd2, hl2, L, hrun, hkm⟩ hs2 N hN
        simp only at ht hd2 hl2 L hrun hkm
        have hne2 : st.2 ≠ [] := fun z => by rw [z] at ht; cases ht
        obtain ⟨m, rfl⟩ : ∃ m', m = m' + 1 := by
          cases m with
          | zero =>
            exfalso
            obtain ⟨s0, hs0⟩ := List.exists_mem_of_ne_nil _ hne2
            have h1 := ((L.lev s0).mp hs0).2
            have h2 := (K30m.cnt_le (rs := rs) (x := s0)).2
            omega
          | succ m' => exact ⟨m', rfl⟩
        have hbr : brun rs (m + 1) st = brun rs m (blevel rs st) := by
          show (if st.2 = [] then st else brun rs m (blevel rs st)) = _
          rw [if_neg hne2]
        have nlv : lv ≠ fd := fun z => by
          obtain ⟨ws, hw', _⟩ := hl2
          rw [z, hd2] at hw'
          cases hw'
        have la2 : LsAt K H2 ra (rows.map r3D) := la1.ch c2 t2 (fun z => nra (List.mem_singleton.mp z)) (r3_nols rows)
        refine do_asgN sc_law_states.nd 3 hs2 (ds := []) (en_lst ea_nil) fun lt vs3 σ3 H3 hlt e3 h3 hd3 hs3 => ?_
        have nlt : lt ≠ fd := fun z => by rw [z, hd2] at hlt; cases hlt
        have nlvt : lv ≠ lt := fun z => by
          obtain ⟨ws, hw', _⟩ := hl2
          rw [z, hlt] at hw'
          cases hw'
        have nrat : ra ≠ lt := fun z => by
          obtain ⟨ws, hw', _⟩ := la2
          rw [z, hlt] at hw'
          cases hw'
        have hS3 : ∀ b ∈ [fd, lt], ∃ o, H3 b = some o ∧ NT o := fun b hb => by
          rcases List.mem_cons.mp hb with rfl | hb
          · exact ⟨_, e3 _ _ hd2, trivial⟩
          · rw [List.mem_singleton.mp hb]
            exact ⟨_, h3, trivial⟩
        refine do_for (xs := st.2) (g := fun s => PyData.int (s : Nat)) PassesOwn.never rfl [fd, lt] (fun _ => [some (.at ra), some (.at fd), some (.at lv), some (.at lt), none, none, none, none, none, none])
          (fun pre H => H fd = some (.dK (dKv (pre.foldl (brow rs) (st.1, [])).1)) ∧ LsAt K H lt (natsD (pre.foldl (brow rs) (st.1, [])).2)) (us := fun s => [(4, .int (s : Nat))])
          (ei_slot hs3 2 (hl2.ex e3) (nats_nols _)) (nats_nols _) hS3 (fun b hb => by
            rw [List.mem_singleton.mp hb]
            simp [nlv, nlvt]) (fun x _ => tg_name sc_law_states.nd 4) (fun pre A B e h => ⟨e _ _ h.1, h.2.ex e⟩) hs3 ⟨e3 _ _ hd2, lsat_nil h3 hd3⟩ ?_ ?_
        · intro pre x post hx σ4 H4 c4 t4 hv4 hs4 N4 hN4
          have hxl : x ∈ st.2 := by rw [hx]; exact List.mem_append_right _ List.mem_cons_self
          obtain ⟨hxc, hxk⟩ := (L.lev x).mp hxl
          have B4 := (bl_ok pre (st.1, []) (fun s hs => (L.lev s).mp (by rw [hx]; exact List.mem_append_left _ hs)) (li_start L)).1
          have ef : (pre ++ [x]).foldl (brow rs) (st.1, []) = brow rs (pre.foldl (brow rs) (st.1, [])) x := by rw [List.foldl_append]; rfl
          rw [ef] at hN4
          have le4 := bl_len rs pre (st.1, []) (Nat.zero_le _)
          generalize pre.foldl (brow rs) (st.1, []) = st4 at hv4 hN4 B4 le4
          have la4 : LsAt K H4 ra (rows.map r3D) := (la2.ex e3).ch c4 t4 (by simp [nra, nrat]) (r3_nols rows)
          have hS4 : ∀ b ∈ [fd, lt], ∃ o, H4 b = some o ∧ NT o := fun b hb => by
            rcases List.mem_cons.mp hb with rfl | hb
            · exact ⟨_, hv4.1, trivial⟩
            · rw [List.mem_singleton.mp hb]
              obtain ⟨ws, hw', _⟩ := hv4.2
              exact ⟨_, hw', trivial⟩
          refine do_for (xs := rows.zipIdx) (g := fun x => PyData.tuple [.int (x.2 : Nat), r3D x.1]) PassesOwn.never rfl [fd, lt] (fun _ => [some (.at ra), some (.at fd), some (.at lv), some (.at lt), some (.py (.int (x : Nat))), none, none, none, none, none])
            (fun pr H => H fd = some (.dK (dKv ((pr.map fun (z : R3 × Nat) => (two2 z.1, z.2)).foldl (bstep x) st4).1)) ∧ LsAt K H lt (natsD ((pr.map fun (z : R3 × Nat) => (two2 z.1, z.2)).foldl (bstep x) st4).2)) (us := fun z => [(5, .int (z.2 : Nat)), (6, .int z.1.1), (7, .int (z.1.2.1 : Nat)), (8, .tuple (natsD z.1.2.2))])
            (enum_map rows r3D ▸ ei_enum T.b_enumerate hs4 0 la4 (r3_nols rows)) (by rw [← enum_map]; exact enum_nol (r3_nols rows)) hS4 (fun b hb => by
              rw [List.mem_singleton.mp hb]
              simp [nra, nrat]) (fun z _ => tg_tup rfl (tgs_cons (tg_name sc_law_states.nd 5) (tgs_cons (tg_tup rfl (tgs_cons (tg_name sc_law_states.nd 6) (tgs_cons (tg_name sc_law_states.nd 7) (tgs_cons (tg_name sc_law_states.nd 8) tgs_nil)))) tgs_nil))) (fun pre A B e h => ⟨e _ _ h.1, h.2.ex e⟩) hs4 hv4 ?_ ?_
          · rintro pr ⟨r, i⟩ po hz σ5 H5 c5 t5 hv5 hs5 N5 hN5
            have hzm : ∀ z ∈ rows.zipIdx, rs[z.2]? = some (two2 z.1) := fun z hz => by
              rw [← hrs, List.getElem?_map, zip_at z hz]; rfl
            have hri : (r, i) ∈ rows.zipIdx := by rw [hz]; exact List.mem_append_right _ List.mem_cons_self
            have hil : i < rows.length := by
              have := zip_at _ hri
              exact (List.getElem?_eq_some_iff.mp this).1
            have B5 := (bfold_ok hxc hxk (pr.map fun (z : R3 × Nat) => (two2 z.1, z.2)) st4 (fun y hy => by
              obtain ⟨z, hz', rfl⟩ := List.mem_map.mp hy
              exact hzm z (by rw [hz]; exact List.mem_append_left _ hz')) B4).1
            have ef5 : ((pr ++ [(r, i)]).map fun (z : R3 × Nat) => (two2 z.1, z.2)).foldl (bstep x) st4 = bstep x ((pr.map fun (z : R3 × Nat) => (two2 z.1, z.2)).foldl (bstep x) st4) (two2 r, i) := by rw [List.map_append, List.foldl_append]; rfl
            rw [ef5] at hN5
            have hll := bfold_len x (pr.map fun (z : R3 × Nat) => (two2 z.1, z.2)) st4 le4
            generalize (pr.map fun (z : R3 × Nat) => (two2 z.1, z.2)).foldl (bstep x) st4 = st5 at hv5 hN5 B5 hll
            obtain ⟨f5, l5⟩ := st5
            obtain ⟨hd5, hl5⟩ := hv5
            simp only at hd5 hl5 hll
            refine do_asg (d := .int ((x ||| 2 ^ i : Nat) : Int)) sc_law_states.nd 9 hs5 (.of_eq (ee_bor (ev hs5 4) (ee_shl ee_int (ev hs5 5) ⟨by omega, by omega, by decide⟩)) (by rw [pow_shl, bor_nat])) rfl fun σ6 H6 e6 hs6 => ?_
            have hd6 := e6 _ _ hd5
            have hl6 := hl5.ex e6
            have tb : ((!decide (((x ||| 2 ^ i : Nat) : Int) = (x : Nat))) && (decide (Builtin.bitAnd (x : Nat) (r.2.1 : Nat) = (r.2.1 : Nat)) && !(getM f5 (x ||| 2 ^ i)).isSome)) = decide ((x ||| 2 ^ i ≠ x ∧ x &&& (two2 r).2 = (two2 r).2) ∧ getM f5 (x ||| 2 ^ i) = none) := by
              rw [band_nat]
              show _ = decide ((x ||| 2 ^ i ≠ x ∧ x &&& r.2.1 = r.2.1) ∧ _)
              by_cases h1 : x ||| 2 ^ i = x <;> by_cases h2 : x &&& r.2.1 = r.2.1 <;> cases h3 : getM f5 (x ||| 2 ^ i) <;> simp [h1, h2, Int.natCast_inj] <;> omega
            refine do_if (.of_eq (et_w (ew_and (et_neI (ev hs6 9) (ev hs6 4)) fun _ => ew_and (et_eqI (ee_band (ev hs6 4) (ev hs6 7)) (ev hs6 7)) fun _ => ew_and1 (et_notin hu hs6 1 (.inl hd6) (ev hs6 9)))) tb) (fun hb H7 e7 => ?_) (fun hb H7 e7 => ?_)
            · have hb' := of_decide_eq_true hb
              unfold bstep at hN5
              rw [if_pos hb'] at hN5
              have hin := B5.old x hxc (by rw [hxk]; exact Int.le_refl _)
              obtain ⟨⟨x', v⟩, hxv, e⟩ := List.mem_map.mp hin
              have e : x' = x := e
              subst e
              have hg := getM_mem B5.fnd.nd hxv
              rw [show (getM f5 x').getD 0 = v by rw [hg]; rfl] at hN5
              have hs7 := hs6.ex e7
              have hd7 := e7 _ _ hd6
              have hb5 : f5.length < 100000 := bound _ B5.fnd
              refine do_dput hu hs7 1 hd7 (ev hs7 9) (ee_add (ee_dget hu hs7 1 (.inl hd7) (ev hs7 4) hg) (ev hs7 6)) hb'.2 hb5 fun H8 e8 => ?_
              have hd8 := e8 _ _ hd7
              have tx8 : TX H8 (upd H8 fd (.dK (dKv (f5 ++ [(x' ||| 2 ^ i, v + r.1)])))) := TX.upd hd8 trivial
              have hs8 := (hs7.ex e8).tx tx8
              have hl8 : LsAt K (upd H8 fd (.dK (dKv (f5 ++ [(x' ||| 2 ^ i, v + r.1)])))) lt (natsD l5) := by
                obtain ⟨ws, w1, w2⟩ := (hl6.ex e7).ex e8
                exact ⟨ws, by rw [upd_ne nlt]; exact w1, dps_tx tx8 _ _ (nats_nols _) w2⟩
              obtain ⟨ws, w1, w2⟩ := hl8
              have wl := dps_length w2
              unfold natsD at wl
              rw [List.length_map] at wl
              refine do_app hs8 3 w1 (by omega) (ev hs8 9) fun v9 H9 e9 hv9 => ?_
              have lt9 := e9 _ _ w1
              have tx9 : TX H9 (upd H9 lt (.lst (ws ++ [v9]))) := TX.upd lt9 trivial
              refine do_nil (do_nil (hN5 _ _ ?_ ⟨?_, ?_⟩ ?_))
              · exact (((Ch.ex (e6.trans (e7.trans e8))).trans (Ch.upd List.mem_cons_self)).trans (.ex e9)).trans (Ch.upd (List.mem_cons_of_mem _ List.mem_cons_self))
              · rw [upd_ne (Ne.symm nlt)]
                exact e9 _ _ upd_same
              · have := lsat_app e9 w1 w2 hv9 (nats_nols l5) rfl
                rw [show natsD (l5 ++ [x' ||| 2 ^ i]) = natsD l5 ++ [PyData.int ((x' ||| 2 ^ i : Nat) : Int)] by unfold natsD; rw [List.map_append]; rfl]
                exact this
              · exact ((((((hs8.ex e9).tx tx9).drop 5).drop 6).drop 7).drop 8).drop 9
            · have hb' := of_decide_eq_false hb
              unfold bstep at hN5
              rw [if_neg hb'] at hN5
              exact do_nil (do_nil (hN5 _ _ (.ex (e6.trans e7)) ⟨e7 _ _ hd6, hl6.ex e7⟩ ((((((hs6.ex e7).drop 5).drop 6).drop 7).drop 8).drop 9)))
          · intro σ5 H5 c5 t5 hv5 hs5
            rw [← zip_two, hrs] at hv5
            exact do_nil (hN4 _ _ c5 hv5 (hs5.drop 4))
        · intro σ4 H4 c4 t4 hv4 hs4
          refine do_asgS sc_law_states.nd 2 ((evAt hs4 3) H4 (Ex.refl _) _ fun v H5 e5 hv => ?_)
          have hv : v = .ref lt := hv
          rw [hv]
          refine do_nil (hN ((blevel rs st, k + 1, m), lt) _ _ (Nat.lt_succ_self m) ?_ ⟨e5 _ _ hv4.1, hv4.2.ex e5, blevel_ok hw L, ?_, ?_⟩ (((hs4.ex e5).set_at 2).drop 3))
          · intro b o hb ho
            have hbl : b ≠ lt := fun z => by rw [z, hlt] at ho; cases ho
            refine e5 _ _ (c4 b o ?_ (e3 _ _ ho))
            intro z
            rcases List.mem_cons.mp z with z | z
            · exact hb (by rw [z]; exact List.mem_cons_self)
            · exact hbl (List.mem_singleton.mp z)
          · rw [← hbr]
            exact hrun
          · show k + 1 + m = _
            omega
      · rintro ⟨⟨st, k, m⟩, lv⟩ σ2 H2 ht c2 t2 ⟨hd2, hl2, L, hrun, hkm⟩ hs2
        simp only at ht hd2 hl2 L hrun hkm
        have hem : st.2 = [] := by
          cases hq : st.2 with
          | nil => rfl
          | cons a l => rw [hq] at ht; cases ht
        have e : brun rs m st = st := by
          cases m with
          | zero => rfl
          | succ m =>
            show (if st.2 = [] then st else brun rs m (blevel rs st)) = st
            rw [if_pos hem]
        rw [e] at hrun
        have hst : st.1 = statesD rs := by unfold statesD; rw [← hrun]
        refine do_st (of_ps (ps_ret pe_sem) ((evAt hs2 1) H2 (Ex.refl _) _ fun v H3 e3 hv => ?_))
        have hv : v = .ref fd := hv
        rw [hv]
        refine q fd H3 hfd ((Ex.over e1 (no1 (H := H) hfd) c2).trans e3) ?_
        show H3 fd = some (.dK (dKv (statesD (rows.map two2))))
        rw [hrs, ← hst]
        exact e3 _ _ hd2
end
end K30
/-! The least peaks to and from all states as functions. -/
namespace K30
open K30m
def minI : List Int → Int
  | [] => 0
  | n :: ns => ns.foldl min n
theorem minI_mem {ns : List Int} (h : ns ≠ []) : minI ns ∈ ns ∧ ∀ x ∈ ns, minI ns ≤ x := by
  cases ns with
  | nil => exact absurd rfl h
  | cons n ns =>
    obtain ⟨f1, f2, f3⟩ := foldl_min_le ns n
    refine ⟨?_, fun x hx => ?_⟩
    · rcases f3 with e | e
      · exact List.mem_cons.mpr (.inl e)
      · exact List.mem_cons_of_mem _ e
    · rcases List.mem_cons.mp hx with rfl | hx
      · exact f1
      · exact f2 x hx
def wst (b : Bool) (m f : DM) (s : Nat) (acc : List Int) (i : Nat) : List Int :=
  if s.testBit i = b ∧ (getM m (if b then s - 2 ^ i else s + 2 ^ i)).isSome = true then acc ++ [(getM f (if b then s - 2 ^ i else s + 2 ^ i)).getD 0] else acc
def ways (b : Bool) (n : Nat) (m f : DM) (s : Nat) : List Int := (List.range n).foldl (wst b m f s) []
theorem wst_mem (b : Bool) (m f : DM) (s : Nat) (v : Int) : ∀ (is : List Nat) (acc : List Int), v ∈ is.foldl (wst b m f s) acc ↔ v ∈ acc ∨ ∃ i ∈ is, s.testBit i = b ∧ (getM m (if b then s - 2 ^ i else s + 2 ^ i)).isSome = true ∧ v = (getM f (if b then s - 2 ^ i else s + 2 ^ i)).getD 0
  | [], acc => by simp
  | i :: is, acc => by
    rw [List.foldl_cons, wst_mem b m f s v is]
    unfold wst
    by_cases h : s.testBit i = b ∧ (getM m (if b then s - 2 ^ i else s + 2 ^ i)).isSome = true
    · rw [if_pos h]
      constructor
      · rintro (h1 | ⟨j, h1, h2⟩)
        · rcases List.mem_append.mp h1 with h1 | h1
          · exact .inl h1
          · exact .inr ⟨i, List.mem_cons_self, h.1, h.2, List.mem_singleton.mp h1⟩
        · exact .inr ⟨j, List.mem_cons_of_mem _ h1, h2⟩
      · rintro (h1 | ⟨j, h1, h2⟩)
        · exact .inl (List.mem_append_left _ h1)
        · rcases List.mem_cons.mp h1 with rfl | h1
          · exact .inl (List.mem_append_right _ (List.mem_singleton.mpr h2.2.2))
          · exact .inr ⟨j, h1, h2⟩
    · rw [if_neg h]
      constructor
      · rintro (h1 | ⟨j, h1, h2⟩)
        · exact .inl h1
        · exact .inr ⟨j, List.mem_cons_of_mem _ h1, h2⟩
      · rintro (h1 | ⟨j, h1, h2⟩)
        · exact .inl h1
        · rcases List.mem_cons.mp h1 with rfl | h1
          · exact absurd ⟨h2.1, h2.2.1⟩ h
          · exact .inr ⟨j, h1, h2⟩
theorem ways_mem {b : Bool} {n : Nat} {m f : DM} {s : Nat} {v : Int} : v ∈ ways b n m f s ↔ ∃ i, i < n ∧ s.testBit i = b ∧ (getM m (if b then s - 2 ^ i else s + 2 ^ i)).isSome = true ∧ v = (getM f (if b then s - 2 ^ i else s + 2 ^ i)).getD 0 := by
  unfold ways
  rw [wst_mem]
  simp
theorem wst_len (b : Bool) (m f : DM) (s : Nat) : ∀ (is : List Nat) (acc : List Int), (is.foldl (wst b m f s) acc).length ≤ acc.length + is.length
  | [], acc => Nat.le_refl _
  | i :: is, acc => by
    rw [List.foldl_cons]
    have := wst_len b m f s is (wst b m f s acc i)
    have h : (wst b m f s acc i).length ≤ acc.length + 1 := by
      unfold wst
      by_cases hc : s.testBit i = b ∧ (getM m (if b then s - 2 ^ i else s + 2 ^ i)).isSome = true
      · rw [if_pos hc, List.length_append, List.length_singleton]; omega
      · rw [if_neg hc]; omega
    rw [List.length_cons]
    omega
/-- the least peaks from the start -/
def rst (n : Nat) (m f : DM) (p : Nat × Int) : DM := if ways true n m f p.1 = [] then f else f ++ [(p.1, max p.2 (minI (ways true n m f p.1)))]
def reachD (n : Nat) (m : DM) : DM := m.foldl (rst n m) [(0, 0)]
/-- the least peaks to the end -/
def cst (n : Nat) (m f : DM) (p : Nat × Int) : DM := f ++ [(p.1, if ways false n m f p.1 = [] then p.2 else max p.2 (minI (ways false n m f p.1)))]
def compD (n : Nat) (m : DM) : DM := m.reverse.foldl (cst n m) []
theorem isSome_key {m : DM} {k : Nat} : (getM m k).isSome = true ↔ k ∈ m.map Prod.fst := by
  constructor
  · intro h
    refine Classical.byContradiction fun z => ?_
    rw [getM_none.mpr z] at h
    cases h
  · intro h
    cases e : getM m k with
    | none => exact absurd h (getM_none.mp e)
    | some v => rfl
theorem key_get {m : DM} {k : Nat} (hn : (m.map Prod.fst).Nodup) (h : k ∈ m.map Prod.fst) : ∃ v, getM m k = some v ∧ (k, v) ∈ m := by
  obtain ⟨⟨k', v⟩, hp, e⟩ := List.mem_map.mp h
  have e : k' = k := e
  subst e
  exact ⟨v, getM_mem hn hp, hp⟩
theorem sub_bit {z i : Nat} (h : z.testBit i = false) : (z ||| 2 ^ i) - 2 ^ i = z := by rw [or_two_pow i z h, Nat.add_sub_cancel]
/-- a state with the bit i, without it -/
theorem less_bit {s i : Nat} (h : s.testBit i = true) : (s - 2 ^ i).testBit i = false ∧ s = (s - 2 ^ i) ||| 2 ^ i := by
  obtain ⟨z, e, hz, _⟩ := clear_bit h
  rw [e, sub_bit hz]
  exact ⟨hz, rfl⟩
section
variable {rs : List Row} (hw : WF rs) {m : DM} (F : Fnd rs m) (hk : ∀ x, x ∈ m.map Prod.fst ↔ Cl rs x) (L : Lat (maskS rs hw))
include F hk L
/-- what holds of the found least peaks behind some of the states -/
structure RI (rs : List Row) (hw : WF rs) (pre f : DM) : Prop where
  keys : ∀ x, x ∈ f.map Prod.fst ↔ x = 0 ∨ x ∈ pre.map Prod.fst
  nd : (f.map Prod.fst).Nodup
  val : ∀ p ∈ f, ∃ h : Cl rs p.1, IsRp (maskS rs hw) ⟨p.1, h⟩ p.2
  len : f.length ≤ pre.length + 1
theorem ri0 : RI rs hw [] [(0, 0)] where
  keys := fun x => by simp
  nd := by simp
  val := fun p hp => by
    rw [List.mem_singleton.mp hp]
    exact ⟨cl_zero rs, rp_bot (A := maskS rs hw) L.zero⟩
  len := Nat.le_refl _
theorem ri_ways {pre post f : DM} {s : Nat} {u : Int} (hm : m = pre ++ (s, u) :: post) (R : RI rs hw pre f) :
    (∀ i, i < rs.length → s.testBit i = true → (getM m (s - 2 ^ i)).isSome = true → ∃ v, getM f (s - 2 ^ i) = some v) ∧
    (s = 0 → ways true rs.length m f s = []) ∧ (s ≠ 0 → ways true rs.length m f s ≠ [] ∧ s ∉ f.map Prod.fst ∧ ∃ h : Cl rs s, IsRp (maskS rs hw) ⟨s, h⟩ (max u (minI (ways true rs.length m f s)))) := by
  have hsm : (s, u) ∈ m := by rw [hm]; exact List.mem_append_right _ List.mem_cons_self
  obtain ⟨hsc, hsu⟩ := F.cl _ hsm
  have hsu : u = val 0 rs s := hsu
  have hsc : Cl rs s := hsc
  have look : ∀ i, i < rs.length → s.testBit i = true → (getM m (s - 2 ^ i)).isSome = true → ∃ v, getM f (s - 2 ^ i) = some v ∧ ∃ h : Cl rs (s - 2 ^ i), IsRp (maskS rs hw) ⟨s - 2 ^ i, h⟩ v := fun i hi hb hs => by
    obtain ⟨b1, b2⟩ := less_bit hb
    have hin := isSome_key.mp hs
    have hcnt := cnt_add (rs := rs) hi b1
    rw [← b2] at hcnt
    have hpre : s - 2 ^ i ∈ pre.map Prod.fst := by
      rw [hm, List.map_append, List.mem_append] at hin
      rcases hin with h | h
      · exact h
      · exfalso
        obtain ⟨q, hq, e⟩ := List.mem_map.mp h
        have ho := F.ord
        rw [hm, List.pairwise_append] at ho
        rcases List.mem_cons.mp hq with rfl | hq
        · have e : s = s - 2 ^ i := e
          rw [← e, hb] at b1
          cases b1
        · have := (List.pairwise_cons.mp ho.2.1).1 q hq
          rw [e] at this
          have this : cnt rs s ≤ cnt rs (s - 2 ^ i) := this
          omega
    obtain ⟨v, hv, hmem⟩ := key_get R.nd ((R.keys _).mpr (.inr hpre))
    exact ⟨v, hv, R.val _ hmem⟩
  refine ⟨fun i hi hb hs => ?_, fun h0 => ?_, fun h0 => ?_⟩
  · obtain ⟨v, hv, _⟩ := look i hi hb hs
    exact ⟨v, hv⟩
  · refine List.eq_nil_iff_forall_not_mem.mpr fun v hv => ?_
    obtain ⟨i, _, hb, _⟩ := ways_mem.mp hv
    rw [h0, Nat.zero_testBit] at hb
    cases hb
  · have hne : ways true rs.length m f s ≠ [] := by
      obtain ⟨x, i, hx, hi, hb, e⟩ := cl_pred hw hsc h0
      have hbs : s.testBit i = true := by rw [e, Nat.testBit_or, Nat.testBit_two_pow]; simp
      have hxe : s - 2 ^ i = x := by rw [e, sub_bit hb]
      refine List.ne_nil_of_mem (ways_mem.mpr ⟨i, hi, hbs, ?_, rfl⟩)
      show (getM m (s - 2 ^ i)).isSome = true
      rw [hxe]
      exact isSome_key.mpr ((hk x).mpr hx)
    refine ⟨hne, fun hin => ?_, hsc, ?_⟩
    · rcases (R.keys _).mp hin with h | h
      · exact h0 h
      · have hnd := F.nd
        rw [hm, List.map_append, List.map_cons, List.nodup_append] at hnd
        exact hnd.2.2 _ h _ List.mem_cons_self rfl
    · obtain ⟨hmin, hle⟩ := minI_mem hne
      rw [hsu]
      refine rp_step (A := maskS rs hw) (x := ⟨s, hsc⟩) (m := minI (ways true rs.length m f s)) (fun z => h0 (congrArg Subtype.val z)) ?_ ?_ (rp_exists L)
      · obtain ⟨i, hi, hb, hs, e⟩ := ways_mem.mp hmin
        obtain ⟨v, hv, hc, hr⟩ := look i hi hb hs
        obtain ⟨b1, b2⟩ := less_bit hb
        rw [if_pos rfl, hv] at e
        rw [e]
        exact ⟨⟨_, hc⟩, ⟨i, hi, b1, b2⟩, hr⟩
      · rintro ⟨z, hz⟩ k ⟨i, hi, hb, e⟩ hr
        have e : s = z ||| 2 ^ i := e
        have hb : z.testBit i = false := hb
        have hbs : s.testBit i = true := by rw [e, Nat.testBit_or, Nat.testBit_two_pow]; simp
        have hze : s - 2 ^ i = z := by rw [e, sub_bit hb]
        have hsome : (getM m (s - 2 ^ i)).isSome = true := by rw [hze]; exact isSome_key.mpr ((hk z).mpr hz)
        obtain ⟨v, hv, hc, hr'⟩ := look i hi hbs hsome
        have hkv : v = k := by
          subst hze
          exact hr'.uniq hr
        refine hle k (ways_mem.mpr ⟨i, hi, hbs, hsome, ?_⟩)
        show k = (getM f (s - 2 ^ i)).getD 0
        rw [hv, ← hkv]
        rfl
theorem ri_step {pre post f : DM} {p : Nat × Int} (hm : m = pre ++ p :: post) (R : RI rs hw pre f) : RI rs hw (pre ++ [p]) (rst rs.length m f p) := by
  obtain ⟨s, u⟩ := p
  obtain ⟨_, w0, w1⟩ := ri_ways hw F hk L hm R
  unfold rst
  by_cases h0 : s = 0
  · rw [if_pos (w0 h0)]
    refine ⟨fun x => ?_, R.nd, R.val, by rw [List.length_append]; have := R.len; omega⟩
    rw [R.keys, List.map_append, List.mem_append]
    show _ ↔ x = 0 ∨ _ ∨ x ∈ [s]
    rw [List.mem_singleton, h0]
    constructor
    · rintro (h | h)
      · exact .inl h
      · exact .inr (.inl h)
    · rintro (h | h | h)
      · exact .inl h
      · exact .inr h
      · exact .inl h
  · obtain ⟨hne, hnew, hc, hr⟩ := w1 h0
    rw [if_neg hne]
    refine ⟨fun x => ?_, ?_, fun p hp => ?_, by rw [List.length_append, List.length_append, List.length_singleton, List.length_singleton]; have := R.len; omega⟩
    · rw [List.map_append, List.map_append, List.mem_append, List.mem_append, R.keys]
      exact or_assoc
    · rw [List.map_append, List.nodup_append]
      refine ⟨R.nd, by simp, fun a ha b hb => ?_⟩
      have : b = s := by simpa using hb
      rintro rfl
      exact hnew (this ▸ ha)
    · rcases List.mem_append.mp hp with hp | hp
      · exact R.val p hp
      · rw [List.mem_singleton.mp hp]
        exact ⟨hc, hr⟩
theorem ri_all : ∀ (post pre f : DM), m = pre ++ post → RI rs hw pre f → RI rs hw m (post.foldl (rst rs.length m) f)
  | [], pre, f, hm, R => by rw [hm, List.append_nil]; exact R
  | p :: post, pre, f, hm, R => by
    rw [List.foldl_cons]
    exact ri_all post (pre ++ [p]) _ (by rw [hm, List.append_assoc]; rfl) (ri_step hw F hk L hm R)
theorem reach_ri {pre post : DM} (hm : m = pre ++ post) : RI rs hw pre (pre.foldl (rst rs.length m) [(0, 0)]) := by
  have key : ∀ (b a : DM) (f : DM), ∀ c, m = (a ++ b) ++ c → RI rs hw a f → RI rs hw (a ++ b) (b.foldl (rst rs.length m) f) := fun b => by
    induction b with
    | nil => intro a f c _ R; rw [List.append_nil]; exact R
    | cons p b ih =>
      intro a f c h R
      have := ih (a ++ [p]) (rst rs.length m f p) c (by rw [h]; simp) (ri_step hw F hk L (post := b ++ c) (by rw [h]; simp) R)
      rw [List.append_assoc] at this
      exact this
  have := key pre [] [(0, 0)] post hm (ri0 hw F hk L)
  exact this
theorem reach_ok : ((reachD rs.length m).map Prod.fst).Nodup ∧ (∀ x, x ∈ (reachD rs.length m).map Prod.fst ↔ Cl rs x) ∧ ∀ p ∈ reachD rs.length m, ∃ h : Cl rs p.1, IsRp (maskS rs hw) ⟨p.1, h⟩ p.2 := by
  have R := reach_ri hw F hk L (pre := m) (post := []) (List.append_nil m).symm
  refine ⟨R.nd, fun x => ?_, R.val⟩
  have h1 := R.keys x
  rw [hk] at h1
  refine h1.trans ⟨fun h => ?_, .inr⟩
  rcases h with rfl | h
  · exact cl_zero rs
  · exact h
/-- the same from the end -/
structure CI (rs : List Row) (hw : WF rs) (pre f : DM) : Prop where
  keys : f.map Prod.fst = pre.map Prod.fst
  val : ∀ p ∈ f, ∃ h : Cl rs p.1, IsCp (maskS rs hw) ⟨p.1, h⟩ p.2
theorem ci_ways {pre post f : DM} {s : Nat} {u : Int} (hm : m.reverse = pre ++ (s, u) :: post) (R : CI rs hw pre f) :
    (∀ i, i < rs.length → s.testBit i = false → (getM m (s + 2 ^ i)).isSome = true → ∃ v, getM f (s + 2 ^ i) = some v) ∧ s ∉ f.map Prod.fst ∧
    ∃ h : Cl rs s, IsCp (maskS rs hw) ⟨s, h⟩ (if ways false rs.length m f s = [] then u else max u (minI (ways false rs.length m f s))) := by
  have hsm : (s, u) ∈ m := by rw [← List.mem_reverse, hm]; exact List.mem_append_right _ List.mem_cons_self
  obtain ⟨hsc, hsu⟩ := F.cl _ hsm
  have hsu : u = val 0 rs s := hsu
  have hsc : Cl rs s := hsc
  have hnd : (m.reverse.map Prod.fst).Nodup := by rw [List.map_reverse]; exact List.pairwise_reverse.mpr (F.nd.imp fun h => Ne.symm h)
  have fnd : (f.map Prod.fst).Nodup := by
    rw [R.keys]
    rw [hm, List.map_append, List.nodup_append] at hnd
    exact hnd.1
  have look : ∀ i, i < rs.length → s.testBit i = false → (getM m (s + 2 ^ i)).isSome = true → ∃ v, getM f (s + 2 ^ i) = some v ∧ ∃ h : Cl rs (s ||| 2 ^ i), IsCp (maskS rs hw) ⟨s ||| 2 ^ i, h⟩ v := fun i hi hb hs => by
    have hin := isSome_key.mp hs
    have e0 : s + 2 ^ i = s ||| 2 ^ i := (or_two_pow i s hb).symm
    rw [e0] at hin ⊢
    have hcnt := cnt_add (rs := rs) hi hb
    have hpre : s ||| 2 ^ i ∈ pre.map Prod.fst := by
      have hin : s ||| 2 ^ i ∈ m.reverse.map Prod.fst := by rw [List.map_reverse, List.mem_reverse]; exact hin
      rw [hm, List.map_append, List.mem_append] at hin
      rcases hin with h | h
      · exact h
      · exfalso
        obtain ⟨q, hq, e⟩ := List.mem_map.mp h
        have ho := List.pairwise_reverse.mpr F.ord
        rw [hm, List.pairwise_append] at ho
        rcases List.mem_cons.mp hq with rfl | hq
        · have e : s = s ||| 2 ^ i := e
          rw [← e] at hcnt
          omega
        · have := (List.pairwise_cons.mp ho.2.1).1 q hq
          rw [e] at this
          have this : cnt rs (s ||| 2 ^ i) ≤ cnt rs s := this
          omega
    obtain ⟨v, hv, hmem⟩ := key_get fnd (by rw [R.keys]; exact hpre)
    exact ⟨v, hv, R.val _ hmem⟩
  refine ⟨fun i hi hb hs => ?_, fun hin => ?_, hsc, ?_⟩
  · obtain ⟨v, hv, _⟩ := look i hi hb hs
    exact ⟨v, hv⟩
  · rw [R.keys] at hin
    rw [hm, List.map_append, List.map_cons, List.nodup_append] at hnd
    exact hnd.2.2 _ hin _ List.mem_cons_self rfl
  · have some_of : ∀ (i : Nat), i < rs.length → s.testBit i = false → Cl rs (s ||| 2 ^ i) → (getM m (s + 2 ^ i)).isSome = true := fun i hi hb hc => by
      rw [(or_two_pow i s hb).symm]
      exact isSome_key.mpr ((hk _).mpr hc)
    by_cases hf : s = full rs.length
    · have he : ways false rs.length m f s = [] := by
        refine List.eq_nil_iff_forall_not_mem.mpr fun v hv => ?_
        obtain ⟨i, hi, hb, _⟩ := ways_mem.mp hv
        rw [hf, testBit_full, decide_eq_true hi] at hb
        cases hb
      rw [if_pos he, hsu]
      have := cp_top (maskS rs hw)
      have e : (maskS rs hw).top = ⟨s, hsc⟩ := Subtype.ext hf.symm
      rw [e] at this
      exact this
    · have hne : ways false rs.length m f s ≠ [] := by
        obtain ⟨i, hi, hb, hc⟩ := cl_succ hw hsc hf
        exact List.ne_nil_of_mem (ways_mem.mpr ⟨i, hi, hb, some_of i hi hb hc, rfl⟩)
      rw [if_neg hne, hsu]
      obtain ⟨hmin, hle⟩ := minI_mem hne
      refine cp_step (A := maskS rs hw) (x := ⟨s, hsc⟩) (m := minI (ways false rs.length m f s)) (fun z => hf (congrArg Subtype.val z)) ?_ ?_ (cp_exists L)
      · obtain ⟨i, hi, hb, hs, e⟩ := ways_mem.mp hmin
        obtain ⟨v, hv, hc, hr⟩ := look i hi hb hs
        rw [if_neg (by decide), hv] at e
        rw [e]
        exact ⟨⟨_, hc⟩, ⟨i, hi, hb, rfl⟩, hr⟩
      · rintro ⟨z, hz⟩ k ⟨i, hi, hb, e⟩ hr
        have e : z = s ||| 2 ^ i := e
        have hb : s.testBit i = false := hb
        subst e
        have hsome := some_of i hi hb hz
        obtain ⟨v, hv, hc, hr'⟩ := look i hi hb hsome
        have hkv : v = k := hr'.uniq hr
        refine hle k (ways_mem.mpr ⟨i, hi, hb, hsome, ?_⟩)
        show k = (getM f (s + 2 ^ i)).getD 0
        rw [hv, ← hkv]
        rfl
theorem ci_step {pre post f : DM} {p : Nat × Int} (hm : m.reverse = pre ++ p :: post) (R : CI rs hw pre f) : CI rs hw (pre ++ [p]) (cst rs.length m f p) := by
  obtain ⟨s, u⟩ := p
  obtain ⟨_, _, hc, hr⟩ := ci_ways hw F hk L hm R
  unfold cst
  refine ⟨by rw [List.map_append, List.map_append, R.keys]; rfl, fun p hp => ?_⟩
  rcases List.mem_append.mp hp with hp | hp
  · exact R.val p hp
  · rw [List.mem_singleton.mp hp]
    exact ⟨hc, hr⟩
theorem comp_ci {pre post : DM} (hm : m.reverse = pre ++ post) : CI rs hw pre (pre.foldl (cst rs.length m) []) := by
  have key : ∀ (b a : DM) (f : DM), ∀ c, m.reverse = (a ++ b) ++ c → CI rs hw a f → CI rs hw (a ++ b) (b.foldl (cst rs.length m) f) := fun b => by
    induction b with
    | nil => intro a f c _ R; rw [List.append_nil]; exact R
    | cons p b ih =>
      intro a f c h R
      have := ih (a ++ [p]) (cst rs.length m f p) c (by rw [h]; simp) (ci_step hw F hk L (post := b ++ c) (by rw [h]; simp) R)
      rw [List.append_assoc] at this
      exact this
  exact key pre [] [] post hm ⟨rfl, fun p h => by cases h⟩
theorem comp_ok : ((compD rs.length m).map Prod.fst).Nodup ∧ (∀ x, x ∈ (compD rs.length m).map Prod.fst ↔ Cl rs x) ∧ ∀ p ∈ compD rs.length m, ∃ h : Cl rs p.1, IsCp (maskS rs hw) ⟨p.1, h⟩ p.2 := by
  have R := comp_ci hw F hk L (pre := m.reverse) (post := []) (List.append_nil _).symm
  refine ⟨?_, fun x => ?_, R.val⟩
  · show ((m.reverse.foldl _ []).map Prod.fst).Nodup
    rw [R.keys, List.map_reverse]
    exact List.pairwise_reverse.mpr (F.nd.imp fun h => Ne.symm h)
  · show x ∈ (m.reverse.foldl _ []).map Prod.fst ↔ _
    rw [R.keys, List.map_reverse, List.mem_reverse, hk]
end
end K30
namespace K30
open PySem PySem.Spec PyProof.Rows L2 Evl RZ
open K30m (Cl WF Sub val cnt full)
def intsD (ns : List Int) : List D := ns.map PyData.int
theorem lay_ints : ∀ ks : List Int, PyData.canLayAll0 (intsD ks) = true ∧ PyData.depthAll (intsD ks) = 0
  | [] => ⟨rfl, rfl⟩
  | k :: ks => by
    obtain ⟨h1, h2⟩ := lay_ints ks
    unfold intsD at h1 h2 ⊢
    simp only [List.map_cons, PyData.canLayAll0, PyData.depthAll, PyData.depth, PyData.canLay0, h1, h2]
    exact ⟨rfl, rfl⟩
theorem shaped_ints (ks : List Int) : SeqAt.shaped (.list (intsD ks)) = true := by
  obtain ⟨h1, h2⟩ := lay_ints ks
  show (PyData.canLay0 (.list (intsD ks)) && decide (PyData.depth (.list (intsD ks)) ≤ 64)) = true
  simp only [PyData.canLay0, PyData.depth, h1, h2]
  rfl
theorem eqv_ints (ks : List Int) : PyData.eqv (.list (intsD ks)) (.list []) = ks.isEmpty := by cases ks <;> rfl
theorem nat_div_pow (s i : Nat) : ((s : Nat) : Int) / 2 ^ ((i : Nat) : Int).toNat = ((s / 2 ^ i : Nat) : Int) := by
  rw [Int.toNat_natCast, Int.natCast_ediv, Int.natCast_pow]
  rfl
theorem bit_div (s i : Nat) : (s / 2 ^ i) &&& 1 = (s.testBit i).toNat := by
  rw [Nat.and_one_is_mod, Nat.toNat_testBit]
theorem bit_one (s i : Nat) : decide (Builtin.bitAnd (((s : Nat) : Int) / 2 ^ ((i : Nat) : Int).toNat) 1 = 1) = s.testBit i := by
  rw [nat_div_pow, show (1 : Int) = ((1 : Nat) : Int) from rfl, band_nat, bit_div]
  cases s.testBit i <;> rfl
theorem bit_zero (s i : Nat) : decide (Builtin.bitAnd (((s : Nat) : Int) / 2 ^ ((i : Nat) : Int).toNat) 1 = 0) = !s.testBit i := by
  rw [nat_div_pow, show (1 : Int) = ((1 : Nat) : Int) from rfl, band_nat, bit_div]
  cases s.testBit i <;> rfl
theorem bit_le {s i : Nat} (h : s.testBit i = true) : ((s : Nat) : Int) - ((2 ^ i : Nat) : Int) = ((s - 2 ^ i : Nat) : Int) := by
  have := Nat.ge_two_pow_of_testBit h
  omega
section
variable {X : Cx} {tg e : Expr} {σ : L2.St} {H : Hp} {Γ : List (Option Sl)} {pos p px : Pos} {m : DM} {l : Addr} {x : Str}
theorem ei_rangeN {n : Nat} (ha : EvE X e σ H (.int (n : Nat))) (hm : X.mg "range" = none) (hn : n ≤ 1000000) (hg : Gl X "range" := by rfl) (hs : starEach [e] X.env = [(false, eval e X.env)] := by rfl)
    (hsE : starEach (e :: []) X.env = (false, eval e X.env) :: starEach [] X.env := by rfl) : EvI X tg (.Call (.Name "range" p) [e] [] pos) σ H [] ((List.range n).map fun (j : Nat) => PyData.int (j : Nat)) := by
  have h := ei_range (tg := tg) (p := p) (pos := pos) ha hm ⟨by omega, by omega⟩ hg hs hsE
  rw [Int.toNat_natCast] at h
  exact h
/-- list(d), d a dict that a name holds -/
theorem en_listD (hc : X.calm = true) (hm : X.mg "list" = none) (hs : SR X.K H σ Γ) (i : Nat) (hd : H l = some (.dK (dKv m))) (hgi : Γ[i]? = some (some (.at l)) := by rfl) (hN : X.N[i]? = some x := by rfl)
    (hvi : Vis X.env.scope x := by first | exact Or.inl rfl | exact Or.inr (Or.inl rfl) | exact Or.inr (Or.inr rfl)) (hdb : (x == ("__debug__" : Str)) = false := by decide) (hcd : (x == ("__classdict__" : Str)) = false := by decide)
    (hg : Gl X "list" := by rfl) (s1 : starEach [.Name x px] X.env = (false, eval (.Name x px) X.env) :: starEach [] X.env := by rfl) (hpl : (backTo pos (starEach [] X.env)).any (·.1) = false := by rfl) :
    EvN X (.Call (.Name "list" p) [.Name x px] [] pos) σ H (m.map fun q => PyData.int (q.1 : Nat)) := fun H1 e1 Q q =>
  of_pe (pe_callTy (call_list_dK hc) hg hm (by decide +kernel) (pa_cons (pe_var hN hvi hdb hcd) pa_nil s1) (by decide) (by decide) s1 hpl) ⟨_, hs.get_at hgi, l, dKv m, rfl, e1 _ _ hd, fun r hr => by
    have e : ((dKv m).map fun kv => kV kv.1) = m.map fun q => V.int (q.1 : Nat) := by
      unfold dKv
      rw [List.map_map]
      rfl
    refine q r _ _ hr (Ex.new hr) upd_same ?_
    rw [e]
    have := dps_of_int (K := X.K) (H := upd H1 r (.lst (m.map fun q => V.int (q.1 : Nat)))) (m.map fun q => ((q.1 : Nat) : Int))
    rw [List.map_map, List.map_map] at this
    exact this⟩
end
/-- what the least peaks' defs promise -/
def spQ (K : PySem.W.Frag) (f : Nat → DM → DM) : Sp := fun vs H Q _ => ∃ (rows : List R3) (l : Addr), (∃ hw : WF (rows.map two2), Nonempty (K30m.Lat (K30m.maskS _ hw))) ∧ few (rows.map two2) ∧ rows.length ≤ 5000 ∧
  ArAll K H vs [.l (rows.map r3D), .at l] ∧ H l = some (.dK (dKv (statesD (rows.map two2)))) ∧ ∀ p H', H p = none → Ex H H' → H' p = some (.dK (dKv (f rows.length (statesD (rows.map two2))))) → Q (.ref p) H'
theorem spQ_len {K : PySem.W.Frag} {f : Nat → DM → DM} : ∀ vs H Q E, spQ K f vs H Q E → vs.length = 2 := fun vs H Q E h => by
  obtain ⟨rows, l, _, _, _, ha, _⟩ := h
  rw [arall_length ha]
  rfl
theorem few_len {rs : List K30m.Row} (h : few rs) {m : DM} (F : Fnd rs m) : m.length ≤ 10000 := by
  have := h (m.map Prod.fst) F.nd (fun x hx => by
    obtain ⟨p, hp, rfl⟩ := List.mem_map.mp hx
    exact (F.cl p hp).1)
  rw [List.length_map] at this
  omega
section
variable {P : Program} {w : World} {K : PySem.W.Frag} {mg : Str → Option Value} {base : Heap} (T : Tops K mg)
include T
theorem f_law_reached : Fn P w K mg base 1 "_law_reached" ["_law_rows_here", "_law_states_here"] (spQ K reachD) :=
  fn_ok T.d_law_reached sc_law_reached hb_law_reached spQ_len fun f cdv A outer s H vs Q E hr h => by
    obtain ⟨rows, sa, ⟨hw, ⟨L⟩⟩, hfew, hlen, hargs, hsa, q⟩ := h
    match vs, hargs with
    | [v1, v2], .cons ⟨ra, hv1, la⟩ (.cons h2 .nil) =>
      subst hv1
      have h2 : v2 = .ref sa := h2
      subst h2
      have hu := hr.units
      obtain ⟨F, hk⟩ := states_ok hw
      have hml := few_len hfew F
      have hrl : (rows.map two2).length = rows.length := List.length_map _
      rw [← hrl] at q
      generalize hm : statesD (rows.map two2) = m at hsa q F hk hml
      generalize hrs : rows.map two2 = rs at hw L F hk hrl q
      have hs : SR K H (start n_law_reached [.ref ra, .ref sa]) [some (.at ra), some (.at sa), none, none, none, none, none] := .at (.at (.no (.no (.no (.no (.no .nil))))))
      have nras : ra ≠ sa := fun z => by
        obtain ⟨ws, hw', _⟩ := la
        rw [z, hsa] at hw'
        cases hw'
      refine do_asgF sc_law_reached.nd 2 hs (ef_dict1 (k := 0) ee_int ee_int) fun fd σ1 H1 hfd e1 h1 hs1 => ?_
      have la1 := la.ex e1
      have nra : ra ≠ fd := fun z => by
        obtain ⟨ws, hw', _⟩ := la
        rw [z, hfd] at hw'
        cases hw'
      have nsa : sa ≠ fd := fun z => by rw [z, hfd] at hsa; cases hsa
      refine do_forD (Γ := []) (m := m) (l := sa) PassesOwn.never rfl [fd] (fun _ => [some (.at ra), some (.at sa), some (.at fd), none, none, none, none]) (fun pre H => H fd = some (.dK (dKv (pre.foldl (rst rs.length m) [(0, 0)])))) 1 (us := fun p => [(3, .int (p.1 : Nat))])
        (e1 _ _ hsa) (by simp [nsa]) (ntd h1) (fun p _ => tg_name sc_law_reached.nd 3) (fun pre A B e h => e _ _ h) hs1 (fun od => by rw [upd_ne (Ne.symm nsa)]; exact h1) (fun od A _ h => by rw [upd_ne (Ne.symm nsa)]; exact h) ?_ ?_
      · rintro pre ⟨s, u⟩ post hx σ2 H2 t2 keep rd2 hv2 hs2 De' N hN
        have R := reach_ri hw F hk L (pre := pre) (post := (s, u) :: post) hx
        obtain ⟨w1, w2, w3⟩ := ri_ways hw F hk L hx R
        have ef : (pre ++ [(s, u)]).foldl (rst rs.length m) [(0, 0)] = rst rs.length m (pre.foldl (rst rs.length m) [(0, 0)]) (s, u) := by rw [List.foldl_append]; rfl
        rw [ef] at hN
        have hpm : pre.length ≤ m.length := by rw [hx, List.length_append]; omega
        have hRl := R.len
        have hsu : getM m s = some u := getM_mem F.nd (by rw [hx]; exact List.mem_append_right _ List.mem_cons_self)
        generalize pre.foldl (rst rs.length m) [(0, 0)] = f2 at hv2 hN R w1 w2 w3 hRl
        have la2 : LsAt K H2 ra (rows.map r3D) := by
          obtain ⟨ws, q1, q2⟩ := la1
          exact ⟨ws, keep _ _ (by simp [nra]) nras q1, dps_tx t2 _ _ (r3_nols rows) q2⟩
        refine do_asgN sc_law_reached.nd 4 hs2 (ds := []) (en_lst ea_nil) fun wa vs3 σ3 H3 hwa e3 h3 hd3 hs3 => ?_
        have nwf : wa ≠ fd := fun z => by rw [z, hv2] at hwa; cases hwa
        have nws : wa ≠ sa := fun z => by
          rcases rd2 with r | ⟨o, r⟩
          · rw [z, r] at hwa; cases hwa
          · rw [z, r] at hwa; cases hwa
        have nwr : ra ≠ wa := fun z => by
          obtain ⟨ws, hw', _⟩ := la2
          rw [z, hwa] at hw'
          cases hw'
        refine do_for (xs := List.range rs.length) (g := fun j => PyData.int (j : Nat)) PassesOwn.never rfl [wa] (fun _ => [some (.at ra), some (.at sa), some (.at fd), some (.py (.int (s : Nat))), some (.at wa), none, none])
          (fun pr H => LsAt K H wa (intsD (pr.foldl (wst true m f2 s) []))) (us := fun j => [(5, .int (j : Nat))]) (ei_rangeN (.of_eq (ee_lenL T.b_len (ep_slot hs3 0 (la2.ex e3)).ev) (by rw [List.length_map, hrl])) T.b_range (by omega)) (noLs_mem.mpr fun z hz => by
            obtain ⟨p, _, rfl⟩ := List.mem_map.mp hz
            rfl) (nt1 h3) (fun a ha => by cases ha) (fun j _ => tg_name sc_law_reached.nd 5) (fun pr A B e h => h.ex e) hs3 (lsat_nil h3 hd3) ?_ ?_
        · intro pr i po hx4 σ4 H4 c4 t4 hv4 hs4 N4 hN4
          have hi : i < rs.length := by
            have : i ∈ List.range rs.length := by rw [hx4]; exact List.mem_append_right _ List.mem_cons_self
            exact List.mem_range.mp this
          have ef4 : (pr ++ [i]).foldl (wst true m f2 s) [] = wst true m f2 s (pr.foldl (wst true m f2 s) []) i := by rw [List.foldl_append]; rfl
          have hwl := wst_len true m f2 s pr []
          have hprl : pr.length ≤ rs.length := by
            have := congrArg List.length hx4
            rw [List.length_range, List.length_append] at this
            omega
          rw [ef4] at hN4
          generalize pr.foldl (wst true m f2 s) [] = ac at hv4 hN4 hwl
          have fd4 : H4 fd = some (.dK (dKv f2)) := c4 _ _ (by simp [Ne.symm nwf]) (e3 _ _ hv2)
          have rd4 : RdD H4 sa m := by
            rcases rd2.ex e3 with r | ⟨o, r⟩
            · exact .inl (c4 _ _ (by simp [Ne.symm nws]) r)
            · exact .inr ⟨o, c4 _ _ (by simp [Ne.symm nws]) r⟩
          refine do_asg (d := .int ((s : Int) - ((2 ^ i : Nat) : Int))) sc_law_reached.nd 6 hs4 (.of_eq (ee_sub (ev hs4 3) (ee_shl ee_int (ev hs4 5) ⟨by omega, by omega, by decide⟩)) (by rw [pow_shl])) rfl fun σ5 H5 e5 hs5 => ?_
          have rd5 := rd4.ex e5
          have fd5 := e5 _ _ fd4
          refine do_if (t := s.testBit i && (getM m (s - 2 ^ i)).isSome) (et_w (ew_and (.of_eq (et_eqI (ee_band (ee_shr (ev hs5 3) (ev hs5 5) (by omega)) ee_int) ee_int) (bit_one s i)) fun hb => ew_and1 (et_din hu hs5 1 rd5 (.of_eq (ev hs5 6) (by rw [bit_le hb]))))) (fun hb H6 e6 => ?_) (fun hb H6 e6 => ?_)
          · rw [Bool.and_eq_true] at hb
            obtain ⟨v, hv⟩ := w1 i hi hb.1 hb.2
            have ew : wst true m f2 s ac i = ac ++ [v] := by
              unfold wst
              rw [if_pos ⟨hb.1, hb.2⟩]
              show ac ++ [(getM f2 (s - 2 ^ i)).getD 0] = _
              rw [hv]; rfl
            rw [ew] at hN4
            have hs6 := hs5.ex e6
            obtain ⟨ws, q1, q2⟩ := (hv4.ex e5).ex e6
            have wl := dps_length q2
            unfold intsD at wl
            rw [List.length_map] at wl
            rw [List.length_nil] at hwl
            refine do_app hs6 4 q1 (by omega) (ee_dget hu hs6 2 (.inl (e6 _ _ fd5)) (.of_eq (ev hs6 6) (by rw [bit_le hb.1])) hv) fun v7 H7 e7 hv7 => ?_
            have lt7 := e7 _ _ q1
            have tx7 : TX H7 (upd H7 wa (.lst (ws ++ [v7]))) := TX.upd lt7 trivial
            refine do_nil (do_nil (hN4 _ _ (((Ch.ex (e5.trans e6)).trans (.ex e7)).trans (Ch.upd List.mem_cons_self)) ?_ ((((hs6.ex e7).tx tx7).drop 5).drop 6)))
            have := lsat_app e7 q1 q2 hv7 (ints_nols ac) rfl
            rw [show intsD (ac ++ [v]) = intsD ac ++ [PyData.int v] by unfold intsD; rw [List.map_append]; rfl]
            exact this
          · have ew : wst true m f2 s ac i = ac := by
              unfold wst
              refine if_neg fun z => ?_
              have z1 : s.testBit i = true := z.1
              have z2 : (getM m (s - 2 ^ i)).isSome = true := z.2
              rw [z1, z2] at hb
              cases hb
            rw [ew] at hN4
            exact do_nil (do_nil (hN4 _ _ (.ex (e5.trans e6)) ((hv4.ex e5).ex e6) (((hs5.ex e6).drop 5).drop 6)))
        · intro σ4 H4 c4 t4 hv4 hs4
          have fd4 : H4 fd = some (.dK (dKv f2)) := c4 _ _ (by simp [Ne.symm nwf]) (e3 _ _ hv2)
          have rd4 : RdD H4 sa m := by
            rcases rd2.ex e3 with r | ⟨o, r⟩
            · exact .inl (c4 _ _ (by simp [Ne.symm nws]) r)
            · exact .inr ⟨o, c4 _ _ (by simp [Ne.symm nws]) r⟩
          have hv4 : LsAt K H4 wa (intsD (ways true rs.length m f2 s)) := hv4
          have keep4 : ∀ b o, b ∉ [fd] → H2 b = some o → H4 b = some o := fun b o hb ho => c4 b o (by
            intro z
            have z := List.mem_singleton.mp z
            rw [z, hwa] at ho
            cases ho) (e3 _ _ ho)
          refine do_if (.of_eq (et_neD hu (ep_slot hs4 4 hv4).ev (en_lst ea_nil).ev (shaped_ints _) rfl) (by rw [eqv_ints])) (fun hb H5 e5 => ?_) (fun hb H5 e5 => ?_)
          · have hne : ways true rs.length m f2 s ≠ [] := fun z => by rw [z] at hb; cases hb
            have hs0 : s ≠ 0 := fun z => hne (w2 z)
            obtain ⟨_, hnew, _⟩ := w3 hs0
            have er : rst rs.length m f2 (s, u) = f2 ++ [(s, max u (minI (ways true rs.length m f2 s)))] := by
              unfold rst
              exact if_neg hne
            rw [er] at hN
            have hs5 := hs4.ex e5
            refine do_dput hu hs5 2 (e5 _ _ fd4) (ev hs5 3) (v := max u (minI (ways true rs.length m f2 s))) (ee_max2 rfl T.b_max (ee_dget hu hs5 1 (rd4.ex e5) (ev hs5 3) hsu) ?_) (getM_none.mpr hnew) (by omega) fun H6 e6 => ?_
            · have hl5 := hv4.ex e5
              generalize ways true rs.length m f2 s = wv at hl5 hne
              cases wv with
              | nil => exact absurd rfl hne
              | cons w0 ws => exact ee_minL rfl T.b_min (ep_slot hs5 4 hl5).ev
            · have tx6 : TX H6 (upd H6 fd (.dK (dKv (f2 ++ [(s, max u (minI (ways true rs.length m f2 s)))])))) := TX.upd (e6 _ _ (e5 _ _ fd4)) trivial
              refine do_nil (do_nil (hN _ _ (fun b o hb ho => ?_) upd_same ((((hs5.ex e6).tx tx6).drop 3).drop 4)))
              rw [upd_ne (fun z => hb (by rw [z]; exact List.mem_cons_self))]
              exact e6 _ _ (e5 _ _ (keep4 b o hb ho))
          · have he : ways true rs.length m f2 s = [] := by
              cases hq : ways true rs.length m f2 s with
              | nil => rfl
              | cons a l => rw [hq] at hb; cases hb
            have er : rst rs.length m f2 (s, u) = f2 := by
              unfold rst
              exact if_pos he
            rw [er] at hN
            exact do_nil (do_nil (hN _ _ (fun b o hb ho => e5 _ _ (keep4 b o hb ho)) (e5 _ _ fd4) (((hs4.ex e5).drop 3).drop 4)))
      · intro σ2 H2 c2 t2 hv2 hs2
        refine do_st (of_ps (ps_ret pe_sem) ((evAt hs2 2) H2 (Ex.refl _) _ fun v H3 e3 hv => ?_))
        have hv : v = .ref fd := hv
        rw [hv]
        exact q fd H3 hfd ((Ex.over e1 (no1 (H := H) hfd) c2).trans e3) (e3 _ _ hv2)
end
end K30
namespace K30
open PySem PySem.Spec PyProof.Rows L2 Evl RZ
open K30m (Cl WF Sub val cnt full)
section
variable {P : Program} {w : World} {K : PySem.W.Frag} {mg : Str → Option Value} {base : Heap} (T : Tops K mg)
include T
theorem f_law_completed : Fn P w K mg base 1 "_law_completed" ["_law_rows_here", "_law_states_here"] (spQ K compD) :=
  fn_ok T.d_law_completed sc_law_completed hb_law_completed spQ_len fun f cdv A outer s H vs Q E hr h => by
    obtain ⟨rows, sa, ⟨hw, ⟨L⟩⟩, hfew, hlen, hargs, hsa, q⟩ := h
    match vs, hargs with
    | [v1, v2], .cons ⟨ra, hv1, la⟩ (.cons h2 .nil) =>
      subst hv1
      have h2 : v2 = .ref sa := h2
      subst h2
      have hu := hr.units
      obtain ⟨F, hk⟩ := states_ok hw
      have hml := few_len hfew F
      have hrl : (rows.map two2).length = rows.length := List.length_map _
      rw [← hrl] at q
      generalize hm : statesD (rows.map two2) = m at hsa q F hk hml
      generalize hrs : rows.map two2 = rs at hw L F hk hrl q
      have hs : SR K H (start n_law_completed [.ref ra, .ref sa]) [some (.at ra), some (.at sa), none, none, none, none, none] := .at (.at (.no (.no (.no (.no (.no .nil))))))
      have nras : ra ≠ sa := fun z => by
        obtain ⟨ws, hw', _⟩ := la
        rw [z, hsa] at hw'
        cases hw'
      refine do_asgF sc_law_completed.nd 2 hs ef_dict0 fun fd σ1 H1 hfd e1 h1 hs1 => ?_
      have la1 := la.ex e1
      have nra : ra ≠ fd := fun z => by
        obtain ⟨ws, hw', _⟩ := la
        rw [z, hfd] at hw'
        cases hw'
      have nsa : sa ≠ fd := fun z => by rw [z, hfd] at hsa; cases hsa
      refine do_for (xs := m.reverse) (g := fun p => PyData.int (p.1 : Nat)) PassesOwn.never rfl [fd] (fun _ => [some (.at ra), some (.at sa), some (.at fd), none, none, none, none]) (fun pre H => H fd = some (.dK (dKv (pre.foldl (cst rs.length m) [])))) (us := fun p => [(3, .int (p.1 : Nat))])
        (ei_new (.of_eq (en_revL (en_listD rfl T.b_list hs1 1 (e1 _ _ hsa)).ev) (by rw [List.map_reverse])) (noLs_mem.mpr fun z hz => by
            obtain ⟨p, _, rfl⟩ := List.mem_map.mp hz
            rfl)) (noLs_mem.mpr fun z hz => by
            obtain ⟨p, _, rfl⟩ := List.mem_map.mp hz
            rfl) (ntd h1) (fun a ha => by cases ha) (fun p _ => tg_name sc_law_completed.nd 3) (fun pre A B e h => e _ _ h) hs1 h1 ?_ ?_
      · rintro pre ⟨s, u⟩ post hx σ2 H2 c2 t2 hv2 hs2 N hN
        have R := comp_ci hw F hk L (pre := pre) (post := (s, u) :: post) hx
        obtain ⟨w1, w2, w3⟩ := ci_ways hw F hk L hx R
        have ef : (pre ++ [(s, u)]).foldl (cst rs.length m) [] = cst rs.length m (pre.foldl (cst rs.length m) []) (s, u) := by rw [List.foldl_append]; rfl
        rw [ef] at hN
        have rd2 : RdD H2 sa m := .inl (c2 _ _ (by simp [nsa]) (e1 _ _ hsa))
        have hpm : pre.length ≤ m.length := by
          have hh := congrArg List.length hx
          rw [List.length_reverse, List.length_append] at hh
          omega
        have hRl : (pre.foldl (cst rs.length m) []).length = pre.length := by
          have := congrArg List.length R.keys
          rw [List.length_map, List.length_map] at this
          exact this
        have hsu : getM m s = some u := getM_mem F.nd (by rw [← List.mem_reverse, hx]; exact List.mem_append_right _ List.mem_cons_self)
        generalize pre.foldl (cst rs.length m) [] = f2 at hv2 hN R w1 w2 w3 hRl
        have la2 : LsAt K H2 ra (rows.map r3D) := by
          obtain ⟨ws, q1, q2⟩ := la1
          exact ⟨ws, c2 _ _ (by simp [nra]) q1, dps_tx t2 _ _ (r3_nols rows) q2⟩
        refine do_asgN sc_law_completed.nd 4 hs2 (ds := []) (en_lst ea_nil) fun wa vs3 σ3 H3 hwa e3 h3 hd3 hs3 => ?_
        have nwf : wa ≠ fd := fun z => by rw [z, hv2] at hwa; cases hwa
        have nws : wa ≠ sa := fun z => by
          rcases rd2 with r | ⟨o, r⟩
          · rw [z, r] at hwa; cases hwa
          · rw [z, r] at hwa; cases hwa
        have nwr : ra ≠ wa := fun z => by
          obtain ⟨ws, hw', _⟩ := la2
          rw [z, hwa] at hw'
          cases hw'
        refine do_for (xs := List.range rs.length) (g := fun j => PyData.int (j : Nat)) PassesOwn.never rfl [wa] (fun _ => [some (.at ra), some (.at sa), some (.at fd), some (.py (.int (s : Nat))), some (.at wa), none, none])
          (fun pr H => LsAt K H wa (intsD (pr.foldl (wst false m f2 s) []))) (us := fun j => [(5, .int (j : Nat))]) (ei_rangeN (.of_eq (ee_lenL T.b_len (ep_slot hs3 0 (la2.ex e3)).ev) (by rw [List.length_map, hrl])) T.b_range (by omega)) (noLs_mem.mpr fun z hz => by
            obtain ⟨p, _, rfl⟩ := List.mem_map.mp hz
            rfl) (nt1 h3) (fun a ha => by cases ha) (fun j _ => tg_name sc_law_completed.nd 5) (fun pr A B e h => h.ex e) hs3 (lsat_nil h3 hd3) ?_ ?_
        · intro pr i po hx4 σ4 H4 c4 t4 hv4 hs4 N4 hN4
          have hi : i < rs.length := by
            have : i ∈ List.range rs.length := by rw [hx4]; exact List.mem_append_right _ List.mem_cons_self
            exact List.mem_range.mp this
          have ef4 : (pr ++ [i]).foldl (wst false m f2 s) [] = wst false m f2 s (pr.foldl (wst false m f2 s) []) i := by rw [List.foldl_append]; rfl
          have hwl := wst_len false m f2 s pr []
          have hprl : pr.length ≤ rs.length := by
            have := congrArg List.length hx4
            rw [List.length_range, List.length_append] at this
            omega
          rw [ef4] at hN4
          generalize pr.foldl (wst false m f2 s) [] = ac at hv4 hN4 hwl
          have fd4 : H4 fd = some (.dK (dKv f2)) := c4 _ _ (by simp [Ne.symm nwf]) (e3 _ _ hv2)
          have rd4 : RdD H4 sa m := by
            rcases rd2.ex e3 with r | ⟨o, r⟩
            · exact .inl (c4 _ _ (by simp [Ne.symm nws]) r)
            · exact .inr ⟨o, c4 _ _ (by simp [Ne.symm nws]) r⟩
          refine do_asg (d := .int ((s + 2 ^ i : Nat) : Int)) sc_law_completed.nd 6 hs4 (.of_eq (ee_add (ev hs4 3) (ee_shl ee_int (ev hs4 5) ⟨by omega, by omega, by decide⟩)) (by rw [pow_shl, Int.natCast_add])) rfl fun σ5 H5 e5 hs5 => ?_
          have rd5 := rd4.ex e5
          have fd5 := e5 _ _ fd4
          refine do_if (t := !s.testBit i && (getM m (s + 2 ^ i)).isSome) (et_w (ew_and (.of_eq (et_eqI (ee_band (ee_shr (ev hs5 3) (ev hs5 5) (by omega)) ee_int) ee_int) (bit_zero s i)) fun hb => ew_and1 (et_din hu hs5 1 rd5 (ev hs5 6)))) (fun hb H6 e6 => ?_) (fun hb H6 e6 => ?_)
          · rw [Bool.and_eq_true, Bool.not_eq_true'] at hb
            obtain ⟨v, hv⟩ := w1 i hi hb.1 hb.2
            have ew : wst false m f2 s ac i = ac ++ [v] := by
              unfold wst
              rw [if_pos ⟨hb.1, hb.2⟩]
              show ac ++ [(getM f2 (s + 2 ^ i)).getD 0] = _
              rw [hv]; rfl
            rw [ew] at hN4
            have hs6 := hs5.ex e6
            obtain ⟨ws, q1, q2⟩ := (hv4.ex e5).ex e6
            have wl := dps_length q2
            unfold intsD at wl
            rw [List.length_map] at wl
            rw [List.length_nil] at hwl
            refine do_app hs6 4 q1 (by omega) (ee_dget hu hs6 2 (.inl (e6 _ _ fd5)) (ev hs6 6) hv) fun v7 H7 e7 hv7 => ?_
            have lt7 := e7 _ _ q1
            have tx7 : TX H7 (upd H7 wa (.lst (ws ++ [v7]))) := TX.upd lt7 trivial
            refine do_nil (do_nil (hN4 _ _ (((Ch.ex (e5.trans e6)).trans (.ex e7)).trans (Ch.upd List.mem_cons_self)) ?_ ((((hs6.ex e7).tx tx7).drop 5).drop 6)))
            have := lsat_app e7 q1 q2 hv7 (ints_nols ac) rfl
            rw [show intsD (ac ++ [v]) = intsD ac ++ [PyData.int v] by unfold intsD; rw [List.map_append]; rfl]
            exact this
          · have ew : wst false m f2 s ac i = ac := by
              unfold wst
              refine if_neg fun z => ?_
              have z1 : s.testBit i = false := z.1
              have z2 : (getM m (s + 2 ^ i)).isSome = true := z.2
              rw [z1, z2] at hb
              cases hb
            rw [ew] at hN4
            exact do_nil (do_nil (hN4 _ _ (.ex (e5.trans e6)) ((hv4.ex e5).ex e6) (((hs5.ex e6).drop 5).drop 6)))
        · intro σ4 H4 c4 t4 hv4 hs4
          have fd4 : H4 fd = some (.dK (dKv f2)) := c4 _ _ (by simp [Ne.symm nwf]) (e3 _ _ hv2)
          have rd4 : RdD H4 sa m := by
            rcases rd2.ex e3 with r | ⟨o, r⟩
            · exact .inl (c4 _ _ (by simp [Ne.symm nws]) r)
            · exact .inr ⟨o, c4 _ _ (by simp [Ne.symm nws]) r⟩
          have hv4 : LsAt K H4 wa (intsD (ways false rs.length m f2 s)) := hv4
          have keep4 : ∀ b o, b ∉ [fd] → H2 b = some o → H4 b = some o := fun b o hb ho => c4 b o (by
            intro z
            have z := List.mem_singleton.mp z
            rw [z, hwa] at ho
            cases ho) (e3 _ _ ho)
          have er : cst rs.length m f2 (s, u) = f2 ++ [(s, if ways false rs.length m f2 s = [] then u else max u (minI (ways false rs.length m f2 s)))] := rfl
          rw [er] at hN
          have hds : (getM m s) = some u := hsu
          refine do_dput hu hs4 2 fd4 (ev hs4 3) (v := if ways false rs.length m f2 s = [] then u else max u (minI (ways false rs.length m f2 s))) (ee_if (.of_eq (et_eqD hu (ep_slot hs4 4 hv4).ev (en_lst ea_nil).ev (shaped_ints _) rfl) (eqv_ints _)) (fun hb => ?_) fun hb => ?_) (getM_none.mpr w2) (by omega) fun H6 e6 => ?_
          · have he : ways false rs.length m f2 s = [] := List.isEmpty_iff.mp hb
            rw [if_pos he]
            exact ee_dget hu hs4 1 rd4 (ev hs4 3) hsu
          · have hne : ways false rs.length m f2 s ≠ [] := fun z => by rw [z] at hb; cases hb
            rw [if_neg hne]
            refine ee_max2 rfl T.b_max (ee_dget hu hs4 1 rd4 (ev hs4 3) hsu) ?_
            generalize ways false rs.length m f2 s = wv at hv4 hne
            cases wv with
            | nil => exact absurd rfl hne
            | cons w0 ws => exact ee_minL rfl T.b_min (ep_slot hs4 4 hv4).ev
          · have tx6 : TX H6 (upd H6 fd (.dK (dKv (f2 ++ [(s, if ways false rs.length m f2 s = [] then u else max u (minI (ways false rs.length m f2 s)))])))) := TX.upd (e6 _ _ fd4) trivial
            refine do_nil (hN _ _ (fun b o hb ho => ?_) upd_same ((((hs4.ex e6).tx tx6).drop 3).drop 4))
            rw [upd_ne (fun z => hb (by rw [z]; exact List.mem_cons_self))]
            exact e6 _ _ (keep4 b o hb ho)
      · intro σ2 H2 c2 t2 hv2 hs2
        refine do_st (of_ps (ps_ret pe_sem) ((evAt hs2 2) H2 (Ex.refl _) _ fun v H3 e3 hv => ?_))
        have hv : v = .ref fd := hv
        rw [hv]
        exact q fd H3 hfd ((Ex.over e1 (no1 (H := H) hfd) c2).trans e3) (e3 _ _ hv2)
end
end K30
/-! All states give the profile. -/
namespace K30
open K30m
def startPs (n : Nat) (m : DM) : List K30m.Pr := m.map fun p => ((getM (reachD n m) p.1).getD 0, p.2)
def endPs (n : Nat) (m : DM) : List K30m.Pr := m.map fun p => ((getM (compD n m) p.1).getD 0, p.2)
theorem brute_ok {rs : List Row} (hw : WF rs) (L : Lat (maskS rs hw)) {A : Sys} (i : Iso (maskS rs hw) A) {p : Pf} (hp : IsPf A p) :
    getM (statesD rs) (full rs.length) = some p.n ∧ getM (compD rs.length (statesD rs)) 0 = some p.k ∧ desc (startPs rs.length (statesD rs)) = p.s ∧ desc (endPs rs.length (statesD rs)) = p.e := by
  obtain ⟨F, hk⟩ := states_ok hw
  generalize statesD rs = m at F hk
  obtain ⟨r1, r2, r3⟩ := reach_ok hw F hk L
  obtain ⟨c1, c2, c3⟩ := comp_ok hw F hk L
  have hval : ∀ (x : Nat) (hx : Cl rs x), getM m x = some (val 0 rs x) ∧ (x, val 0 rs x) ∈ m := fun x hx => by
    obtain ⟨v, h1, h2⟩ := key_get F.nd ((hk x).mpr hx)
    have e : v = val 0 rs x := (F.cl _ h2).2
    rw [← e]
    exact ⟨h1, h2⟩
  have hR : ∀ (x : Nat) (hx : Cl rs x), ∃ k, getM (reachD rs.length m) x = some k ∧ IsRp (maskS rs hw) ⟨x, hx⟩ k := fun x hx => by
    obtain ⟨v, h1, h2⟩ := key_get r1 ((r2 x).mpr hx)
    obtain ⟨_, h3⟩ := r3 _ h2
    exact ⟨v, h1, h3⟩
  have hC : ∀ (x : Nat) (hx : Cl rs x), ∃ k, getM (compD rs.length m) x = some k ∧ IsCp (maskS rs hw) ⟨x, hx⟩ k := fun x hx => by
    obtain ⟨v, h1, h2⟩ := key_get c1 ((c2 x).mpr hx)
    obtain ⟨_, h3⟩ := c3 _ h2
    exact ⟨v, h1, h3⟩
  have all : AllSt (maskS rs hw) (startPs rs.length m) (endPs rs.length m) := by
    refine ⟨fun z k hz => ?_, fun z k hz => ?_, fun q hq => ?_, fun q hq => ?_⟩
    · obtain ⟨x, hx⟩ := z
      obtain ⟨k', h1, h2⟩ := hR x hx
      have e := hz.uniq h2
      subst e
      exact List.mem_map.mpr ⟨_, (hval x hx).2, by rw [h1]; rfl⟩
    · obtain ⟨x, hx⟩ := z
      obtain ⟨k', h1, h2⟩ := hC x hx
      have e := hz.uniq h2
      subst e
      exact List.mem_map.mpr ⟨_, (hval x hx).2, by rw [h1]; rfl⟩
    · obtain ⟨⟨x, v⟩, hm, rfl⟩ := List.mem_map.mp hq
      have hx : Cl rs x := (F.cl _ hm).1
      obtain ⟨k', h1, h2⟩ := hR x hx
      exact ⟨⟨x, hx⟩, by rw [h1]; exact h2, (F.cl _ hm).2⟩
    · obtain ⟨⟨x, v⟩, hm, rfl⟩ := List.mem_map.mp hq
      have hx : Cl rs x := (F.cl _ hm).1
      obtain ⟨k', h1, h2⟩ := hC x hx
      exact ⟨⟨x, hx⟩, by rw [h1]; exact h2, (F.cl _ hm).2⟩
  obtain ⟨k0, h1, h2⟩ := hC 0 (cl_zero rs)
  have key := (i.pf (all_ok L all h2)).uniq hp
  have ht := (hval _ (cl_full hw)).1
  subst key
  exact ⟨ht, h1, rfl, rfl⟩
theorem valBy_spec : ∀ (D : List K30m.Pr), Strict D → ∀ (R : Int) (f0 : Option Int), (∀ v, f0 = some v → ∀ q ∈ D, q.2 < v) →
    ((∀ q ∈ D, ¬ q.1 ≤ R) ∧ D.foldl (fun f q => if q.1 ≤ R then some q.2 else f) f0 = f0) ∨ ∃ q ∈ D, q.1 ≤ R ∧ D.foldl (fun f q => if q.1 ≤ R then some q.2 else f) f0 = some q.2 ∧ ∀ q' ∈ D, q'.1 ≤ R → q.2 ≤ q'.2
  | [], _, R, f0, _ => .inl ⟨(fun q h => by cases h), rfl⟩
  | d :: D, hs, R, f0, hf => by
    have hs' : (∀ q ∈ D, d.1 < q.1 ∧ q.2 < d.2) ∧ Strict D := List.pairwise_cons.mp hs
    rw [List.foldl_cons]
    by_cases h : d.1 ≤ R
    · rw [if_pos h]
      rcases valBy_spec D hs'.2 R (some d.2) (fun v hv q hq => by cases hv; exact (hs'.1 q hq).2) with ⟨h1, h2⟩ | ⟨q, h1, h2, h3, h4⟩
      · refine .inr ⟨d, List.mem_cons_self, h, h2, fun q' hq' hR => ?_⟩
        rcases List.mem_cons.mp hq' with rfl | hq'
        · exact Int.le_refl _
        · exact absurd hR (h1 q' hq')
      · refine .inr ⟨q, List.mem_cons_of_mem _ h1, h2, h3, fun q' hq' hR => ?_⟩
        rcases List.mem_cons.mp hq' with rfl | hq'
        · have := (hs'.1 q h1).2; omega
        · exact h4 q' hq' hR
    · rw [if_neg h]
      rcases valBy_spec D hs'.2 R f0 (fun v hv q hq => hf v hv q (List.mem_cons_of_mem _ hq)) with ⟨h1, h2⟩ | ⟨q, h1, h2, h3, h4⟩
      · refine .inl ⟨fun q hq => ?_, h2⟩
        rcases List.mem_cons.mp hq with rfl | hq
        · exact h
        · exact h1 q hq
      · refine .inr ⟨q, List.mem_cons_of_mem _ h1, h2, h3, fun q' hq' hR => ?_⟩
        rcases List.mem_cons.mp hq' with rfl | hq'
        · exact absurd hR h
        · exact h4 q' hq' hR
def lowI (P : List K30m.Pr) (R : Int) : List Int := (P.filter fun p => decide (p.1 ≤ R)).map Prod.snd
def lowO (us : List Int) : Option Int := if us = [] then none else some (minI us)
theorem valBy_desc (P : List K30m.Pr) (R : Int) : valBy (desc P) R = lowO (lowI P R) := by
  have hs : Strict (desc P) := desc_strict P
  have mem : ∀ u, u ∈ lowI P R ↔ ∃ p ∈ P, p.1 ≤ R ∧ p.2 = u := fun u => by
    unfold lowI
    simp [List.mem_filter]
  unfold valBy lowO
  rcases valBy_spec (desc P) hs R none (fun v hv => by cases hv) with ⟨h1, h2⟩ | ⟨q, h1, h2, h3, h4⟩
  · rw [h2]
    have he : lowI P R = [] := by
      refine List.eq_nil_iff_forall_not_mem.mpr fun u hu => ?_
      obtain ⟨p, hp, hR, _⟩ := (mem u).mp hu
      obtain ⟨q, hq, q1, q2⟩ := desc_cov P p hp
      exact h1 q hq (by omega)
    rw [if_pos he]
  · rw [h3]
    obtain ⟨p, hp, p1, p2⟩ := cov_desc P q h1
    have hin : p.2 ∈ lowI P R := (mem _).mpr ⟨p, hp, by omega, rfl⟩
    have hne : lowI P R ≠ [] := List.ne_nil_of_mem hin
    rw [if_neg hne]
    obtain ⟨m1, m2⟩ := minI_mem hne
    obtain ⟨p', hp', q1, q2⟩ := (mem _).mp m1
    obtain ⟨q', hq', r1, r2⟩ := desc_cov P p' hp'
    have := h4 q' hq' (by omega)
    have := m2 _ hin
    rw [show q.2 = minI (lowI P R) by omega]
theorem nodup_len : ∀ (l t : List Nat), l.Nodup → (∀ x ∈ l, x ∈ t) → l.length ≤ t.length
  | [], _, _, _ => Nat.zero_le _
  | a :: l, t, hn, hs => by
    rw [List.nodup_cons] at hn
    have ha := hs a List.mem_cons_self
    have := nodup_len l (t.erase a) hn.2 fun x hx => (List.mem_erase_of_ne (fun e => hn.1 (by rw [← e]; exact hx))).mpr (hs x (List.mem_cons_of_mem _ hx))
    rw [List.length_erase_of_mem ha] at this
    have h1 := List.length_pos_of_mem ha
    rw [List.length_cons]
    omega
/-- few states -/
theorem few_short {rs : List Row} (h : rs.length ≤ 10) (l : List Nat) (hn : l.Nodup) (hl : ∀ x ∈ l, Cl rs x) : l.length ≤ 10000 := by
  have hsub : ∀ x ∈ l, x ∈ List.range (2 ^ rs.length) := fun x hx => List.mem_range.mpr (cl_lt (hl x hx))
  have h1 := nodup_len l _ hn hsub
  rw [List.length_range] at h1
  have h2 : 2 ^ rs.length ≤ 2 ^ 10 := Nat.pow_le_pow_right (by decide) h
  have h3 : (2 : Nat) ^ 10 = 1024 := by decide
  omega
/-- a chain: each row stands behind all the rows ahead -/
def Chn (rs : List Row) : Prop := ∀ (i : Nat) r, rs[i]? = some r → ∀ j, j < i → r.2.testBit j = true
theorem chain_cl {rs : List Row} (hc : Chn rs) {x : Nat} (hx : Cl rs x) : ∃ k, k ≤ rs.length ∧ x = full k := by
  by_cases h0 : x = 0
  · exact ⟨0, Nat.zero_le _, by rw [h0]; rfl⟩
  · obtain ⟨i, hi, hm⟩ := max_bit h0
    have hl := hx.small i hi
    refine ⟨i + 1, hl, Nat.eq_of_testBit_eq fun j => ?_⟩
    rw [testBit_full]
    have hr : rs[i]? = some rs[i] := List.getElem?_eq_getElem hl
    by_cases hj : j < i + 1
    · rw [decide_eq_true hj]
      by_cases e : j = i
      · rw [e]; exact hi
      · exact hx.down i _ hr hi j (hc i _ hr j (by omega))
    · rw [decide_eq_false hj]
      cases hb : x.testBit j with
      | false => rfl
      | true => exact absurd (hm j hb) (by omega)
theorem few_chain {rs : List Row} (hc : Chn rs) (h : rs.length ≤ 5000) (l : List Nat) (hn : l.Nodup) (hl : ∀ x ∈ l, Cl rs x) : l.length ≤ 10000 := by
  have hsub : ∀ x ∈ l, x ∈ (List.range (rs.length + 1)).map full := fun x hx => by
    obtain ⟨k, hk, e⟩ := chain_cl hc (hl x hx)
    exact List.mem_map.mpr ⟨k, List.mem_range.mpr (by omega), e.symm⟩
  have h1 := nodup_len l _ hn hsub
  rw [List.length_map, List.length_range] at h1
  omega
theorem chn_seq {a b : List Row} (ha : Chn a) (hb : Chn b) : Chn (seqRows a b) := fun i r hr j hj => by
  unfold seqRows at hr
  by_cases h : i < a.length
  · rw [rows_get_lt h] at hr
    exact ha i r hr j hj
  · rw [rows_get_ge (by omega)] at hr
    obtain ⟨r0, h0, rfl⟩ := Option.map_eq_some_iff.mp hr
    show (((r0.2 <<< a.length) ||| full a.length)).testBit j = true
    rw [Nat.testBit_or, Nat.testBit_shiftLeft, testBit_full]
    by_cases h2 : j < a.length
    · simp [h2]
    · have := hb _ _ h0 (j - a.length) (by omega)
      rw [this]
      have h3 : a.length ≤ j := by omega
      simp [h3]
theorem chn_steps : ∀ (ds : List Int) (acc : List Row), Chn acc → Chn ((lrowsS (ds.map Job.step)).foldl seqRows acc)
  | [], acc, h => h
  | d :: ds, acc, h => by
    show Chn ((lrowsS (ds.map Job.step)).foldl seqRows (seqRows acc (lrows (.step d))))
    refine chn_steps ds _ (chn_seq h fun i r hr j hj => ?_)
    have hl := (List.getElem?_eq_some_iff.mp hr).1
    have : (lrows (.step d)).length = 1 := rfl
    omega
theorem chn_chain (ds : List Int) : Chn (lrows (.seq (ds.map Job.step))) := chn_steps ds [] fun i r hr => by simp at hr
/-- the profile of a job is the one of its chain, of its mirror -/
theorem prof_chain {p : Pf} (g : Good p) : profJ (.seq ((nf p).map Job.step)) = p := by
  have h := (prof_ok (.seq ((nf p).map Job.step))).1
  have e : jobS (.seq ((nf p).map Job.step)) = seqL ((nf p).map stepS) := by
    show seqL (jobsS _) = _
    rw [jobsS_map, List.map_map]
    rfl
  rw [e] at h
  exact h.uniq (nf_ok g)
theorem prof_mirror (j : Job) : profJ (mirrorJ j) = opP (profJ j) := by
  obtain ⟨i⟩ := mirror_iso j
  have h := (prof_ok j).1.op (jobLat j).zero
  exact (prof_ok (mirrorJ j)).1.uniq (i.symm.pf h)
end K30
namespace K30
open PySem PySem.Spec PyProof.Rows L2 Evl RZ
open K30m (Job jobS jobLat Pf Good desc Cl WF full lrows opP)
section
variable {X : Cx} {a b e : Expr} {es : List Expr} {σ : L2.St} {H : Hp} {Γ : List (Option Sl)} {pos p : Pos} {rest : List Stmt} {De : Ends}
theorem do_parC {x y : Str} {px py pt : Pos} {kt k2 pt2} {o o' : HO} (hc : X.calm = true) (nd : X.N.Nodup) (hs : SR X.K H σ Γ) (ha : EvF X a σ H o) (hb : EvF X b σ H o') (i : Nat) (j : Nat)
    (kk : ∀ p q σ1 H1, H p = none → H q = none → p ≠ q → Ex H H1 → H1 p = some o → H1 q = some o' → SR X.K H1 σ1 ((Γ.set i (some (.at p))).set j (some (.at q))) → Do X rest De σ1 H1)
    (hi : X.N[i]? = some x := by rfl) (hj : X.N[j]? = some y := by rfl) (hx : Loc X.env.scope x := by first | exact Or.inl rfl | exact Or.inr rfl) (hy : Loc X.env.scope y := by first | exact Or.inl rfl | exact Or.inr rfl)
    (hfx : X.fn x = true ∨ X.env.scope.names.lookup x = some .local := by first | exact .inl rfl | exact .inr rfl) (hfy : X.fn y = true ∨ X.env.scope.names.lookup y = some .local := by first | exact .inl rfl | exact .inr rfl)
    (hw1 : swapsWithSole [.Tuple [.Name x px, .Name y py] kt pt] (.Tuple [a, b] k2 pt2) pos.line X.env = pure false := by rfl) (hw2 : swappedStores [.Tuple [.Name x px, .Name y py] kt pt] (.Tuple [a, b] k2 pt2) X.env = pure none := by rfl)
    (h1 : (assignEach [.Tuple [.Name x px, .Name y py] kt pt] X.env).map (·.2) = [assign (.Tuple [.Name x px, .Name y py] kt pt) X.env] := by rfl)
    (hn : (assignEach [.Name x px, .Name y py] X.env).length = 2 := by rfl) (hst : (assignEach [.Name x px, .Name y py] X.env).findIdx? (·.1) = none := by rfl)
    (g1 : (assignEach [.Name x px, .Name y py] X.env).map (·.2) = assign (.Name x px) X.env :: (assignEach [.Name y py] X.env).map (·.2) := by rfl) (g2 : (assignEach [.Name y py] X.env).map (·.2) = assign (.Name y py) X.env :: (assignEach [] X.env).map (·.2) := by rfl)
    (s1 : starEach [a, b] X.env = (false, eval a X.env) :: starEach [b] X.env := by rfl) (s2 : starEach [b] X.env = (false, eval b X.env) :: starEach [] X.env := by rfl) :
    Do X (.Assign [.Tuple [.Name x px, .Name y py] kt pt] (.Tuple [a, b] k2 pt2) pos :: rest) De σ H :=
  do_st (of_ps (ps_asg (pe_tup (pa_cons pe_sem (pa_cons pe_sem pa_nil s2) s1)) (pg_tup hc (pgs_cons (pg_name nd hi hx hfx) (pgs_cons (pg_name nd hj hy hfy) pgs_nil g2) g1) hn hst) hw1 hw2 h1) (ha H (Ex.refl H) _ fun p H1 hp e1 h1 => hb H1 e1 _ fun q H2 hq e2 h2 =>
    ⟨Nat.le_of_ble_eq_true rfl, fun t ht => by
      have e3 := Ex.new (o := .tup [.ref p, .ref q]) ht
      refine ⟨t, [.ref p, .ref q], rfl, SqT.of upd_same, rfl, _, _, rfl, _, _, rfl, rfl, kk p q _ _ hp ?_ (fun z => by rw [z, hq] at h1; cases h1) (e1.trans (e2.trans e3)) (e3 _ _ (e2 _ _ h1)) (e3 _ _ h2) (((hs.ex (e1.trans (e2.trans e3))).set_at i).set_at j)⟩
      cases hx2 : H q with
      | none => rfl
      | some z => rw [e1 _ _ hx2] at hq; cases hq⟩))
theorem ef_callQ {k j : Nat} {x : Str} {ps : List Str} {f : Nat → DM → DM} {rows : List R3} {sa : Addr} (G : Fn X.prog X.w X.K X.mg X.base j x ps (spQ X.K f)) (hr : Room k X.A) (ha : EvR X (e :: es) σ H [.l (rows.map r3D), .at sa])
    (hL : ∃ hw : WF (rows.map two2), Nonempty (K30m.Lat (K30m.maskS _ hw))) (hf : few (rows.map two2)) (hl : rows.length ≤ 5000) (hsa : H sa = some (.dK (dKv (statesD (rows.map two2))))) (hj : j ≤ k := by decide)
    (hg : Gl X x := by rfl) (hdb : (x == ("__debug__" : Str)) = false := by decide) (he : starEach (e :: es) X.env = (false, eval e X.env) :: starEach es X.env := by rfl) (hpl : (backTo pos (starEach es X.env)).any (·.1) = false := by rfl) :
    EvF X (.Call (.Name x p) (e :: es) [] pos) σ H (.dK (dKv (f rows.length (statesD (rows.map two2))))) := fun H1 e1 Q q =>
  ee_callR G hr ha e1 (fun vs H2 e2 hvs => ⟨rows, sa, hL, hf, hl, hvs, e2 _ _ (e1 _ _ hsa), fun l H3 hn e3 h3 => q l H3 (fresh_back e2 hn) (e2.trans e3) h3⟩) hj hg hdb he hpl
end
def okW (j : Job) : Prop := depth j ≤ 13 ∧ nodes j ≤ 4000 ∧ cntJ j ∧ steps j ≤ 5000 ∧ few (lrows j)
section
variable {P : Program} {w : World} {K : PySem.W.Frag} {mg : Str → Option Value} {base : Heap} (T : Tops K mg)
include T
theorem f_law_profile : Fn P w K mg base 15 "_law_profile" ["_law_job_here"] (spP K (fun j : Job => [enc j]) okW fun j => pfD (profJ j)) :=
  fn_ok (k := 14) T.d_law_profile sc_law_profile hb_law_profile (sp_len fun _ => rfl) fun f cdv A outer s H vs Q E hr h => by
    obtain ⟨j, ⟨hd, hn, hc, hst, hfew⟩, hd', q⟩ := h
    obtain ⟨v, rfl, hv0⟩ := dps1 hd'
    have hu := hr.units
    have hs : SR K H (start n_law_profile [v]) [some (.py (enc j)), none, none, none, none, none, none, none, none] := .py hv0 (enc_nol j) (.no (.no (.no (.no (.no (.no (.no (.no .nil))))))))
    refine do_asgN sc_law_profile.nd 1 hs (ds := []) (en_lst ea_nil) fun ra vs1 σ1 H1 hra e1 h1 hd1 hs1 => ?_
    refine do_asgS sc_law_profile.nd 2 ?_
    refine ee_callR (as := [.d (enc j), .at ra, .d (.int ((0 : Nat) : Int)), .d (.tuple (natsD []))]) (f_law_rows T 13) hr (er_cons (EvE.v (ev hs1 0)) (er_cons (evAt hs1 1) (er_cons (EvE.v ee_int) (er_cons (EvE.v (ee_tup ea_nil)) er_nil)))) (Ex.refl _) (fun vs2 H2 e2 hvs2 => ?_)
    refine ⟨j, ra, [], 0, [], ⟨hd, hn, hc, by rw [List.length_nil]; omega, by rw [List.length_nil]; omega⟩, hvs2, (lsat_nil h1 hd1).ex e2, fun v3 H3 c3 la3 hv3 => ?_⟩
    have c13 : Ch [ra] H1 H3 := (Ch.ex e2).trans c3
    have t13 : TX H1 H3 := c13.tx (nt1 h1)
    have e03 : Ex H H3 := Ex.over e1 (no1 hra) c13
    obtain ⟨rt1, rt2⟩ := rows_top j
    rw [rt2] at hv3
    have hs3 := (hs1.tx t13).set_py hv3 rfl 2
    generalize (rowsF j [] 0 []).1 = rows at la3 rt1
    have rl : rows.length = (lrows j).length := by rw [← rt1, List.length_map]
    have rlen : (lrows j).length = steps j := lrows_len j
    obtain ⟨hw, ⟨L⟩, ⟨iso⟩⟩ := K30m.maskLat j
    have hL : ∃ hw : WF (rows.map two2), Nonempty (K30m.Lat (K30m.maskS _ hw)) := by rw [rt1]; exact ⟨hw, ⟨L⟩⟩
    have hF : few (rows.map two2) := by rw [rt1]; exact hfew
    refine do_asgF sc_law_profile.nd 3 hs3 (ef_call (f_law_states T) hr rows (er_cons (EvP.v (ep_slot hs3 1 la3)) er_nil) ⟨by rw [rt1]; exact hw, hF, by omega⟩) fun sa σ4 H4 hsa e4 h4 hs4 => ?_
    have la4 := la3.ex e4
    refine do_parC rfl sc_law_profile.nd hs4 (ef_callQ (f_law_reached T) hr (er_cons (EvP.v (ep_slot hs4 1 la4)) (er_cons (evAt hs4 3) er_nil)) hL hF (by omega) h4) (ef_callQ (f_law_completed T) hr (er_cons (EvP.v (ep_slot hs4 1 la4)) (er_cons (evAt hs4 3) er_nil)) hL hF (by omega) h4) 4 5 fun pa ca σ5 H5 hpa hca npc e5 h5 h5' hs5 => ?_
    have h5s := e5 _ _ h4
    rw [rl, rt1] at h5 h5'
    rw [rt1] at h5s h4
    obtain ⟨F, hk⟩ := states_ok hw
    obtain ⟨r1, r2, r3⟩ := reach_ok hw F hk L
    obtain ⟨c1, c2, c3'⟩ := comp_ok hw F hk L
    obtain ⟨b1, b2, b3, b4⟩ := brute_ok hw L iso (prof_ok j).1
    have hml := few_len hfew F
    have gR : ∀ p ∈ statesD (lrows j), getM (reachD (lrows j).length (statesD (lrows j))) p.1 = some ((getM (reachD (lrows j).length (statesD (lrows j))) p.1).getD 0) := fun p hp => by
      obtain ⟨v, hv, _⟩ := key_get r1 ((r2 p.1).mpr (F.cl p hp).1)
      rw [hv]; rfl
    have gC : ∀ p ∈ statesD (lrows j), getM (compD (lrows j).length (statesD (lrows j))) p.1 = some ((getM (compD (lrows j).length (statesD (lrows j))) p.1).getD 0) := fun p hp => by
      obtain ⟨v, hv, _⟩ := key_get c1 ((c2 p.1).mpr (F.cl p hp).1)
      rw [hv]; rfl
    have gS : ∀ p ∈ statesD (lrows j), getM (statesD (lrows j)) p.1 = some p.2 := fun p hp => getM_mem F.nd hp
    have nsp : sa ≠ pa := fun z => by rw [← z, h4] at hpa; cases hpa
    have nsc : sa ≠ ca := fun z => by rw [← z, h4] at hca; cases hca
    have lnS : (startPs (lrows j).length (statesD (lrows j))).length ≤ 10000 := by unfold startPs; rw [List.length_map]; exact hml
    have lnE : (endPs (lrows j).length (statesD (lrows j))).length ≤ 10000 := by unfold endPs; rw [List.length_map]; exact hml
    refine do_asg (d := psD (desc (startPs (lrows j).length (statesD (lrows j))))) sc_law_profile.nd 6 hs5 (ee_calA (f_law_valleys T) hr (startPs (lrows j).length (statesD (lrows j))) (er_cons (EvN.v (en_lock h5s trivial trivial (psD_nols _) fun od => .of_eq (en_lc rfl sc_law_profile.nd (lc_allM (xs := statesD (lrows j)) (g := fun p => PyData.int (p.1 : Nat)) (f := fun p => pD ((getM (reachD (lrows j).length (statesD (lrows j))) p.1).getD 0, p.2)) (us := fun p => [(8, .int (p.1 : Nat))]) (own := [("_law_state", 8)]) rfl (hs5.tx (TX.upd h5s trivial)) (ei_keys (hs5.tx (TX.upd h5s trivial)) 3 upd_same) (noLs_mem.mpr fun z hz => by
        obtain ⟨p, _, rfl⟩ := List.mem_map.mp hz
        rfl) (by omega) (fun _ _ _ _ _ p _ => tg_name sc_law_profile.nd 8) (fun p _ u hu => by rw [List.mem_singleton.mp hu]; exact List.mem_cons_self)
        (fun _ _ _ _ _ p hp σ' H' e hs' => ee_tup (ds := [.int ((getM (reachD (lrows j).length (statesD (lrows j))) p.1).getD 0), .int p.2]) (ea_cons (ee_dget hu hs' 4 (.inl (e _ _ (by rw [upd_ne (Ne.symm nsp)]; exact h5))) (ev hs' 8) (gR p hp)) (ea_cons (ee_dget hu hs' 3 (.inr ⟨od, e _ _ upd_same⟩) (ev hs' 8) (gS p hp)) ea_nil))) (fun _ _ => rfl))) (by unfold startPs; rw [List.map_map]; rfl))) er_nil) lnS) (psD_nol _) fun σ6 H6 e6 hs6 => ?_
    have h6s := e6 _ _ h5s
    refine do_asg (d := psD (desc (endPs (lrows j).length (statesD (lrows j))))) sc_law_profile.nd 7 hs6 (ee_calA (f_law_valleys T) hr (endPs (lrows j).length (statesD (lrows j))) (er_cons (EvN.v (en_lock h6s trivial trivial (psD_nols _) fun od => .of_eq (en_lc rfl sc_law_profile.nd (lc_allM (xs := statesD (lrows j)) (g := fun p => PyData.int (p.1 : Nat)) (f := fun p => pD ((getM (compD (lrows j).length (statesD (lrows j))) p.1).getD 0, p.2)) (us := fun p => [(8, .int (p.1 : Nat))]) (own := [("_law_state", 8)]) rfl (hs6.tx (TX.upd h6s trivial)) (ei_keys (hs6.tx (TX.upd h6s trivial)) 3 upd_same) (noLs_mem.mpr fun z hz => by
        obtain ⟨p, _, rfl⟩ := List.mem_map.mp hz
        rfl) (by omega) (fun _ _ _ _ _ p _ => tg_name sc_law_profile.nd 8) (fun p _ u hu => by rw [List.mem_singleton.mp hu]; exact List.mem_cons_self)
        (fun _ _ _ _ _ p hp σ' H' e hs' => ee_tup (ds := [.int ((getM (compD (lrows j).length (statesD (lrows j))) p.1).getD 0), .int p.2]) (ea_cons (ee_dget hu hs' 5 (.inl (e _ _ (by rw [upd_ne (Ne.symm nsc)]; exact e6 _ _ h5'))) (ev hs' 8) (gC p hp)) (ea_cons (ee_dget hu hs' 3 (.inr ⟨od, e _ _ upd_same⟩) (ev hs' 8) (gS p hp)) ea_nil))) (fun _ _ => rfl))) (by unfold endPs; rw [List.map_map]; rfl))) er_nil) lnE) (psD_nol _) fun σ7 H7 e7 hs7 => ?_
    refine do_ret (d := pfD (profJ j)) (.of_eq (ee_tup (ea_cons (ee_dget hu hs7 3 (.inl (e7 _ _ h6s)) (ev hs7 2) b1) (ea_cons (ee_dget (k := 0) hu hs7 5 (.inl (e7 _ _ (e6 _ _ h5'))) ee_int b2) (ea_cons (ev hs7 6) (ea_cons (ev hs7 7) ea_nil))))) ?_) fun v8 H8 e8 hv8 => q v8 H8 (e03.trans (e4.trans (e5.trans (e6.trans (e7.trans e8))))) hv8
    rw [b3, b4]
    rfl
end
end K30
/-! The source of numbers, a list of three ints that each draw writes. -/
namespace K30
open PySem PySem.Spec PyProof.Rows L2 Evl RZ
def Src (K : PySem.W.Frag) (H : Hp) (l : Addr) : Prop := ∃ x y z : Int, LsAt K H l (intsD [x, y, z])
theorem Src.ex {K : PySem.W.Frag} {H H' : Hp} {l : Addr} (e : Ex H H') (h : Src K H l) : Src K H' l := by
  obtain ⟨x, y, z, h⟩ := h
  exact ⟨x, y, z, h.ex e⟩
theorem Src.nt {K : PySem.W.Frag} {H : Hp} {l : Addr} (h : Src K H l) : ∀ a ∈ [l], ∃ o, H a = some o ∧ NT o := fun a ha => by
  rw [List.mem_singleton.mp ha]
  obtain ⟨x, y, z, ws, h1, _⟩ := h
  exact ⟨_, h1, trivial⟩
theorem Src.tx {K : PySem.W.Frag} {H H' : Hp} {l : Addr} (h : Src K H l) (c : Ch [l] H H') : TX H H' := c.tx h.nt
theorem Src.keep {K : PySem.W.Frag} {H H' : Hp} {l : Addr} {S : List Addr} (h : Src K H l) (c : Ch S H H') (t : TX H H') (hl : l ∉ S) : Src K H' l := by
  obtain ⟨x, y, z, h⟩ := h
  exact ⟨x, y, z, h.ch c t hl rfl⟩
/-- evaluates to some data that P tells, the source at l may be written -/
def EvM (X : Cx) (e : Expr) (Γ : List (Option Sl)) (l : Addr) (P : D → Prop) : Prop := ∀ σ H, SR X.K H σ Γ → Src X.K H l → ∀ Q : VK, (∀ v d H', P d → Dp X.K H' v d → noL d = true → Ch [l] H H' → Src X.K H' l → Q v H') → tSem X e σ H Q
def EvMA (X : Cx) (es : List Expr) (Γ : List (Option Sl)) (l : Addr) (P : List D → Prop) : Prop := ∀ σ H, SR X.K H σ Γ → Src X.K H l → ∀ Q : List V → Hp → Prop, (∀ vs ds H', P ds → DpAll X.K H' vs ds → noLs ds = true → Ch [l] H H' → Src X.K H' l → Q vs H') → tSemA X es σ H Q
/-- promises of the drawing defs -/
def spM {ι : Type} (K : PySem.W.Frag) (args : ι → Addr → List Arg) (pre : ι → Prop) (P : ι → D → Prop) : Sp := fun vs H Q _ => ∃ x l, pre x ∧ ArAll K H vs (args x l) ∧ Src K H l ∧ ∀ v d H', P x d → Dp K H' v d → noL d = true → Ch [l] H H' → Src K H' l → Q v H'
theorem spM_len {ι : Type} {K : PySem.W.Frag} {args : ι → Addr → List Arg} {pre : ι → Prop} {P : ι → D → Prop} {n : Nat} (h : ∀ x l, (args x l).length = n) : ∀ vs H Q E, spM K args pre P vs H Q E → vs.length = n := fun vs H Q E hs => by
  obtain ⟨x, l, _, hd, _⟩ := hs
  rw [arall_length hd, h]
/-- an int within bounds -/
def IntP (p : Int → Prop) (d : D) : Prop := ∃ i, d = .int i ∧ p i
section
variable {X : Cx} {a b c e : Expr} {es : List Expr} {Γ : List (Option Sl)} {l : Addr} {P P' : D → Prop} {d : D} {pos p px : Pos}
theorem em_pure (h : ∀ σ H, SR X.K H σ Γ → EvE X e σ H d) (hp : P d) (hn : noL d = true) : EvM X e Γ l P := fun σ H hs hsrc Q q => h σ H hs H (Ex.refl _) Q fun v H2 e2 hv => q v d H2 hp hv hn (.ex e2) (hsrc.ex e2)
theorem EvM.imp (h : EvM X e Γ l P) (hi : ∀ d, P d → P' d) : EvM X e Γ l P' := fun σ H hs hsrc Q q => h σ H hs hsrc Q fun v d H' hp => q v d H' (hi d hp)
theorem EvMA.imp {Ps Ps' : List D → Prop} (h : EvMA X es Γ l Ps) (hi : ∀ ds, Ps ds → Ps' ds) : EvMA X es Γ l Ps' := fun σ H hs hsrc Q q => h σ H hs hsrc Q fun vs ds H' hp => q vs ds H' (hi ds hp)
theorem em_opI {op : Operator} {g : Int → Int → Int} {pa pb : Int → Prop} (ho : OpR X (binaryOp op) (rI0 fun i j => .int (g i j))) (ha : EvM X a Γ l (IntP pa)) (hb : EvM X b Γ l (IntP pb)) : EvM X (.BinOp a op b pos) Γ l (IntP fun k => ∃ i j, pa i ∧ pb j ∧ k = g i j) := fun σ H hs hsrc Q q =>
  of_pe (pe_op ho pe_sem pe_sem) (ha σ H hs hsrc _ fun x d H1 hi hx _ c1 s1 => hb σ H1 (hs.tx (hsrc.tx c1)) s1 _ fun y d' H2 hj hy _ c2 s2 => by
    obtain ⟨i, rfl, hi⟩ := hi
    obtain ⟨j, rfl, hj⟩ := hj
    rw [dp_int hx, dp_int hy]
    exact ⟨i, j, rfl, rfl, q _ _ H2 ⟨_, rfl, i, j, hi, hj, rfl⟩ (.int _) rfl (c1.trans c2) s2⟩)
theorem em_if {t : Bool} (hc : ∀ σ H, SR X.K H σ Γ → EvT X c σ H t) (h1 : t = true → EvM X a Γ l P) (h2 : t = false → EvM X b Γ l P) : EvM X (.IfExp c a b pos) Γ l P := fun σ H hs hsrc Q q =>
  of_pe (pe_ifExp pt_sem pe_sem pe_sem) (hc σ H hs H (Ex.refl _) _ fun H2 e2 => by
    cases t with
    | true => exact iteT (h1 rfl σ H2 (hs.ex e2) (hsrc.ex e2) Q fun v d H' hp hv hn c s => q v d H' hp hv hn ((Ch.ex e2).trans c) s)
    | false => exact iteF (h2 rfl σ H2 (hs.ex e2) (hsrc.ex e2) Q fun v d H' hp hv hn c s => q v d H' hp hv hn ((Ch.ex e2).trans c) s))
theorem em_nil : EvMA X [] Γ l (fun ds => ds = []) := fun σ H hs hsrc Q q => of_pa pa_nil (q [] [] H rfl .nil rfl (Ch.refl _ _) hsrc)
theorem em_cons {Ps : List D → Prop} (ha : EvM X e Γ l P) (hr : EvMA X es Γ l Ps) (hse : starEach (e :: es) X.env = (false, eval e X.env) :: starEach es X.env := by rfl) : EvMA X (e :: es) Γ l (fun ds => ∃ d ds', P d ∧ Ps ds' ∧ ds = d :: ds') := fun σ H hs hsrc Q q =>
  of_pa (pa_cons pe_sem pa_sem hse) (ha σ H hs hsrc _ fun v d H1 hp hv hn c1 s1 => hr σ H1 (hs.tx (hsrc.tx c1)) s1 _ fun vs ds H2 hps hvs hns c2 s2 => q (v :: vs) (d :: ds) H2 ⟨d, ds, hp, hps, rfl⟩ (.cons (dp_tx (s1.tx c2) _ _ hn hv) hvs) (by
    show (noL d && noLs ds) = true
    rw [hn, hns]; rfl) (c1.trans c2) s2)
theorem em_tup {Ps : List D → Prop} {k} (ha : EvMA X es Γ l Ps) (hl : ∀ ds, Ps ds → ds.length ≤ 100000) : EvM X (.Tuple es k pos) Γ l (fun d => ∃ ds, Ps ds ∧ d = .tuple ds) := fun σ H hs hsrc Q q =>
  of_pe (pe_tup pa_sem) (ha σ H hs hsrc _ fun vs ds H1 hps hvs hns c1 s1 => ⟨sz_of (by rw [dps_length hvs]; exact hl ds hps), fun t ht => q _ (.tuple ds) _ ⟨ds, hps, rfl⟩ (.tup (SqT.of upd_same) (dps_ex (Ex.new ht) _ _ hvs)) hns (c1.trans (.ex (Ex.new ht))) (s1.ex (Ex.new ht))⟩)
/-- an item of a new list -/
theorem em_ixN {ds : List D} (ha : ∀ σ H, SR X.K H σ Γ → EvN X a σ H ds) (hnl : noLs ds = true) (hb : EvM X b Γ l (IntP fun i => 0 ≤ i ∧ i < ds.length)) (hpl : PlainIx b := by exact fun _ _ => rfl) : EvM X (.Subscript a b pos) Γ l (fun d => d ∈ ds) := fun σ H hs hsrc Q q =>
  of_pe (pe_ix ix_list pe_sem pe_sem hpl) (ha σ H hs H (Ex.refl _) _ fun pn vs H1 hpn e1 h1 hd => hb σ H1 (hs.ex e1) (hsrc.ex e1) _ fun y d H2 hi hy _ c2 s2 => by
    obtain ⟨i, rfl, i0, i1⟩ := hi
    have hne : pn ≠ l := fun z => by
      obtain ⟨_, _, _, ws, w, _⟩ := hsrc
      rw [z, w] at hpn
      cases hpn
    have h2 := c2 _ _ (by simp [hne]) h1
    have hd2 := dps_tx ((hsrc.ex e1).tx c2) _ _ hnl hd
    have hat : atI ds i = some ds[i.toNat] := by
      unfold atI ixN
      rw [if_pos i0, if_pos i1]
      exact List.getElem?_eq_getElem _
    obtain ⟨v, h3, h4⟩ := atI_dps hd2 hat
    rw [dp_int hy]
    have hm : ds[i.toNat] ∈ ds := List.getElem_mem _
    exact ⟨pn, vs, i, v, rfl, rfl, SqL.of h2, h3, q v _ H2 hm h4 (noLs_mem.mp hnl _ hm) ((Ch.ex e1).trans c2) s2⟩)
/-- a call of a drawing def -/
theorem em_call {ι : Type} {k j : Nat} {x : Str} {ps : List Str} {args : ι → Addr → List Arg} {pre : ι → Prop} {Pf : ι → D → Prop} (G : Fn X.prog X.w X.K X.mg X.base j x ps (spM X.K args pre Pf)) (hr : Room k X.A) (y : ι) (ha : ∀ σ H, SR X.K H σ Γ → EvR X (e :: es) σ H (args y l)) (hp : pre y) (hj : j ≤ k := by decide)
    (hg : Gl X x := by rfl) (hdb : (x == ("__debug__" : Str)) = false := by decide) (he : starEach (e :: es) X.env = (false, eval e X.env) :: starEach es X.env := by rfl) (hpl : (backTo pos (starEach es X.env)).any (·.1) = false := by rfl) :
    EvM X (.Call (.Name x p) (e :: es) [] pos) Γ l (Pf y) := fun σ H hs hsrc Q q =>
  ee_callR G hr (ha σ H hs) (Ex.refl H) (fun vs H2 e2 hvs => ⟨y, l, hp, hvs, hsrc.ex e2, fun v d H3 hpd hv hn c3 s3 => q v d H3 hpd hv hn ((Ch.ex e2).trans c3) s3⟩) hj hg hdb he hpl
end
section
variable {X : Cx} {a b e : Expr} {es : List Expr} {tg : Expr} {body rest : List Stmt} {σ : L2.St} {H : Hp} {Γ : List (Option Sl)} {l pa : Addr} {P : D → Prop} {d : D} {ds : List D} {pos pos' p px apos cpos : Pos} {De : Ends} {x : Str}
theorem do_asgM (nd : X.N.Nodup) (i : Nat) (hs : SR X.K H σ Γ) (hsrc : Src X.K H l) (he : EvM X e Γ l P) (k : ∀ d σ1 H1, P d → Ch [l] H H1 → Src X.K H1 l → SR X.K H1 σ1 (Γ.set i (some (.py d))) → Do X rest De σ1 H1)
    (hi : X.N[i]? = some x := by rfl) (hx : Loc X.env.scope x := by first | exact Or.inl rfl | exact Or.inr rfl) (hw : swapsWith e (some (.Name x pos')) pos.line X.env = pure false := by rfl)
    (hf : X.fn x = true ∨ X.env.scope.names.lookup x = some .local := by first | exact .inl rfl | exact .inr rfl) : Do X (.Assign [.Name x pos'] e pos :: rest) De σ H :=
  do_st (of_ps (ps_set nd hi hx pe_sem hw hf) (he σ H hs hsrc _ fun v d H1 hp hv hn c1 s1 => k d _ H1 hp c1 s1 ((hs.tx (hsrc.tx c1)).set_py hv hn i)))
theorem do_retM (hs : SR X.K H σ Γ) (hsrc : Src X.K H l) (he : EvM X e Γ l P) (k : ∀ v d H1, P d → Dp X.K H1 v d → noL d = true → Ch [l] H H1 → Src X.K H1 l → De.rt v H1) : Do X (.Return (some e) pos :: rest) De σ H :=
  do_st (of_ps (ps_ret pe_sem) (he σ H hs hsrc _ k))
/-- name = [..], drawn items -/
theorem do_asgML {Ps : List D → Prop} {lpos : Pos} (nd : X.N.Nodup) (i : Nat) (hs : SR X.K H σ Γ) (hsrc : Src X.K H l) (he : EvMA X es Γ l Ps) (hl : ∀ ds, Ps ds → ds.length ≤ 100000)
    (k : ∀ q ds σ1 H1, Ps ds → noLs ds = true → H q = none → q ≠ l → Ch [l] H H1 → Src X.K H1 l → LsAt X.K H1 q ds → SR X.K H1 σ1 (Γ.set i (some (.at q))) → Do X rest De σ1 H1)
    (hi : X.N[i]? = some x := by rfl) (hx : Loc X.env.scope x := by first | exact Or.inl rfl | exact Or.inr rfl) (hw : swapsWith (.List es lpos) (some (.Name x pos')) pos.line X.env = pure false := by rfl)
    (hf : X.fn x = true ∨ X.env.scope.names.lookup x = some .local := by first | exact .inl rfl | exact .inr rfl) : Do X (.Assign [.Name x pos'] (.List es lpos) pos :: rest) De σ H :=
  do_st (of_ps (ps_set nd hi hx (pe_lst pa_sem) hw hf) (he σ H hs hsrc _ fun vs ds H1 hps hvs hns c1 s1 => ⟨sz_of (by rw [dps_length hvs]; exact hl ds hps), fun q hq => by
    have hne : q ≠ l := fun z => by
      obtain ⟨_, _, _, ws, w, _⟩ := s1
      rw [z, w] at hq
      cases hq
    have e2 : Ex H1 (upd H1 q (.lst vs)) := Ex.new hq
    refine k q ds _ _ hps hns ?_ hne (c1.trans (.ex e2)) (s1.ex e2) ⟨vs, upd_same, dps_ex e2 _ _ hvs⟩ (((hs.tx (hsrc.tx c1)).ex e2).set_at i)
    cases hx2 : H q with
    | none => rfl
    | some z => rw [c1 _ _ (by simp [hne]) hx2] at hq; cases hq⟩))
/-- an item of a list that a name holds, at a drawn place -/
theorem ix_slotM {ie : Expr} (hs : SR X.K H σ Γ) (i : Nat) (hsrc : Src X.K H l) (hl : LsAt X.K H pa ds) (hnl : noLs ds = true) (hne : pa ≠ l) (hb : EvM X ie Γ l (IntP fun i => 0 ≤ i ∧ i < ds.length)) {Q : VK} (q : ∀ v d H1, d ∈ ds → Dp X.K H1 v d → noL d = true → Ch [l] H H1 → Src X.K H1 l → Q v H1)
    (hg : Γ[i]? = some (some (.at pa)) := by rfl) (hN : X.N[i]? = some x := by rfl) (hv : Vis X.env.scope x := by first | exact Or.inl rfl | exact Or.inr (Or.inl rfl) | exact Or.inr (Or.inr rfl)) (hd : (x == ("__debug__" : Str)) = false := by decide)
    (hcd : (x == ("__classdict__" : Str)) = false := by decide) (hpl : PlainIx ie := by exact fun _ _ => rfl) : tSem X (.Subscript (.Name x px) ie pos) σ H Q :=
  of_pe (pe_ix ix_list (pe_var hN hv hd hcd) pe_sem hpl) ⟨_, hs.get_at hg, hb σ H hs hsrc _ fun y d H2 hi hy _ c2 s2 => by
    obtain ⟨i, rfl, i0, i1⟩ := hi
    obtain ⟨vs, h1, hd⟩ := hl
    have h2 := c2 _ _ (by simp [hne]) h1
    have hd2 := dps_tx (hsrc.tx c2) _ _ hnl hd
    have hat : atI ds i = some ds[i.toNat] := by
      unfold atI ixN
      rw [if_pos i0, if_pos i1]
      exact List.getElem?_eq_getElem _
    obtain ⟨v, h3, h4⟩ := atI_dps hd2 hat
    rw [dp_int hy]
    have hm : ds[i.toNat] ∈ ds := List.getElem_mem _
    exact ⟨pa, vs, i, v, rfl, rfl, SqL.of h2, h3, q v _ H2 hm h4 (noLs_mem.mp hnl _ hm) c2 s2⟩⟩
/-- xs.append(e), e drawn -/
theorem do_appM {vs : List V} (hs : SR X.K H σ Γ) (i : Nat) (hsrc : Src X.K H l) (hl : H pa = some (.lst vs)) (hne : pa ≠ l) (hz : vs.length < 100000) (he : EvM X e Γ l P)
    (k : ∀ v d H1, P d → noL d = true → Ch [l] H H1 → Src X.K H1 l → Dp X.K H1 v d → H1 pa = some (.lst vs) → Do X rest De σ (upd H1 pa (.lst (vs ++ [v]))))
    (hg : Γ[i]? = some (some (.at pa)) := by rfl) (hN : X.N[i]? = some x := by rfl) (hv : Vis X.env.scope x := by first | exact Or.inl rfl | exact Or.inr (Or.inl rfl) | exact Or.inr (Or.inr rfl)) (hd : (x == ("__debug__" : Str)) = false := by decide)
    (hcd : (x == ("__classdict__" : Str)) = false := by decide) (hw : swapsWith (.Call (.Attribute (.Name x px) "append" apos) [e] [] cpos) none pos.line X.env = pure false := by rfl)
    (hbase : attributeBase (.Name x px) "append" X.env (eval (.Name x px) X.env) = eval (.Name x px) X.env := by rfl)
    (hfew : ((backTo cpos (starEach [e] X.env)).all (fun x => !x.1) && (backToKw cpos (keywordEach [] X.env)).all (fun x => x.1.isSome) && decide (([e] : List Expr).length + ([] : List Keyword).length + (if ([] : List Keyword).isEmpty then 0 else 1) < 30)) = true := by rfl)
    (hline : (apos.endLine == cpos.line) = true := by rfl) (hse : starEach [e] X.env = (false, eval e X.env) :: starEach [] X.env := by rfl) (hplain : (backTo cpos (starEach [] X.env)).any (·.1) = false := by rfl) :
    Do X (.Expr (.Call (.Attribute (.Name x px) "append" apos) [e] [] cpos) pos :: rest) De σ H :=
  do_st (of_ps (ps_expr (pe_bm PySem.F.plainAttrs_list PySem.F.slot_list_append PySem.F.type_list_append mt_append (pe_var hN hv hd hcd) (pa_cons pe_sem pa_nil hse) hbase hfew hline hse hplain) hw)
    ⟨_, hs.get_at hg, .inl ⟨rfl, vs, SqL.of hl⟩, he σ H hs hsrc _ fun v d H1 hp hv hn c1 s1 => ⟨pa, vs, v, rfl, rfl, c1 _ _ (by simp [hne]) hl, sz_lt hz, k v d H1 hp hn c1 s1 hv (c1 _ _ (by simp [hne]) hl)⟩⟩)
/-- a, b = [], e -/
theorem do_parNE {y : Str} {py pt : Pos} {kt k2 pt2} (hc : X.calm = true) (nd : X.N.Nodup) (hs : SR X.K H σ Γ) (ha : EvN X a σ H ds) (hb : EvE X b σ H d) (hn : noLs ds = true) (hn2 : noL d = true) (i : Nat) (j : Nat)
    (kk : ∀ q σ1 H1, H q = none → Ex H H1 → LsAt X.K H1 q ds → SR X.K H1 σ1 ((Γ.set i (some (.at q))).set j (some (.py d))) → Do X rest De σ1 H1)
    (hi : X.N[i]? = some x := by rfl) (hj : X.N[j]? = some y := by rfl) (hij : i ≠ j := by decide)
    (hx : X.env.scope.names.lookup x = some .local := by rfl) (hy : X.env.scope.names.lookup y = some .local := by rfl)
    (hw : swappedStores [.Tuple [.Name x px, .Name y py] kt pt] (.Tuple [a, b] k2 pt2) X.env = pure (some [x, y]) := by rfl)
    (hsw : swapsWithSole [.Tuple [.Name x px, .Name y py] kt pt] (.Tuple [a, b] k2 pt2) pos.line X.env = pure false := by rfl)
    (s1 : starEach [a, b] X.env = (false, eval a X.env) :: starEach [b] X.env := by rfl) (s2 : starEach [b] X.env = (false, eval b X.env) :: starEach [] X.env := by rfl) :
    Do X (.Assign [.Tuple [.Name x px, .Name y py] kt pt] (.Tuple [a, b] k2 pt2) pos :: rest) De σ H :=
  do_st (of_ps (ps_par hc nd hi hj hij hx hy (pa_cons pe_sem (pa_cons pe_sem pa_nil s2) s1) hw hsw) (ha H (Ex.refl H) _ fun q vs H1 hq e1 h1 hd => hb H1 e1 _ fun v H2 e2 hv =>
    ⟨_, _, rfl, kk q _ H2 hq (e1.trans e2) ⟨vs, e2 _ _ h1, dps_ex e2 _ _ hd⟩ (((hs.ex (e1.trans e2)).set_at i).set_py hv hn2 j)⟩))
/-- for name in range(e), e drawn -/
theorem do_forR {ι : Type} {t : Str} {tp : Pos} {pn : Nat → Prop} (hp : PassesOwn (model X.prog X.w) X.A X.env X.xe) (hc : X.calm = true) (nd : X.N.Nodup) (S : List Addr) (Γv : ι → List (Option Sl)) (Hv : ι → Nat → Hp → Prop) (x0 : ι) (ti : Nat)
    (he : EvM X e (Γv x0) l (IntP fun i => ∃ n : Nat, i = (n : Nat) ∧ n ≤ 1000 ∧ pn n)) (hm : X.mg "range" = none) (hs : SR X.K H σ (Γv x0)) (hsrc : Src X.K H l) (hlS : l ∈ S) (hS : ∀ a ∈ S, ∃ o, H a = some o ∧ NT o)
    (h0 : ∀ H1, Ch [l] H H1 → Src X.K H1 l → Hv x0 0 H1)
    (hb : ∀ n i y σ1 H1, pn n → i < n → Ch S H H1 → TX H H1 → Hv y i H1 → SR X.K H1 σ1 ((Γv y).set ti (some (.py (.int (i : Nat))))) →
      ∀ N : L2.St → Hp → Prop, (∀ z σ2 H2, Ch S H1 H2 → Hv z (i + 1) H2 → SR X.K H2 σ2 (Γv z) → N σ2 H2) → Do X body { De with nx := N, ct := N, bk := Do X rest De } σ1 H1)
    (k : ∀ n y σ1 H1, pn n → Ch S H H1 → TX H H1 → Hv y n H1 → SR X.K H1 σ1 (Γv y) → Do X rest De σ1 H1)
    (hti : X.N[ti]? = some t := by rfl) (hlt : Loc X.env.scope t := by first | exact Or.inl rfl | exact Or.inr rfl) (hft : X.fn t = true ∨ X.env.scope.names.lookup t = some .local := by first | exact .inl rfl | exact .inr rfl)
    (hg : Gl X "range" := by rfl) (hse : starEach [e] X.env = [(false, eval e X.env)] := by rfl) (hsE : starEach (e :: []) X.env = (false, eval e X.env) :: starEach [] X.env := by rfl)
    (hfs : ∀ y, foldedSetIterable (.Call (.Name "range" p) [e] [] pos') X.env y = pure y := by intro _; rfl) : Do X (.For (.Name t tp) (.Call (.Name "range" p) [e] [] pos') body [] pos :: rest) De σ H :=
  do_st (of_ps (ps_for hp hc pi_sem pg_sem pss_sem hfs) (of_pi (pi_range1 hg hm pa_sem hse) (of_pa (pa_cons pe_sem pa_nil hsE) (he σ H hs hsrc _ fun v d H2 hd hv _ c2 s2 => by
    obtain ⟨i0, rfl, n, rfl, hn, hpn⟩ := hd
    rw [dp_int hv]
    refine ⟨(n : Nat), rfl, by omega, by omega, ?_⟩
    have c02 : Ch S H H2 := c2.mono fun a ha => by rw [List.mem_singleton.mp ha]; exact hlS
    refine for_it walk_range (fun i σ1 H1 => ∃ y, Ch S H H1 ∧ Hv y i H1 ∧ SR X.K H1 σ1 (Γv y)) ⟨x0, c02, h0 H2 c2 s2, hs.tx (hsrc.tx c2)⟩ (fun _ _ _ _ _ => trivial) (fun i v σ1 H1 H1' hi' pr y => ?_) (fun σ1 H1 pr => ?_)
    · obtain ⟨rfl, rfl⟩ := y
      obtain ⟨y, p1, p2, p3⟩ := pr
      rw [Int.toNat_natCast] at hi'
      show tSemG X _ (V.int (0 + (i : Nat))) _ _ _
      rw [Int.zero_add]
      refine tg_name nd ti hti hlt hft (.int (i : Nat)) σ1 H1' (Γv y) _ p3 (.int _) rfl fun σ2 hs2 _ => ?_
      exact hb n i y σ2 H1' hpn hi' p1 (p1.tx hS) p2 hs2 _ fun z σ3 H3 c3 v3 s3 => ⟨z, p1.trans c3, v3, s3⟩
    · obtain ⟨y, p1, p2, p3⟩ := pr
      rw [Int.toNat_natCast] at p2
      exact k n y σ1 H1 hpn p1 (p1.tx hS) p2 p3))))
end
end K30
namespace K30
open PySem PySem.Spec PyProof.Rows L2 Evl RZ
open K30m (Job)
abbrev RI0 (n : Int) (i : Int) : Prop := 0 ≤ i ∧ i < n
theorem ixN_nat {n i : Nat} (h : i < n) : ixN n (i : Nat) = some i := by
  unfold ixN
  rw [if_pos (by omega), if_pos (by omega), Int.toNat_natCast]
section
variable {X : Cx} {e ie : Expr} {rest : List Stmt} {σ : L2.St} {H : Hp} {Γ : List (Option Sl)} {l : Addr} {pos pos' px : Pos} {De : Ends} {x : Str}
/-- xs[n] = e of the source -/
theorem do_setS {ns : List Int} {v : Int} {n : Nat} (hs : SR X.K H σ Γ) (i : Nat) (hl : LsAt X.K H l (intsD ns)) (hn : n < ns.length) (hi : EvE X ie σ H (.int (n : Nat))) (he : EvE X e σ H (.int v))
    (k : ∀ H1, Ch [l] H H1 → LsAt X.K H1 l (intsD (ns.set n v)) → SR X.K H1 σ Γ → Do X rest De σ H1)
    (hg : Γ[i]? = some (some (.at l)) := by rfl) (hN : X.N[i]? = some x := by rfl) (hv : Vis X.env.scope x := by first | exact Or.inl rfl | exact Or.inr (Or.inl rfl) | exact Or.inr (Or.inr rfl)) (hd : (x == ("__debug__" : Str)) = false := by decide)
    (hcd : (x == ("__classdict__" : Str)) = false := by decide) (hw1 : swapsWithSole [.Subscript (.Name x px) ie pos'] e pos.line X.env = pure false := by rfl) (hw2 : swappedStores [.Subscript (.Name x px) ie pos'] e X.env = pure none := by rfl)
    (h1 : (assignEach [.Subscript (.Name x px) ie pos'] X.env).map (·.2) = [assign (.Subscript (.Name x px) ie pos') X.env] := by rfl)
    (ha : ∀ v, assign (.Subscript (.Name x px) ie pos') X.env v = (do
      let ov ← holding [v] (eval (.Name x px) X.env)
      let iv ← holding [v, ov] (eval ie X.env)
      standAt pos'
      holding [v, ov, iv] (setItem ov iv v)
      release [v, ov, iv] []) := by intro _; rfl) : Do X (.Assign [.Subscript (.Name x px) ie pos'] e pos :: rest) De σ H := by
  obtain ⟨vs, w1, w2⟩ := hl
  have wl := dps_length w2
  unfold intsD at wl
  rw [List.length_map] at wl
  refine do_setI hs i w1 hi he (j := n) (ixN_nat (by omega)) (fun v1 H1 e1 hv1 => ?_) hg hN hv hd hcd hw1 hw2 h1 ha
  have tx : TX H1 (upd H1 l (.lst (vs.set n v1))) := TX.upd (e1 _ _ w1) trivial
  refine k _ ((Ch.ex e1).trans (Ch.upd List.mem_cons_self)) ⟨vs.set n v1, upd_same, ?_⟩ ((hs.ex e1).tx tx)
  have := dps_set n (dps_tx tx _ _ (ints_nols ns) (dps_ex e1 _ _ w2)) (dp_tx tx _ _ rfl hv1)
  unfold intsD
  rw [List.map_set]
  exact this
end
abbrev spDr (K : PySem.W.Frag) : Sp := spM K (fun (n : Int) l => [.at l, .d (.int n)]) (fun n => 0 < n ∧ n ≤ 10 ^ 9) fun n => IntP (RI0 n)
abbrev spGr (K : PySem.W.Frag) : Sp := spM K (fun (n : Int) l => [.at l, .d (.int n)]) (fun n => 0 < n) fun n => IntP (RI0 n)
section
variable {X : Cx} {ne : Expr} {Γ : List (Option Sl)} {l : Addr} {pos p p1 : Pos} {x : Str} {n : Int} {k : Nat} {ps : List Str}
theorem em_draw (D : Fn X.prog X.w X.K X.mg X.base 1 "_law_draw" ps (spDr X.K)) (hr : Room k X.A) (i : Nat) (he : ∀ σ H, SR X.K H σ Γ → EvE X ne σ H (.int n)) (hn : 0 < n ∧ n ≤ 10 ^ 9) (hk : 1 ≤ k := by decide)
    (hgi : Γ[i]? = some (some (.at l)) := by rfl) (hN : X.N[i]? = some x := by rfl) (hv : Vis X.env.scope x := by first | exact Or.inl rfl | exact Or.inr (Or.inl rfl) | exact Or.inr (Or.inr rfl)) (hd : (x == ("__debug__" : Str)) = false := by decide)
    (hcd : (x == ("__classdict__" : Str)) = false := by decide) (hg : Gl X "_law_draw" := by rfl) (s1 : starEach [.Name x p1, ne] X.env = (false, eval (.Name x p1) X.env) :: starEach [ne] X.env := by rfl) (s2 : starEach [ne] X.env = (false, eval ne X.env) :: starEach [] X.env := by rfl)
    (hpl : (backTo pos (starEach [ne] X.env)).any (·.1) = false := by rfl) : EvM X (.Call (.Name "_law_draw" p) [.Name x p1, ne] [] pos) Γ l (IntP (RI0 n)) :=
  em_call (Pf := fun n => IntP (RI0 n)) D hr n (fun σ H hs => er_cons (evAt hs i hgi hN hv hd hcd) (er_cons (EvE.v (he σ H hs)) er_nil s2) s1) hn hk hg (by decide) s1 hpl
theorem em_great (D : Fn X.prog X.w X.K X.mg X.base 2 "_law_great" ps (spGr X.K)) (hr : Room k X.A) (i : Nat) (he : ∀ σ H, SR X.K H σ Γ → EvE X ne σ H (.int n)) (hn : 0 < n) (hk : 2 ≤ k := by decide)
    (hgi : Γ[i]? = some (some (.at l)) := by rfl) (hN : X.N[i]? = some x := by rfl) (hv : Vis X.env.scope x := by first | exact Or.inl rfl | exact Or.inr (Or.inl rfl) | exact Or.inr (Or.inr rfl)) (hd : (x == ("__debug__" : Str)) = false := by decide)
    (hcd : (x == ("__classdict__" : Str)) = false := by decide) (hg : Gl X "_law_great" := by rfl) (s1 : starEach [.Name x p1, ne] X.env = (false, eval (.Name x p1) X.env) :: starEach [ne] X.env := by rfl) (s2 : starEach [ne] X.env = (false, eval ne X.env) :: starEach [] X.env := by rfl)
    (hpl : (backTo pos (starEach [ne] X.env)).any (·.1) = false := by rfl) : EvM X (.Call (.Name "_law_great" p) [.Name x p1, ne] [] pos) Γ l (IntP (RI0 n)) :=
  em_call (Pf := fun n => IntP (RI0 n)) D hr n (fun σ H hs => er_cons (evAt hs i hgi hN hv hd hcd) (er_cons (EvE.v (he σ H hs)) er_nil s2) s1) hn hk hg (by decide) s1 hpl
end
theorem mod_pos (a b : Int) (h : 0 < b) : RI0 b (a % b) := ⟨Int.emod_nonneg _ (by omega), Int.emod_lt_of_pos _ h⟩
theorem s64 {a b : Int} (h : 0 < b) (hb : b < 2 ^ 64) : -(2 ^ 64) < a % b ∧ a % b < 2 ^ 64 := by
  have := mod_pos a b h
  constructor <;> omega
section
variable {P : Program} {w : World} {K : PySem.W.Frag} {mg : Str → Option Value} {base : Heap} (T : Tops K mg)
include T
theorem f_law_draw : Fn P w K mg base 1 "_law_draw" ["_law_source_here", "_law_many"] (spDr K) :=
  fn_ok T.d_law_draw sc_law_draw hb_law_draw (spM_len fun _ _ => rfl) fun f cdv A outer s H vs Q E hr h => by
    obtain ⟨n, l, ⟨hn0, hn9⟩, ha, hsrc, q⟩ := h
    obtain ⟨x, y, z, hl⟩ := hsrc
    match vs, ha with
    | [v1, v2], .cons h1 (.cons h2 .nil) =>
      have h1 : v1 = .ref l := h1
      have h2 : Dp K H v2 (.int n) := h2
      subst h1
      have hs : SR K H (start n_law_draw [.ref l, v2]) [some (.at l), some (.py (.int n)), none, none, none] := .at (.py h2 rfl (.no (.no (.no .nil))))
      refine do_when (et_gt (ee_ixL (d := .int x) (ep_slot hs 0 hl).ev ee_int rfl) ee_int) (fun hb H1 e1 => ?_) fun hb H1 e1 => ?_
      · have hs1 := hs.ex e1
        have hl1 := hl.ex e1
        refine do_asg (d := .int (x % n)) sc_law_draw.nd 2 hs1 (ee_mod (ee_ixL (d := .int x) (ep_slot hs1 0 hl1).ev ee_int rfl) (ev hs1 1) hn0) rfl fun σ2 H2 e2 hs2 => ?_
        have hl2 := hl1.ex e2
        refine do_setS hs2 0 hl2 (n := 0) (by simp) ee_int (ee_fdiv (ee_ixL (d := .int x) (ep_slot hs2 0 hl2).ev ee_int rfl) (ev hs2 1) ⟨hn0, by omega⟩) fun H3 c3 hl3 hs3 => ?_
        exact do_ret (ev hs3 2) fun v H4 e4 hv => q v _ H4 ⟨_, rfl, mod_pos x n hn0⟩ hv rfl (((Ch.ex (e1.trans e2)).trans c3).trans (.ex e4)) ⟨_, _, _, hl3.ex e4⟩
      · have hs1 := hs.ex e1
        have hl1 := hl.ex e1
        refine do_setS hs1 0 hl1 (n := 2) (by simp) ee_int (ee_add (ee_ixL (d := .int z) (ep_slot hs1 0 hl1).ev ee_int rfl) ee_int) fun H2 c2 hl2 hs2 => ?_
        have hl2 : LsAt K H2 l (intsD [x, y, z + 1]) := hl2
        refine do_asg sc_law_draw.nd 3 hs2 (ee_mod (ee_add (ee_ixL (d := .int y) (ep_slot hs2 0 hl2).ev ee_int rfl) (ee_mul ee_int (ee_ixL (d := .int (z + 1)) (ep_slot hs2 0 hl2).ev ee_int rfl) (.inl (by decide)))) ee_int (by decide)) rfl fun σ3 H3 e3 hs3 => ?_
        generalize hone : (y + 11400714819323198 * (z + 1)) % 18014398509481951 = one at hs3
        have ho : -(2 ^ 64) < one ∧ one < 2 ^ 64 := by rw [← hone]; exact s64 (by decide) (by decide)
        refine do_asg sc_law_draw.nd 4 hs3 (ee_mul (ee_mod (ee_mul (ev hs3 3) (ev hs3 3) (.inl ho)) ee_int (by decide)) (ev hs3 3) (.inr ho)) rfl fun σ4 H4 e4 hs4 => ?_
        have hl4 := hl2.ex (e3.trans e4)
        generalize one * one % 36028797018963913 * one = two at hs4
        refine do_asg sc_law_draw.nd 4 hs4 (ee_mod (ee_add (ee_add (ev hs4 4) (ee_mul ee_int (ee_ixL (d := .int (z + 1)) (ep_slot hs4 0 hl4).ev ee_int rfl) (.inl (by decide)))) (ee_mod (ee_ixL (d := .int y) (ep_slot hs4 0 hl4).ev ee_int rfl) ee_int (by decide))) ee_int (by decide)) rfl fun σ5 H5 e5 hs5 => ?_
        generalize htw : (two + 2654435761 * (z + 1) + y % 65521) % 1125899906842597 = tw at hs5
        have ht : -(2 ^ 64) < tw ∧ tw < 2 ^ 64 := by rw [← htw]; exact s64 (by decide) (by decide)
        refine do_ret (d := .int (tw * tw % 562949953421231 / 512 % n)) (ee_mod (ee_fdiv (ee_mod (ee_mul (ev hs5 4) (ev hs5 4) (.inl ht)) ee_int (by decide)) ee_int ⟨by decide, by decide⟩) (ev hs5 1) hn0) fun v H6 e6 hv => q v _ H6 ⟨_, rfl, mod_pos _ n hn0⟩ hv rfl (((Ch.ex e1).trans c2).trans (.ex (e3.trans (e4.trans (e5.trans e6))))) ⟨_, _, _, hl4.ex (e5.trans e6)⟩
theorem f_law_great : Fn P w K mg base 2 "_law_great" ["_law_source_here", "_law_many"] (spGr K) :=
  fn_ok (k := 1) T.d_law_great sc_law_great hb_law_great (spM_len fun _ _ => rfl) fun f cdv A outer s H vs Q E hr h => by
    obtain ⟨n, l, hn0, ha, hsrc, q⟩ := h
    have hn0 : 0 < n := hn0
    match vs, ha with
    | [v1, v2], .cons h1 (.cons h2 .nil) =>
      have h1 : v1 = .ref l := h1
      have h2 : Dp K H v2 (.int n) := h2
      subst h1
      have hs : SR K H (start n_law_great [.ref l, v2]) [some (.at l), some (.py (.int n)), none, none] := .at (.py h2 rfl (.no (.no .nil)))
      refine do_asg (d := .int 0) sc_law_great.nd 2 hs ee_int rfl fun σ1 H1 e1 hs1 => ?_
      have s1 := hsrc.ex e1
      refine do_forR (l := l) (ι := Int) (pn := fun n => n = 4) PassesOwn.never rfl sc_law_great.nd [l] (fun x => [some (.at l), some (.py (.int n)), some (.py (.int x)), none]) (fun _ _ H => Src K H l) (0 : Int) 3
        (em_pure (d := .int 4) (fun σ H hs => ee_int) ⟨4, rfl, 4, rfl, by decide, rfl⟩ rfl) T.b_range hs1 s1 List.mem_cons_self s1.nt (fun H2 c2 s2 => s2) ?_ ?_
      · intro m i y σ2 H2 hm hi c2 t2 s2 hs2 N hN
        refine do_asgM (l := l) sc_law_great.nd 2 hs2 s2 (em_opI (g := fun i j => i + j) op_add (em_pure (P := IntP fun _ => True) (fun σ H hs => ee_mul (ev hs 2) (ee_pow ee_int ee_int ⟨by decide, by decide, by decide⟩) (.inr (by decide))) ⟨_, rfl, trivial⟩ rfl) (em_draw (n := 10 ^ 9) (f_law_draw T) hr 0 (fun σ H hs => ee_pow ee_int ee_int ⟨by decide, by decide, by decide⟩) ⟨by decide, by decide⟩)) fun d σ3 H3 hd c3 s3 hs3 => ?_
        obtain ⟨r, rfl, _⟩ := hd
        exact do_nil (hN r _ _ c3 s3 (hs3.drop 3))
      · intro m y σ2 H2 hm c2 t2 s2 hs2
        exact do_ret (ee_mod (ev hs2 2) (ev hs2 1) hn0) fun v H3 e3 hv => q v _ H3 ⟨_, rfl, mod_pos _ n hn0⟩ hv rfl (((Ch.ex e1).trans c2).trans (.ex e3)) (s2.ex e3)
def stepB (i : Int) : Prop := -(10 ^ 30) ≤ i ∧ i ≤ 10 ^ 30
theorem f_law_step : Fn P w K mg base 3 "_law_step" ["_law_source_here"] (spM K (fun (_ : Unit) l => [.at l]) (fun _ => True) fun _ => IntP stepB) :=
  fn_ok (k := 2) T.d_law_step sc_law_step hb_law_step (spM_len fun _ _ => rfl) fun f cdv A outer s H vs Q E hr h => by
    obtain ⟨_, l, _, ha, hsrc, q⟩ := h
    match vs, ha with
    | [v1], .cons h1 .nil =>
      have h1 : v1 = .ref l := h1
      subst h1
      have D := f_law_draw (P := P) (w := w) (base := base) T
      have G := f_law_great (P := P) (w := w) (base := base) T
      have hs : SR K H (start n_law_step [.ref l]) [some (.at l), none, none] := .at (.no (.no .nil))
      refine do_asgM (l := l) sc_law_step.nd 1 hs hsrc (em_draw (n := 12) D hr 0 (fun σ H hs => ee_int) ⟨by decide, by decide⟩) fun d σ1 H1 hd c1 s1 hs1 => ?_
      obtain ⟨way, rfl, _⟩ := hd
      refine do_when (et_lt (ev hs1 1) ee_int) (fun hb H2 e2 => ?_) fun hb H2 e2 => ?_
      · exact do_retM (hs1.ex e2) (s1.ex e2) (em_opI (g := fun i j => i - j) op_sub (em_draw (n := 13) D hr 0 (fun σ H hs => ee_int) ⟨by decide, by decide⟩) (em_pure (d := .int 6) (P := IntP fun j => j = 6) (fun σ H hs => ee_int) ⟨6, rfl, rfl⟩ rfl)) fun v d H3 hd hv hn c3 s3 => q v d H3 (by
          obtain ⟨k, rfl, i, j, hi, rfl, rfl⟩ := hd
          exact ⟨_, rfl, by have := hi.1; have := hi.2; unfold stepB; omega⟩) hv hn ((c1.trans (.ex e2)).trans c3) s3
      · have hs2 := hs1.ex e2
        have s2 := s1.ex e2
        have c02 := c1.trans (Ch.ex e2 : Ch [l] _ _)
        refine do_when (et_lt (ev hs2 1) ee_int) (fun hb H3 e3 => ?_) fun hb H3 e3 => ?_
        · exact do_retM (hs2.ex e3) (s2.ex e3) (em_ixN (ds := intsD [0, 1, -1, 2, -2, 9]) (fun σ H hs => en_lst (ea_cons ee_int (ea_cons ee_int (ea_cons (ee_neg ee_int) (ea_cons ee_int (ea_cons (ee_neg ee_int) (ea_cons ee_int ea_nil)))))) (by decide)) rfl (em_draw (n := 6) D hr 0 (fun σ H hs => ee_int) ⟨by decide, by decide⟩)) fun v d H4 hd hv hn c4 s4 => q v d H4 (by
            unfold intsD at hd
            obtain ⟨i, hi, rfl⟩ := List.mem_map.mp hd
            refine ⟨i, rfl, ?_⟩
            simp at hi
            unfold stepB
            omega) hv hn ((c02.trans (.ex e3)).trans c4) s4
        · have hs3 := hs2.ex e3
          have s3 := s2.ex e3
          have c03 := c02.trans (Ch.ex e3 : Ch [l] _ _)
          refine do_when (et_lt (ev hs3 1) ee_int) (fun hb H4 e4 => ?_) fun hb H4 e4 => ?_
          · exact do_retM (hs3.ex e4) (s3.ex e4) (em_opI (g := fun i j => i - j) op_sub (em_draw (n := 201) D hr 0 (fun σ H hs => ee_int) ⟨by decide, by decide⟩) (em_pure (d := .int 100) (P := IntP fun j => j = 100) (fun σ H hs => ee_int) ⟨100, rfl, rfl⟩ rfl)) fun v d H5 hd hv hn c5 s5 => q v d H5 (by
              obtain ⟨k, rfl, i, j, hi, rfl, rfl⟩ := hd
              exact ⟨_, rfl, by have := hi.1; have := hi.2; unfold stepB; omega⟩) hv hn ((c03.trans (.ex e4)).trans c5) s5
          · have hs4 := hs3.ex e4
            have s4 := s3.ex e4
            have c04 := c03.trans (Ch.ex e4 : Ch [l] _ _)
            have em10 : ∀ k : Nat, k ≤ 1000 → True := fun _ _ => trivial
            refine do_asgML (l := l) (Ps := fun ds => ds.length = 5 ∧ ∀ d ∈ ds, IntP stepB d) sc_law_step.nd 2 hs4 s4 (EvMA.imp (em_cons (em_pure (P := IntP stepB) (fun σ H hs => ee_pow ee_int ee_int ⟨by decide, by decide, by decide⟩) ⟨_, rfl, by unfold stepB; decide⟩ rfl)
              (em_cons (em_pure (P := IntP stepB) (fun σ H hs => ee_sub ee_int (ee_pow ee_int ee_int ⟨by decide, by decide, by decide⟩)) ⟨_, rfl, by unfold stepB; decide⟩ rfl)
              (em_cons (em_pure (P := IntP stepB) (fun σ H hs => ee_pow ee_int ee_int ⟨by decide, by decide, by decide⟩) ⟨_, rfl, by unfold stepB; decide⟩ rfl)
              (em_cons (P := IntP stepB) (EvM.imp (em_great (n := 10 ^ 30) G hr 0 (fun σ H hs => ee_pow ee_int ee_int ⟨by decide, by decide, by decide⟩) (by decide)) (by
                rintro d ⟨i, rfl, h1, h2⟩
                exact ⟨i, rfl, by unfold stepB; omega⟩))
              (em_cons (P := IntP stepB) (EvM.imp (em_opI (g := fun i j => i - j) op_sub (em_pure (d := .int 0) (P := IntP fun j => j = 0) (fun σ H hs => ee_int) ⟨0, rfl, rfl⟩ rfl) (em_great (n := 10 ^ 30) G hr 0 (fun σ H hs => ee_pow ee_int ee_int ⟨by decide, by decide, by decide⟩) (by decide))) (by
                rintro d ⟨k, rfl, i, j, rfl, ⟨h1, h2⟩, rfl⟩
                exact ⟨_, rfl, by unfold stepB; omega⟩)) em_nil))))) fun ds hps => by
                obtain ⟨d1, _, p1, ⟨d2, _, p2, ⟨d3, _, p3, ⟨d4, _, p4, ⟨d5, _, p5, rfl, rfl⟩, rfl⟩, rfl⟩, rfl⟩, rfl⟩ := hps
                refine ⟨rfl, fun d hd => ?_⟩
                simp at hd
                rcases hd with rfl | rfl | rfl | rfl | rfl <;> assumption) (fun ds h => by rw [h.1]; decide) fun pa ds σ5 H5 hps hns hpa hne c5 s5 la5 hs5 => ?_
            refine do_st (of_ps (ps_ret pe_sem) (ix_slotM hs5 2 s5 la5 hns hne (EvM.imp (em_draw (n := 5) D hr 0 (fun σ H hs => ee_int) ⟨by decide, by decide⟩) (by
              rintro d ⟨i, rfl, h1, h2⟩
              exact ⟨i, rfl, h1, by rw [hps.1]; exact h2⟩)) fun v d H6 hd hv hn c6 s6 => q v d H6 (hps.2 d hd) hv hn ((c04.trans c5).trans c6) s6))
end
end K30
namespace K30
open PySem PySem.Spec PyProof.Rows L2 Evl RZ
open K30m (Job)
def nbA (d : Nat) : Nat := if d ≤ 1 then 1 else if d = 2 then 14 else 17
def nbB (d : Nat) : Nat := if d ≤ 2 then 0 else 13 * d - 29
def nb (d m : Nat) : Nat := if m = 0 then 4 else nbA d + nbB d * m
theorem nb_seq {d m i k u n : Nat} (hd : 2 ≤ d) (hm : 1 ≤ m) (hi : i ≤ 4) (hk : k ≤ i) (h1 : 1 ≤ k) (hku : k ≤ u) (hu : u ≤ m) (hn : n ≤ 4 * (i - k) + nbA (d - 1) * k + nbB (d - 1) * u) : 1 + n ≤ nb d m := by
  unfold nb
  rw [if_neg (by omega)]
  unfold nbA nbB at *
  by_cases h2 : d = 2
  · subst h2
    simp at hn ⊢
    omega
  · by_cases h3 : d = 3
    · subst h3
      simp at hn ⊢
      omega
    · rw [if_neg (by omega), if_neg (by omega), if_neg (by omega)] at hn
      rw [if_neg (by omega), if_neg (by omega), if_neg (by omega)]
      have e : 13 * d - 29 = (13 * (d - 1) - 29) + 13 := by omega
      rw [e, Nat.add_mul]
      have := Nat.mul_le_mul_left (13 * (d - 1) - 29) hu
      omega
theorem nb_mul {d m m' : Nat} (hd : 2 ≤ d) (hm : 1 ≤ m) (hm' : m' ≤ m) : 1 + nb (d - 1) m' ≤ nb d m := by
  unfold nb
  rw [if_neg (show ¬ m = 0 by omega)]
  by_cases h0 : m' = 0
  · rw [if_pos h0]
    have : 14 ≤ nbA d := by
      unfold nbA
      rw [if_neg (by omega)]
      split <;> omega
    omega
  · rw [if_neg h0]
    unfold nbA nbB
    by_cases h2 : d = 2
    · subst h2
      simp
    · by_cases h3 : d = 3
      · subst h3
        simp
        omega
      · rw [if_neg (by omega), if_neg (by omega), if_neg (by omega), if_neg (by omega), if_neg (by omega), if_neg (by omega)]
        have e : 13 * d - 29 = (13 * (d - 1) - 29) + 13 := by omega
        rw [e, Nat.add_mul]
        have := Nat.mul_le_mul_left (13 * (d - 1) - 29) hm'
        omega
structure JP (m d : Nat) (j : Job) : Prop where
  st : steps j ≤ m
  ok : okJ j
  dp : depth j ≤ d + 2
  nd : nodes j ≤ nb d m
def JD (m d : Nat) (t : D) : Prop := ∃ j, t = enc j ∧ JP m d j
def EmD (t : D) : Prop := ∃ j, t = enc j ∧ steps j = 0 ∧ okJ j ∧ depth j ≤ 3 ∧ nodes j ≤ 4
theorem S_app (js : List Job) (j : Job) : stepsS (js ++ [j]) = stepsS js + steps j ∧ nodesS (js ++ [j]) = nodesS js + nodes j ∧ depthS (js ++ [j]) = max (depthS js) (depth j) := by
  induction js with
  | nil => refine ⟨?_, ?_, ?_⟩ <;> simp [stepsS, nodesS, depthS]
  | cons i js ih =>
    obtain ⟨h1, h2, h3⟩ := ih
    refine ⟨?_, ?_, ?_⟩
    · show steps i + stepsS (js ++ [j]) = steps i + stepsS js + steps j
      omega
    · show nodes i + nodesS (js ++ [j]) = nodes i + nodesS js + nodes j
      omega
    · show max (depth i) (depthS (js ++ [j])) = max (max (depth i) (depthS js)) (depth j)
      rw [h3, Nat.max_assoc]
theorem encs_app (js : List Job) (j : Job) : encs (js ++ [j]) = encs js ++ [enc j] := by
  rw [encs_map, encs_map, List.map_append]; rfl
theorem okJs_app {js : List Job} {j : Job} (h : okJs js) (hj : okJ j) : okJs (js ++ [j]) := okJs_mem.mpr fun i hi => by
  rcases List.mem_append.mp hi with h1 | h1
  · exact okJs_mem.mp h i h1
  · rw [List.mem_singleton.mp h1]; exact hj
structure LP (m d i : Nat) (js : List Job) (u k : Nat) : Prop where
  st : stepsS js ≤ u
  ok : okJs js
  dp : depthS js ≤ d + 1
  nd : nodesS js ≤ 4 * (i - k) + nbA (d - 1) * k + nbB (d - 1) * u
  ki : k ≤ i
  ku : k ≤ u
  um : u ≤ m
  fst : 1 ≤ i → 1 ≤ k
  z : i = 0 → u = 0
  ln : js.length = i
theorem LP.next {m d i : Nat} {js : List Job} {u k f : Nat} {j : Job} (h : LP m d i js u k) (hm : 1 ≤ m) (hd : 2 ≤ d) (hf : f ≤ m - u) (h0 : f = 0 → m - u = 0) (hj : JP f (d - 1) j) : LP m d (i + 1) (js ++ [j]) (u + f) (if f = 0 then k else k + 1) := by
  obtain ⟨e1, e2, e3⟩ := S_app js j
  have hum := h.um
  have hku := h.ku
  have hki := h.ki
  have hst := h.st
  have hjs := hj.st
  have hjd := hj.dp
  have hjn := hj.nd
  have hdp := h.dp
  have hnd := h.nd
  refine ⟨by omega, okJs_app h.ok hj.ok, by rw [e3]; omega, ?_, by split <;> omega, by split <;> omega, by omega, fun _ => ?_, fun h => by omega, by rw [List.length_append, List.length_singleton, h.ln]⟩
  · rw [e2]
    by_cases hf0 : f = 0
    · unfold nb at hjn
      rw [if_pos hf0] at hjn
      have e : u + f = u := by omega
      rw [if_pos hf0, e]
      omega
    · unfold nb at hjn
      rw [if_neg hf0] at hjn
      rw [if_neg hf0, Nat.mul_add, Nat.mul_add, Nat.mul_one]
      omega
  · by_cases hf0 : f = 0
    · rw [if_pos hf0]
      have := h0 hf0
      by_cases hi : 1 ≤ i
      · exact h.fst hi
      · exfalso
        have := h.z (by omega)
        omega
    · rw [if_neg hf0]; omega
def emD : List D := [.tuple [.str "seq", .tuple []], .tuple [.str "par", .tuple []], .tuple [.str "repeat", .int 0, .int 5], .tuple [.str "copies", .int 0, .tuple [.str "seq", .tuple [.int 1, .int (-2)]]]]
theorem emD_nol : noLs emD = true := rfl
/-- the four empty jobs as they are written: their places stay closed -/
theorem empty_shape : ∃ (e1 e2 e3 e4 : Expr) (p1 p2 p3 p4 p5 p6 p7 : Pos), defBody s_law_empty = [Stmt.Return (some (.Subscript (.List [e1, e2, e3, e4] p1) (.Call (.Name "_law_draw" p4) [.Name "_law_source_here" p5, .Constant (.int 4) 0 p6] [] p7) p2)) p3] ∧
    (∀ (X : Cx) σ H, EvE X e1 σ H (.tuple [.str "seq", .tuple []])) ∧ (∀ (X : Cx) σ H, EvE X e2 σ H (.tuple [.str "par", .tuple []])) ∧ (∀ (X : Cx) σ H, EvE X e3 σ H (.tuple [.str "repeat", .int 0, .int 5])) ∧
    (∀ (X : Cx) σ H, EvE X e4 σ H (.tuple [.str "copies", .int 0, .tuple [.str "seq", .tuple [.int 1, .int (-2)]]])) ∧
    (∀ (X : Cx), starEach [e1, e2, e3, e4] X.env = (false, eval e1 X.env) :: starEach [e2, e3, e4] X.env) ∧ (∀ (X : Cx), starEach [e2, e3, e4] X.env = (false, eval e2 X.env) :: starEach [e3, e4] X.env) ∧ (∀ (X : Cx), starEach [e3, e4] X.env = (false, eval e3 X.env) :: starEach [e4] X.env) ∧ (∀ (X : Cx), starEach [e4] X.env = (false, eval e4 X.env) :: starEach [] X.env) :=
  ⟨_, _, _, _, _, _, _, _, _, _, _, rfl, fun X σ H => ee_tup (ea_cons ee_str (ea_cons (ee_tup ea_nil) ea_nil)), fun X σ H => ee_tup (ea_cons ee_str (ea_cons (ee_tup ea_nil) ea_nil)), fun X σ H => ee_tup (ea_cons ee_str (ea_cons ee_int (ea_cons ee_int ea_nil))),
    fun X σ H => ee_tup (ea_cons ee_str (ea_cons ee_int (ea_cons (ee_tup (ea_cons ee_str (ea_cons (ee_tup (ea_cons ee_int (ea_cons (ee_neg ee_int) ea_nil))) ea_nil))) ea_nil))), fun _ => rfl, fun _ => rfl, fun _ => rfl, fun _ => rfl⟩
section
variable {P : Program} {w : World} {K : PySem.W.Frag} {mg : Str → Option Value} {base : Heap} (T : Tops K mg)
include T
theorem f_law_empty : Fn P w K mg base 2 "_law_empty" ["_law_source_here"] (spM K (fun (_ : Unit) l => [.at l]) (fun _ => True) fun _ => EmD) :=
  fn_ok (k := 1) T.d_law_empty sc_law_empty hb_law_empty (spM_len fun _ _ => rfl) fun f cdv A outer s H vs Q E hr h => by
    obtain ⟨_, l, _, ha, hsrc, q⟩ := h
    match vs, ha with
    | [v1], .cons h1 .nil =>
      have h1 : v1 = .ref l := h1
      subst h1
      have hs : SR K H (start n_law_empty [.ref l]) [some (.at l)] := .at .nil
      have D := f_law_draw (P := P) (w := w) (base := base) T
      obtain ⟨e1, e2, e3, e4, p1, p2, p3, p4, p5, p6, p7, hbd, k1, k2, k3, k4, g1, g2, g3, g4⟩ := empty_shape
      rw [hbd]
      refine do_retM hs hsrc (em_ixN (ds := emD) (fun σ H hs => en_lst (ea_cons (k1 _ _ _) (ea_cons (k2 _ _ _) (ea_cons (k3 _ _ _) (ea_cons (k4 _ _ _) ea_nil (g4 _)) (g3 _)) (g2 _)) (g1 _))) emD_nol
        (EvM.imp (em_draw (n := 4) D hr 0 (fun σ H hs => ee_int) ⟨by decide, by decide⟩) (by
          rintro d ⟨i, rfl, i0, i1⟩
          exact ⟨i, rfl, i0, i1⟩))) fun v d H1 hd hv hn c1 s1 => q v d H1 ?_ hv hn c1 s1
      unfold emD at hd
      simp only [List.mem_cons, List.not_mem_nil, or_false] at hd
      rcases hd with rfl | rfl | rfl | rfl
      · exact ⟨.seq [], rfl, rfl, trivial, by decide, by decide⟩
      · exact ⟨.par [], rfl, rfl, trivial, by decide, by decide⟩
      · exact ⟨.rep 0 (.step 5), rfl, rfl, ⟨by decide, by decide, by decide, by decide⟩, by decide, by decide⟩
      · exact ⟨.cop 0 (.seq [.step 1, .step (-2)]), rfl, rfl, ⟨by decide, by decide, ⟨by decide, by decide⟩, ⟨by decide, by decide⟩, trivial⟩, by decide, by decide⟩
end
end K30
namespace K30
open PySem PySem.Spec PyProof.Rows L2 Evl RZ
open K30m (Job)
section
variable {P : Program} {w : World} {K : PySem.W.Frag} {mg : Str → Option Value} {base : Heap} (T : Tops K mg)
include T
theorem f_law_job : ∀ d : Nat, Fn P w K mg base (d + 4) "_law_job" ["_law_source_here", "_law_most", "_law_deep"] (spM K (fun (x : Nat × Nat) l => [.at l, .d (.int (x.1 : Nat)), .d (.int (x.2 : Nat))]) (fun x => x.1 ≤ 12 ∧ 1 ≤ x.2 ∧ x.2 ≤ d) fun x => JD x.1 x.2)
  | 0 => by
    refine fn_ok (k := 3) T.d_law_job sc_law_job hb_law_job (spM_len fun _ _ => rfl) fun f cdv A outer s H vs Q E hr h => ?_
    obtain ⟨x, l, ⟨h1, h2, h3⟩, _⟩ := h
    omega
  | d + 1 => by
    have F := f_law_job d
    have Dr := f_law_draw (P := P) (w := w) (base := base) T
    refine fn_ok (k := d + 4) T.d_law_job sc_law_job hb_law_job (spM_len fun _ _ => rfl) fun f cdv A outer s H vs Q E hr h => ?_
    obtain ⟨⟨m, dp⟩, l, ⟨hm, hd1, hdd⟩, ha, hsrc, q⟩ := h
    simp only at hm hd1 hdd q
    match vs, ha with
    | [v1, v2, v3], .cons h1 (.cons h2 (.cons h3 .nil)) =>
      have h1 : v1 = .ref l := h1
      have h2 : Dp K H v2 (.int (m : Nat)) := h2
      have h3 : Dp K H v3 (.int (dp : Nat)) := h3
      subst h1
      have hs : SR K H (start n_law_job [.ref l, v2, v3]) [some (.at l), some (.py (.int (m : Nat))), some (.py (.int (dp : Nat))), none, none, none, none, none, none] := .at (.py h2 rfl (.py h3 rfl (.no (.no (.no (.no (.no (.no .nil))))))))
      refine do_asgM (l := l) sc_law_job.nd 3 hs hsrc (em_draw (n := 10) Dr hr 0 (fun σ H hs => ee_int) ⟨by decide, by decide⟩ (by omega)) fun t σ1 H1 ht c1 s1 hs1 => ?_
      obtain ⟨way, rfl, hw0, hw1⟩ := ht
      refine do_when (et_eqI (ev hs1 1) ee_int) (fun hb H2 e2 => ?_) fun hb H2 e2 => ?_
      · have hm0 : m = 0 := by have := of_decide_eq_true hb; omega
        exact do_retM (hs1.ex e2) (s1.ex e2) (em_call (Pf := fun _ => EmD) (f_law_empty T) hr () (fun σ H hs => er_cons (evAt hs 0) er_nil) trivial (by omega)) fun v t H3 ht hv hn c3 s3 => q v t H3 (by
          obtain ⟨j, rfl, j1, j2, j3, j4⟩ := ht
          exact ⟨j, rfl, by omega, j2, by omega, by unfold nb; rw [if_pos hm0]; exact j4⟩) hv hn ((c1.trans (.ex e2)).trans c3) s3
      · have hm0 : m ≠ 0 := fun z => by
          have := of_decide_eq_false hb
          omega
        have hs2 := hs1.ex e2
        have s2 := s1.ex e2
        have c2 := c1.trans (Ch.ex e2 : Ch [l] _ _)
        refine do_when (et_w (ew_or (et_lt (ev hs2 2) ee_int) fun _ => ew_or1 (et_lt (ev hs2 3) ee_int))) (fun hb H3 e3 => ?_) fun hb H3 e3 => ?_
        · exact do_retM (hs2.ex e3) (s2.ex e3) (em_call (Pf := fun _ => IntP stepB) (f_law_step T) hr () (fun σ H hs => er_cons (evAt hs 0) er_nil) trivial (by omega)) fun v t H4 ht hv hn c4 s4 => q v t H4 (by
            obtain ⟨i, rfl, hi⟩ := ht
            refine ⟨.step i, rfl, by show 1 ≤ m; omega, hi, by show 1 ≤ dp + 2; omega, ?_⟩
            show 1 ≤ nb dp m
            unfold nb nbA
            rw [if_neg hm0]
            split
            · omega
            · split <;> omega) hv hn ((c2.trans (.ex e3)).trans c4) s4
        · have hdp : 2 ≤ dp := by
            rw [Bool.or_eq_false_iff] at hb
            have := of_decide_eq_false hb.1
            omega
          have hs3 := hs2.ex e3
          have s3 := s2.ex e3
          have c3 := c2.trans (Ch.ex e3 : Ch [l] _ _)
          have hsub : ((dp : Nat) : Int) - 1 = ((dp - 1 : Nat) : Int) := by omega
          have g2 : way % 2 = 0 ∨ way % 2 = 1 := by omega
          refine do_when (et_lt (ev hs3 3) ee_int) (fun hb4 H4 e4 => ?_) fun hb4 H4 e4 => ?_
          · have hs4 := hs3.ex e4
            have s4 := s3.ex e4
            have c4 := c3.trans (Ch.ex e4 : Ch [l] _ _)
            refine do_parNE (ds := []) rfl sc_law_job.nd hs4 (en_lst ea_nil) (ev hs4 1) rfl rfl 4 5 fun pa σ5 H5 hpa e5 la5 hs5 => ?_
            have s5 := s4.ex e5
            have npl : pa ≠ l := fun z => by
              obtain ⟨_, _, _, ws, w, _⟩ := s4
              rw [z, w] at hpa
              cases hpa
            have c05 := c4.trans (Ch.ex e5 : Ch [l] _ _)
            have hS5 : ∀ b ∈ [l, pa], ∃ o, H5 b = some o ∧ NT o := fun b hb => by
              rcases List.mem_cons.mp hb with rfl | hb
              · exact s5.nt _ List.mem_cons_self
              · rw [List.mem_singleton.mp hb]
                obtain ⟨ws, w, _⟩ := la5
                exact ⟨_, w, trivial⟩
            have fin : ∀ {H6 : Hp}, Ch [l, pa] H5 H6 → Ch [l] H H6 := fun {H6} c b o hb ho => by
              have h5 := c05 b o hb ho
              have h4 := c4 b o hb ho
              refine c b o (fun z => ?_) h5
              rcases List.mem_cons.mp z with z | z
              · exact hb (by rw [z]; exact List.mem_cons_self)
              · rw [List.mem_singleton.mp z, hpa] at h4
                cases h4
            refine do_forR (l := l) (ι := List Job × Nat × Nat) (pn := fun n => 1 ≤ n ∧ n ≤ 4) PassesOwn.never rfl sc_law_job.nd [l, pa] (fun x => [some (.at l), some (.py (.int (m : Nat))), some (.py (.int (dp : Nat))), some (.py (.int way)), some (.at pa), some (.py (.int ((m : Nat) - (x.2.1 : Nat)))), none, none, none])
              (fun x i H => Src K H l ∧ LsAt K H pa (encs x.1) ∧ LP m dp i x.1 x.2.1 x.2.2) ([], 0, 0) 6 (EvM.imp (em_opI (g := fun i j => i + j) op_add (em_pure (d := .int 1) (P := IntP fun j => j = 1) (fun σ H hs => ee_int) ⟨1, rfl, rfl⟩ rfl) (em_draw (n := 4) Dr hr 0 (fun σ H hs => ee_int) ⟨by decide, by decide⟩ (by omega))) (by
                rintro t ⟨k, rfl, i, j, rfl, ⟨j0, j1⟩, rfl⟩
                exact ⟨_, rfl, (1 + j).toNat, by omega, by omega, by omega, by omega⟩)) T.b_range (by
                show SR K H5 σ5 [some (.at l), some (.py (.int (m : Nat))), some (.py (.int (dp : Nat))), some (.py (.int way)), some (.at pa), some (.py (.int ((m : Nat) - ((0 : Nat) : Int)))), none, none, none]
                rw [show ((m : Nat) : Int) - ((0 : Nat) : Int) = (m : Nat) by omega]
                exact hs5) s5 List.mem_cons_self hS5 (fun H6 c6 s6 => ⟨s6, la5.ch c6 (s5.tx c6) (by simp [npl]) rfl, Nat.le_refl 0, trivial, Nat.zero_le _, Nat.zero_le _, Nat.le_refl _, Nat.le_refl _, Nat.zero_le _, (fun h => by omega), (fun _ => rfl), rfl⟩) ?_ ?_
            · rintro n i ⟨js, u, k⟩ σ6 H6 hn hi c6 t6 ⟨s6, la6, L⟩ hs6 N hN
              simp only at la6 L
              have hum := L.um
              refine do_asgM (l := l) (P := IntP fun f => ∃ fw : Nat, f = (fw : Nat) ∧ fw ≤ m - u ∧ (fw = 0 → m - u = 0)) sc_law_job.nd 7 hs6 s6 (em_if (t := decide (((m : Nat) : Int) - (u : Nat) = 0)) (fun σ H hs => et_eqI (ev hs 5) ee_int) (fun h => em_pure (d := .int 0) (fun σ H hs => ee_int) ⟨0, rfl, 0, rfl, Nat.zero_le _, fun _ => by have := of_decide_eq_true h; omega⟩ rfl)
                fun h => EvM.imp (em_opI (g := fun i j => i + j) op_add (em_pure (d := .int 1) (P := IntP fun j => j = 1) (fun σ H hs => ee_int) ⟨1, rfl, rfl⟩ rfl) (em_draw (n := (m : Nat) - (u : Nat)) Dr hr 0 (fun σ H hs => ev hs 5) ⟨by have := of_decide_eq_false h; omega, by omega⟩ (by omega))) (by
                rintro t ⟨k, rfl, i, j, rfl, ⟨j0, j1⟩, rfl⟩
                exact ⟨_, rfl, (1 + j).toNat, by omega, by omega, by omega⟩)) fun t σ7 H7 ht c7 s7 hs7 => ?_
              obtain ⟨_, rfl, fw, rfl, hf1, hf2⟩ := ht
              have la7 := la6.ch c7 (s6.tx c7) (by simp [npl]) (encs_nol js)
              obtain ⟨ws, w1, w2⟩ := la7
              have wl := dps_length w2
              have jl : (encs js).length ≤ 4 := by
                have hl := L.ln
                rw [encs_map, List.length_map]
                omega
              refine do_appM (l := l) hs7 4 s7 w1 npl (by omega) (em_call (Pf := fun (x : Nat × Nat) => JD x.1 x.2) F hr (fw, dp - 1) (fun σ H hs => er_cons (evAt hs 0) (er_cons (EvE.v (ev hs 7)) (er_cons (EvE.v (.of_eq (ee_sub (ev hs 2) ee_int) (by rw [hsub]))) er_nil))) ⟨by show fw ≤ 12; omega, by show 1 ≤ dp - 1; omega, by show dp - 1 ≤ d; omega⟩ (Nat.le_refl _)) fun v t H8 ht hnt c8 s8 hv8 h8 => ?_
              obtain ⟨j, rfl, hj⟩ := ht
              have tx8 : TX H8 (upd H8 pa (.lst (ws ++ [v]))) := TX.upd h8 trivial
              have hs8 := (hs7.tx (s7.tx c8)).tx tx8
              have s8' : Src K (upd H8 pa (.lst (ws ++ [v]))) l := s8.keep (S := [pa]) (Ch.upd List.mem_cons_self) tx8 (by simp [Ne.symm npl])
              have la8 : LsAt K (upd H8 pa (.lst (ws ++ [v]))) pa (encs (js ++ [j])) := by
                rw [encs_app]
                have := dps_append (dps_tx tx8 _ _ (encs_nol js) (dps_tx (s7.tx c8) _ _ (encs_nol js) w2)) (dps_one (dp_tx tx8 _ _ (enc_nol j) hv8))
                exact ⟨_, upd_same, this⟩
              refine do_asg (d := .int ((m : Nat) - ((u + fw : Nat) : Int))) sc_law_job.nd 5 hs8 (.of_eq (ee_sub (ev hs8 5) (ev hs8 7)) (by rw [show ((m : Nat) : Int) - (u : Nat) - (fw : Nat) = (m : Nat) - ((u + fw : Nat) : Int) by omega])) rfl fun σ9 H9 e9 hs9 => ?_
              refine do_nil (hN (js ++ [j], u + fw, if fw = 0 then k else k + 1) _ _ ?_ ⟨s8'.ex e9, la8.ex e9, L.next (by omega) hdp hf1 hf2 hj⟩ ((hs9.drop 6).drop 7))
              exact (((c7.mono fun b hb => by rw [List.mem_singleton.mp hb]; exact List.mem_cons_self).trans (c8.mono fun b hb => by rw [List.mem_singleton.mp hb]; exact List.mem_cons_self)).trans (Ch.upd (List.mem_cons_of_mem _ List.mem_cons_self))).trans (.ex e9)
            · rintro n ⟨js, u, k⟩ σ6 H6 ⟨hn1, hn4⟩ c6 t6 ⟨s6, la6, L⟩ hs6
              simp only at la6 L
              have hnd : 1 + nodesS js ≤ nb dp m := nb_seq hdp (by omega) hn4 L.ki (L.fst hn1) L.ku L.um L.nd
              have hst := L.st
              have hum := L.um
              have hdp' := L.dp
              rcases g2 with g | g
              · exact do_ret (ee_tup (ea_cons (ee_ixL (ds := [.str "seq", .str "par"]) (en_lst (ea_cons ee_str (ea_cons ee_str ea_nil))).ev (ee_mod (ev hs6 3) ee_int (by decide)) (d := .str "seq") (by rw [g]; rfl)) (ea_cons (ee_tupleL T.b_tuple (ep_slot hs6 4 la6).ev (encs_nol js)) ea_nil))) fun v H7 e7 hv => q v _ H7 ⟨.seq js, rfl, by show stepsS js ≤ m; omega, L.ok, by show 1 + depthS js ≤ dp + 2; omega, hnd⟩ hv (enc_nol (.seq js)) ((fin c6).trans (.ex e7)) (s6.ex e7)
              · exact do_ret (ee_tup (ea_cons (ee_ixL (ds := [.str "seq", .str "par"]) (en_lst (ea_cons ee_str (ea_cons ee_str ea_nil))).ev (ee_mod (ev hs6 3) ee_int (by decide)) (d := .str "par") (by rw [g]; rfl)) (ea_cons (ee_tupleL T.b_tuple (ep_slot hs6 4 la6).ev (encs_nol js)) ea_nil))) fun v H7 e7 hv => q v _ H7 ⟨.par js, rfl, by show stepsS js ≤ m; omega, L.ok, by show 1 + depthS js ≤ dp + 2; omega, hnd⟩ hv (enc_nol (.par js)) ((fin c6).trans (.ex e7)) (s6.ex e7)
          · have hs4 := hs3.ex e4
            have s4 := s3.ex e4
            have c4 := c3.trans (Ch.ex e4 : Ch [l] _ _)
            refine do_asgM (l := l) sc_law_job.nd 8 hs4 s4 (em_draw (n := min ((m : Nat) : Int) 3 + 1) Dr hr 0 (fun σ H hs => ee_add (ee_min2 rfl T.b_min (ev hs 1) ee_int) ee_int) ⟨by omega, by omega⟩ (by omega)) fun t σ5 H5 ht c5 s5 hs5 => ?_
            obtain ⟨ci, rfl, hc0, hc1⟩ := ht
            obtain ⟨cn, rfl⟩ : ∃ cn : Nat, ci = (cn : Nat) := ⟨ci.toNat, by omega⟩
            have hcm : cn ≤ m ∧ cn ≤ 3 := by omega
            have hdiv : ((m : Nat) : Int) / max 1 ((cn : Nat) : Int) = ((m / max 1 cn : Nat) : Int) := by
              rw [show max (1 : Int) ((cn : Nat) : Int) = ((max 1 cn : Nat) : Int) by omega, Int.natCast_ediv]
            have hle : m / max 1 cn ≤ m := Nat.div_le_self _ _
            have hmul : cn * (m / max 1 cn) ≤ m := by
              by_cases h : cn = 0
              · rw [h]; omega
              · rw [show max 1 cn = cn by omega]
                exact Nat.mul_div_le m cn
            have wstr : ∃ g : Str, atI [PyData.str "repeat", PyData.str "copies"] (way % 2) = some (.str g) ∧ (g = "repeat" ∨ g = "copies") := by
              rcases g2 with g | g
              · exact ⟨"repeat", by rw [g]; rfl, .inl rfl⟩
              · exact ⟨"copies", by rw [g]; rfl, .inr rfl⟩
            obtain ⟨gs, hgs, hg⟩ := wstr
            refine do_retM hs5 s5 (em_tup (em_cons (P := fun t => t = .str gs) (em_pure (fun σ H hs => ee_ixL (ds := [.str "repeat", .str "copies"]) (en_lst (ea_cons ee_str (ea_cons ee_str ea_nil))).ev (ee_mod (ev hs 3) ee_int (by decide)) hgs) rfl rfl) (em_cons (P := fun t => t = .int (cn : Nat)) (em_pure (fun σ H hs => ev hs 8) rfl rfl) (em_cons (em_call (Pf := fun (x : Nat × Nat) => JD x.1 x.2) F hr (m / max 1 cn, dp - 1) (fun σ H hs => er_cons (evAt hs 0) (er_cons (EvE.v (.of_eq (ee_fdiv (ev hs 1) (ee_max2 rfl T.b_max ee_int (ev hs 8)) ⟨by omega, by omega⟩) (by rw [hdiv]))) (er_cons (EvE.v (.of_eq (ee_sub (ev hs 2) ee_int) (by rw [hsub]))) er_nil))) ⟨by show m / max 1 cn ≤ 12; omega, by show 1 ≤ dp - 1; omega, by show dp - 1 ≤ d; omega⟩ (Nat.le_refl _)) em_nil))) (by
              rintro ds ⟨_, _, _, ⟨_, _, _, ⟨_, _, _, rfl, rfl⟩, rfl⟩, rfl⟩
              exact Nat.le_of_ble_eq_true rfl)) fun v t H6 ht hv hn c6 s6 => q v t H6 ?_ hv hn ((c4.trans c5).trans c6) s6
            obtain ⟨_, ⟨_, _, rfl, ⟨_, _, rfl, ⟨_, _, ⟨j, rfl, hj⟩, rfl, rfl⟩, rfl⟩, rfl⟩, rfl⟩ := ht
            have j1 : steps j ≤ m / max 1 cn := hj.st
            have j3 : depth j ≤ dp - 1 + 2 := hj.dp
            have j4 : nodes j ≤ nb (dp - 1) (m / max 1 cn) := hj.nd
            have n1 := nb_mul hdp (show 1 ≤ m by omega) hle
            have st1 : cn * steps j ≤ m := Nat.le_trans (Nat.mul_le_mul_left cn j1) hmul
            have ok1 : cn ≤ 1000 ∧ steps j ≤ 10 ^ 30 ∧ okJ j := ⟨by omega, by omega, hj.ok⟩
            rcases hg with rfl | rfl
            · exact ⟨.rep cn j, rfl, st1, ok1, by show 1 + depth j ≤ dp + 2; omega, by show 1 + nodes j ≤ nb dp m; omega⟩
            · exact ⟨.cop cn j, rfl, st1, ok1, by show 1 + depth j ≤ dp + 2; omega, by show 1 + nodes j ≤ nb dp m; omega⟩
end
end K30
namespace K30
open PySem PySem.Spec PyProof.Rows L2 Evl RZ
open K30m (Job)
/-- what the law's job keeps -/
structure RichJ (j : Job) : Prop where
  st : steps j ≤ 10
  ok : okJ j
  dp : depth j ≤ 13
  nd : nodes j ≤ 400
  two : 2 < steps j
def RichD (t : D) : Prop := ∃ j, t = enc j ∧ RichJ j
theorem nb5 {m : Nat} (h : m ≤ 10) : nb 5 m ≤ 400 := by
  unfold nb
  split
  · omega
  · have e1 : nbA 5 = 17 := rfl
    have e2 : nbB 5 = 36 := rfl
    rw [e1, e2]
    omega
/-- a list that the module or the caller owns stays -/
theorem sql_ch {K : PySem.W.Frag} {H H' : Hp} {a : Addr} {vs : List V} {S : List Addr} (c : Ch S H H') (ha : a ∉ S) (h : SqL K H a vs) : SqL K H' a vs := by
  rcases h with (h | ⟨o, h⟩) | h
  · exact .inl (.inl (c _ _ ha h))
  · exact .inl (.inr ⟨o, c _ _ ha h⟩)
  · exact .inr h
def spSrc (K : PySem.W.Frag) : Sp := fun vs H Q _ => ∃ (a : Addr) (ns : List Int) (i : Nat), SqL K H a (ns.map V.int) ∧ vs = [.ref a, .int (i : Nat)] ∧ ∀ p H', H p = none → Ex H H' → Src K H' p → Q (.ref p) H'
/-- the job written last: its places stay closed -/
theorem rich_shape : ∃ (a c d : Expr) (p1 p2 p3 : Pos), (defBody s_law_rich_job).drop 1 = [Stmt.Return (some (.Tuple [a, .Tuple [c, d] 0 p1] 0 p2)) p3] ∧
    (∀ (X : Cx) σ H, EvE X a σ H (.str "par")) ∧ (∀ (X : Cx) σ H, EvE X c σ H (.tuple [.str "seq", .tuple [.int 5, .int (-3)]])) ∧ (∀ (X : Cx) σ H, EvE X d σ H (.tuple [.str "copies", .int 2, .int (-1)])) ∧
    (∀ (X : Cx), starEach [a, .Tuple [c, d] 0 p1] X.env = (false, eval a X.env) :: starEach [.Tuple [c, d] 0 p1] X.env) ∧ (∀ (X : Cx), starEach [.Tuple [c, d] 0 p1] X.env = (false, eval (.Tuple [c, d] 0 p1) X.env) :: starEach [] X.env) ∧
    (∀ (X : Cx), starEach [c, d] X.env = (false, eval c X.env) :: starEach [d] X.env) ∧ (∀ (X : Cx), starEach [d] X.env = (false, eval d X.env) :: starEach [] X.env) :=
  ⟨_, _, _, _, _, _, rfl, fun X σ H => ee_str, fun X σ H => ee_tup (ea_cons ee_str (ea_cons (ee_tup (ea_cons ee_int (ea_cons (ee_neg ee_int) ea_nil))) ea_nil)), fun X σ H => ee_tup (ea_cons ee_str (ea_cons ee_int (ea_cons (ee_neg ee_int) ea_nil))), fun _ => rfl, fun _ => rfl, fun _ => rfl, fun _ => rfl⟩
section
variable {P : Program} {w : World} {K : PySem.W.Frag} {mg : Str → Option Value} {base : Heap} (T : Tops K mg)
include T
theorem f_law_rich_job : Fn P w K mg base 15 "_law_rich_job" ["_law_source_here", "_law_most", "_law_deep"] (spM K (fun (m : Nat) l => [.at l, .d (.int (m : Nat)), .d (.int ((5 : Nat) : Int))]) (fun m => m ≤ 10) fun _ => RichD) :=
  fn_ok (k := 14) T.d_law_rich_job sc_law_rich_job hb_law_rich_job (spM_len fun _ _ => rfl) fun f cdv A outer s H vs Q E hr h => by
    obtain ⟨m, l, hm, ha, hsrc, q⟩ := h
    have hm : m ≤ 10 := hm
    match vs, ha with
    | [v1, v2, v3], .cons h1 (.cons h2 (.cons h3 .nil)) =>
      have h1 : v1 = .ref l := h1
      have h2 : Dp K H v2 (.int (m : Nat)) := h2
      have h3 : Dp K H v3 (.int ((5 : Nat) : Int)) := h3
      subst h1
      have J := f_law_job (P := P) (w := w) (base := base) T 5
      have C := f_law_step_count (P := P) (w := w) (base := base) T 13
      have hs : SR K H (start n_law_rich_job [.ref l, v2, v3]) [some (.at l), some (.py (.int (m : Nat))), some (.py (.int ((5 : Nat) : Int))), none, none] := .at (.py h2 rfl (.py h3 rfl (.no (.no .nil))))
      refine do_forR (l := l) (ι := Unit) (pn := fun n => n = 5) PassesOwn.never rfl sc_law_rich_job.nd [l] (fun _ => [some (.at l), some (.py (.int (m : Nat))), some (.py (.int ((5 : Nat) : Int))), none, none]) (fun _ _ H => Src K H l) () 3
        (em_pure (d := .int 5) (fun σ H hs => ee_int) ⟨5, rfl, 5, rfl, by decide, rfl⟩ rfl) T.b_range hs hsrc List.mem_cons_self hsrc.nt (fun H2 c2 s2 => s2) ?_ ?_
      · intro n i y σ2 H2 hn hi c2 t2 s2 hs2 N hN
        refine do_asgM (l := l) sc_law_rich_job.nd 4 hs2 s2 (em_call (Pf := fun (x : Nat × Nat) => JD x.1 x.2) J hr (m, 5) (fun σ H hs => er_cons (evAt hs 0) (er_cons (EvE.v (ev hs 1)) (er_cons (EvE.v (ev hs 2)) er_nil))) ⟨by show m ≤ 12; omega, by show 1 ≤ 5; omega, by show 5 ≤ 5; omega⟩) fun t σ3 H3 ht c3 s3 hs3 => ?_
        obtain ⟨j, rfl, hj⟩ := ht
        have j1 : steps j ≤ m := hj.st
        have j3 : depth j ≤ 7 := hj.dp
        have j4 : nodes j ≤ nb 5 m := hj.nd
        have n5 := nb5 hm
        refine do_when (et_gt (ee_cal C hr j (ea_cons (ev hs3 4) ea_nil) ⟨by omega, by omega, hj.ok⟩) ee_int) (fun hb H4 e4 => ?_) fun hb H4 e4 => ?_
        · exact do_ret (ev (hs3.ex e4) 4) fun v H5 e5 hv => q v _ H5 ⟨j, rfl, by omega, hj.ok, by omega, by omega, by have := of_decide_eq_true hb; omega⟩ hv (enc_nol j) ((c2.trans c3).trans (.ex (e4.trans e5))) (s3.ex (e4.trans e5))
        · exact do_nil (hN () _ _ (c3.trans (.ex e4)) (s3.ex e4) (((hs3.ex e4).drop 3).drop 4))
      · intro n y σ2 H2 hn c2 t2 s2 hs2
        obtain ⟨a, c, d, p1, p2, p3, hbd, k1, k2, k3, g1, g2, g3, g4⟩ := rich_shape
        show Do _ ((defBody s_law_rich_job).drop 1) _ _ _
        rw [hbd]
        exact do_ret (ee_tup (ea_cons (k1 _ _ _) (ea_cons (ee_tup (ea_cons (k2 _ _ _) (ea_cons (k3 _ _ _) ea_nil (g4 _)) (g3 _))) ea_nil (g2 _)) (g1 _))) fun v H3 e3 hv => q v _ H3 ⟨.par [.seq [.step 5, .step (-3)], .cop 2 (.step (-1))], rfl, by decide, ⟨⟨⟨by decide, by decide⟩, ⟨by decide, by decide⟩, trivial⟩, ⟨by decide, by decide, by decide, by decide⟩, trivial⟩, by decide, by decide, by decide⟩ hv rfl (c2.trans (.ex e3)) (s2.ex e3)
theorem f_law_source : Fn P w K mg base 1 "_law_source" ["_law_script", "_law_at"] (spSrc K) :=
  fn_ok T.d_law_source sc_law_source hb_law_source (fun vs H Q E h => by
    obtain ⟨a, ns, i, _, rfl, _⟩ := h
    rfl) fun f cdv A outer s H vs Q E hr h => by
    obtain ⟨a, ns, i, hq, rfl, q⟩ := h
    have hs : SR K H (start n_law_source [.ref a, .int (i : Nat)]) [some (.at a), some (.py (.int (i : Nat))), none, none, none] := .at (.py (.int _) rfl (.no (.no (.no .nil))))
    have hdp := dps_of_int (K := K) (H := H) ns
    have hlen : ((ns.map PyData.int).length : Int) = (ns.length : Nat) := by rw [List.length_map]
    refine do_asg (d := .int (if h : i < ns.length then ns[i] else 3 * (i : Nat) + 2)) sc_law_source.nd 2 hs (ee_if (et_lt (ev hs 1) (ee_lenL T.b_len (evL hs 0 hq hdp))) (fun hb => ee_ixL (ds := ns.map PyData.int) (evL hs 0 hq hdp) (ev hs 1) ?_) fun hb => .of_eq (ee_add (ee_mul ee_int (ev hs 1) (.inl (by decide))) ee_int) ?_) rfl fun σ1 H1 e1 hs1 => ?_
    · have hb := of_decide_eq_true hb
      rw [hlen] at hb
      have hi : i < ns.length := by omega
      rw [dif_pos hi]
      unfold atI
      rw [List.length_map, ixN_nat hi]
      show (ns.map PyData.int)[i]? = _
      rw [List.getElem?_map, List.getElem?_eq_getElem hi]
      rfl
    · have hb := of_decide_eq_false hb
      rw [hlen] at hb
      rw [dif_neg (by omega)]
    · generalize (if h : i < ns.length then ns[i] else 3 * ((i : Nat) : Int) + 2) = cell at hs1
      refine do_asg sc_law_source.nd 3 hs1 (ee_mod (ee_abs T.b_abs (ev hs1 2)) (ee_powW (ee_pow ee_int ee_int ⟨by decide, by decide, by decide⟩) ee_int ⟨by decide, by decide +kernel⟩) (by decide +kernel)) rfl fun σ2 H2 e2 hs2 => ?_
      generalize (if cell < 0 then -cell else cell) % _ = size at hs2
      refine do_asg sc_law_source.nd 4 hs2 (ee_add (ee_add (ee_mul (ev hs2 3) ee_int (.inr (by decide))) (ee_mul ee_int (ev hs2 1) (.inl (by decide)))) (ee_intB T.b_int (ee_lt (ev hs2 2) ee_int))) rfl fun σ3 H3 e3 hs3 => ?_
      refine do_st (of_ps (ps_ret pe_sem) ((en_lst (ea_cons (ee_max2 rfl T.b_max ee_int (ee_sub (ev hs3 3) (ee_pow ee_int ee_int ⟨by decide, by decide, by decide⟩))) (ea_cons (ee_mod (ev hs3 4) ee_int (by decide)) (ea_cons ee_int ea_nil)))) H3 (Ex.refl _) _ fun p ws H4 hp e4 h4 hd4 => ?_))
      have e04 := e1.trans (e2.trans (e3.trans e4))
      refine q p H4 ?_ e04 ⟨_, _, _, ws, h4, hd4⟩
      cases hx : H p with
      | none => rfl
      | some z => rw [(e1.trans (e2.trans e3)) _ _ hx] at hp; cases hp
end
end K30
/-! Defs that ask repr: the promise holds where no guard stands around; repr of data. -/
namespace K30
open PySem PySem.Spec PyProof.Rows L2 Evl RZ
structure GOk (P : Program) (w : World) (K : PySem.W.Frag) (mg : Str → Option Value) (base : Heap) (k : Nat) (f : Addr) (fd : FuncData) (ps : List Str) (sp : Sp) : Prop where
  ln : ∀ vs H Q E, sp vs H Q E → vs.length = ps.length
  go : ∀ (A : Around) (out : List Env) (s : Shared) (H : Hp) (ar : Args) (us : List Value) (vs : List V) (Q : VK) (E : XK), A.guards = some [] → Room k A → Env0 P w K mg base A out s H → BindsTo s fd ar (ps.zip us) → Vals vs us → sp vs H Q E →
    codeAny (model P w) A (.call (.ref f) ar) (CR CX0 out P w H s Q E) s
section
variable {P : Program} {w : World} {K : PySem.W.Frag} {mg : Str → Option Value} {base : Heap} {k : Nat} {f : Addr} {ps : List Str} {sp : Sp}
theorem g_of {nm qn : Str} {prm : Arguments} {bd : List Stmt} {sc : Scope} {dV kV doc pm cdv ct oc : Value} {an od : Option Addr} {osl : Array (Option Value)} {N : List Str}
    (lk : K.lookup f = some ⟨oc, od, .func (PySem.W.fnOf nm qn prm bd sc dV kV doc pm an cdv ct), osl⟩) (hcd : PySem.W.codeIn K cdv qn = true) (S : FnScope N ps sc) (len : ∀ vs H Q E, sp vs H Q E → vs.length = ps.length)
    (hb : ∀ (A : Around) (out : List Env) (s : Shared) (H : Hp) (vs : List V) (Q : VK) (E : XK), A.guards = some [] → Room k (A.deeper (envOfC qn sc s.heap.objs.size f cdv)) → sp vs H Q E →
      Do (cxOf CX0 P w K mg base N qn sc f cdv A out s H E).nox bd { nx := fun _ H' => Q .non H', rt := Q } (start N vs) H) : GOk P w K mg base (k + 1) f (PySem.W.fnOf nm qn prm bd sc dV kV doc pm an cdv ct) ps sp := by
  refine ⟨len, fun A out s H ar us vs Q E hgd hr e0 hbt rv hsp => ?_⟩
  have lnn := len _ _ _ _ hsp
  have inH : K.In s.heap := e0.mod.kin.keeps fun c o z => (e0.bs c o z).1
  have noL : s.heap.NoLimit := e0.mod.nolimit.keeps fun c o z => (e0.bs c o z).1
  refine codeAny_call_function hr.depth (inH _ _ lk) rfl S.co S.gen rfl (PySem.W.codeRec_of inH hcd) (hbt _ _ _ _ ?_)
  refine wpAny_newFunctionEnv_cells S.kind (fun y hy => ?_) fun env he s1 x => ?_
  · rcases S.par y.1 (List.of_mem_zip hy).1 with h1 | h1
    · left; exact h1
    · right; exact ⟨h1, PySem.W.cellsFrom_some _ _ _ (.inl h1)⟩
  · subst he
    refine ⟨noL.keeps x.toInCall.keep, codeAny_func ?_⟩
    have J : Inv (cxOf CX0 P w K mg base N qn sc f cdv A out s H E) [] (start N vs) H s1 := inv_start S hr.hd e0 lnn rv x
    have run := (PSs.nox (X := cxOf CX0 P w K mg base N qn sc f cdv A out s H E) pss_sem).run [] s1 (start N vs) H _ J (hb A out s H vs Q E hgd (hr.deeper _) hsp)
    refine wpAny_mono run (fun fl s' q => ?_) fun e s' q => q
    cases fl with
    | ret u =>
      obtain ⟨v, σ', H', J', rvu, qv⟩ := q
      exact ⟨v, H', J'.os, J'.bare, J'.base, J'.hok, rvu, qv⟩
    | next =>
      obtain ⟨σ', H', J', qn'⟩ := q
      exact ⟨V.non, H', J'.os, J'.bare, J'.base, J'.hok, rfl, qn'⟩
    | brk => obtain ⟨_, _, _, z⟩ := q; exact z.elim
    | cont => obtain ⟨_, _, _, z⟩ := q; exact z.elim
end
structure FnG (P : Program) (w : World) (K : PySem.W.Frag) (mg : Str → Option Value) (base : Heap) (k : Nat) (x : Str) (ps : List Str) (sp : Sp) : Prop where
  ex : ∃ f fd, GOk P w K mg base k f fd ps sp ∧ PySem.W.keepIn K (.ref f) = true ∧ Binds K fd ps [] ∧ mg x = some (.ref f)
/-- a def of the top keeps its promise where no guard stands around -/
theorem fng_ok {P : Program} {w : World} {K : PySem.W.Frag} {mg : Str → Option Value} {base : Heap} {x : Str} {st : Stmt} {N ps : List Str} {k : Nat} {sp : Sp}
    (F : ∃ f fd, FunD K x x (defArgs st) (defBody st) (defScope st) [] [] f fd ∧ mg x = some (.ref f)) (S : FnScope N ps (defScope st))
    (hb : ∀ (kV doc pm : Value) (an : Option Addr) (cdv ct : Value) (us : List Value), us.length = ps.length → bindArgs (PySem.W.fnOf x x (defArgs st) (defBody st) (defScope st) .none kV doc pm an cdv ct) ⟨us, []⟩ = pure (ps.zip us))
    (len : ∀ vs H Q E, sp vs H Q E → vs.length = ps.length)
    (body : ∀ (f : Addr) (cdv : Value) (A : Around) (out : List Env) (s : Shared) (H : Hp) (vs : List V) (Q : VK) (E : XK), A.guards = some [] → Room k (A.deeper (envOfC x (defScope st) s.heap.objs.size f cdv)) → sp vs H Q E →
      Do (cxOf CX0 P w K mg base N x (defScope st) f cdv A out s H E).nox (defBody st) { nx := fun _ H' => Q .non H', rt := Q } (start N vs) H) : FnG P w K mg base (k + 1) x ps sp := by
  obtain ⟨f, fd, F, hm⟩ := F
  have kp := F.kp
  have bn := F.bindsN hb
  obtain ⟨oc, od, dV, kV, doc, pm, an, cdv, ct, osl, rfl, lk, hcd, _, _⟩ := F.ex
  exact ⟨f, _, g_of lk hcd S len fun A out s H vs Q E hgd hr h => body f cdv A out s H vs Q E hgd hr h, kp, bn, hm⟩
section
variable {X : Cx} {e : Expr} {es : List Expr} {σ : L2.St} {H : Hp} {pos p : Pos} {k j : Nat} {x : Str} {ps : List Str} {sp : Sp} {as : List Arg} {d : D}
/-- a call of such a def -/
theorem ee_callG (G : FnG X.prog X.w X.K X.mg X.base j x ps sp) (hgd : X.A.guards = some []) (hr : Room k X.A) (ha : EvR X (e :: es) σ H as)
    {H0 : Hp} (e0 : Ex H H0) {Q : VK} (hs : ∀ vs H1, Ex H0 H1 → ArAll X.K H1 vs as → sp vs H1 Q E0) (hj : j ≤ k := by decide)
    (hg : Gl X x := by rfl) (hdb : (x == ("__debug__" : Str)) = false := by decide) (he : starEach (e :: es) X.env = (false, eval e X.env) :: starEach es X.env := by rfl) (hpl : (backTo pos (starEach es X.env)).any (·.1) = false := by rfl) :
    tSem X (.Call (.Name x p) (e :: es) [] pos) σ H0 Q := by
  obtain ⟨f, fd, F, kp, hb, hm⟩ := G.ex
  intro pins s I0
  refine wpAny_Call_Name_kw (ld_glob I0 hg hm ?_ hdb)
  refine PySem.W.callWith_K (h₀ := X.base) I0.ok.mod.kin kp (thn ((pa_sem (X := X) (es := e :: es)).run pos pins s σ H0 _ I0 (ha H0 e0 (fun vs H1 => sp vs H1 Q E0) fun vs H1 e1 hvs => hs vs H1 e1 hvs)) fun us s1 ⟨vs, H1, I1, r, q⟩ => ⟨I1.kIn, ?_⟩) he hpl
  have ln : us.length = ps.length := by rw [← r.length]; exact F.ln _ _ _ _ q
  have bt : BindsTo s1 fd ⟨us, []⟩ (ps.zip us) := by
    have := hb s1 us I1.kIn (by rw [List.append_nil]; exact ln)
    rw [List.append_nil] at this
    exact this
  refine wpAny_call (codeAny_mono (F.go X.A X.stack s1 H1 ⟨us, []⟩ us vs Q E0 hgd (hr.mono hj) I1.env0 bt r q) fun res s' hq => ?_)
  cases res with
  | error er => exact pass0 pins σ H1 s1 er s' I1 hq
  | ok fl =>
    cases fl with
    | ret u => exact I1.after hq
    | next => exact hq.elim
    | brk => exact hq.elim
    | cont => exact hq.elim
/-! ### repr -/
def rReprD (K : PySem.W.Frag) : List V → Hp → VK → Prop := fun xs H Q => ∃ v d, xs = [v] ∧ Dp K H v d ∧ SeqAt.shaped d = true ∧ d.showable = true ∧ d.hasDict = false ∧ d.shown.length ≤ sizeLine ∧ (∃ a, v = .ref a) ∧ Q (.str d.shown) H
theorem call_reprD (hgd : X.A.guards = some []) (hu : X.A.units + 100 < cLine) : CallR X (.builtin "repr") (rReprD X.K) := by
  intro pins s σ H xs us Q I r h
  obtain ⟨v, d, rfl, hd, hsh, hs, hdi, hz, ⟨a, rfl⟩, q⟩ := h
  obtain ⟨u, rfl, ru⟩ := vals1 r
  obtain rfl : u = Value.ref a := ru
  obtain ⟨ads, rd⟩ := Dp.reads I d _ _ hd rfl
  have hdp : d.depth ≤ 64 := by
    have h2 : (PyData.canLay0 d && decide (PyData.depth d ≤ 64)) = true := hsh
    rw [Bool.and_eq_true] at h2
    exact of_decide_eq_true h2.2
  exact repr_of_reads' rd hs (fun z => by rw [hdi] at z; cases z) hgd (by omega) (fun _ _ z => z) (fun h' t tk kp => ⟨.str d.shown, H, I.kept kp, ⟨t, rfl⟩, q⟩) hz
theorem ee_repr (hgd : X.A.guards = some []) (hu : X.A.units + 100 < cLine) (hm : X.mg "repr" = none) (ha : EvE X e σ H d) (hseq : ∀ v H1, Dp X.K H1 v d → ∃ a, v = .ref a) (h1 : SeqAt.shaped d = true) (h2 : d.showable = true) (h3 : d.hasDict = false) (h4 : d.shown.length ≤ sizeLine)
    (hg : Gl X "repr" := by rfl) (s1 : starEach [e] X.env = (false, eval e X.env) :: starEach [] X.env := by rfl) : EvE X (.Call (.Name "repr" p) [e] [] pos) σ H (.str d.shown) :=
  ee_B (call_reprD hgd hu) hm (ea_cons ha ea_nil s1) (fun vs H1 _ hvs Q q => by
    obtain ⟨v, rfl, h⟩ := dps1 hvs
    exact ⟨v, d, rfl, h, h1, h2, h3, h4, hseq v H1 h, q _ H1 (Ex.refl _) (.str _)⟩) hg (he := s1)
end
/-- the end: the top's law, where no guard stands around -/
theorem law_runs {P : Program} {w : World} {K : PySem.W.Frag} {mg mb : Str → Option Value} {k : Nat} {fa a : Addr} {fd : FuncData} {x : Str} {sp : Sp} {t : Shared} {its : List Value} {ns : List Int}
    (KX : K.In t.heap) (hns : t.heap.Ns mainGlobals mg) (hbn : t.heap.Ns builtinsNs mb) (hbb : ∀ x : Str, x ≠ "__name__" → mb x = bootBuiltins x) (hlim : t.heap.NoLimit) (hgen : t.gens = #[])
    (ha : t.heap.get? a = some { cls := .type "list", data := .seq its.toArray }) (hi : IntsAre its ns) (hl : ns.length ≤ sizeLine) (hr : Room k callerA)
    (F : ∀ base : Heap, K.In base → base.Ns mainGlobals mg → GOk P w K mg base k fa fd [x] sp) (hbind : ∀ (s : Shared) (u : Value), BindsTo s fd ⟨[u], []⟩ [(x, u)])
    (hsp : ∀ H : Hp, SqL K H a (ns.map V.int) → sp [.ref a] H (fun v _ => v = .bl true) fun _ _ _ => False) :
    codeAny (model P w) callerA (.call (.ref fa) ⟨[.ref a], []⟩) (fun r t' => r = .ok (.ret (.bool true)) ∧ OldK t.heap t'.heap ∧ t'.os = t.os ∧ AllBare t'.gens) t := by
  have vi := vals_ints hi
  have li := hi.length
  have main : ∀ H : Hp, (∀ b, H b = none ∨ ∃ ob ys, H b = some (.frz ob (.lst ys))) → SqL K H a (ns.map V.int) → HOk P w H t.heap → (∀ b, H b ≠ none → b = a ∧ K.lookup a = none) →
      codeAny (model P w) callerA (.call (.ref fa) ⟨[.ref a], []⟩) (fun r t' => r = .ok (.ret (.bool true)) ∧ OldK t.heap t'.heap ∧ t'.os = t.os ∧ AllBare t'.gens) t := by
    intro H hO hS hok hA
    have back : ∀ {c : Addr} {o : Obj}, t.heap.get? c = some o → H c = none → (hidT t.heap H).get? c = some o := fun z n => hidT_get z n
    have dictFree : ∀ {c : Addr} {o : Obj} {es : Array DictEntry} {ep : Nat}, t.heap.get? c = some o → o.data = .dict es ep → H c = none := fun {c o es ep} z dz => by
      refine Classical.byContradiction fun n => ?_
      have ec := (hA c n).1
      rw [ec, ha] at z
      cases z
      cases (show Data.seq its.toArray _ = Data.dict es ep from dz)
    have nsB : ∀ {c : Addr} {m : Str → Option Value}, t.heap.Ns c m → (hidT t.heap H).Ns c m := fun {c m} n => by
      obtain ⟨o, es, ep, z, dz, rest⟩ := n
      exact ⟨o, es, ep, back z (dictFree z dz), dz, rest⟩
    have inB : K.In (hidT t.heap H) := fun c o z => back (KX c o z) (Classical.byContradiction fun n => by
      obtain ⟨ec, ek⟩ := hA c n
      rw [ec, ek] at z
      cases z)
    obtain ⟨mc, lm1, lm2⟩ := hlim
    have md : Mod K mg (hidT t.heap H) := ⟨inB, nsB hns, ⟨mb, nsB hbn, hbb⟩, mc, nsB lm1, lm2⟩
    have en : Env0 P w K mg (hidT t.heap H) callerA [] t H := ⟨rfl, md, fun c o z => of_hidT z, Nat.le_of_eq (hidT_size _ _), trivial, (fun c z => by cases z), hok, .of_eq hgen⟩
    refine codeAny_mono ((F _ inB (nsB hns)).go callerA [] t H ⟨[.ref a], []⟩ [.ref a] [.ref a] _ _ rfl hr en (hbind t (.ref a)) (.cons rfl .nil) (hsp H hS)) fun res t' z => ?_
    cases res with
    | error e => exact False.elim z
    | ok fl =>
      cases fl with
      | ret u =>
        obtain ⟨v, H', z1, z2, un, hok', rvu, qv⟩ := z
        obtain rfl : v = .bl true := qv
        obtain rfl : u = Value.bool true := rvu
        refine ⟨rfl, OldK.of_keep fun c o ec => ?_, z1, z2⟩
        rcases hO c with n | ⟨ob, ys, n⟩
        · exact un.keep c o ec n (by intro y; cases y) (by simp)
        · have n2 := un.frzs c ob _ n
          have g1 := (hok c _ n).1
          have g2 := (hok' c _ n2).1
          rw [ec] at g1
          cases g1
          exact g2
      | next => exact False.elim z
      | brk => exact False.elim z
      | cont => exact False.elim z
  cases hk : K.lookup a with
  | some o =>
    have z := KX a o hk
    rw [ha] at z
    cases z
    exact main (fun _ => none) (fun _ => .inl rfl) (.inr ⟨_, its.toArray, _, hk, rfl, rfl, rfl, by rw [List.size_toArray, li]; exact hl, by simpa using vi⟩) (fun c u n => by cases (show (none : Option HO) = some u from n)) fun c n => absurd rfl n
  | none =>
    have at_ : ∀ c, c ≠ a → (if c = a then some (HO.frz { cls := .type "list", data := .seq its.toArray } (.lst (ns.map V.int))) else none) = none := fun c n => if_neg n
    refine main (fun c => if c = a then some (.frz { cls := .type "list", data := .seq its.toArray } (.lst (ns.map V.int))) else none) (fun c => ?_) (.inl (.inr ⟨{ cls := .type "list", data := .seq its.toArray }, if_pos rfl⟩)) (fun c u n => ?_) fun c n => ⟨Classical.byContradiction fun m => n (at_ c m), hk⟩
    · rcases Classical.em (c = a) with h | h
      · exact .inr ⟨_, _, if_pos h⟩
      · exact .inl (if_neg h)
    · rcases Classical.em (c = a) with h | h
      · subst h
        have n' := (if_pos rfl).symm.trans n
        cases n'
        exact ⟨ha, by rw [List.length_map]; exact hl, its, _, vi, ha⟩
      · have n' := (at_ c h).symm.trans n
        cases n'
end K30
/-! Data that repr tells: its shape, its length; the bounds of a job's usages. -/
namespace K30
open PySem PySem.Spec PyProof.Rows L2 Evl RZ
open K30m (Job Pf lrows lrowsS val Sys Iso Reach IsPf maskS)
structure Rp (d : D) (w dp : Nat) : Prop where
  lay : PyData.canLay0 d = true
  dep : PyData.depth d ≤ dp
  sh : PyData.showable d = true
  nd : PyData.hasDict d = false
  sht : PyData.leavesShort 80 d = true
  blk : PyData.bulk d ≤ w
structure RpA (ds : List D) (w dp : Nat) : Prop where
  lay : PyData.canLayAll0 ds = true
  dep : PyData.depthAll ds ≤ dp
  sh : PyData.showableAll ds = true
  nd : PyData.hasDictAll ds = false
  sht : PyData.leavesShortAll 80 ds = true
  blk : PyData.bulkAll ds ≤ w
theorem rpa_nil (w dp : Nat) : RpA [] w dp := ⟨rfl, Nat.zero_le _, rfl, rfl, rfl, Nat.zero_le _⟩
theorem rpa_cons {d : D} {ds : List D} {w w' dp : Nat} (h : Rp d w dp) (r : RpA ds w' dp) : RpA (d :: ds) (w + 1 + w') dp where
  lay := by simp only [PyData.canLayAll0, h.lay, r.lay, Bool.and_self]
  dep := by simp only [PyData.depthAll]; have := h.dep; have := r.dep; omega
  sh := by simp only [PyData.showableAll, h.sh, r.sh, Bool.and_self]
  nd := by simp only [PyData.hasDictAll, h.nd, r.nd, Bool.or_self]
  sht := by simp only [PyData.leavesShortAll, h.sht, r.sht, Bool.and_self]
  blk := by simp only [PyData.bulkAll]; have := h.blk; have := r.blk; omega
theorem rp_tup {ds : List D} {w dp : Nat} (r : RpA ds w dp) : Rp (.tuple ds) w (dp + 1) where
  lay := by simp only [PyData.canLay0]; exact r.lay
  dep := by simp only [PyData.depth]; have := r.dep; omega
  sh := by simp only [PyData.showable]; exact r.sh
  nd := by simp only [PyData.hasDict]; exact r.nd
  sht := by simp only [PyData.leavesShort]; exact r.sht
  blk := by simp only [PyData.bulk]; exact r.blk
theorem rp_lst {ds : List D} {w dp : Nat} (r : RpA ds w dp) : Rp (.list ds) w (dp + 1) where
  lay := by simp only [PyData.canLay0]; exact r.lay
  dep := by simp only [PyData.depth]; have := r.dep; omega
  sh := by simp only [PyData.showable]; exact r.sh
  nd := by simp only [PyData.hasDict]; exact r.nd
  sht := by simp only [PyData.leavesShort]; exact r.sht
  blk := by simp only [PyData.bulk]; exact r.blk
theorem Rp.mono {d : D} {w w' dp dp' : Nat} (h : Rp d w dp) (h1 : w ≤ w') (h2 : dp ≤ dp') : Rp d w' dp' := ⟨h.lay, Nat.le_trans h.dep h2, h.sh, h.nd, h.sht, Nat.le_trans h.blk h1⟩
theorem RpA.mono {d : List D} {w w' dp dp' : Nat} (h : RpA d w dp) (h1 : w ≤ w') (h2 : dp ≤ dp') : RpA d w' dp' := ⟨h.lay, Nat.le_trans h.dep h2, h.sh, h.nd, h.sht, Nat.le_trans h.blk h1⟩
theorem rp_int {i : Int} (h : -(10 ^ 70) < i ∧ i < 10 ^ 70) (dp : Nat) : Rp (.int i) 0 dp := by
  have hn : i.natAbs < 10 ^ 70 := by omega
  have hlog : i.natAbs.log2 < 1920 := by
    by_cases h0 : i.natAbs = 0
    · rw [h0]; decide
    · refine (Nat.log2_lt h0).mpr (Nat.lt_of_lt_of_le hn ?_)
      exact Nat.le_of_ble_eq_true (by decide +kernel)
  refine ⟨by simp only [PyData.canLay0], by simp only [PyData.depth]; exact Nat.zero_le _, by simp only [PyData.showable]; exact decide_eq_true hlog, by simp only [PyData.hasDict], ?_, by simp only [PyData.bulk]; exact Nat.le_refl _⟩
  simp only [PyData.leavesShort, PyData.shown]
  refine decide_eq_true ?_
  have h1 := int_text_length_le10 (k := 70) (by decide) hn
  have h2 := PySem.ofString_length (toString i)
  show (Str.ofString (toString i)).length ≤ 80
  omega
theorem rp_str {x : Str} (h1 : PyData.canLay0 (.str x) = true) (h2 : PyData.leavesShort 80 (.str x) = true) {w : Nat} (h3 : PyData.bulk (.str x) ≤ w) (dp : Nat) : Rp (.str x) w dp :=
  ⟨h1, by simp only [PyData.depth]; exact Nat.zero_le _, by simp only [PyData.showable], by simp only [PyData.hasDict], h2, h3⟩
theorem rp_seq (dp : Nat) : Rp (.str "seq") 6 dp := rp_str (by decide +kernel) (by decide +kernel) (by decide +kernel) dp
theorem rp_par (dp : Nat) : Rp (.str "par") 6 dp := rp_str (by decide +kernel) (by decide +kernel) (by decide +kernel) dp
theorem rp_repeat (dp : Nat) : Rp (.str "repeat") 6 dp := rp_str (by decide +kernel) (by decide +kernel) (by decide +kernel) dp
theorem rp_copies (dp : Nat) : Rp (.str "copies") 6 dp := rp_str (by decide +kernel) (by decide +kernel) (by decide +kernel) dp
/-- a new shape is told in full by repr -/
theorem Rp.fits {d : D} {w : Nat} (h : Rp d w 64) (hw : w ≤ 100000) : SeqAt.shaped d = true ∧ d.showable = true ∧ d.hasDict = false ∧ d.shown.length ≤ sizeLine := by
  refine ⟨?_, h.sh, h.nd, ?_⟩
  · show (PyData.canLay0 d && decide (PyData.depth d ≤ 64)) = true
    rw [h.lay, decide_eq_true h.dep]; rfl
  · have h1 := PyData.shown_le_bulk 80 (by decide) d h.sht
    have h2 := h.blk
    have h3 : sizeLine = 16777216 := by decide
    omega
theorem w30 {i : Int} (h : -(10 ^ 30) ≤ i ∧ i ≤ 10 ^ 30) : -(10 ^ 70) < i ∧ i < 10 ^ 70 := by omega
mutual
  theorem rp_enc : ∀ j : Job, okJ j → Rp (enc j) (20 * nodes j - 1) (2 * depth j)
    | .step v, h => (rp_int (w30 h) _).mono (Nat.zero_le _) (Nat.le_refl _)
    | .seq ps, h => by
      have r := rp_encs ps h
      have hh := rp_tup (rpa_cons (rp_seq (2 * depthS ps + 1)) (rpa_cons (rp_tup r) (rpa_nil 0 (2 * depthS ps + 1))))
      have e1 : nodes (.seq ps) = 1 + nodesS ps := rfl
      have e2 : depth (.seq ps) = 1 + depthS ps := rfl
      exact hh.mono (by omega) (by omega)
    | .par ps, h => by
      have r := rp_encs ps h
      have hh := rp_tup (rpa_cons (rp_par (2 * depthS ps + 1)) (rpa_cons (rp_tup r) (rpa_nil 0 (2 * depthS ps + 1))))
      have e1 : nodes (.par ps) = 1 + nodesS ps := rfl
      have e2 : depth (.par ps) = 1 + depthS ps := rfl
      exact hh.mono (by omega) (by omega)
    | .rep n j, h => by
      have hn : n ≤ 1000 := h.1
      have r := rp_enc j h.2.2
      have hh := rp_tup (rpa_cons (rp_repeat (2 * depth j)) (rpa_cons (rp_int (i := (n : Nat)) ⟨by omega, by omega⟩ (2 * depth j)) (rpa_cons r (rpa_nil 0 (2 * depth j)))))
      have e1 : nodes (.rep n j) = 1 + nodes j := rfl
      have e2 : depth (.rep n j) = 1 + depth j := rfl
      exact hh.mono (by omega) (by omega)
    | .cop n j, h => by
      have hn : n ≤ 1000 := h.1
      have r := rp_enc j h.2.2
      have hh := rp_tup (rpa_cons (rp_copies (2 * depth j)) (rpa_cons (rp_int (i := (n : Nat)) ⟨by omega, by omega⟩ (2 * depth j)) (rpa_cons r (rpa_nil 0 (2 * depth j)))))
      have e1 : nodes (.cop n j) = 1 + nodes j := rfl
      have e2 : depth (.cop n j) = 1 + depth j := rfl
      exact hh.mono (by omega) (by omega)
  theorem rp_encs : ∀ js : List Job, okJs js → RpA (encs js) (20 * nodesS js) (2 * depthS js)
    | [], _ => rpa_nil _ _
    | j :: js, h => by
      have h1 := rp_enc j h.1
      have h2 := rp_encs js h.2
      have e1 : nodesS (j :: js) = nodes j + nodesS js := rfl
      have e2 : depthS (j :: js) = max (depth j) (depthS js) := rfl
      have hp : 1 ≤ nodes j := by cases j <;> simp [nodes]
      have hh := rpa_cons (h1.mono (Nat.le_refl _) (show 2 * depth j ≤ 2 * depthS (j :: js) by omega)) (h2.mono (Nat.le_refl _) (show 2 * depthS js ≤ 2 * depthS (j :: js) by omega))
      exact hh.mono (by omega) (Nat.le_refl _)
end
abbrev Bd (i : Int) : Prop := -(10 ^ 62) ≤ i ∧ i ≤ 10 ^ 62
theorem bd70 {i : Int} (h : Bd i) : -(10 ^ 70) < i ∧ i < 10 ^ 70 := by
  obtain ⟨a, b⟩ := h
  constructor <;> omega
theorem rp_prs : ∀ ps : List Pr, (∀ p ∈ ps, Bd p.1 ∧ Bd p.2) → RpA (ps.map pD) (3 * ps.length) 1
  | [], _ => rpa_nil _ _
  | p :: ps, h => by
    have h1 := h p List.mem_cons_self
    have hh := rpa_cons (rp_tup (rpa_cons (rp_int (bd70 h1.1) 0) (rpa_cons (rp_int (bd70 h1.2) 0) (rpa_nil 0 0)))) (rp_prs ps fun q hq => h q (List.mem_cons_of_mem _ hq))
    exact hh.mono (by rw [List.length_cons]; omega) (Nat.le_refl _)
/-- a profile within the bounds -/
structure BdP (p : Pf) : Prop where
  n : Bd p.n
  k : Bd p.k
  s : ∀ q ∈ p.s, Bd q.1 ∧ Bd q.2
  e : ∀ q ∈ p.e, Bd q.1 ∧ Bd q.2
  ls : p.s.length ≤ 400
  le : p.e.length ≤ 400
theorem rp_pf {p : Pf} (h : BdP p) : Rp (pfD p) 5000 64 := by
  have h1 := rp_tup (rp_prs p.s h.s)
  have h2 := rp_tup (rp_prs p.e h.e)
  have hh := rp_tup (rpa_cons (rp_int (bd70 h.n) 2) (rpa_cons (rp_int (bd70 h.k) 2) (rpa_cons h1 (rpa_cons h2 (rpa_nil 0 2)))))
  have := h.ls
  have := h.le
  exact hh.mono (by omega) (by omega)
theorem rp_opt {o : Option Int} (h : ∀ i, o = some i → Bd i) : Rp (optD o) 0 0 := by
  cases o with
  | none => exact ⟨rfl, Nat.le_refl _, rfl, rfl, rfl, Nat.le_refl _⟩
  | some i => exact rp_int (bd70 (h i rfl)) 0
/-! ### bounds of the usages -/
theorem val_bd (B : Nat) : ∀ (rs : List K30m.Row), (∀ r ∈ rs, -(B : Int) ≤ r.1 ∧ r.1 ≤ B) → ∀ k x, -((rs.length * B : Nat) : Int) ≤ val k rs x ∧ val k rs x ≤ ((rs.length * B : Nat) : Int)
  | [], _, k, x => by
    have e : val k [] x = 0 := rfl
    rw [e]
    simp
  | r :: rs, h, k, x => by
    have h1 := val_bd B rs (fun q hq => h q (List.mem_cons_of_mem _ hq)) (k + 1) x
    have h2 := h r List.mem_cons_self
    have e : val k (r :: rs) x = (if x.testBit k then r.1 else 0) + val (k + 1) rs x := rfl
    have e2 : (r :: rs).length * B = rs.length * B + B := by rw [List.length_cons, Nat.succ_mul]
    rw [e, e2]
    split <;> omega
theorem fold_val (f : List K30m.Row → List K30m.Row → List K30m.Row) (hf : ∀ a b v, v ∈ (f a b).map Prod.fst → v ∈ a.map Prod.fst ∨ v ∈ b.map Prod.fst) : ∀ (l : List (List K30m.Row)) (acc : List K30m.Row) (v : Int), v ∈ (l.foldl f acc).map Prod.fst → v ∈ acc.map Prod.fst ∨ ∃ x ∈ l, v ∈ x.map Prod.fst
  | [], acc, v, h => .inl h
  | x :: l, acc, v, h => by
    rcases fold_val f hf l (f acc x) v h with h1 | ⟨y, hy, h1⟩
    · rcases hf acc x v h1 with h2 | h2
      · exact .inl h2
      · exact .inr ⟨x, List.mem_cons_self, h2⟩
    · exact .inr ⟨y, List.mem_cons_of_mem _ hy, h1⟩
theorem rows_fst (a b : List K30m.Row) (m : Nat) : ∀ v, v ∈ (a ++ b.map (K30m.shR a.length m)).map Prod.fst → v ∈ a.map Prod.fst ∨ v ∈ b.map Prod.fst := fun v h => by
  rw [List.map_append, List.mem_append, List.map_map] at h
  exact h
mutual
  theorem lrows_bd : ∀ j : Job, okJ j → ∀ v ∈ (lrows j).map Prod.fst, -((10 ^ 30 : Nat) : Int) ≤ v ∧ v ≤ (10 ^ 30 : Nat)
    | .step v, h, u, hu => by
      have hu : u ∈ [v] := hu
      rw [List.mem_singleton.mp hu]
      exact ⟨by have := h.1; omega, by have := h.2; omega⟩
    | .seq ps, h, u, hu => by
      rcases fold_val K30m.seqRows (fun a b => rows_fst a b _) (lrowsS ps) [] u hu with h1 | ⟨x, hx, h1⟩
      · cases h1
      · exact lrowsS_bd ps h x hx u h1
    | .par ps, h, u, hu => by
      rcases fold_val K30m.parRows (fun a b => rows_fst a b _) (lrowsS ps) [] u hu with h1 | ⟨x, hx, h1⟩
      · cases h1
      · exact lrowsS_bd ps h x hx u h1
    | .rep n j, h, u, hu => by
      rcases fold_val K30m.seqRows (fun a b => rows_fst a b _) (List.replicate n (lrows j)) [] u hu with h1 | ⟨x, hx, h1⟩
      · cases h1
      · rw [List.eq_of_mem_replicate hx] at h1
        exact lrows_bd j h.2.2 u h1
    | .cop n j, h, u, hu => by
      rcases fold_val K30m.parRows (fun a b => rows_fst a b _) (List.replicate n (lrows j)) [] u hu with h1 | ⟨x, hx, h1⟩
      · cases h1
      · rw [List.eq_of_mem_replicate hx] at h1
        exact lrows_bd j h.2.2 u h1
  theorem lrowsS_bd : ∀ js : List Job, okJs js → ∀ x ∈ lrowsS js, ∀ v ∈ x.map Prod.fst, -((10 ^ 30 : Nat) : Int) ≤ v ∧ v ≤ (10 ^ 30 : Nat)
    | [], _, x, hx => by cases hx
    | j :: js, h, x, hx => by
      rcases List.mem_cons.mp hx with rfl | hx
      · exact lrows_bd j h.1
      · exact lrowsS_bd js h.2 x hx
end
theorem head_ge {D : List K30m.Pr} (h : K30m.Strict D) : ∀ q ∈ D, q.2 ≤ (K30m.hd D).2 := fun q hq => by
  cases D with
  | nil => cases hq
  | cons d D =>
    show q.2 ≤ d.2
    rcases List.mem_cons.mp hq with rfl | hq
    · exact Int.le_refl _
    · have := ((List.pairwise_cons.mp h).1 q hq).2
      omega
theorem Reach.all {A : Sys} {R B : Int} {a b : A.S} (h : Reach A R a b) (hB : ∀ x, A.u x ≤ B) : Reach A B a b := by
  induction h with
  | refl _ => exact .refl (hB _)
  | tail _ s _ ih => exact .tail ih s (hB _)
/-- all usages of a small job, and its profile, lie within 10^31 -/
theorem use_bd {j : Job} (ok : okJ j) (hst : (lrows j).length ≤ 10) : (∀ k x, -(10 ^ 31 : Int) ≤ val k (lrows j) x ∧ val k (lrows j) x ≤ 10 ^ 31) ∧ (∀ z : (K30m.jobS j).S, -(10 ^ 31 : Int) ≤ (K30m.jobS j).u z ∧ (K30m.jobS j).u z ≤ 10 ^ 31) := by
  have h1 : ∀ k x, -(10 ^ 31 : Int) ≤ val k (lrows j) x ∧ val k (lrows j) x ≤ 10 ^ 31 := fun k x => by
    have h := val_bd (10 ^ 30) (lrows j) (fun r hr => lrows_bd j ok r.1 (List.mem_map.mpr ⟨r, hr, rfl⟩)) k x
    have h2 : (lrows j).length * 10 ^ 30 ≤ 10 * 10 ^ 30 := Nat.mul_le_mul_right _ hst
    constructor <;> omega
  refine ⟨h1, fun z => ?_⟩
  obtain ⟨hw, _, ⟨i⟩⟩ := K30m.maskLat j
  have e := i.hu (i.g z)
  rw [i.fg] at e
  rw [e]
  exact h1 0 _
theorem prof_bd {j : Job} (ok : okJ j) (hst : (lrows j).length ≤ 10) (hn : nodes j ≤ 400) : BdP (profJ j) ∧ BdP (K30m.opP (profJ j)) ∧ (-(10 ^ 31 : Int) ≤ (profJ j).n ∧ (profJ j).n ≤ 10 ^ 31) ∧ (0 ≤ (profJ j).k ∧ (profJ j).k ≤ 10 ^ 31) := by
  obtain ⟨_, hu⟩ := use_bd ok hst
  obtain ⟨hp, l1, l2⟩ := prof_ok j
  have L := K30m.jobLat j
  generalize profJ j = p at hp l1 l2
  have hnn := hu (K30m.jobS j).top
  rw [← hp.net] at hnn
  have hk : p.k ≤ 10 ^ 31 := by
    obtain ⟨R, hR⟩ := L.here (K30m.jobS j).top
    exact hp.peak.least _ (Reach.all hR fun x => (hu x).2)
  have hf := hp.facts L
  obtain ⟨f1, f2, f3, f4, f5, f6, f7, f8, f9⟩ := hf
  have hs : ∀ q ∈ p.s, (0 ≤ q.1 ∧ q.1 ≤ 10 ^ 31) ∧ (-(10 ^ 31 : Int) ≤ q.2 ∧ q.2 ≤ 10 ^ 31) := fun q hq => by
    obtain ⟨z, h1, h2⟩ := hp.gs.sound q hq
    have h3 := h1.first
    rw [L.zero] at h3
    have h4 := (hu z).1
    have h5 := hp.vs.last_le q hq
    have h6 := head_ge hp.vs.2 q hq
    refine ⟨⟨h3, by omega⟩, by omega, by omega⟩
  have he : ∀ q ∈ p.e, (-(10 ^ 31 : Int) ≤ q.1 ∧ q.1 ≤ 10 ^ 31) ∧ (-(10 ^ 31 : Int) ≤ q.2 ∧ q.2 ≤ 10 ^ 31) := fun q hq => by
    obtain ⟨z, h1, h2⟩ := hp.ge.sound (q.1 + -p.n, q.2 + -p.n) (List.mem_map.mpr ⟨q, hq, rfl⟩)
    have h3 := h1.first
    have e1 : (K30m.op (K30m.jobS j)).u (K30m.op (K30m.jobS j)).bot = (K30m.jobS j).u (K30m.jobS j).top - (K30m.jobS j).u (K30m.jobS j).top := rfl
    have e2 : (K30m.op (K30m.jobS j)).u z = (K30m.jobS j).u z - (K30m.jobS j).u (K30m.jobS j).top := rfl
    rw [e1] at h3
    rw [e2, ← hp.net] at h2
    have h4 := (hu z).1
    have h5 := hp.ve.last_le q hq
    have h6 := head_ge hp.ve.2 q hq
    dsimp only at h2 h3
    refine ⟨⟨by omega, by omega⟩, by omega, by omega⟩
  refine ⟨⟨⟨by omega, by omega⟩, ⟨by omega, by omega⟩, fun q hq => ?_, fun q hq => ?_, by omega, by omega⟩, ⟨⟨?_, ?_⟩, ⟨?_, ?_⟩, fun q hq => ?_, fun q hq => ?_, ?_, ?_⟩, hnn, ⟨f6, hk⟩⟩
  · have := hs q hq
    exact ⟨⟨by omega, by omega⟩, by omega, by omega⟩
  · have := he q hq
    exact ⟨⟨by omega, by omega⟩, by omega, by omega⟩
  · show -(10 ^ 62) ≤ -p.n
    omega
  · show -p.n ≤ 10 ^ 62
    omega
  · show -(10 ^ 62) ≤ p.k - p.n
    omega
  · show p.k - p.n ≤ 10 ^ 62
    omega
  · obtain ⟨r, hr, rfl⟩ := List.mem_map.mp (show q ∈ K30m.mv p.e (-p.n) from hq)
    have := he r hr
    exact ⟨⟨by show -(10 ^ 62) ≤ r.1 + -p.n; omega, by show r.1 + -p.n ≤ 10 ^ 62; omega⟩, by show -(10 ^ 62) ≤ r.2 + -p.n; omega, by show r.2 + -p.n ≤ 10 ^ 62; omega⟩
  · obtain ⟨r, hr, rfl⟩ := List.mem_map.mp (show q ∈ K30m.mv p.s (-p.n) from hq)
    have := hs r hr
    exact ⟨⟨by show -(10 ^ 62) ≤ r.1 + -p.n; omega, by show r.1 + -p.n ≤ 10 ^ 62; omega⟩, by show -(10 ^ 62) ≤ r.2 + -p.n; omega, by show r.2 + -p.n ≤ 10 ^ 62; omega⟩
  · show (K30m.mv p.e (-p.n)).length ≤ 400
    unfold K30m.mv
    rw [List.length_map]
    omega
  · show (K30m.mv p.s (-p.n)).length ≤ 400
    unfold K30m.mv
    rw [List.length_map]
    omega
end K30
namespace K30
open PySem PySem.Spec PyProof.Rows L2 Evl RZ
section
variable {X : Cx} {elt tg o : Expr} {scope : Scope} {own : List (Str × Nat)} {σ : L2.St} {H : Hp} {Γ : List (Option Sl)} {pos apos cpos px : Pos} {x : Str} {l sa : Addr} {m : DM} {od : Obj} {us : Int → List (Nat × D)} {pw : Int → Prop}
/-- [drawn for v in d.values()], the dict locked -/
theorem lc_vals (hc : X.calm = true) (nd : X.N.Nodup) (ok : blkC X.N X.env.scope scope own = true) (hsr : SR X.K H σ Γ) (i : Nat) (hsrc : Src X.K H l) (hd : H sa = some (.frz od (.dK (dKv m)))) (hl : m.length ≤ 100000)
    (hg : AllB X scope fun B => ∀ v : Int, TgE B tg (.int v) (us v)) (hu : ∀ v : Int, ∀ u ∈ us v, u.1 ∈ own.map (·.2))
    (he : AllB X scope fun B => ∀ p ∈ m, EvM B elt (setsG (wipeG Γ (own.map (·.2))) (us p.2)) l (IntP pw))
    {Q : VK} (q : ∀ r ws H2, H r = none → (∀ w ∈ ws, pw w) → ws.length = m.length → Ch [l] H H2 → Src X.K H2 l → LsAt X.K H2 r (intsD ws) → Q (.ref r) H2)
    (hgi : Γ[i]? = some (some (.at sa)) := by rfl) (hN : X.N[i]? = some x := by rfl)
    (hvi : Vis X.env.scope x := by first | exact Or.inl rfl | exact Or.inr (Or.inl rfl) | exact Or.inr (Or.inr rfl)) (hdb : (x == ("__debug__" : Str)) = false := by decide) (hcd : (x == ("__classdict__" : Str)) = false := by decide)
    (hbase : attributeBase (.Name x px) "values" X.env (eval (.Name x px) X.env) = eval (.Name x px) X.env := by rfl) (hline : (apos.endLine == cpos.line) = true := by rfl)
    (hs : ∀ y, foldedSetIterable (.Call (.Attribute (.Name x px) "values" apos) [] [] cpos) X.env y = pure y := by intro _; rfl) :
    tSem X (.ListComp elt [⟨tg, .Call (.Attribute (.Name x px) "values" apos) [] [] cpos, [], 0⟩] scope pos) σ H Q := by
  have hsl : sa ≠ l := fun z => by
    obtain ⟨_, _, _, ws, w, _⟩ := hsrc
    rw [z, w] at hd
    cases hd
  refine of_pe (pe_lc (tt := tYes) (te := fun σ H Q => AllB X scope fun B => tSem B elt σ H Q) (g := fun v σ H Q => AllB X scope fun B => tSemG B tg v σ H Q) hc nd (pi_values (pe_var hN hvi hdb hcd) hbase hline) (blkOk_by ok)
    (fun s H C cl fp => ⟨fun pins s' σ H' v u Q I r h => h s H C cl fp pins s' u I r⟩) (fun _ _ _ _ _ => pts_nil) (fun s H C cl fp => ⟨fun pins s' σ H' Q I h => h s H C cl fp pins s' I⟩) hs) ⟨_, hsr.get_at hgi, sa, od, dKv m, rfl, hd, ?_⟩
  intro L hL
  have hLl : L ≠ l := fun z => by
    obtain ⟨_, _, _, ws, w, _⟩ := hsrc
    rw [z, w] at hL
    cases hL
  have hLs : L ≠ sa := fun z => by rw [z, hd] at hL; cases hL
  have klen : (dKv m).length = m.length := by unfold dKv; rw [List.length_map]
  refine lc_it (g := fun v σ H Q => AllB X scope fun B => tSemG B tg v σ H Q) (tt := tYes) (te := fun σ H Q => AllB X scope fun B => tSem B elt σ H Q) (vs := own.map (·.2)) (σ := σ) (Qd := fun H => Q (.ref L) H) walk_values
    (fun i Hc => Ch [l] H Hc ∧ Src X.K Hc l ∧ ∃ ws : List Int, Hc L = some (.lst (ws.map V.int)) ∧ ws.length = i ∧ ∀ w ∈ ws, pw w) ⟨.ex (Ex.new hL), hsrc.ex (Ex.new hL), [], upd_same, rfl, fun w hw => by cases hw⟩
    (fun i Hc _ p => p.1 _ _ (by simp [hsl]) hd) (fun i v Hc H' hi p y => ?_) (fun Hc p => ?_)
  · obtain ⟨p1, p2, ws, p3, p4, p5⟩ := p
    obtain ⟨rfl, k, hk⟩ := y
    unfold dKv at hk
    rw [List.getElem?_map] at hk
    obtain ⟨pr, hpr, e⟩ := Option.map_eq_some_iff.mp hk
    have e2 : V.int pr.2 = v := (Prod.ext_iff.mp e).2
    subst e2
    have hm : pr ∈ m := List.mem_of_getElem? hpr
    have t0 : TX H H' := hsrc.tx p1
    intro s0 H0 C0 cl0 fp0
    refine hg s0 H0 C0 cl0 fp0 pr.2 (V.int pr.2) _ H' _ _ ((hsr.tx t0).wipe _) (.int _) rfl fun σ2 hs2 hw => ⟨?_, ?_⟩
    · rw [hw _ (hu pr.2)]
      exact wipe_eq (L2.wipe_length _ _) fun j hj => by rw [wipe_get, if_neg hj]
    · unfold tYes
      dsimp only
      rw [if_pos rfl]
      intro s1 H1 C1 cl1 fp1
      refine he s1 H1 C1 cl1 fp1 pr hm σ2 H' hs2 p2 _ fun y d H4 hd4 hy hn c4 s4 => ?_
      obtain ⟨z, rfl, hz⟩ := hd4
      have hL4 := c4 _ _ (by simp [hLl]) p3
      rw [dp_int hy]
      have tx : TX H4 (upd H4 L (.lst (ws.map V.int ++ [.int z]))) := TX.upd hL4 trivial
      refine ⟨ws.map V.int, hL4, sz_lt (by rw [List.length_map, p4]; omega), (fun b ob hb ho => ?_), s4.keep (S := [L]) (Ch.upd List.mem_cons_self) tx (by simp [Ne.symm hLl]), ws ++ [z], by rw [upd_same, List.map_append]; rfl, by rw [List.length_append, List.length_singleton, p4], fun w hw => ?_⟩
      · have hbL : b ≠ L := fun z => by rw [z, hL] at ho; cases ho
        rw [upd_ne hbL]
        exact c4 b ob hb (p1 b ob hb ho)
      · rcases List.mem_append.mp hw with h | h
        · exact p5 w h
        · rw [List.mem_singleton.mp h]; exact hz
  · obtain ⟨p1, p2, ws, p3, p4, p5⟩ := p
    exact q L ws Hc hL p5 (by rw [p4, klen]) p1 p2 ⟨ws.map V.int, p3, dps_of_int ws⟩
end
end K30
namespace K30
open PySem PySem.Spec PyProof.Rows L2 Evl RZ
open K30m (Job Pf desc Cl WF full lrows opP)
theorem ar3 {K : PySem.W.Frag} {H : Hp} {vs : List V} {a b c : Arg} (h : ArAll K H vs [a, b, c]) : ∃ v1 v2 v3, vs = [v1, v2, v3] ∧ ArV K H v1 a ∧ ArV K H v2 b ∧ ArV K H v3 c := by
  cases h with
  | cons h1 r =>
    cases r with
    | cons h2 r =>
      cases r with
      | cons h3 r =>
        cases r
        exact ⟨_, _, _, rfl, h1, h2, h3⟩
/-- name = [..] over a dict's keys, the dict locked meanwhile -/
theorem do_setLcD {X : Cx} {tg iter elt : Expr} {ifs : List Expr} {scope : Scope} {own : List (Str × Nat)} {σ : L2.St} {H : Hp} {ds : List D} {Γ : List (Option Sl)} {pos spos : Pos} {rest : List Stmt} {De : Ends} {y : Str} {py : Pos} {sa : Addr} {m : DM} (hc : X.calm = true) (nd : X.N.Nodup) (i : Nat) (hsr : SR X.K H σ Γ)
    (hd : H sa = some (.dK (dKv m))) (hn : noLs ds = true) (h : ∀ od, LcP X elt tg iter ifs scope own σ (upd H sa (.frz od (.dK (dKv m)))) ds)
    (k : ∀ p vs σ1 H1, H p = none → Ex H H1 → H1 p = some (.lst vs) → DpAll X.K H1 vs ds → SR X.K H1 σ1 (Γ.set i (some (.at p))) → Do X rest De σ1 H1)
    (hy : X.N[i]? = some y := by rfl) (hyl : X.env.scope.names.lookup y = some .local := by rfl)
    (hsw : swapsWith (.ListComp elt [⟨tg, iter, ifs, 0⟩] scope pos) (some (.Name y py)) spos.line X.env = pure true := by rfl) (hs : ∀ x, foldedSetIterable iter X.env x = pure x := by intro _; rfl) :
    Do X (.Assign [.Name y py] (.ListComp elt [⟨tg, iter, ifs, 0⟩] scope pos) spos :: rest) De σ H :=
  do_lock hd trivial fun od => by
    obtain ⟨wi, g, tt, te, hi, ok, hg, ht, he, hh⟩ := h od
    refine of_ps (ps_setLc hc nd hy hyl hsw hi ok hg ht he hs) (hh _ (Ex.refl _) _ fun p vs H2 hp e2 h2 hd2 => ?_)
    have hl2 : H2 sa = some (.frz od (.dK (dKv m))) := e2 _ _ upd_same
    have hps : p ≠ sa := fun z => by rw [z, upd_same] at hp; cases hp
    have tx : TX H2 (upd H2 sa (.dK (dKv m))) := TX.upd hl2 trivial
    have ex : Ex H (upd H2 sa (.dK (dKv m))) := fun b o hb => by
      by_cases hbs : b = sa
      · subst hbs
        rw [upd_same]
        rw [hd] at hb
        exact hb
      · rw [upd_ne hbs]
        exact e2 _ _ (by rw [upd_ne hbs]; exact hb)
    exact ⟨hl2, k p vs _ _ (by rw [upd_ne hps] at hp; exact hp) ex (by rw [upd_ne hps]; exact h2) (dps_tx tx _ _ hn hd2) ((hsr.ex ex).set_at i)⟩
/-- min(xs) if xs != [] else None -/
theorem ee_minO {X : Cx} {σ : L2.St} {H : Hp} {Γ : List (Option Sl)} {pos p1 p2 p3 p4 p5 p6 : Pos} {x : Str} {l : Addr} {F : List Int} {kk} (hc : X.calm = true) (hu : X.A.units + 64 < cLine) (hm : X.mg "min" = none) (hs : SR X.K H σ Γ) (i : Nat) (la : LsAt X.K H l (intsD F))
    (hgi : Γ[i]? = some (some (.at l)) := by rfl) (hN : X.N[i]? = some x := by rfl) (hv : Vis X.env.scope x := by first | exact Or.inl rfl | exact Or.inr (Or.inl rfl) | exact Or.inr (Or.inr rfl)) (hd : (x == ("__debug__" : Str)) = false := by decide) (hcd : (x == ("__classdict__" : Str)) = false := by decide)
    (hg : Gl X "min" := by rfl) (s1 : starEach [.Name x p2] X.env = (false, eval (.Name x p2) X.env) :: starEach [] X.env := by rfl) :
    EvE X (.IfExp (.Compare (.Name x p1) [.NotEq] [.List [] p3] p4) (.Call (.Name "min" p5) [.Name x p2] [] p6) (.Constant .none kk pos) p1) σ H (optD (lowO F)) :=
  ee_if (.of_eq (et_neD hu (ep_slot hs i la hgi hN hv hd hcd).ev (en_lst ea_nil).ev (shaped_ints _) rfl) (by rw [eqv_ints])) (fun hb => by
    cases F with
    | nil => cases hb
    | cons f0 fs => exact ee_minL hc hm (ep_slot hs i la hgi hN hv hd hcd).ev hg s1) fun hb => by
    cases F with
    | nil => exact ee_non
    | cons f0 fs => cases hb
theorem low_of (m : DM) (g : Nat → Int) (R : Int) : ((m.filter fun p => decide (g p.1 ≤ R)).map fun p => PyData.int p.2) = intsD (lowI (m.map fun p => (g p.1, p.2)) R) := by
  unfold lowI intsD
  rw [List.filter_map, List.map_map, List.map_map]
  rfl
theorem low_bd {m : DM} {g : Nat → Int} {R : Int} (h : ∀ p ∈ m, Bd p.2) : ∀ i, lowO (lowI (m.map fun p => (g p.1, p.2)) R) = some i → Bd i := fun i hi => by
  unfold lowO at hi
  by_cases hn : lowI (m.map fun p => (g p.1, p.2)) R = []
  · rw [if_pos hn] at hi; cases hi
  · rw [if_neg hn] at hi
    cases hi
    have hm := (minI_mem hn).1
    generalize minI (lowI (m.map fun p => (g p.1, p.2)) R) = v at hm
    unfold lowI at hm
    obtain ⟨q, hq, rfl⟩ := List.mem_map.mp hm
    obtain ⟨p, hp, rfl⟩ := List.mem_map.mp (List.mem_filter.mp hq).1
    exact h p hp
def spLR (K : PySem.W.Frag) : Sp := fun vs H Q _ => ∃ (j : Job) (l : Addr), RichJ j ∧ ArAll K H vs [.at l, .d (enc j), .d (pfD (profJ j))] ∧ Src K H l ∧ ∀ H', Ch [l] H H' → Src K H' l → Q (.bl true) H'
abbrev wB (w : Int) : Prop := -(10 ^ 32) ≤ w ∧ w ≤ 10 ^ 32
section
variable {P : Program} {w : World} {K : PySem.W.Frag} {mg : Str → Option Value} {base : Heap} (T : Tops K mg)
include T
theorem f_law_lows_right : FnG P w K mg base 60 "_law_lows_right" ["_law_source_here", "_law_job_here", "_law_value"] (spLR K) :=
  fng_ok (k := 59) T.d_law_lows_right sc_law_lows_right hb_law_lows_right (fun vs H Q E h => by
    obtain ⟨j, l, _, ha, _⟩ := h
    rw [arall_length ha]
    rfl) fun f cdv A outer s H vs Q E hgd hr h => by
    obtain ⟨j, l, rj, ha, hsrc, q⟩ := h
    obtain ⟨v1, v2, v3, rfl, h1, h2, h3⟩ := ar3 ha
    have h1 : v1 = .ref l := h1
    have h2 : Dp K H v2 (enc j) := h2
    have h3 : Dp K H v3 (pfD (profJ j)) := h3
    subst h1
    have hu := hr.units
    have hu2 : (A.deeper (envOfC "_law_lows_right" (defScope s_law_lows_right) s.heap.objs.size f cdv)).units + 100 < cLine := by
      have := hr.un
      omega
    have okm : okM j 13 := ⟨rj.dp, by decide, rj.ok, rj.nd, by have := rj.st; omega⟩
    have rlen : (lrows j).length = steps j := lrows_len j
    have hst10 : (lrows j).length ≤ 10 := by have := rj.st; omega
    obtain ⟨bp, _, hn31, hk31⟩ := prof_bd rj.ok hst10 rj.nd
    obtain ⟨hval, _⟩ := use_bd rj.ok hst10
    have hs : SR K H (start n_law_lows_right [.ref l, v2, v3]) [some (.at l), some (.py (enc j)), some (.py (pfD (profJ j))), none, none, none, none, none, none, none, none, none, none, none, none] := .at (.py h2 (enc_nol j) (.py h3 (pfD_nol _) (.no (.no (.no (.no (.no (.no (.no (.no (.no (.no (.no (.no .nil))))))))))))))
    refine do_asgN sc_law_lows_right.nd 3 hs (ds := []) (en_lst ea_nil) fun ra vs1 σ1 H1 hra e1 h1 hd1 hs1 => ?_
    have nlr : l ≠ ra := fun z => by
      obtain ⟨_, _, _, ws, w, _⟩ := hsrc
      rw [z, hra] at w
      cases w
    refine do_exprS (ee_callR (as := [.d (enc j), .at ra, .d (.int ((0 : Nat) : Int)), .d (.tuple (natsD []))]) (f_law_rows T 13) hr (er_cons (EvE.v (ev hs1 1)) (er_cons (evAt hs1 3) (er_cons (EvE.v ee_int) (er_cons (EvE.v (ee_tup ea_nil)) er_nil)))) (Ex.refl _) fun vs2 H2 e2 hvs2 => ?_)
    refine ⟨j, ra, [], 0, [], ⟨rj.dp, by have := rj.nd; omega, okJ_cnt j rj.ok, by rw [List.length_nil]; omega, by rw [List.length_nil]; have := rj.dp; omega⟩, hvs2, (lsat_nil h1 hd1).ex e2, fun v3 H3 c3 la3 hv3 => ?_⟩
    have c13 : Ch [ra] H1 H3 := (Ch.ex e2).trans c3
    have t13 : TX H1 H3 := c13.tx (nt1 h1)
    have e03 : Ex H H3 := Ex.over e1 (no1 hra) c13
    obtain ⟨rt1, rt2⟩ := rows_top j
    have hs3 := hs1.tx t13
    generalize (rowsF j [] 0 []).1 = rows at la3 rt1
    have rl : rows.length = (lrows j).length := by rw [← rt1, List.length_map]
    obtain ⟨hw, ⟨L⟩, ⟨iso⟩⟩ := K30m.maskLat j
    have hL : ∃ hw : WF (rows.map two2), Nonempty (K30m.Lat (K30m.maskS _ hw)) := by rw [rt1]; exact ⟨hw, ⟨L⟩⟩
    have hF : few (rows.map two2) := by rw [rt1]; exact few_short hst10
    refine do_asgF sc_law_lows_right.nd 4 hs3 (ef_call (f_law_states T) hr rows (er_cons (EvP.v (ep_slot hs3 3 la3)) er_nil) ⟨by rw [rt1]; exact hw, hF, by omega⟩) fun sa σ4 H4 hsa e4 h4 hs4 => ?_
    have la4 := la3.ex e4
    refine do_parC rfl sc_law_lows_right.nd hs4 (ef_callQ (f_law_reached T) hr (er_cons (EvP.v (ep_slot hs4 3 la4)) (er_cons (evAt hs4 4) er_nil)) hL hF (by omega) h4) (ef_callQ (f_law_completed T) hr (er_cons (EvP.v (ep_slot hs4 3 la4)) (er_cons (evAt hs4 4) er_nil)) hL hF (by omega) h4) 5 6 fun pa ca σ5 H5 hpa hca npc e5 h5 h5' hs5 => ?_
    have h5s := e5 _ _ h4
    rw [rl, rt1] at h5 h5'
    rw [rt1] at h5s h4
    obtain ⟨F, hk⟩ := states_ok hw
    obtain ⟨r1, r2, r3⟩ := reach_ok hw F hk L
    obtain ⟨c1, c2, c3'⟩ := comp_ok hw F hk L
    obtain ⟨b1, b2, b3, b4⟩ := brute_ok hw L iso (prof_ok j).1
    have hml := few_len (few_short hst10) F
    have hvB : ∀ p ∈ statesD (lrows j), -(10 ^ 31 : Int) ≤ p.2 ∧ p.2 ≤ 10 ^ 31 := fun p hp => by
      rw [(F.cl p hp).2]
      exact hval 0 p.1
    have gR : ∀ p ∈ statesD (lrows j), getM (reachD (lrows j).length (statesD (lrows j))) p.1 = some ((getM (reachD (lrows j).length (statesD (lrows j))) p.1).getD 0) := fun p hp => by
      obtain ⟨v, hv, _⟩ := key_get r1 ((r2 p.1).mpr (F.cl p hp).1)
      rw [hv]; rfl
    have gC : ∀ p ∈ statesD (lrows j), getM (compD (lrows j).length (statesD (lrows j))) p.1 = some ((getM (compD (lrows j).length (statesD (lrows j))) p.1).getD 0) := fun p hp => by
      obtain ⟨v, hv, _⟩ := key_get c1 ((c2 p.1).mpr (F.cl p hp).1)
      rw [hv]; rfl
    have gS : ∀ p ∈ statesD (lrows j), getM (statesD (lrows j)) p.1 = some p.2 := fun p hp => getM_mem F.nd hp
    have lowS : ∀ R, valBy (profJ j).s R = lowO (lowI (startPs (lrows j).length (statesD (lrows j))) R) := fun R => by rw [← b3, valBy_desc]
    have lowE : ∀ R, valBy (profJ j).e R = lowO (lowI (endPs (lrows j).length (statesD (lrows j))) R) := fun R => by rw [← b4, valBy_desc]
    have nsp : sa ≠ pa := fun z => by rw [← z, h4] at hpa; cases hpa
    have nsc : sa ≠ ca := fun z => by rw [← z, h4] at hca; cases hca
    have e05 : Ex H H5 := e03.trans (e4.trans e5)
    unfold startPs at lowS
    unfold endPs at lowE
    generalize statesD (lrows j) = m at *
    generalize reachD (lrows j).length m = rD at *
    generalize compD (lrows j).length m = cD at *
    generalize hp0 : profJ j = p0 at *
    refine do_asg (d := .int (min 0 p0.n)) sc_law_lows_right.nd 7 hs5 (ee_min2 rfl T.b_min ee_int (ee_ixT (d := .int p0.n) (ev hs5 2) ee_int rfl)) rfl fun σ6 H6 e6 hs6 => ?_
    have s6 : Src K H6 l := hsrc.ex (e05.trans e6)
    have h6s := e6 _ _ h5s
    have D := f_law_draw (P := P) (w := w) (base := base) T
    have nsl : sa ≠ l := fun z => by
      obtain ⟨_, _, _, ws, w, _⟩ := s6
      rw [z, w] at h6s
      cases h6s
    refine do_asgS sc_law_lows_right.nd 8 (of_pe (pe_op op_cat pe_sem pe_sem) ((en_lst (ds := intsD [min 0 p0.n - 1, min 0 p0.n, p0.k, p0.k + 1]) (ea_cons (ee_sub (ev hs6 7) ee_int) (ea_cons (ev hs6 7) (ea_cons (ee_ixT (d := .int p0.k) (ev hs6 2) ee_int rfl) (ea_cons (ee_add (ee_ixT (d := .int p0.k) (ev hs6 2) ee_int rfl) ee_int) ea_nil)))) (Nat.le_of_ble_eq_true rfl)) H6 (Ex.refl _) _ fun b1' vs7 H7 hb1 e7 h7 hd7 => ?_))
    have h7s := e7 _ _ h6s
    have s7 := s6.ex e7
    have hs7 := hs6.ex e7
    have hv7 := dps_map_int hd7
    refine of_pe (pe_lock pe_sem) ⟨sa, .dK (dKv m), h7s, trivial, fun od => ?_⟩
    have txl : TX H7 (upd H7 sa (.frz od (.dK (dKv m)))) := TX.upd h7s trivial
    have s7l : Src K (upd H7 sa (.frz od (.dK (dKv m)))) l := s7.keep (S := [sa]) (Ch.upd List.mem_cons_self) txl (by simp [Ne.symm nsl])
    refine lc_vals (us := fun v => [(13, .int v)]) (own := [("_law_held", 13)]) (pw := wB) rfl sc_law_lows_right.nd rfl (hs7.tx txl) 4 s7l upd_same (by omega) (fun _ _ _ _ _ v => tg_name sc_law_lows_right.nd 13) (fun v u hu => by rw [List.mem_singleton.mp hu]; exact List.mem_cons_self)
      (fun _ _ _ _ _ p hp => EvM.imp (em_opI (g := fun i j => i - j) op_sub (em_opI (g := fun i j => i + j) op_add (em_pure (P := IntP fun i => i = p.2) (fun σ H hs => ev hs 13) ⟨_, rfl, rfl⟩ rfl) (em_draw (n := 3) D hr 0 (fun σ H hs => ee_int) ⟨by decide, by decide⟩)) (em_pure (d := .int 1) (P := IntP fun i => i = 1) (fun σ H hs => ee_int) ⟨1, rfl, rfl⟩ rfl)) (by
        rintro d ⟨_, rfl, _, _, ⟨_, _, rfl, ⟨r0, r1⟩, rfl⟩, rfl, rfl⟩
        have := hvB p hp
        exact ⟨_, rfl, by omega, by omega⟩)) fun r ws H8 hr8 hws hwl c8 s8 la8 => ?_
    have h8s := c8 _ _ (by simp [nsl]) (upd_same (H := H7) (a := sa))
    have nrs : r ≠ sa := fun z => by rw [z, upd_same] at hr8; cases hr8
    have nbs : b1' ≠ sa := fun z => by rw [z, h6s] at hb1; cases hb1
    have nbl : b1' ≠ l := fun z => by
      obtain ⟨_, _, _, ws, w, _⟩ := s6
      rw [z, w] at hb1
      cases hb1
    obtain ⟨us8, u1, u2⟩ := la8
    have hu8 := dps_map_int u2
    subst hu8
    have t9 : TX H8 (upd H8 sa (.dK (dKv m))) := TX.upd h8s trivial
    have h9b : (upd H8 sa (.dK (dKv m))) b1' = some (.lst vs7) := by
      rw [upd_ne nbs]
      exact c8 _ _ (by simp [nbl]) (by rw [upd_ne nbs]; exact h7)
    have h9r : (upd H8 sa (.dK (dKv m))) r = some (.lst (ws.map V.int)) := by rw [upd_ne nrs]; exact u1
    have c69 : Ch [l] H6 (upd H8 sa (.dK (dKv m))) := fun b o hb ho => by
      by_cases hbs : b = sa
      · subst hbs
        rw [upd_same, ← ho, h6s]
      · rw [upd_ne hbs]
        exact c8 b o hb (by rw [upd_ne hbs]; exact e7 _ _ ho)
    have s9 : Src K (upd H8 sa (.dK (dKv m))) l := s8.keep (S := [sa]) (Ch.upd List.mem_cons_self) t9 (by simp [Ne.symm nsl])
    refine ⟨h8s, b1', r, vs7, ws.map V.int, rfl, rfl, h9b, h9r, sz_of (by rw [hv7, List.length_map, List.length_map]; show 4 + ws.length ≤ _; omega), fun ba hba => ?_⟩
    have e10 : Ex (upd H8 sa (.dK (dKv m))) (upd (upd H8 sa (.dK (dKv m))) ba (.lst (vs7 ++ ws.map V.int))) := Ex.new hba
    have c610 : Ch [l] H6 (upd (upd H8 sa (.dK (dKv m))) ba (.lst (vs7 ++ ws.map V.int))) := c69.trans (.ex e10)
    have s10 := s9.ex e10
    have t610 : TX H6 (upd (upd H8 sa (.dK (dKv m))) ba (.lst (vs7 ++ ws.map V.int))) := s6.tx c610
    have la10 : LsAt K (upd (upd H8 sa (.dK (dKv m))) ba (.lst (vs7 ++ ws.map V.int))) ba (intsD ([min 0 p0.n - 1, min 0 p0.n, p0.k, p0.k + 1] ++ ws)) := by
      rw [hv7]
      refine ⟨_, upd_same, ?_⟩
      rw [← List.map_append]
      exact dps_of_int _
    have hs10 := (hs6.tx t610).set_at (a := ba) 8
    have h10s := c610 _ _ (by simp [nsl]) h6s
    have npl : pa ≠ l := fun z => by
      obtain ⟨_, _, _, ws, w, _⟩ := hsrc.ex (e03.trans e4)
      rw [z, w] at hpa
      cases hpa
    have ncl : ca ≠ l := fun z => by
      obtain ⟨_, _, _, ws, w, _⟩ := hsrc.ex (e03.trans e4)
      rw [z, w] at hca
      cases hca
    have h10p := c610 _ _ (by simp [npl]) (e6 _ _ h5)
    have h10c := c610 _ _ (by simp [ncl]) (e6 _ _ h5')
    have cH10 : Ch [l] H (upd (upd H8 sa (.dK (dKv m))) ba (.lst (vs7 ++ ws.map V.int))) := (Ch.ex (e05.trans e6)).trans c610
    have hbB : ∀ b ∈ ([min 0 p0.n - 1, min 0 p0.n, p0.k, p0.k + 1] ++ ws).take 24, wB b := fun b hb => by
      have hb := List.mem_of_mem_take hb
      rcases List.mem_append.mp hb with hb | hb
      · simp only [List.mem_cons, List.not_mem_nil, or_false] at hb
        rcases hb with rfl | rfl | rfl | rfl <;> exact ⟨by omega, by omega⟩
      · exact hws b hb
    have htk : (intsD ([min 0 p0.n - 1, min 0 p0.n, p0.k, p0.k + 1] ++ ws)).take 24 = (([min 0 p0.n - 1, min 0 p0.n, p0.k, p0.k + 1] ++ ws).take 24).map PyData.int := by unfold intsD; rw [List.map_take]
    clear h9b h9r
    generalize upd (upd H8 sa (.dK (dKv m))) ba (.lst (vs7 ++ ws.map V.int)) = G at *
    generalize ([min 0 p0.n - 1, min 0 p0.n, p0.k, p0.k + 1] ++ ws) = bs at *
    refine do_for (xs := bs.take 24) (g := PyData.int) PassesOwn.never rfl [] (fun _ => [some (.at l), some (.py (enc j)), some (.py (pfD p0)), some (.at ra), some (.at sa), some (.at pa), some (.at ca), some (.py (.int (min 0 p0.n))), some (.at ba), none, none, none, none, none, none]) (fun _ _ => True) (us := fun b => [(9, .int b)])
      (ei_new (.of_eq (en_takeL (n := 24) (ep_slot hs10 8 la10).ev ee_int) htk) (ints_nols _)) (ints_nols _) (fun a ha => by cases ha) (fun a ha => by cases ha) (fun b _ => tg_name sc_law_lows_right.nd 9) (fun _ _ _ _ h => h) hs10 trivial ?_ ?_
    · intro pre b post hx σ11 H11 c11 t11 _ hs11 N hN
      have e11 := c11.nil
      have hbb : wB b := hbB b (by rw [hx]; exact List.mem_append_right _ List.mem_cons_self)
      have h11s := e11 _ _ h10s
      have h11p := e11 _ _ h10p
      have h11c := e11 _ _ h10c
      refine do_setLcD rfl sc_law_lows_right.nd 10 hs11 h11s (ints_nols _) (fun od => .of_eq (lc_ifM (xs := m) (g := fun p => PyData.int (p.1 : Nat)) (f := fun p => PyData.int p.2) (kp := fun p => decide ((getM rD p.1).getD 0 ≤ b)) (us := fun p => [(14, .int (p.1 : Nat))]) (own := [("_law_state", 14)]) rfl (hs11.tx (TX.upd h11s trivial)) (ei_keys (hs11.tx (TX.upd h11s trivial)) 4 upd_same) (noLs_mem.mpr fun z hz => by
          obtain ⟨p, _, rfl⟩ := List.mem_map.mp hz
          rfl) (by omega) (fun _ _ _ _ _ p _ => tg_name sc_law_lows_right.nd 14) (fun p _ u hu => by rw [List.mem_singleton.mp hu]; exact List.mem_cons_self)
          (fun _ _ _ _ _ p hp σ' H' e hs' => et_le (ee_dget hu hs' 5 (.inl (e _ _ (by rw [upd_ne (Ne.symm nsp)]; exact h11p))) (ev hs' 14) (gR p hp)) (ev hs' 9))
          (fun _ _ _ _ _ p hp _ σ' H' e hs' => ee_dget hu hs' 4 (.inr ⟨od, e _ _ upd_same⟩) (ev hs' 14) (gS p hp)) (fun _ _ _ => rfl)) (low_of m (fun x => (getM rD x).getD 0) b)) fun fa vs12 σ12 H12 hfa e12 h12 hd12 hs12 => ?_
      have lf12 : LsAt K H12 fa (intsD (lowI (m.map fun p => ((getM rD p.1).getD 0, p.2)) b)) := ⟨vs12, h12, hd12⟩
      have h12s := e12 _ _ h11s
      refine do_setLcD rfl sc_law_lows_right.nd 11 hs12 h12s (ints_nols _) (fun od => .of_eq (lc_ifM (xs := m) (g := fun p => PyData.int (p.1 : Nat)) (f := fun p => PyData.int p.2) (kp := fun p => decide ((getM cD p.1).getD 0 ≤ b)) (us := fun p => [(14, .int (p.1 : Nat))]) (own := [("_law_state", 14)]) rfl (hs12.tx (TX.upd h12s trivial)) (ei_keys (hs12.tx (TX.upd h12s trivial)) 4 upd_same) (noLs_mem.mpr fun z hz => by
          obtain ⟨p, _, rfl⟩ := List.mem_map.mp hz
          rfl) (by omega) (fun _ _ _ _ _ p _ => tg_name sc_law_lows_right.nd 14) (fun p _ u hu => by rw [List.mem_singleton.mp hu]; exact List.mem_cons_self)
          (fun _ _ _ _ _ p hp σ' H' e hs' => et_le (ee_dget hu hs' 6 (.inl (e _ _ (by rw [upd_ne (Ne.symm nsc)]; exact e12 _ _ h11c))) (ev hs' 14) (gC p hp)) (ev hs' 9))
          (fun _ _ _ _ _ p hp _ σ' H' e hs' => ee_dget hu hs' 4 (.inr ⟨od, e _ _ upd_same⟩) (ev hs' 14) (gS p hp)) (fun _ _ _ => rfl)) (low_of m (fun x => (getM cD x).getD 0) b)) fun ga vs13 σ13 H13 hga e13 h13 hd13 hs13 => ?_
      have lg13 : LsAt K H13 ga (intsD (lowI (m.map fun p => ((getM cD p.1).getD 0, p.2)) b)) := ⟨vs13, h13, hd13⟩
      have lf13 := lf12.ex e13
      have bdm : ∀ p ∈ m, Bd p.2 := fun p hp => by
        have := hvB p hp
        exact ⟨by omega, by omega⟩
      have bdF := low_bd (g := fun x => (getM rD x).getD 0) (R := b) bdm
      have bdG := low_bd (g := fun x => (getM cD x).getD 0) (R := b) bdm
      have lS := lowS b
      have lE := lowE b
      generalize lowI (m.map fun p => ((getM rD p.1).getD 0, p.2)) b = FL at *
      generalize lowI (m.map fun p => ((getM cD p.1).getD 0, p.2)) b = GL at *
      have rpd : Rp (.list [optD (lowO FL), optD (lowO GL)]) 2 64 := (rp_lst (rpa_cons (rp_opt bdF) (rpa_cons (rp_opt bdG) (rpa_nil 0 0)))).mono (by omega) (by omega)
      obtain ⟨z1, z2, z3, z4⟩ := rpd.fits (by decide)
      refine do_asgN (ds := [optD (lowO FL), optD (lowO GL)]) sc_law_lows_right.nd 12 hs13 (en_lst (ea_cons (ee_minO rfl hu T.b_min hs13 10 lf13) (ea_cons (ee_minO rfl hu T.b_min hs13 11 lg13) ea_nil))) fun da vs14 σ14 H14 hda e14 h14 hd14 hs14 => ?_
      have ld14 : LsAt K H14 da [optD (lowO FL), optD (lowO GL)] := ⟨vs14, h14, hd14⟩
      have isref : ∀ v H1, Dp K H1 v (.list [optD (lowO FL), optD (lowO GL)]) → ∃ a, v = .ref a := fun v H1 h => by
        obtain ⟨a, _, rfl, _⟩ := dp_lst h
        exact ⟨a, rfl⟩
      refine do_not (.of_eq (et_neS (ee_repr hgd hu2 T.b_repr (d := .list [optD (lowO FL), optD (lowO GL)]) (EvN.ev (.of_eq (en_lst (ea_cons (ee_cal (f_start_low T) hr (j, b) (ea_cons (ev hs14 1) (ea_cons (ev hs14 9) ea_nil)) ⟨okm, by show -maxI ≤ b; have := hbb.1; unfold maxI; omega, by show b ≤ maxI; have := hbb.2; unfold maxI; omega⟩) (ea_cons (ee_cal (f_end_low T) hr (j, b) (ea_cons (ev hs14 1) (ea_cons (ev hs14 9) ea_nil)) ⟨okm, by show -maxI ≤ b; have := hbb.1; unfold maxI; omega, by show b ≤ maxI; have := hbb.2; unfold maxI; omega⟩) ea_nil))) (by
          show [optD (valBy (profJ j).s b), optD (valBy (profJ j).e b)] = _
          rw [hp0, lS, lE]))) isref z1 z2 z3 z4) (ee_repr hgd hu2 T.b_repr (ep_slot hs14 12 ld14).ev isref z1 z2 z3 z4)) (by simp)) fun H15 e15 => ?_
      refine do_nil (hN _ _ (.ex (e12.trans (e13.trans (e14.trans e15)))) trivial (((((hs14.ex e15).drop 9).drop 10).drop 11).drop 12))
    · intro σ11 H11 c11 t11 _ hs11
      have e11 := c11.nil
      exact do_ret ee_bl fun v H12 e12 hv => by
        rw [dp_bl hv]
        exact q H12 (cH10.trans (.ex (e11.trans e12))) (s10.ex (e11.trans e12))
end
end K30
namespace K30
open PySem PySem.Spec PyProof.Rows L2 Evl RZ
open K30m (Job Pf Good nf turn diffsNZ lrows opP mirrorJ mirrorJs)
theorem diffs_len : ∀ (r : List Int) (a : Int), (diffsNZ a r).length ≤ r.length
  | [], _ => Nat.le_refl _
  | b :: r, a => by
    show (if b ≠ a then (b - a) :: diffsNZ b r else diffsNZ b r).length ≤ _
    have h := diffs_len r b
    split
    · rw [List.length_cons, List.length_cons]; omega
    · rw [List.length_cons]; omega
theorem nf_len (p : Pf) : (nf p).length ≤ 4 + 2 * p.s.length + 2 * p.e.length := Nat.le_trans (diffs_len _ _) (turn_len p)
theorem encs_steps : ∀ ns : List Int, encs (ns.map Job.step) = ns.map PyData.int
  | [] => rfl
  | n :: ns => by
    show enc (.step n) :: encs (ns.map Job.step) = _
    rw [encs_steps ns]
    rfl
theorem steps_steps : ∀ ns : List Int, stepsS (ns.map Job.step) = ns.length ∧ nodesS (ns.map Job.step) = ns.length ∧ depthS (ns.map Job.step) ≤ 1 ∧ cntJs (ns.map Job.step)
  | [] => ⟨rfl, rfl, Nat.zero_le _, trivial⟩
  | n :: ns => by
    obtain ⟨h1, h2, h3, h4⟩ := steps_steps ns
    refine ⟨?_, ?_, ?_, trivial, h4⟩
    · show 1 + stepsS (ns.map Job.step) = ns.length + 1
      omega
    · show 1 + nodesS (ns.map Job.step) = ns.length + 1
      omega
    · show max 1 (depthS (ns.map Job.step)) ≤ 1
      omega
theorem S_rev (js : List Job) : stepsS js.reverse = stepsS js ∧ nodesS js.reverse = nodesS js ∧ depthS js.reverse = depthS js := by
  induction js with
  | nil => exact ⟨rfl, rfl, rfl⟩
  | cons j js ih =>
    obtain ⟨h1, h2, h3⟩ := ih
    rw [List.reverse_cons]
    obtain ⟨a1, a2, a3⟩ := S_app js.reverse j
    refine ⟨?_, ?_, ?_⟩
    · rw [a1, h1]
      show _ = steps j + stepsS js
      omega
    · rw [a2, h2]
      show _ = nodes j + nodesS js
      omega
    · rw [a3, h3]
      show _ = max (depth j) (depthS js)
      exact Nat.max_comm _ _
mutual
  theorem mir_meas : ∀ j : Job, steps (mirrorJ j) = steps j ∧ nodes (mirrorJ j) = nodes j ∧ depth (mirrorJ j) = depth j ∧ (cntJ j → cntJ (mirrorJ j))
    | .step v => ⟨rfl, rfl, rfl, fun _ => trivial⟩
    | .seq ps => by
      obtain ⟨h1, h2, h3, h4⟩ := mirs_meas ps
      obtain ⟨r1, r2, r3⟩ := S_rev (mirrorJs ps)
      refine ⟨?_, ?_, ?_, fun h => ?_⟩
      · show stepsS (mirrorJs ps).reverse = stepsS ps
        rw [r1, h1]
      · show 1 + nodesS (mirrorJs ps).reverse = 1 + nodesS ps
        rw [r2, h2]
      · show 1 + depthS (mirrorJs ps).reverse = 1 + depthS ps
        rw [r3, h3]
      · exact cntJs_mem.mpr fun i hi => cntJs_mem.mp (h4 h) i (List.mem_reverse.mp hi)
    | .par ps => by
      obtain ⟨h1, h2, h3, h4⟩ := mirs_meas ps
      refine ⟨h1, ?_, ?_, h4⟩
      · show 1 + nodesS (mirrorJs ps) = 1 + nodesS ps
        rw [h2]
      · show 1 + depthS (mirrorJs ps) = 1 + depthS ps
        rw [h3]
    | .rep n j => by
      obtain ⟨h1, h2, h3, h4⟩ := mir_meas j
      refine ⟨?_, ?_, ?_, fun h => ⟨h.1, h4 h.2⟩⟩
      · show n * steps (mirrorJ j) = n * steps j
        rw [h1]
      · show 1 + nodes (mirrorJ j) = 1 + nodes j
        rw [h2]
      · show 1 + depth (mirrorJ j) = 1 + depth j
        rw [h3]
    | .cop n j => by
      obtain ⟨h1, h2, h3, h4⟩ := mir_meas j
      refine ⟨?_, ?_, ?_, fun h => ⟨h.1, h4 h.2⟩⟩
      · show n * steps (mirrorJ j) = n * steps j
        rw [h1]
      · show 1 + nodes (mirrorJ j) = 1 + nodes j
        rw [h2]
      · show 1 + depth (mirrorJ j) = 1 + depth j
        rw [h3]
  theorem mirs_meas : ∀ js : List Job, stepsS (mirrorJs js) = stepsS js ∧ nodesS (mirrorJs js) = nodesS js ∧ depthS (mirrorJs js) = depthS js ∧ (cntJs js → cntJs (mirrorJs js))
    | [] => ⟨rfl, rfl, rfl, fun h => h⟩
    | j :: js => by
      obtain ⟨h1, h2, h3, h4⟩ := mir_meas j
      obtain ⟨g1, g2, g3, g4⟩ := mirs_meas js
      refine ⟨?_, ?_, ?_, fun h => ⟨h4 h.1, g4 h.2⟩⟩
      · show steps (mirrorJ j) + stepsS (mirrorJs js) = steps j + stepsS js
        rw [h1, g1]
      · show nodes (mirrorJ j) + nodesS (mirrorJs js) = nodes j + nodesS js
        rw [h2, g2]
      · show max (depth (mirrorJ j)) (depthS (mirrorJs js)) = max (depth j) (depthS js)
        rw [h3, g3]
end
theorem okW_rich {j : Job} (r : RichJ j) : okW j := ⟨r.dp, by have := r.nd; omega, okJ_cnt j r.ok, by have := r.st; omega, few_short (by rw [lrows_len]; exact r.st)⟩
theorem okW_mir {j : Job} (r : RichJ j) : okW (mirrorJ j) := by
  obtain ⟨h1, h2, h3, h4⟩ := mir_meas j
  refine ⟨by rw [h3]; exact r.dp, by rw [h2]; have := r.nd; omega, h4 (okJ_cnt j r.ok), by rw [h1]; have := r.st; omega, few_short (by rw [lrows_len, h1]; exact r.st)⟩
theorem okW_chain {p : Pf} (h1 : p.s.length ≤ 400) (h2 : p.e.length ≤ 400) : okW (.seq ((nf p).map Job.step)) := by
  obtain ⟨a1, a2, a3, a4⟩ := steps_steps (nf p)
  have hl := nf_len p
  have hlen : (lrows (.seq ((nf p).map Job.step))).length = (nf p).length := by
    rw [lrows_len]
    exact a1
  refine ⟨?_, ?_, a4, ?_, few_chain (chn_chain (nf p)) (by omega)⟩
  · show 1 + depthS ((nf p).map Job.step) ≤ 13
    omega
  · show 1 + nodesS ((nf p).map Job.step) ≤ 4000
    omega
  · show stepsS ((nf p).map Job.step) ≤ 5000
    omega
theorem enc_ref {K : PySem.W.Frag} {H : Hp} {v : V} : ∀ {j : Job}, 2 < steps j → Dp K H v (enc j) → ∃ a, v = .ref a
  | .step x, h, _ => by
    have : steps (.step x) = 1 := rfl
    omega
  | .seq ps, _, h => by obtain ⟨a, _, rfl, _⟩ := dp_tup (show Dp K H v (.tuple [.str "seq", .tuple (encs ps)]) from h); exact ⟨a, rfl⟩
  | .par ps, _, h => by obtain ⟨a, _, rfl, _⟩ := dp_tup (show Dp K H v (.tuple [.str "par", .tuple (encs ps)]) from h); exact ⟨a, rfl⟩
  | .rep n j, _, h => by obtain ⟨a, _, rfl, _⟩ := dp_tup (show Dp K H v (.tuple [.str "repeat", .int (n : Nat), enc j]) from h); exact ⟨a, rfl⟩
  | .cop n j, _, h => by obtain ⟨a, _, rfl, _⟩ := dp_tup (show Dp K H v (.tuple [.str "copies", .int (n : Nat), enc j]) from h); exact ⟨a, rfl⟩
theorem pf_ref {K : PySem.W.Frag} {H : Hp} {v : V} {p : Pf} (h : Dp K H v (pfD p)) : ∃ a, v = .ref a := by
  obtain ⟨a, _, rfl, _⟩ := dp_tup (show Dp K H v (.tuple [.int p.n, .int p.k, psD p.s, psD p.e]) from h)
  exact ⟨a, rfl⟩
section
variable {X : Cx} {e : Expr} {es : List Expr} {σ : L2.St} {H : Hp} {pos p : Pos} {k j : Nat} {x : Str} {ps : List Str} {sp : Sp}
/-- a call whose arguments are read as they come -/
theorem ee_callT (G : Fn X.prog X.w X.K X.mg X.base j x ps sp) (hr : Room k X.A) {Q : VK} (ha : tSemA X (e :: es) σ H fun vs H1 => sp vs H1 Q E0) (hj : j ≤ k := by decide)
    (hg : Gl X x := by rfl) (hdb : (x == ("__debug__" : Str)) = false := by decide) (he : starEach (e :: es) X.env = (false, eval e X.env) :: starEach es X.env := by rfl) (hpl : (backTo pos (starEach es X.env)).any (·.1) = false := by rfl) :
    tSem X (.Call (.Name x p) (e :: es) [] pos) σ H Q := by
  obtain ⟨f, fd, F, kp, hb, hm⟩ := G.ex
  refine of_pe (pe_call F (hr.mono hj) hg hm kp hb .nil pass0 pa_sem hdb he hpl) ?_
  show tSemA X (e :: es) σ H fun vs H1 => sp (vs ++ []) H1 Q E0
  have : (fun vs H1 => sp (vs ++ []) H1 Q E0) = fun vs H1 => sp vs H1 Q E0 := by
    funext vs H1
    rw [List.append_nil]
  rw [this]
  exact ha
end
def spLaw (K : PySem.W.Frag) : Sp := fun vs H Q _ => ∃ (a : Addr) (ns : List Int), vs = [.ref a] ∧ SqL K H a (ns.map V.int) ∧ ∀ H', Q (.bl true) H'
section
variable {P : Program} {w : World} {K : PySem.W.Frag} {mg : Str → Option Value} {base : Heap} (T : Tops K mg)
include T
theorem law_body (f : Addr) (cdv : Value) (A : Around) (out : List Env) (s : Shared) (H : Hp) (vs : List V) (Q : VK) (E : XK) (hgd : A.guards = some []) (hr : Room 60 (A.deeper (envOfC "law" (defScope s_law) s.heap.objs.size f cdv))) (h : spLaw K vs H Q E) :
    Do (cxOf CX0 P w K mg base n_law "law" (defScope s_law) f cdv A out s H E).nox (defBody s_law) { nx := fun _ H' => Q .non H', rt := Q } (start n_law vs) H := by
    obtain ⟨sca, ns, rfl, hq, q⟩ := h
    have hu2 : (A.deeper (envOfC "law" (defScope s_law) s.heap.objs.size f cdv)).units + 100 < cLine := by
      have := hr.un
      omega
    have hdp := dps_of_int (K := K) (H := H) ns
    have hs : SR K H (start n_law [.ref sca]) [some (.at sca), none, none, none, none, none, none] := .at (.no (.no (.no (.no (.no (.no .nil))))))
    have hN : ∃ N : Nat, N ≤ 4 ∧ max (1 : Int) (min 4 ((ns.map PyData.int).length : Int)) = (N : Nat) := ⟨(max (1 : Int) (min 4 ((ns.map PyData.int).length : Int))).toNat, by omega, by omega⟩
    obtain ⟨N0, hN4, hNe⟩ := hN
    refine do_for (xs := List.range N0) (g := fun j => PyData.int (j : Nat)) PassesOwn.never rfl [] (fun _ => [some (.at sca), none, none, none, none, none, none]) (fun _ H => SqL K H sca (ns.map V.int)) (us := fun i => [(1, .int (i : Nat))])
      (ei_rangeN (.of_eq (ee_max2 rfl T.b_max ee_int (ee_min2 rfl T.b_min ee_int (ee_lenL T.b_len (evL hs 0 hq hdp)))) (by rw [hNe])) T.b_range (by omega)) (noLs_mem.mpr fun z hz => by
        obtain ⟨p, _, rfl⟩ := List.mem_map.mp hz
        rfl) (fun a ha => by cases ha) (fun a ha => by cases ha) (fun i _ => tg_name sc_law.nd 1) (fun pre A B e h => ex_l e h) hs hq ?_ ?_
    · intro pre i post hx σ1 H1 c1 t1 hq1 hs1 N hN
      refine do_asgS sc_law.nd 2 (ee_callR (f_law_source T) hr (er_cons (evAt hs1 0) (er_cons (EvE.v (ev hs1 1)) er_nil)) (Ex.refl _) fun vs2 H2 e2 hvs2 => ?_)
      have hvs : vs2 = [.ref sca, .int (i : Nat)] := by
        cases hvs2 with
        | cons a1 r =>
          cases r with
          | cons a2 r =>
            cases r
            have a1 : _ = V.ref sca := a1
            have a2 : Dp K H2 _ (.int (i : Nat)) := a2
            rw [a1, dp_int a2]
      refine ⟨sca, ns, i, ex_l e2 hq1, hvs, fun l H3 hl e3 src3 => ?_⟩
      have e13 := e2.trans e3
      have hl1 : H1 l = none := by
        cases hz : H1 l with
        | none => rfl
        | some z => rw [e2 _ _ hz] at hl; cases hl
      have hs3 := (hs1.ex e13).set_at (a := l) 2
      refine do_asgS sc_law.nd 3 (ee_callT (f_law_rich_job T) hr (of_pa (pa_cons pe_sem pa_sem) ((evAt hs3 2) H3 (Ex.refl _) _ fun v4 H4 e4 hv4 => ?_)))
      have hs4 := hs3.ex e4
      have src4 := src3.ex e4
      have D := f_law_draw (P := P) (w := w) (base := base) T
      refine of_pa (pa_cons pe_sem pa_sem) (em_opI (Γ := _) (l := l) (g := fun i j => i + j) op_add (em_pure (d := .int 3) (P := IntP fun i => i = 3) (fun σ H hs => ee_int) ⟨3, rfl, rfl⟩ rfl) (em_draw (n := 8) D hr 2 (fun σ H hs => ee_int) ⟨by decide, by decide⟩) _ H4 hs4 src4 _ fun v5 d5 H5 hd5 hv5 hn5 c5 src5 => ?_)
      refine of_pa (pa_cons pe_sem pa_nil) (ee_int H5 (Ex.refl _) _ fun v6 H6 e6 hv6 => ?_)
      obtain ⟨mi, rfl, _, dr, rfl, ⟨hd0, hd8⟩, rfl⟩ := hd5
      have c46 : Ch [l] H4 H6 := c5.trans (.ex e6)
      have hv4 : v4 = .ref l := hv4
      refine ⟨(3 + dr).toNat, l, by show (3 + dr).toNat ≤ 10; omega, .cons hv4 (.cons (show Dp K H6 v5 (.int ((3 + dr).toNat : Nat)) by rw [show (((3 + dr).toNat : Nat) : Int) = 3 + dr by omega]; exact dp_ex e6 _ _ hv5) (.cons hv6 .nil)), src5.ex e6, fun v7 d7 H7 hd7 hv7 hn7 c7 src7 => ?_⟩
      obtain ⟨j, rfl, rj⟩ := hd7
      have c47 : Ch [l] H4 H7 := c46.trans c7
      have e17 : Ex H1 H7 := Ex.over (e13.trans e4) (no1 hl1) c47
      have hs7 := (hs4.tx (src4.tx c47)).set_py hv7 hn7 3
      have okm : okM j 13 := ⟨rj.dp, by decide, rj.ok, rj.nd, by have := rj.st; omega⟩
      obtain ⟨bp, bo, _, _⟩ := prof_bd rj.ok (by rw [lrows_len]; exact rj.st) rj.nd
      have gd := prof_good j
      have okp : okP (profJ j) := ⟨gd, bp.ls, bp.le⟩
      obtain ⟨a1, a2, a3, a4⟩ := ((rp_enc j rj.ok).mono (w' := 100000) (by have := rj.nd; omega) (show 2 * depth j ≤ 64 by have := rj.dp; omega)).fits (Nat.le_refl _)
      obtain ⟨p1, p2, p3, p4⟩ := (rp_pf bp).fits (by decide)
      obtain ⟨o1, o2, o3, o4⟩ := (rp_pf bo).fits (by decide)
      refine do_par rfl sc_law.nd hs7 (ee_repr hgd hu2 T.b_repr (ev hs7 3) (fun v H1 h => enc_ref rj.two h) a1 a2 a3 a4) (ee_cal (d := pfD (profJ j)) (f_law_profile T) hr j (ea_cons (ev hs7 3) ea_nil) (okW_rich rj)) rfl (pfD_nol _) 4 5 fun σ8 H8 e8 hs8 => ?_
      refine do_not (.of_eq (et_w (ew_or (et_neS (ee_repr hgd hu2 T.b_repr (ee_cal (d := pfD (profJ j)) (f_profile T) hr j (ea_cons (ev hs8 3) ea_nil) okm) (fun v H1 h => pf_ref h) p1 p2 p3 p4) (ee_repr hgd hu2 T.b_repr (ev hs8 5) (fun v H1 h => pf_ref h) p1 p2 p3 p4)) fun _ => ew_or (et_notTrue (ee_cal (d := .bool true) (f_is_profile T) hr (profJ j) (ea_cons (ev hs8 5) ea_nil) okp)) fun _ => ew_or1 (et_neS (ee_repr hgd hu2 T.b_repr (ee_cal (d := pfD (profJ j)) (f_profile T) hr j (ea_cons (ev hs8 3) ea_nil) okm) (fun v H1 h => pf_ref h) p1 p2 p3 p4) (ee_repr hgd hu2 T.b_repr (ev hs8 5) (fun v H1 h => pf_ref h) p1 p2 p3 p4)))) (by simp)) fun H9 e9 => ?_
      have hs9 := hs8.ex e9
      have src9 := src7.ex (e8.trans e9)
      refine do_st (of_ps (ps_if (pt_not (pt_val pe_sem (by intro _; rfl))) pss_sem pss_sem) (ee_callG (f_law_lows_right T) hgd hr (er_cons (evAt hs9 2) (er_cons (EvE.v (ev hs9 3)) (er_cons (EvE.v (ev hs9 5)) er_nil))) (Ex.refl _) fun vs10 H10 e10 hvs10 => ⟨j, l, rj, hvs10, src9.ex e10, fun H11 c11 src11 => ⟨true, rfl, iteF (do_nil ?_)⟩⟩))
      have c911 : Ch [l] H9 H11 := (Ch.ex e10).trans c11
      have hs11 := hs9.tx (src9.tx c911)
      have e111 : Ex H1 H11 := Ex.over (e17.trans (e8.trans e9)) (no1 hl1) c911
      refine do_asg (d := enc (.seq ((nf (profJ j)).map Job.step))) sc_law.nd 6 hs11 (.of_eq (ee_tup (ea_cons ee_str (ea_cons (ee_cal (d := .tuple ((nf (profJ j)).map PyData.int)) (f_normal_form T) hr (profJ j) (ea_cons (ev hs11 5) ea_nil) okp) ea_nil))) (by
        show PyData.tuple [.str "seq", .tuple ((nf (profJ j)).map PyData.int)] = .tuple [.str "seq", .tuple (encs ((nf (profJ j)).map Job.step))]
        rw [encs_steps])) (enc_nol _) fun σ12 H12 e12 hs12 => ?_
      refine do_not (.of_eq (et_neS (ee_repr hgd hu2 T.b_repr (ee_cal (d := pfD (profJ j)) (f_law_profile T) hr (.seq ((nf (profJ j)).map Job.step)) (ea_cons (ev hs12 6) ea_nil) (okW_chain bp.ls bp.le) (hd := by
        show pfD (profJ (.seq ((nf (profJ j)).map Job.step))) = _
        rw [prof_chain gd])) (fun v H1 h => pf_ref h) p1 p2 p3 p4) (ee_repr hgd hu2 T.b_repr (ev hs12 5) (fun v H1 h => pf_ref h) p1 p2 p3 p4)) (by simp)) fun H13 e13' => ?_
      have hs13 := hs12.ex e13'
      refine do_not (.of_eq (et_w (ew_or (et_neS (ee_repr hgd hu2 T.b_repr (ee_cal (d := pfD (opP (profJ j))) (f_law_profile T) hr (mirrorJ j) (ea_cons (ee_cal (d := enc (mirrorJ j)) (f_mirror T) hr j (ea_cons (ev hs13 3) ea_nil) okm) ea_nil) (okW_mir rj) (hd := by
        show pfD (profJ (mirrorJ j)) = _
        rw [prof_mirror])) (fun v H1 h => pf_ref h) o1 o2 o3 o4) (ee_repr hgd hu2 T.b_repr (ee_cal (d := pfD (opP (profJ j))) (f_law_turned T) hr (profJ j) (ea_cons (ev hs13 5) ea_nil) ⟨by have := bp.ls; omega, by have := bp.le; omega⟩) (fun v H1 h => pf_ref h) o1 o2 o3 o4)) fun _ => ew_or1 (et_neS (ee_repr hgd hu2 T.b_repr (ev hs13 3) (fun v H1 h => enc_ref rj.two h) a1 a2 a3 a4) (ev hs13 4)))) (by simp)) fun H14 e14 => ?_
      have e114 := e111.trans (e12.trans (e13'.trans e14))
      exact do_nil (hN _ _ (.ex e114) (ex_l e114 hq1) ((((((hs13.ex e14).drop 1).drop 2).drop 3).drop 4).drop 5 |>.drop 6))
    · intro σ1 H1 c1 t1 hq1 hs1
      exact do_ret ee_bl fun v H2 e2 hv => by
        rw [dp_bl hv]
        exact q H2
theorem law_gok {f : Addr} {fd : FuncData} (F : FunD K "law" "law" (defArgs s_law) (defBody s_law) (defScope s_law) [] [] f fd) : GOk P w K mg base 61 f fd ["_law_script"] (spLaw K) := by
  obtain ⟨oc, od, dV, kV, doc, pm, an, cdv, ct, osl, rfl, lk, hcd, _, _⟩ := F.ex
  exact g_of (k := 60) lk hcd sc_law (fun vs H Q E h => by
    obtain ⟨a, ns, rfl, _⟩ := h
    rfl) fun A out s H vs Q E hgd hr h => law_body T f cdv A out s H vs Q E hgd hr h
end
end K30
namespace K30
open PySem PySem.Spec PyProof.Rows L2
abbrev dOf (x : Str) (st : Stmt) : He.DefD := ⟨(x, none), x, x, defArgs st, defBody st, defScope st, [], []⟩
def fn : List He.DefD := defsL.map fun q => dOf q.1 q.2
def faG : List He.Fa := defsL.map fun q => .glo q.1
def faI : List He.Fa := intsL.map fun q => .int q.1 q.2
def faB : List He.Fa := builtL.map fun x => .free x
def faT : List He.Fa := [.glo "GROUPS", .glo "MULTIPLES", .glo "EMPTY"]
def fa : List He.Fa := faG ++ faI ++ faB ++ faT
/-- a tuple at an address of the written part -/
def tupA (K : PySem.W.Frag) (a : Addr) (vs : List V) : Bool := match K.lookup a with
  | some ⟨.type c, _, .seq its _, _⟩ => decide (c = "tuple") && (decide (its.size ≤ sizeLine) && He.relAll vs its.toList)
  | _ => false
def itA (K : PySem.W.Frag) (a : Addr) (i : Nat) : Addr := match K.lookup a with
  | some ⟨_, _, .seq its _, _⟩ => (match its.toList[i]? with
    | some (.ref b) => b
    | _ => 0)
  | _ => 0
def exB (K : PySem.W.Frag) : Bool := He.tupB K "GROUPS" [.str "seq", .str "par"] && (He.tupB K "MULTIPLES" [.str "repeat", .str "copies"] &&
  (tupA K (He.ga K "EMPTY") [.int 0, .int 0, .ref (itA K (He.ga K "EMPTY") 2), .ref (itA K (He.ga K "EMPTY") 3)] &&
  (tupA K (itA K (He.ga K "EMPTY") 2) [.ref (itA K (itA K (He.ga K "EMPTY") 2) 0)] && (tupA K (itA K (He.ga K "EMPTY") 3) [.ref (itA K (itA K (He.ga K "EMPTY") 3) 0)] &&
  (tupA K (itA K (itA K (He.ga K "EMPTY") 2) 0) [.int 0, .int 0] && tupA K (itA K (itA K (He.ga K "EMPTY") 3) 0) [.int 0, .int 0])))))
abbrev R : PySem.W.OpenRow := PySem.W.OpenLaw.row PySem.Challenge.rw_roomprofile_k30_whole_small_jobs
def lo0 : List Str := ["JobError", "InvalidJob", "InvalidValleys", "InvalidProfile", "InvalidNumber", "MAX_INTEGER", "is_integer", "is_between", "is_number", "check_number", "MAX_STEP", "MAX_COUNT", "MAX_PARTS", "MAX_NODES", "MAX_DEPTH", "GROUPS", "MULTIPLES", "is_node", "measured", "measured_parts", "measured_multiple", "is_job", "check_job", "mirror_by", "mirror", "MAX_VALLEYS", "is_pair", "is_valleys", "check_valleys", "value_by"]
def lo1 : List Str := ["valley_at", "EMPTY", "is_start", "is_end", "is_profile_by", "check_profile", "descending", "moved", "step_profile_by", "start_behind", "end_behind", "two_profiles_by", "seq_profiles_by", "next_drop", "joint", "peak_beside", "par_profiles_by", "rounds_start", "repeat_profile_by", "copies_start", "copies_profile_by", "profile_by", "profile", "is_profile", "turning_usages", "normal_form", "start_low", "end_low", "_law_source", "_law_draw"]
def lo2 : List Str := ["_law_great", "_law_step", "_law_empty", "_law_job", "_law_rows", "_law_states", "_law_reached", "_law_completed", "_law_valleys", "_law_profile", "_law_step_count", "_law_rich_job", "_law_lows_right", "_law_turned"]
def loose : List Str := lo0 ++ lo1 ++ lo2
abbrev hk : PySem.W.Hook := He.hookX 5 fa fn [] [] exB
def ob (s : PySem.W.SharedT) : He.AlX := He.obsX 5 fa fn [] [] exB (HandSHeadRun.getT s)
theorem ob_eq (s : PySem.W.SharedT) : ob s = hk.obs s.abs := He.obsX_eq (HandSHeadRun.getT_eq s)
theorem run (w : World) : HandSHeadRun.RunEq R (PySem.W.view R.prog [83]) hk ob 20000 loose w := by
  intro os
  kernel_rfl
end K30
open PySem PySem.W PySem.Calls PyProof.Rows
theorem K30.head (call : WalkO (view (OpenLaw.row PySem.Challenge.rw_roomprofile_k30_whole_small_jobs).prog [83]) K30.loose (XL (view (OpenLaw.row PySem.Challenge.rw_roomprofile_k30_whole_small_jobs).prog [83]) []) K30.hk.says (OpenLaw.row PySem.Challenge.rw_roomprofile_k30_whole_small_jobs).toRowW (HandSHeadRun.topDef (OpenLaw.row PySem.Challenge.rw_roomprofile_k30_whole_small_jobs).prog 83) [] fun f vs => PySem.call f vs) : (OpenLaw.row PySem.Challenge.rw_roomprofile_k30_whole_small_jobs).Holds := by
  refine HandSHeadRun.head_any (r := OpenLaw.row PySem.Challenge.rw_roomprofile_k30_whole_small_jobs) (q := view (OpenLaw.row PySem.Challenge.rw_roomprofile_k30_whole_small_jobs).prog [83]) (H := K30.hk) (ob := K30.ob) (M := 20000) (loose := K30.loose) (d := HandSHeadRun.topDef (OpenLaw.row PySem.Challenge.rw_roomprofile_k30_whole_small_jobs).prog 83) (kwd := []) K30.ob_eq
    (by kernel_rfl) (fun s => by kernel_rfl) K30.run (by kernel_rfl) (by kernel_rfl) (by kernel_rfl) (by rfl) (by first | assumption | decide +kernel) (by decide +kernel) ⟨rfl, rfl, rfl, rfl, rfl, by decide +kernel⟩ ?hw call
  case hw => w_witness2
namespace K30
open PySem PySem.Spec PyProof.Rows L2
section
variable {K : PySem.W.Frag} {h : Heap} {mg : Str → Option Value} {w : World}
theorem tupA_ok {a : Addr} {vs : List V} (c : tupA K a vs = true) (H : Hp) : SqT K H a vs := by
  unfold tupA at c
  split at c
  · rename_i cl dd its n sl q
    rw [Bool.and_eq_true, Bool.and_eq_true] at c
    obtain ⟨c1, c2, c3⟩ := c
    exact .inr ⟨_, its, n, q, congrArg Value.type (of_decide_eq_true c1), rfl, of_decide_eq_true c2, He.relAll_ok c3⟩
  · cases c
theorem tops (X : K.In h) (G : h.Ns mainGlobals mg) (c : He.SaysX fa fn [] [] exB w h K) : Tops K mg := by
  have cd := c.t.d
  have ce : exB K = true := c.more
  unfold exB at ce
  rw [Bool.and_eq_true, Bool.and_eq_true, Bool.and_eq_true, Bool.and_eq_true, Bool.and_eq_true, Bool.and_eq_true] at ce
  obtain ⟨g1, g2, g3, g4, g5, g6, g7⟩ := ce
  have glo : ∀ x : Str, He.Fa.glo x ∈ fa → mg x = some (.ref (He.ga K x)) := fun x hx => He.glo_ok X G (cd.facts hx)
  refine ⟨fun i q hq => ?_, fun i q hq => ?_, fun i x hx => ?_, ?_, ?_, ?_⟩
  · obtain ⟨fd, F⟩ := cd.def_ i (d := dOf q.1 q.2) (by unfold fn; rw [List.getElem?_map, hq]; rfl)
    exact ⟨_, fd, F, glo q.1 (by
      unfold fa faG
      refine List.mem_append_left _ (List.mem_append_left _ (List.mem_append_left _ ?_))
      exact List.mem_map.mpr ⟨q, List.mem_of_getElem? hq, rfl⟩)⟩
  · refine He.int_ok X G (cd.facts ?_)
    unfold fa faI
    refine List.mem_append_left _ (List.mem_append_left _ (List.mem_append_right _ ?_))
    exact List.mem_map.mpr ⟨q, List.mem_of_getElem? hq, rfl⟩
  · refine He.free_ok X G (cd.facts ?_)
    unfold fa faB
    refine List.mem_append_left _ (List.mem_append_right _ ?_)
    exact List.mem_map.mpr ⟨x, List.mem_of_getElem? hx, rfl⟩
  · exact ⟨_, glo "GROUPS" (List.mem_append_right _ (by simp [faT])), fun H => .tup (He.tupB_ok g1 H) (.cons (.str _) (.cons (.str _) .nil))⟩
  · exact ⟨_, glo "MULTIPLES" (List.mem_append_right _ (by simp [faT])), fun H => .tup (He.tupB_ok g2 H) (.cons (.str _) (.cons (.str _) .nil))⟩
  · exact ⟨_, glo "EMPTY" (List.mem_append_right _ (by simp [faT])), fun H => .tup (tupA_ok g3 H) (.cons (.int 0) (.cons (.int 0) (.cons (.tup (tupA_ok g4 H) (.cons (.tup (tupA_ok g6 H) (.cons (.int 0) (.cons (.int 0) .nil))) .nil)) (.cons (.tup (tupA_ok g5 H) (.cons (.tup (tupA_ok g7 H) (.cons (.int 0) (.cons (.int 0) .nil))) .nil)) .nil))))⟩
end
end K30
open PySem PySem.W PySem.Calls PyProof.Rows
theorem PySem.Challenge.cw_roomprofile_k30_whole_small_jobs_holds : PySem.Challenge.rw_roomprofile_k30_whole_small_jobs.Holds := by
  w_on; o_law
  refine K30.head (Att.attach_callB (l := PySem.Challenge.rw_roomprofile_k30_whole_small_jobs) (n := 63) rfl (by kernel_rfl) ?_)
  intro w s₀ s₁ mg mb fa o pm cd doc a vs ns G Y ho hd hcd hmg hobj hints hlen hbits hg
  obtain ⟨K, KX, c⟩ := Y
  have T := K30.tops KX G.T.g c
  obtain ⟨f, fd, F, hm⟩ := T.d_law
  have hn : (HandSHeadRun.topDef (OpenLaw.row PySem.Challenge.rw_roomprofile_k30_whole_small_jobs).prog 83).name = ("law" : PySem.Str) := by kernel_rfl
  rw [hn] at hmg
  rw [hm] at hmg
  cases hmg
  refine K30.law_runs (k := 61) (x := "_law_script") KX G.T.g G.T.b G.T.builtins G.T.nolimit hg hobj hints (Nat.le_trans hlen (by decide)) ⟨rfl, by decide, by decide⟩ (fun base _ _ => K30.law_gok T F) (fun s u => ?_) fun H hS => ⟨a, ns, rfl, hS, fun _ => rfl⟩
  exact L2.FunD.bindsA (ps := ["_law_script"]) F (fun kV doc pm an cdv ct us h => K30.hb_law kV doc pm an cdv ct us h) s [u] rfl
