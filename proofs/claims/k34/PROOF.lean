import PyProof.Rows.All
import Wide.All
import OpenK.AllK
import Wide.FinOn
import HandS.ForMost
import HandS.Wide
import HandS.Gcd
import HandS.IsInst
import HandS.Deep
import HandS.More
import HandS.Codes
import HandS.Ends
import PySem.Challenge.RW_samphire_k34_whole_weighted_estimates
set_option Elab.async false
set_option linter.all false
set_option maxRecDepth 100000
set_option maxHeartbeats 8000000
/-! The mean of the estimates, the ordered estimates and the told variances of weighted samples (samphire, law k34): the program keeps it at every script.
Parts: the mathematics over core rationals (Mth); fractions in lowest terms, their sizes, Euclid; the walk of each def over the hand layer (K34); the law; the head. -/
/-! Mth: the plain mathematics of the ordered (Des Raj) estimates: no program in sight. -/
namespace Mth
/-! ### sums -/
def sm : List Rat → Rat
  | [] => 0
  | x :: r => x + sm r
theorem sm_app : ∀ (a b : List Rat), sm (a ++ b) = sm a + sm b
  | [], b => by show sm b = 0 + sm b; grind
  | x :: a, b => by
    show x + sm (a ++ b) = x + sm a + sm b
    rw [sm_app a b]; grind
theorem sm_snoc (a : List Rat) (x : Rat) : sm (a ++ [x]) = sm a + x := by
  rw [sm_app]; show sm a + (x + 0) = _; grind
def S {α : Type} (l : List α) (f : α → Rat) : Rat := sm (l.map f)
section
variable {α β : Type}
theorem S_nil (f : α → Rat) : S [] f = 0 := rfl
theorem S_cons (x : α) (l : List α) (f : α → Rat) : S (x :: l) f = f x + S l f := rfl
theorem S_app (a b : List α) (f : α → Rat) : S (a ++ b) f = S a f + S b f := by
  unfold S; rw [List.map_append, sm_app]
theorem S_snoc (a : List α) (x : α) (f : α → Rat) : S (a ++ [x]) f = S a f + f x := by
  unfold S; rw [List.map_append]; exact sm_snoc _ _
theorem S_congr {l : List α} {f g : α → Rat} (h : ∀ x ∈ l, f x = g x) : S l f = S l g := by
  induction l with
  | nil => rfl
  | cons a r ih =>
    rw [S_cons, S_cons, h a List.mem_cons_self, ih fun x hx => h x (List.mem_cons_of_mem _ hx)]
theorem S_add (l : List α) (f g : α → Rat) : S l (fun x => f x + g x) = S l f + S l g := by
  induction l with
  | nil => show (0 : Rat) = 0 + 0; grind
  | cons a r ih => rw [S_cons, S_cons, S_cons, ih]; grind
theorem S_mul (l : List α) (c : Rat) (f : α → Rat) : S l (fun x => c * f x) = c * S l f := by
  induction l with
  | nil => show (0 : Rat) = c * 0; grind
  | cons a r ih => rw [S_cons, S_cons, ih]; grind
theorem S_map (l : List β) (g : β → α) (f : α → Rat) : S (l.map g) f = S l (fun x => f (g x)) := by
  unfold S; rw [List.map_map]; rfl
theorem S_flat (l : List β) (g : β → List α) (f : α → Rat) : S (l.flatMap g) f = S l (fun x => S (g x) f) := by
  induction l with
  | nil => rfl
  | cons a r ih => rw [List.flatMap_cons, S_app, S_cons, ih]
theorem S_pos {l : List α} {f : α → Rat} (h : ∀ x ∈ l, 0 < f x) (hl : 0 < l.length) : 0 < S l f := by
  have nn : ∀ {l : List α}, (∀ x ∈ l, 0 < f x) → 0 ≤ S l f := by
    intro l
    induction l with
    | nil => intro _; exact Rat.le_refl
    | cons a r ih =>
      intro h
      rw [S_cons]
      have h1 := h a List.mem_cons_self
      have h2 := ih fun x hx => h x (List.mem_cons_of_mem _ hx)
      grind
  cases l with
  | nil => simp at hl
  | cons a r =>
    rw [S_cons]
    have h1 := h a List.mem_cons_self
    have h2 := nn (l := r) fun x hx => h x (List.mem_cons_of_mem _ hx)
    grind
theorem S_one (l : List α) : S l (fun _ => 1) = (l.length : Int) := by
  induction l with
  | nil => rfl
  | cons a r ih =>
    rw [S_cons, ih, List.length_cons]
    have : ((r.length + 1 : Nat) : Int) = (r.length : Int) + 1 := by omega
    rw [this, Rat.intCast_add]
    grind
end
/-! ### orders -/
section
variable {α : Type} [DecidableEq α]
def out (L one : List α) : List α := L.filter fun x => !decide (x ∈ one)
def ext (L one : List α) : List (List α) := (out L one).map fun x => one ++ [x]
def ords (L : List α) : Nat → List (List α)
  | 0 => [[]]
  | s + 1 => (ords L s).flatMap (ext L)
theorem mem_out {L one : List α} {x : α} : x ∈ out L one ↔ x ∈ L ∧ ¬ x ∈ one := by
  unfold out; rw [List.mem_filter]; simp
structure Good (L : List α) (s : Nat) (one : List α) : Prop where
  nd : one.Nodup
  sub : ∀ x ∈ one, x ∈ L
  len : one.length = s
theorem nd_snoc {l : List α} {x : α} (h : l.Nodup) (hx : ¬ x ∈ l) : (l ++ [x]).Nodup := by
  rw [List.nodup_append]
  refine ⟨h, by simp, ?_⟩
  intro a ha b hb e
  simp at hb
  subst hb
  exact hx (e ▸ ha)
theorem ords_good {L : List α} : ∀ {s : Nat} {one : List α}, one ∈ ords L s → Good L s one
  | 0, one, h => by
    have e : one = [] := by simpa [ords] using h
    subst e
    exact ⟨List.nodup_nil, by simp, rfl⟩
  | s + 1, one, h => by
    obtain ⟨o, ho, h1⟩ := List.mem_flatMap.mp (show one ∈ (ords L s).flatMap (ext L) from h)
    obtain ⟨x, hx, rfl⟩ := List.mem_map.mp h1
    obtain ⟨hL, hn⟩ := mem_out.mp hx
    have G := ords_good ho
    refine ⟨nd_snoc G.nd hn, ?_, by rw [List.length_append, G.len]; rfl⟩
    intro y hy
    rcases List.mem_append.mp hy with q | q
    · exact G.sub y q
    · simp at q; subst q; exact hL
theorem S_drop_one (f : α → Rat) : ∀ {M : List α} {a : α}, M.Nodup → a ∈ M → S (M.filter fun x => !decide (x = a)) f = S M f - f a
  | [], _, _, h => by simp at h
  | b :: r, a, hn, h => by
    obtain ⟨h1, h2⟩ := List.nodup_cons.mp hn
    by_cases e : b = a
    · subst e
      rw [List.filter_cons, if_neg (by simp), S_cons]
      have : r.filter (fun x => !decide (x = b)) = r := by
        rw [List.filter_eq_self]
        intro x hx
        have : ¬ x = b := fun q => h1 (q ▸ hx)
        simp [this]
      rw [this]; grind
    · have hr : a ∈ r := by
        rcases List.mem_cons.mp h with q | q
        · exact absurd q.symm e
        · exact q
      rw [List.filter_cons, if_pos (by simp [e]), S_cons, S_cons, S_drop_one f h2 hr]
      grind
theorem S_out (f : α → Rat) {L : List α} (hL : L.Nodup) : ∀ {one : List α}, one.Nodup → (∀ x ∈ one, x ∈ L) → S (out L one) f = S L f - S one f
  | [], _, _ => by
    have : out L [] = L := by unfold out; rw [List.filter_eq_self]; simp
    rw [this, S_nil]; grind
  | a :: r, hn, hs => by
    obtain ⟨h1, h2⟩ := List.nodup_cons.mp hn
    have ih := S_out f hL h2 fun x hx => hs x (List.mem_cons_of_mem _ hx)
    have e : out L (a :: r) = (out L r).filter fun x => !decide (x = a) := by
      unfold out
      rw [List.filter_filter]
      congr 1
      funext x
      by_cases q : x = a <;> simp [q]
    have hm : a ∈ out L r := mem_out.mpr ⟨hs a List.mem_cons_self, h1⟩
    have hnd : (out L r).Nodup := hL.filter _
    rw [e, S_drop_one f hnd hm, ih, S_cons]
    grind
theorem out_len {L : List α} (hL : L.Nodup) {s : Nat} {one : List α} (G : Good L s one) : ((out L one).length : Int) = L.length - s := by
  have h := S_out (fun _ => (1 : Rat)) hL G.nd G.sub
  rw [S_one, S_one, S_one, G.len, ← Rat.intCast_sub] at h
  exact Rat.intCast_inj.mp h
/-! ### chances -/
variable (w y : α → Rat)
/-- the chance of an order, and what is left -/
def chT (T : Rat) (one : List α) : Rat × Rat := one.foldl (fun c x => (c.1 * (w x / c.2), c.2 - w x)) (1, T)
def ch (T : Rat) (one : List α) : Rat := (chT w T one).1
theorem chT_left (T : Rat) (one : List α) : (chT w T one).2 = T - S one w := by
  have g : ∀ (l : List α) (c : Rat × Rat), (l.foldl (fun c x => (c.1 * (w x / c.2), c.2 - w x)) c).2 = c.2 - S l w := by
    intro l
    induction l with
    | nil => intro c; rw [S_nil]; show c.2 = c.2 - 0; grind
    | cons a r ih => intro c; rw [List.foldl_cons, ih, S_cons]; grind
  exact g one _
theorem ch_snoc (T : Rat) (one : List α) (x : α) : ch w T (one ++ [x]) = ch w T one * (w x / (T - S one w)) := by
  unfold ch
  have e : chT w T (one ++ [x]) = ((chT w T one).1 * (w x / (chT w T one).2), (chT w T one).2 - w x) := by
    unfold chT; rw [List.foldl_append]; rfl
  rw [e, chT_left]
/-- the ordered estimates -/
def tsT (T : Rat) (one : List α) : List Rat × Rat × Rat := one.foldl (fun c x => (c.1 ++ [c.2.2 + y x * c.2.1 / w x], c.2.1 - w x, c.2.2 + y x)) ([], T, 0)
def ts (T : Rat) (one : List α) : List Rat := (tsT w y T one).1
theorem tsT_left (T : Rat) (one : List α) : (tsT w y T one).2 = (T - S one w, S one y) := by
  have g : ∀ (l : List α) (c : List Rat × Rat × Rat), (l.foldl (fun c x => (c.1 ++ [c.2.2 + y x * c.2.1 / w x], c.2.1 - w x, c.2.2 + y x)) c).2 = (c.2.1 - S l w, c.2.2 + S l y) := by
    intro l
    induction l with
    | nil => intro c; rw [S_nil, S_nil]; show c.2 = (c.2.1 - 0, c.2.2 + 0); ext <;> grind
    | cons a r ih => intro c; rw [List.foldl_cons, ih, S_cons, S_cons]; ext <;> grind
  have h := g one ([], T, 0)
  rw [show (0 : Rat) + S one y = S one y by grind] at h
  exact h
theorem ts_snoc (T : Rat) (one : List α) (x : α) : ts w y T (one ++ [x]) = ts w y T one ++ [S one y + y x * (T - S one w) / w x] := by
  unfold ts
  have e : tsT w y T (one ++ [x]) = ((tsT w y T one).1 ++ [(tsT w y T one).2.2 + y x * (tsT w y T one).2.1 / w x], (tsT w y T one).2.1 - w x, (tsT w y T one).2.2 + y x) := by
    unfold tsT; rw [List.foldl_append]; rfl
  rw [e, tsT_left]
theorem ts_len (T : Rat) (one : List α) : (ts w y T one).length = one.length := by
  have g : ∀ (l : List α) (c : List Rat × Rat × Rat), (l.foldl (fun c x => (c.1 ++ [c.2.2 + y x * c.2.1 / w x], c.2.1 - w x, c.2.2 + y x)) c).1.length = c.1.length + l.length := by
    intro l
    induction l with
    | nil => intro c; rfl
    | cons a r ih => intro c; rw [List.foldl_cons, ih]; simp; omega
  have h := g one ([], T, 0)
  simpa [ts, tsT] using h
end
/-! ### the means over all orders -/
section
variable {α : Type} [DecidableEq α]
structure Fine (L : List α) (w : α → Rat) : Prop where
  nd : L.Nodup
  pos : ∀ x ∈ L, 0 < w x
variable {L : List α} {w : α → Rat} (y : α → Rat)
theorem Fine.left (F : Fine L w) {s : Nat} {one : List α} (G : Good L s one) : S (out L one) w = S L w - S one w := S_out w F.nd G.nd G.sub
theorem Fine.left_pos (F : Fine L w) {s : Nat} {one : List α} (G : Good L s one) (hs : s < L.length) : 0 < S L w - S one w := by
  rw [← F.left G]
  refine S_pos (fun x hx => F.pos x (mem_out.mp hx).1) ?_
  have := out_len F.nd G
  omega
theorem Fine.left_zero (F : Fine L w) {s : Nat} {one : List α} (G : Good L s one) (hs : s = L.length) : S L w - S one w = 0 := by
  rw [← F.left G]
  have := out_len F.nd G
  have h0 : (out L one).length = 0 := by omega
  rw [List.length_eq_zero_iff.mp h0]; rfl
theorem whole_amount (F : Fine L w) {s : Nat} {one : List α} (G : Good L s one) (hs : s = L.length) : S one y = S L y := by
  have h := S_out y F.nd G.nd G.sub
  have := out_len F.nd G
  have h0 : (out L one).length = 0 := by omega
  rw [List.length_eq_zero_iff.mp h0, S_nil] at h
  grind
/-- the mean of f over all orders of s items -/
def E (L : List α) (w : α → Rat) (s : Nat) (f : List α → Rat) : Rat := S (ords L s) fun one => ch w (S L w) one * f one
theorem E_congr {s : Nat} {f g : List α → Rat} (h : ∀ one ∈ ords L s, f one = g one) : E L w s f = E L w s g :=
  S_congr fun one ho => by rw [h one ho]
theorem E_add (s : Nat) (f g : List α → Rat) : E L w s (fun o => f o + g o) = E L w s f + E L w s g := by
  unfold E; rw [← S_add]; exact S_congr fun _ _ => by grind
theorem E_mul (s : Nat) (c : Rat) (f : List α → Rat) : E L w s (fun o => c * f o) = c * E L w s f := by
  unfold E; rw [← S_mul]; exact S_congr fun _ _ => by grind
theorem E_step (s : Nat) (f : List α → Rat) : E L w (s + 1) f = E L w s fun one => S (out L one) fun x => w x / (S L w - S one w) * f (one ++ [x]) := by
  show S ((ords L s).flatMap (ext L)) _ = _
  rw [S_flat]
  refine S_congr fun one _ => ?_
  unfold ext
  rw [S_map, ← S_mul]
  refine S_congr fun x _ => ?_
  rw [ch_snoc]; grind
/-- what does not hang on the last item -/
theorem E_last (F : Fine L w) {s : Nat} (hs : s < L.length) {f g : List α → Rat} (h : ∀ one ∈ ords L s, ∀ x ∈ out L one, f (one ++ [x]) = g one) : E L w (s + 1) f = E L w s g := by
  rw [E_step]
  refine E_congr fun one ho => ?_
  have G := ords_good ho
  have p := F.left_pos G hs
  have e : S (out L one) (fun x => w x / (S L w - S one w) * f (one ++ [x])) = S (out L one) fun x => (g one / (S L w - S one w)) * w x :=
    S_congr fun x hx => by rw [h one ho x hx]; grind
  rw [e, S_mul, F.left G]
  grind
theorem E_one (F : Fine L w) : ∀ {s : Nat}, s ≤ L.length → E L w s (fun _ => 1) = 1
  | 0, _ => by show 1 * 1 + (0 : Rat) = 1; grind
  | s + 1, h => by
    rw [E_last F (s := s) (by omega) (g := fun _ => 1) fun _ _ _ _ => rfl]
    exact E_one F (by omega)
theorem E_const (F : Fine L w) {s : Nat} (hs : s ≤ L.length) (c : Rat) : E L w s (fun _ => c) = c := by
  have h := E_mul (L := L) (w := w) s c (fun _ => 1)
  rw [E_one F hs] at h
  rw [show c * (1 : Rat) = c by grind] at h
  exact h
/-- the last ordered estimate, given what was drawn before: its mean is the whole -/
theorem last_mean (F : Fine L w) {s : Nat} (hs : s < L.length) {one : List α} (ho : one ∈ ords L s) :
    S (out L one) (fun x => w x / (S L w - S one w) * (S one y + y x * (S L w - S one w) / w x)) = S L y := by
  have G := ords_good ho
  have p := F.left_pos G hs
  have e : S (out L one) (fun x => w x / (S L w - S one w) * (S one y + y x * (S L w - S one w) / w x)) = S (out L one) fun x => (S one y / (S L w - S one w)) * w x + y x :=
    S_congr fun x hx => by
      have q := F.pos x (mem_out.mp hx).1
      grind
  rw [e, S_add, S_mul, F.left G, S_out y F.nd G.nd G.sub]
  grind
/-- each ordered estimate is right in the mean -/
theorem each_mean (F : Fine L w) : ∀ {s : Nat}, s ≤ L.length → ∀ k, k < s → E L w s (fun one => (ts w y (S L w) one).getD k 0) = S L y
  | 0, _, k, hk => by omega
  | s + 1, hs, k, hk => by
    by_cases h : k < s
    · rw [E_last F (s := s) (by omega) (g := fun one => (ts w y (S L w) one).getD k 0)]
      · exact each_mean F (by omega) k h
      · intro one ho x _
        have hl : k < (ts w y (S L w) one).length := by rw [ts_len, (ords_good ho).len]; exact h
        rw [ts_snoc]
        simp [List.getElem?_append, hl]
    · have e : k = s := by omega
      subst e
      rw [E_step]
      have : E L w k (fun one => S (out L one) fun x => w x / (S L w - S one w) * (ts w y (S L w) (one ++ [x])).getD k 0) = E L w k fun _ => S L y := by
        refine E_congr fun one ho => ?_
        rw [← last_mean y F (by omega) ho]
        refine S_congr fun x _ => ?_
        have hl : (ts w y (S L w) one).length = k := by rw [ts_len, (ords_good ho).len]
        rw [ts_snoc]
        congr 1
        simp [List.getElem?_append, hl]
      rw [this, E_const F (by omega)]
/-- the sum of the ordered estimates; the sum of their squares -/
def s1 (w y : α → Rat) (T : Rat) (one : List α) : Rat := sm (ts w y T one)
def s2 (w y : α → Rat) (T : Rat) (one : List α) : Rat := sm ((ts w y T one).map fun t => t * t)
theorem s1_snoc (T : Rat) (one : List α) (x : α) : s1 w y T (one ++ [x]) = s1 w y T one + (S one y + y x * (T - S one w) / w x) := by
  unfold s1; rw [ts_snoc, sm_snoc]
theorem s2_snoc (T : Rat) (one : List α) (x : α) : s2 w y T (one ++ [x]) = s2 w y T one + (S one y + y x * (T - S one w) / w x) * (S one y + y x * (T - S one w) / w x) := by
  unfold s2; rw [ts_snoc, List.map_append]; exact sm_snoc _ _
theorem s1_mean (F : Fine L w) : ∀ {s : Nat}, s ≤ L.length → E L w s (s1 w y (S L w)) = (s : Int) * S L y
  | 0, _ => by
    show 1 * 0 + (0 : Rat) = ((0 : Int) : Rat) * S L y
    rw [show ((0 : Int) : Rat) = 0 from rfl]; grind
  | s + 1, hs => by
    have h1 : E L w (s + 1) (s1 w y (S L w)) = E L w s (fun one => s1 w y (S L w) one + S L y) := by
      rw [E_step]
      refine E_congr fun one ho => ?_
      have G := ords_good ho
      have p := F.left_pos G (by omega)
      have l := last_mean y F (by omega) ho
      have e : S (out L one) (fun x => w x / (S L w - S one w) * s1 w y (S L w) (one ++ [x])) =
          S (out L one) fun x => (s1 w y (S L w) one / (S L w - S one w)) * w x + w x / (S L w - S one w) * (S one y + y x * (S L w - S one w) / w x) :=
        S_congr fun x _ => by rw [s1_snoc]; grind
      rw [e, S_add, S_mul, F.left G, l]
      grind
    rw [h1, E_add, s1_mean F (by omega), E_const F (by omega)]
    have : ((s + 1 : Nat) : Int) = (s : Int) + 1 := by omega
    rw [this, Rat.intCast_add]
    grind
theorem sq_mean (F : Fine L w) : ∀ {s : Nat}, s ≤ L.length →
    E L w s (fun one => s1 w y (S L w) one * s1 w y (S L w) one) = E L w s (s2 w y (S L w)) + (s : Int) * ((s : Int) - 1) * (S L y * S L y)
  | 0, _ => by
    show 1 * (0 * 0) + (0 : Rat) = 1 * 0 + 0 + ((0 : Int) : Rat) * (((0 : Int) : Rat) - 1) * (S L y * S L y)
    rw [show ((0 : Int) : Rat) = 0 from rfl]; grind
  | s + 1, hs => by
    -- the square of the last estimate is in both
    have h1 : E L w (s + 1) (fun one => s1 w y (S L w) one * s1 w y (S L w) one) =
        E L w s (fun one => s1 w y (S L w) one * s1 w y (S L w) one + 2 * S L y * s1 w y (S L w) one +
          S (out L one) fun x => w x / (S L w - S one w) * ((S one y + y x * (S L w - S one w) / w x) * (S one y + y x * (S L w - S one w) / w x))) := by
      rw [E_step]
      refine E_congr fun one ho => ?_
      have G := ords_good ho
      have p := F.left_pos G (by omega)
      have l := last_mean y F (by omega) ho
      have e : S (out L one) (fun x => w x / (S L w - S one w) * (s1 w y (S L w) (one ++ [x]) * s1 w y (S L w) (one ++ [x]))) =
          S (out L one) fun x => ((s1 w y (S L w) one * s1 w y (S L w) one / (S L w - S one w)) * w x +
            (2 * s1 w y (S L w) one) * (w x / (S L w - S one w) * (S one y + y x * (S L w - S one w) / w x))) +
            w x / (S L w - S one w) * ((S one y + y x * (S L w - S one w) / w x) * (S one y + y x * (S L w - S one w) / w x)) :=
        S_congr fun x _ => by rw [s1_snoc]; grind
      rw [e, S_add, S_add, S_mul, S_mul, F.left G, l]
      grind
    have h2 : E L w (s + 1) (s2 w y (S L w)) =
        E L w s (fun one => s2 w y (S L w) one +
          S (out L one) fun x => w x / (S L w - S one w) * ((S one y + y x * (S L w - S one w) / w x) * (S one y + y x * (S L w - S one w) / w x))) := by
      rw [E_step]
      refine E_congr fun one ho => ?_
      have G := ords_good ho
      have p := F.left_pos G (by omega)
      have e : S (out L one) (fun x => w x / (S L w - S one w) * s2 w y (S L w) (one ++ [x])) =
          S (out L one) fun x => (s2 w y (S L w) one / (S L w - S one w)) * w x +
            w x / (S L w - S one w) * ((S one y + y x * (S L w - S one w) / w x) * (S one y + y x * (S L w - S one w) / w x)) :=
        S_congr fun x _ => by rw [s2_snoc]; grind
      rw [e, S_add, S_mul, F.left G]
      grind
    rw [h1, h2, E_add, E_add, E_add, E_mul, sq_mean F (by omega), s1_mean y F (by omega)]
    have : ((s + 1 : Nat) : Int) = (s : Int) + 1 := by omega
    rw [this, Rat.intCast_add]
    grind
/-! ### the estimate and its variance -/
/-- the sum of the squares of the differences -/
def spr (l : List Rat) (m : Rat) : Rat := sm (l.map fun t => (t - m) * (t - m))
theorem spr_eq (l : List Rat) (m : Rat) : spr l m = sm (l.map fun t => t * t) - 2 * m * sm l + (l.length : Int) * (m * m) := by
  induction l with
  | nil => show (0 : Rat) = 0 - 2 * m * 0 + ((0 : Int) : Rat) * (m * m); rw [show ((0 : Int) : Rat) = 0 from rfl]; grind
  | cons a r ih =>
    have e : spr (a :: r) m = (a - m) * (a - m) + spr r m := rfl
    rw [e, ih, List.length_cons]
    show _ = (a * a + sm (r.map fun t => t * t)) - 2 * m * (a + sm r) + _
    have : ((r.length + 1 : Nat) : Int) = (r.length : Int) + 1 := by omega
    rw [this, Rat.intCast_add]
    grind
def mid (w y : α → Rat) (T : Rat) (one : List α) : Rat := sm (ts w y T one) / (one.length : Int)
def var (w y : α → Rat) (T : Rat) (one : List α) : Rat := spr (ts w y T one) (mid w y T one) / ((one.length * (one.length - 1) : Int) : Rat)
theorem mid_mean (F : Fine L w) {s : Nat} (h0 : 0 < s) (hs : s ≤ L.length) : E L w s (mid w y (S L w)) = S L y := by
  have e : E L w s (mid w y (S L w)) = E L w s fun one => (1 / ((s : Int) : Rat)) * s1 w y (S L w) one := by
    refine E_congr fun one ho => ?_
    unfold mid s1
    rw [(ords_good ho).len]; grind
  have p : (0 : Rat) < ((s : Int) : Rat) := Rat.intCast_pos.mpr (by omega)
  rw [e, E_mul, s1_mean y F hs]
  grind
theorem var_mean (F : Fine L w) {s : Nat} (h0 : 1 < s) (hs : s ≤ L.length) :
    E L w s (var w y (S L w)) = E L w s (fun one => (mid w y (S L w) one - S L y) * (mid w y (S L w) one - S L y)) := by
  have p : (0 : Rat) < ((s : Int) : Rat) := Rat.intCast_pos.mpr (by omega)
  have p1 : (0 : Rat) < ((s : Int) : Rat) - 1 := by
    have : (0 : Rat) < (((s : Int) - 1 : Int) : Rat) := Rat.intCast_pos.mpr (by omega)
    rw [Rat.intCast_sub] at this
    exact this
  obtain ⟨c, hc⟩ : ∃ c : Rat, c = ((s : Int) : Rat) := ⟨_, rfl⟩
  obtain ⟨u, hu⟩ : ∃ u : Rat, u = c⁻¹ := ⟨_, rfl⟩
  obtain ⟨v, hv⟩ : ∃ v : Rat, v = (c - 1)⁻¹ := ⟨_, rfl⟩
  rw [← hc] at p p1
  have q : c * u = 1 := by grind
  have q1 : (c - 1) * v = 1 := by grind
  have dv : ∀ z : Rat, z / c = z * u := fun z => by rw [hu]; grind
  have dw : ∀ z : Rat, z / (c * (c - 1)) = z * (u * v) := fun z => by grind
  have e1 : E L w s (var w y (S L w)) = E L w s fun one => (u * v) * s2 w y (S L w) one + (-(u * u * v)) * (s1 w y (S L w) one * s1 w y (S L w) one) := by
    refine E_congr fun one ho => ?_
    have hl := (ords_good ho).len
    have ht : (ts w y (S L w) one).length = s := by rw [ts_len, hl]
    unfold var
    rw [spr_eq]
    unfold mid
    rw [ht, hl, Rat.intCast_mul, Rat.intCast_sub]
    rw [← hc, show ((1 : Int) : Rat) = 1 from rfl, dw, dv]
    show (s2 w y (S L w) one - 2 * (s1 w y (S L w) one * u) * s1 w y (S L w) one + c * (s1 w y (S L w) one * u * (s1 w y (S L w) one * u))) * (u * v) = _
    generalize s1 w y (S L w) one = a
    generalize s2 w y (S L w) one = b
    grind
  have e2 : E L w s (fun one => (mid w y (S L w) one - S L y) * (mid w y (S L w) one - S L y)) =
      E L w s fun one => ((u * u) * (s1 w y (S L w) one * s1 w y (S L w) one) + (-(2 * S L y * u)) * s1 w y (S L w) one) + S L y * S L y := by
    refine E_congr fun one ho => ?_
    have hl := (ords_good ho).len
    unfold mid
    rw [hl, ← hc, dv]
    show (s1 w y (S L w) one * u - S L y) * (s1 w y (S L w) one * u - S L y) = _
    grind
  rw [e1, e2, E_add, E_add, E_add, E_mul, E_mul, E_mul, E_mul, E_const F hs, sq_mean y F hs, s1_mean y F hs, ← hc]
  generalize E L w s (s2 w y (S L w)) = A
  generalize S L y = Y
  clear e1 e2 dv dw hu hv hc
  grind
end
end Mth

/-! Frc: fractions in lowest terms as core rationals; their sizes; Euclid's turns. Plain Lean. -/
namespace Mth
/-! ### a fraction in lowest terms is the rational's two numbers -/
theorem frac_num (p : Int) {q : Int} (hq : 0 < q) : ((p : Rat) / (q : Rat)).num = p / ((Nat.gcd p.natAbs q.natAbs : Nat) : Int) := by
  rw [← Rat.divInt_eq_div, Rat.num_divInt, Int.sign_eq_one_of_pos hq, Int.one_mul]
  have : Int.gcd q p = Nat.gcd p.natAbs q.natAbs := by unfold Int.gcd; exact Nat.gcd_comm _ _
  rw [this]
theorem frac_den (p : Int) {q : Int} (hq : 0 < q) : ((((p : Rat) / (q : Rat)).den : Nat) : Int) = q / ((Nat.gcd p.natAbs q.natAbs : Nat) : Int) := by
  rw [← Rat.divInt_eq_div, Rat.den_divInt, if_neg (by omega)]
  have : Int.gcd q p = Nat.gcd p.natAbs q.natAbs := by unfold Int.gcd; exact Nat.gcd_comm _ _
  rw [this, Int.natCast_ediv]
  congr 1
  omega
theorem den_pos' (x : Rat) : (0 : Int) < (x.den : Int) := by
  have := Rat.den_pos x; omega
theorem rat_eq (x : Rat) : x = (x.num : Rat) / (((x.den : Nat) : Int) : Rat) := by
  rw [← Rat.divInt_eq_div, Rat.num_divInt_den]
theorem denR_ne (x : Rat) : (((x.den : Nat) : Int) : Rat) ≠ 0 := by
  have h : (0 : Rat) < (((x.den : Nat) : Int) : Rat) := Rat.intCast_pos.mpr (den_pos' x)
  grind
theorem add_frac (x y : Rat) : x + y = ((x.num * y.den + y.num * x.den : Int) : Rat) / ((x.den * y.den : Int) : Rat) := by
  have hx := rat_eq x
  have hy := rat_eq y
  have dx := denR_ne x
  have dy := denR_ne y
  rw [Rat.intCast_add, Rat.intCast_mul, Rat.intCast_mul, Rat.intCast_mul]
  generalize (x.num : Rat) = a at *
  generalize (((x.den : Nat) : Int) : Rat) = b at *
  generalize (y.num : Rat) = c at *
  generalize (((y.den : Nat) : Int) : Rat) = d at *
  subst hx hy
  grind
theorem sub_frac (x y : Rat) : x - y = ((x.num * y.den - y.num * x.den : Int) : Rat) / ((x.den * y.den : Int) : Rat) := by
  have hx := rat_eq x
  have hy := rat_eq y
  have dx := denR_ne x
  have dy := denR_ne y
  rw [Rat.intCast_sub, Rat.intCast_mul, Rat.intCast_mul, Rat.intCast_mul]
  generalize (x.num : Rat) = a at *
  generalize (((x.den : Nat) : Int) : Rat) = b at *
  generalize (y.num : Rat) = c at *
  generalize (((y.den : Nat) : Int) : Rat) = d at *
  subst hx hy
  grind
theorem mul_frac (x y : Rat) : x * y = ((x.num * y.num : Int) : Rat) / ((x.den * y.den : Int) : Rat) := by
  have hx := rat_eq x
  have hy := rat_eq y
  have dx := denR_ne x
  have dy := denR_ne y
  rw [Rat.intCast_mul, Rat.intCast_mul]
  generalize (x.num : Rat) = a at *
  generalize (((x.den : Nat) : Int) : Rat) = b at *
  generalize (y.num : Rat) = c at *
  generalize (((y.den : Nat) : Int) : Rat) = d at *
  subst hx hy
  grind
theorem div_frac (x y : Rat) : x / y = ((x.num * y.den : Int) : Rat) / ((x.den * y.num : Int) : Rat) := by
  have hx := rat_eq x
  have hy := rat_eq y
  have dx := denR_ne x
  have dy := denR_ne y
  rw [Rat.intCast_mul, Rat.intCast_mul]
  by_cases h0 : (y.num : Rat) = 0
  · rw [h0] at hy ⊢
    rw [hy]; grind
  · generalize (x.num : Rat) = a at *
    generalize (((x.den : Nat) : Int) : Rat) = b at *
    generalize (y.num : Rat) = c at *
    generalize (((y.den : Nat) : Int) : Rat) = d at *
    subst hx hy
    grind
theorem num_pos {y : Rat} (h : 0 < y) : 0 < y.num := by
  have hy := rat_eq y
  have hd : (0 : Rat) < (((y.den : Nat) : Int) : Rat) := Rat.intCast_pos.mpr (den_pos' y)
  apply Rat.intCast_pos.mp
  generalize (y.num : Rat) = c at *
  generalize (((y.den : Nat) : Int) : Rat) = d at *
  have e : c = y * d := by grind
  rw [e]
  exact Rat.mul_pos h hd
theorem int_num (n : Int) : ((n : Int) : Rat).num = n := rfl
theorem int_den (n : Int) : ((n : Int) : Rat).den = 1 := rfl
/-! ### sizes -/
structure Sm (k : Nat) (x : Rat) : Prop where
  n : x.num.natAbs < 2 ^ k
  d : x.den < 2 ^ k
theorem Sm.mono {a b : Nat} {x : Rat} (h : Sm a x) (hab : a ≤ b) : Sm b x :=
  ⟨Nat.lt_of_lt_of_le h.n (Nat.pow_le_pow_right (by decide) hab), Nat.lt_of_lt_of_le h.d (Nat.pow_le_pow_right (by decide) hab)⟩
theorem Int.natCast_dvd_natAbs_of (p : Int) (g : Nat) (h : g ∣ p.natAbs) : ((g : Nat) : Int) ∣ p := Int.natAbs_dvd_natAbs.mp (by rw [Int.natAbs_natCast]; exact h)
theorem sm_frac {p q : Int} {k : Nat} (hq : 0 < q) (h1 : p.natAbs < 2 ^ k) (h2 : q.natAbs < 2 ^ k) : Sm k ((p : Rat) / (q : Rat)) := by
  constructor
  · rw [frac_num p hq, Int.natAbs_ediv_of_dvd (Int.natCast_dvd_natAbs_of p _ (Nat.gcd_dvd_left _ _))]
    exact Nat.lt_of_le_of_lt (Nat.div_le_self _ _) h1
  · have e := frac_den p hq
    have e2 : (((p : Rat) / (q : Rat)).den : Nat) = q.natAbs / Nat.gcd p.natAbs q.natAbs := by
      have : ((q.natAbs / Nat.gcd p.natAbs q.natAbs : Nat) : Int) = q / ((Nat.gcd p.natAbs q.natAbs : Nat) : Int) := by
        rw [Int.natCast_ediv]; congr 1; omega
      omega
    rw [e2]
    exact Nat.lt_of_le_of_lt (Nat.div_le_self _ _) h2
theorem abs_mul_lt {a b : Int} {m n : Nat} (h1 : a.natAbs < 2 ^ m) (h2 : b.natAbs < 2 ^ n) : (a * b).natAbs < 2 ^ (m + n) := by
  rw [Int.natAbs_mul, Nat.pow_add]
  exact Nat.mul_lt_mul'' h1 h2
theorem abs_add_lt {a b : Int} {m : Nat} (h1 : a.natAbs < 2 ^ m) (h2 : b.natAbs < 2 ^ m) : (a + b).natAbs < 2 ^ (m + 1) := by
  rw [Nat.pow_succ]; omega
theorem abs_sub_lt {a b : Int} {m : Nat} (h1 : a.natAbs < 2 ^ m) (h2 : b.natAbs < 2 ^ m) : (a - b).natAbs < 2 ^ (m + 1) := by
  rw [Nat.pow_succ]; omega
theorem Sm.dI {k : Nat} {x : Rat} (h : Sm k x) : ((x.den : Nat) : Int).natAbs < 2 ^ k := by
  rw [Int.natAbs_natCast]; exact h.d
theorem pow_le_mono {a b c : Nat} (h : c < 2 ^ a) (hab : a ≤ b) : c < 2 ^ b := Nat.lt_of_lt_of_le h (Nat.pow_le_pow_right (by decide) hab)
theorem Sm.add {a b : Nat} {x y : Rat} (h : Sm a x) (g : Sm b y) : Sm (a + b + 1) (x + y) := by
  rw [add_frac]
  have h3 := abs_mul_lt h.n g.dI
  have h4 := abs_mul_lt g.n h.dI
  rw [Nat.add_comm b a] at h4
  exact sm_frac (Int.mul_pos (den_pos' x) (den_pos' y)) (abs_add_lt h3 h4) (pow_le_mono (abs_mul_lt h.dI g.dI) (by omega))
theorem Sm.sub {a b : Nat} {x y : Rat} (h : Sm a x) (g : Sm b y) : Sm (a + b + 1) (x - y) := by
  rw [sub_frac]
  have h3 := abs_mul_lt h.n g.dI
  have h4 := abs_mul_lt g.n h.dI
  rw [Nat.add_comm b a] at h4
  exact sm_frac (Int.mul_pos (den_pos' x) (den_pos' y)) (abs_sub_lt h3 h4) (pow_le_mono (abs_mul_lt h.dI g.dI) (by omega))
theorem Sm.mul {a b : Nat} {x y : Rat} (h : Sm a x) (g : Sm b y) : Sm (a + b) (x * y) := by
  rw [mul_frac]
  exact sm_frac (Int.mul_pos (den_pos' x) (den_pos' y)) (abs_mul_lt h.n g.n) (abs_mul_lt h.dI g.dI)
theorem Sm.div {a b : Nat} {x y : Rat} (h : Sm a x) (g : Sm b y) (hy : 0 < y) : Sm (a + b) (x / y) := by
  rw [div_frac]
  exact sm_frac (Int.mul_pos (den_pos' x) (num_pos hy)) (abs_mul_lt h.n g.dI) (abs_mul_lt h.dI g.n)
theorem sm_int {k : Nat} {n : Int} (h : n.natAbs < 2 ^ k) (hk : 0 < k := by decide) : Sm k (n : Rat) := by
  refine ⟨h, ?_⟩
  show 1 < 2 ^ k
  exact Nat.one_lt_two_pow (by omega)
theorem sm_zero : Sm 1 (0 : Rat) := ⟨by decide, by decide⟩
theorem sm_one : Sm 1 (1 : Rat) := ⟨by decide, by decide⟩
/-! ### a common denominator -/
def Dn (D B : Nat) (x : Rat) : Prop := ∃ z : Int, x * ((D : Int) : Rat) = (z : Rat) ∧ z.natAbs ≤ B
theorem Dn.sm {D B k : Nat} {x : Rat} (h : Dn D B x) (h0 : 0 < D) (hD : D < 2 ^ k) (hB : B < 2 ^ k) : Sm k x := by
  obtain ⟨z, e, hz⟩ := h
  have p : (0 : Rat) < ((D : Int) : Rat) := Rat.intCast_pos.mpr (by omega)
  have q : x = (z : Rat) / ((D : Int) : Rat) := by rw [← e]; grind
  rw [q]
  exact sm_frac (by omega) (Nat.lt_of_le_of_lt hz hB) (by rw [Int.natAbs_natCast]; exact hD)
theorem Dn.mono {D B B' : Nat} {x : Rat} (h : Dn D B x) (hb : B ≤ B') : Dn D B' x := by
  obtain ⟨z, e, hz⟩ := h
  exact ⟨z, e, Nat.le_trans hz hb⟩
theorem Dn.add {D B B' : Nat} {x y : Rat} (h : Dn D B x) (g : Dn D B' y) : Dn D (B + B') (x + y) := by
  obtain ⟨z, e, hz⟩ := h
  obtain ⟨u, f, hu⟩ := g
  refine ⟨z + u, by rw [Rat.intCast_add, ← e, ← f]; grind, by omega⟩
theorem Dn.sub {D B B' : Nat} {x y : Rat} (h : Dn D B x) (g : Dn D B' y) : Dn D (B + B') (x - y) := by
  obtain ⟨z, e, hz⟩ := h
  obtain ⟨u, f, hu⟩ := g
  refine ⟨z - u, by rw [Rat.intCast_sub, ← e, ← f]; grind, by omega⟩
theorem Dn.mul {D D' B B' : Nat} {x y : Rat} (h : Dn D B x) (g : Dn D' B' y) : Dn (D * D') (B * B') (x * y) := by
  obtain ⟨z, e, hz⟩ := h
  obtain ⟨u, f, hu⟩ := g
  refine ⟨z * u, ?_, by rw [Int.natAbs_mul]; exact Nat.mul_le_mul hz hu⟩
  rw [Int.natCast_mul, Rat.intCast_mul, Rat.intCast_mul, ← e, ← f]; grind
theorem Dn.int (n : Int) : Dn 1 n.natAbs (n : Rat) := ⟨n, by show (n : Rat) * ((1 : Int) : Rat) = _; rw [show ((1 : Int) : Rat) = 1 from rfl]; grind, Nat.le_refl _⟩
theorem Dn.scale {D B : Nat} {x : Rat} (h : Dn D B x) (c : Nat) : Dn (D * c) (B * c) x := by
  obtain ⟨z, e, hz⟩ := h
  refine ⟨z * c, by rw [Int.natCast_mul, Rat.intCast_mul, Rat.intCast_mul, ← e]; grind, ?_⟩
  rw [Int.natAbs_mul, Int.natAbs_natCast]; exact Nat.mul_le_mul hz (Nat.le_refl _)
theorem Dn.zero (D : Nat) : Dn D 0 0 := ⟨0, by show (0 : Rat) * _ = 0; grind, by decide⟩
/-- a quotient by a divisor of what the common denominator has more -/
theorem Dn.over {D B : Nat} {x : Rat} {c d : Nat} (h : Dn D B x) (hc : 0 < c) : Dn (D * (c * d)) (B * d) (x / ((c : Int) : Rat)) := by
  obtain ⟨z, e, hz⟩ := h
  have p : (0 : Rat) < ((c : Int) : Rat) := Rat.intCast_pos.mpr (by omega)
  refine ⟨z * d, ?_, ?_⟩
  · rw [Int.natCast_mul, Int.natCast_mul, Rat.intCast_mul, Rat.intCast_mul, Rat.intCast_mul, ← e]; grind
  · rw [Int.natAbs_mul, Int.natAbs_natCast]; exact Nat.mul_le_mul hz (Nat.le_refl _)
/-- running sums -/
theorem Dn.S {α : Type} {D B : Nat} {f : α → Rat} : ∀ {l : List α}, (∀ x ∈ l, Dn D B (f x)) → Dn D (l.length * B) (S l f)
  | [], _ => by show Dn D (0 * B) 0; rw [Nat.zero_mul]; exact Dn.zero D
  | x :: r, h => by
    have h1 := h x List.mem_cons_self
    have h2 := Dn.S (l := r) fun y hy => h y (List.mem_cons_of_mem _ hy)
    rw [S_cons, List.length_cons, Nat.succ_mul, Nat.add_comm]
    exact h1.add h2
/-! ### Euclid -/
/-- one turn keeps the gcd; from the second turn on the product of both falls by a half -/
structure Eu (g K i : Nat) (a b : Nat) : Prop where
  g : Nat.gcd a b = g
  lt : 0 < i → b < a
  p : 0 < i → a * b * 2 ^ i ≤ 2 ^ (K + 1)
theorem Eu.start {p q k : Nat} (_ : q < 2 ^ k) : Eu (Nat.gcd p q) (2 * k) 0 p q := ⟨rfl, fun h => absurd h (Nat.lt_irrefl _), fun h => absurd h (Nat.lt_irrefl _)⟩
theorem Eu.turn {g k i a b : Nat} (h : Eu g (2 * k) i a b) (hb : b ≠ 0) (hk : i = 0 → b < 2 ^ k) : Eu g (2 * k) (i + 1) b (a % b) := by
  have hm : a % b < b := Nat.mod_lt _ (Nat.pos_of_ne_zero hb)
  refine ⟨?_, fun _ => hm, fun _ => ?_⟩
  · rw [Nat.gcd_comm, ← Nat.gcd_rec b a, Nat.gcd_comm]; exact h.g
  · by_cases h0 : i = 0
    · subst h0
      have hk := hk rfl
      have e : 2 ^ (2 * k) = 2 ^ k * 2 ^ k := by rw [Nat.two_mul, Nat.pow_add]
      have h1 : b * (a % b) ≤ 2 ^ k * 2 ^ k := Nat.mul_le_mul (by omega) (by omega)
      show b * (a % b) * 2 ^ 1 ≤ _
      rw [Nat.pow_succ 2 (2 * k), e]
      exact Nat.mul_le_mul h1 (Nat.le_refl 2)
    · have hp := h.p (by omega)
      have hl := h.lt (by omega)
      have hd := Nat.div_add_mod a b
      have h2 : 1 ≤ a / b := (Nat.le_div_iff_mul_le (Nat.pos_of_ne_zero hb)).mpr (by omega)
      have h3 : b * 1 ≤ b * (a / b) := Nat.mul_le_mul (Nat.le_refl _) h2
      have h4 : 2 * (a % b) ≤ a := by omega
      have h5 : b * (a % b) * 2 ^ (i + 1) ≤ a * b * 2 ^ i := by
        rw [Nat.pow_succ]
        have : b * (a % b) * (2 ^ i * 2) = (2 * (a % b)) * b * 2 ^ i := by
          rw [Nat.mul_comm b (a % b), Nat.mul_comm (2 ^ i) 2, ← Nat.mul_assoc, Nat.mul_comm (a % b * b) 2, ← Nat.mul_assoc 2]
        rw [this]
        exact Nat.mul_le_mul (Nat.mul_le_mul h4 (Nat.le_refl _)) (Nat.le_refl _)
      exact Nat.le_trans h5 hp
theorem Eu.stop {g K i a : Nat} (h : Eu g K i a 0) : a = g := by rw [← h.g]; exact (Nat.gcd_zero_right a).symm
theorem Eu.last {g K i a b : Nat} (h : Eu g K i a b) (hi : K + 2 ≤ i) : b = 0 := by
  have hp := h.p (by omega)
  have hl := h.lt (by omega)
  cases b with
  | zero => rfl
  | succ b =>
    exfalso
    have h1 : 1 ≤ a * (b + 1) := Nat.mul_pos (by omega) (by omega)
    have h2 : 1 * 2 ^ i ≤ a * (b + 1) * 2 ^ i := Nat.mul_le_mul h1 (Nat.le_refl _)
    have h3 : 2 ^ (K + 1) < 2 ^ i := Nat.pow_lt_pow_right (by decide) (by omega)
    omega
end Mth

namespace K34
open PySem PySem.Spec PyProof.Rows L2 Mth
/-! ### the text by places -/
def topS (i : Nat) : Stmt := PySem.Challenge.pw_samphire_k34_whole_weighted_estimates.main.body.getD i (.Pass ⟨0, 0, 0, 0⟩)
abbrev s_lowest : Stmt := topS 7
abbrev s_plus : Stmt := topS 8
abbrev s_minus : Stmt := topS 9
abbrev s_times : Stmt := topS 10
abbrev s_over : Stmt := topS 11
abbrev s_sum_of : Stmt := topS 12
abbrev s_whole_number : Stmt := topS 21
abbrev s_amount_of : Stmt := topS 22
abbrev s_true_sum : Stmt := topS 23
abbrev s_is_whole : Stmt := topS 24
abbrev s_spread : Stmt := topS 25
abbrev s_mean_of : Stmt := topS 26
abbrev s_ordered_of : Stmt := topS 28
abbrev s_estimate_weighted : Stmt := topS 29
abbrev s_estimate : Stmt := topS 31
abbrev s_ordered : Stmt := topS 32
abbrev s__law_mix : Stmt := topS 34
abbrev s__law_numbers : Stmt := topS 35
abbrev s__law_take : Stmt := topS 36
abbrev s__law_low : Stmt := topS 37
abbrev s__law_plus : Stmt := topS 38
abbrev s__law_minus : Stmt := topS 39
abbrev s__law_times : Stmt := topS 40
abbrev s__law_sum : Stmt := topS 42
abbrev s__law_items : Stmt := topS 43
abbrev s__law_amounts : Stmt := topS 44
abbrev s__law_true : Stmt := topS 45
abbrev s__law_moments : Stmt := topS 46
abbrev s__law_orders : Stmt := topS 47
abbrev s__law_order_chance : Stmt := topS 48
abbrev s_law : Stmt := topS 50
abbrev s_init : Stmt := inClass (topS 18) 0

/-! ### what the top has written -/
/-- the def x of the text stands, at a place that x names -/
structure DefOk (K : PySem.W.Frag) (mg : Str → Option Value) (x : Str) (st : Stmt) (ps : List Str) : Prop where
  ex : ∃ (f : Addr) (fd : FuncData), Fun K x x st f fd ∧ mg x = some (.ref f) ∧ Binds K fd ps []
/-- the tuple (0, 1) of the module, by its name -/
def Noth (K : PySem.W.Frag) (mg : Str → Option Value) (x : Str) : Prop := ∃ a, mg x = some (.ref a) ∧ ∃ (o : Obj) (t u : Tok) (n : Nat), K.lookup a = some o ∧ o.cls = .type "tuple" ∧ o.data = .seq #[.int 0 t, .int 1 u] n
/-- the class Weighted, and that it is neither of the others -/
structure WOk (K : PySem.W.Frag) (mg : Str → Option Value) (C U O fI : Addr) (fdI : FuncData) : Prop where
  cl : Cls K C
  nS : NoAttr K C "size"
  nT : NoAttr K C "total"
  nK : NoAttr K C "kept"
  mkr : Mk K C fI
  fn : Fun K "__init__" "Weighted.__init__" s_init fI fdI
  bi : Binds K fdI ["self", "size", "total", "kept"] []
  mgW : mg "Weighted" = some (.ref C)
  mgU : mg "Uniform" = some (.ref U)
  mgO : mg "Optimal" = some (.ref O)
  kU : PySem.W.kitOne K (.ref C) (.ref U) = some false
  kO : PySem.W.kitOne K (.ref C) (.ref O) = some false
  ha : PySem.W.findIn K (.ref C) "__class__" = some (some (.builtin "object.__class__"))
  hn : PySem.W.specialIn K (.builtin "object.__class__") "__get__" = some (some (.builtin "getset_descriptor.__get__"))
  htk : PySem.W.takesIn K (.builtin "object.__class__") = some true
  hm : PySem.W.mroIn K C (.type "object") = some true
structure Txt (K : PySem.W.Frag) (mg : Str → Option Value) (C : Addr) : Prop where
  wt : ∃ (U O fI : Addr) (fdI : FuncData), WOk K mg C U O fI fdI
  gcd : mg "gcd" = some (.builtin "math.gcd")
  len : mg "len" = none
  sum : mg "sum" = none
  range : mg "range" = none
  int : mg "int" = none
  list : mg "list" = none
  dict : mg "dict" = none
  abs : mg "abs" = none
  max : mg "max" = none
  min : mg "min" = none
  any : mg "any" = none
  isi : mg "isinstance" = none
  nR : Noth K mg "NOTHING_ratios"
  nE : Noth K mg "NOTHING_estimates"
  d_lowest : DefOk K mg "lowest" s_lowest ["p", "q"]
  d_plus : DefOk K mg "plus" s_plus ["a", "b"]
  d_minus : DefOk K mg "minus" s_minus ["a", "b"]
  d_times : DefOk K mg "times" s_times ["a", "b"]
  d_over : DefOk K mg "over" s_over ["a", "b"]
  d_sum_of : DefOk K mg "sum_of" s_sum_of ["fractions"]
  d_whole_number : DefOk K mg "whole_number" s_whole_number ["number"]
  d_amount_of : DefOk K mg "amount_of" s_amount_of ["amounts", "item"]
  d_true_sum : DefOk K mg "true_sum" s_true_sum ["things", "amounts"]
  d_is_whole : DefOk K mg "is_whole" s_is_whole ["sample"]
  d_spread : DefOk K mg "spread" s_spread ["numbers", "middle"]
  d_mean_of : DefOk K mg "mean_of" s_mean_of ["numbers"]
  d_ordered_of : DefOk K mg "ordered_of" s_ordered_of ["total", "things", "amounts"]
  d_estimate_weighted : DefOk K mg "estimate_weighted" s_estimate_weighted ["sample", "amounts"]
  d_estimate : DefOk K mg "estimate" s_estimate ["sample", "amounts"]
  d_ordered : DefOk K mg "ordered" s_ordered ["sample", "amounts"]
  d__law_mix : DefOk K mg "_law_mix" s__law_mix ["_law_number", "_law_k"]
  d__law_numbers : DefOk K mg "_law_numbers" s__law_numbers ["_law_script", "_law_count"]
  d__law_take : DefOk K mg "_law_take" s__law_take ["_law_row", "_law_bound"]
  d__law_low : DefOk K mg "_law_low" s__law_low ["_law_p", "_law_q"]
  d__law_plus : DefOk K mg "_law_plus" s__law_plus ["_law_one", "_law_other"]
  d__law_minus : DefOk K mg "_law_minus" s__law_minus ["_law_one", "_law_other"]
  d__law_times : DefOk K mg "_law_times" s__law_times ["_law_one", "_law_other"]
  d__law_sum : DefOk K mg "_law_sum" s__law_sum ["_law_rows"]
  d__law_items : DefOk K mg "_law_items" s__law_items ["_law_row", "_law_many"]
  d__law_amounts : DefOk K mg "_law_amounts" s__law_amounts ["_law_row", "_law_things"]
  d__law_true : DefOk K mg "_law_true" s__law_true ["_law_things", "_law_amounts_here"]
  d__law_moments : DefOk K mg "_law_moments" s__law_moments ["_law_rows"]
  d__law_orders : DefOk K mg "_law_orders" s__law_orders ["_law_things", "_law_many"]
  d__law_order_chance : DefOk K mg "_law_order_chance" s__law_order_chance ["_law_total", "_law_things"]
  d_law : DefOk K mg "law" s_law ["_law_script"]
/-- the def x keeps the promise sp, by at most level k -/
def Keeps (P : Program) (w : World) (K : PySem.W.Frag) (mg : Str → Option Value) (base : Heap) (k : Nat) (x : Str) (ps : List Str) (sp : Sp) : Prop :=
  ∃ (f : Addr) (fd : FuncData), FnOk P w K mg base CX0 k f fd ps sp ∧ mg x = some (.ref f) ∧ PySem.W.keepIn K (.ref f) = true ∧ Binds K fd ps []
theorem keeps_of {P : Program} {w : World} {K : PySem.W.Frag} {mg : Str → Option Value} {base : Heap} {k : Nat} {x : Str} {st : Stmt} {ps : List Str} {sp : Sp} (D : DefOk K mg x st ps)
    (h : ∀ f fd, Fun K x x st f fd → FnOk P w K mg base CX0 k f fd ps sp) : Keeps P w K mg base k x ps sp := by
  obtain ⟨f, fd, F, m, b⟩ := D.ex
  exact ⟨f, fd, h f fd F, m, F.kp, b⟩
/-! ### heaps -/
theorem same_upd {H : Hp} {p : Addr} {o : HO} (h : H p = none) : Same H (upd H p o) := fun b x e => by
  rw [upd_ne (ne_of_none e h)]
  exact e
theorem Same.tup {K : PySem.W.Frag} {H H' : Hp} {a : Addr} {xs : List V} (e : Same H H') (h : SqT K H a xs) : SqT K H' a xs := by
  rcases h with (h | ⟨o, h⟩) | h
  · exact .inl (.inl (e _ _ h))
  · exact .inl (.inr ⟨o, e _ _ h⟩)
  · exact .inr h
theorem iteN {c A B : Prop} [Decidable c] (hc : ¬ c) (h : B) : if decide c = true then A else B := by
  rw [decide_eq_false hc]
  exact iteF h
theorem iteY {c A B : Prop} [Decidable c] (hc : c) (h : A) : if decide c = true then A else B := by
  rw [decide_eq_true hc]
  exact iteT h
theorem vint_ne {a b : Int} (h : a ≠ b) : ¬ (V.int a = V.int b) := fun e => h (V.int.inj e)
/-- a fraction: the tuple of the rational's two numbers -/
def FR (K : PySem.W.Frag) (H : Hp) (v : V) (x : Rat) : Prop := ∃ a, v = .ref a ∧ SqT K H a [.int x.num, .int ((x.den : Nat) : Int)]
theorem FR.same {K : PySem.W.Frag} {H H' : Hp} {v : V} {x : Rat} (h : FR K H v x) (e : Same H H') : FR K H' v x := by
  obtain ⟨a, rfl, h⟩ := h
  exact ⟨a, rfl, Same.tup e h⟩
/-- what holds x is handed back, all that stood stands -/
def RetFR (K : PySem.W.Frag) (H : Hp) (Q : VK) (x : Rat) : Prop := ∀ H' v, Same H H' → FR K H' v x → Q v H'
theorem RetFR.at {K : PySem.W.Frag} {H H' : Hp} {Q : VK} {x : Rat} (r : RetFR K H Q x) (e : Same H H') : RetFR K H' Q x := fun _ _ s f => r _ _ (e.trans s) f
theorem noth_fr {K : PySem.W.Frag} {mg : Str → Option Value} {x : Str} (h : Noth K mg x) : ∃ a, mg x = some (.ref a) ∧ ∀ H, FR K H (.ref a) 0 := by
  obtain ⟨a, hm, o, t, u, n, hk, hc, hd⟩ := h
  refine ⟨a, hm, fun H => ⟨a, rfl, .inr ⟨o, _, n, hk, hc, hd, by show 2 ≤ sizeLine; decide, ?_⟩⟩⟩
  exact .cons ⟨t, rfl⟩ (.cons ⟨u, rfl⟩ .nil)
theorem fr_new {K : PySem.W.Frag} {H : Hp} {t : Addr} {x : Rat} {p q : Int} (hp : x.num = p) (hq : ((x.den : Nat) : Int) = q) : FR K (upd H t (.tup [.int p, .int q])) (.ref t) x :=
  ⟨t, rfl, SqT.of (by rw [upd_same, hp, hq])⟩
/-! ### promises -/
def spLowest (K : PySem.W.Frag) : Sp := fun vs H Q _ => ∃ p q : Int, vs = [.int p, .int q] ∧ 0 < q ∧ p.natAbs < 2 ^ 3000 ∧ q.natAbs < 2 ^ 3000 ∧ RetFR K H Q ((p : Rat) / (q : Rat))
def sp2 (K : PySem.W.Frag) (ok : Rat → Prop) (f : Rat → Rat → Rat) : Sp := fun vs H Q _ => ∃ (v u : V) (x y : Rat), vs = [v, u] ∧ FR K H v x ∧ FR K H u y ∧ Sm 900 x ∧ Sm 900 y ∧ ok y ∧ RetFR K H Q (f x y)
/-- a place of a pair -/
theorem at0 {a b : V} : atI [a, b] 0 = some a := rfl
theorem at1 {a b : V} : atI [a, b] 1 = some b := rfl
theorem mulW {x y : Int} (h : x.natAbs < 2 ^ 900) (g : y.natAbs < 2 ^ 900) : CMulW x y := wide_mul h g (by decide) (by decide) (by decide)
theorem lt1801 {x y z u : Int} (a : x.natAbs < 2 ^ 900) (b : y.natAbs < 2 ^ 900) (c : z.natAbs < 2 ^ 900) (d : u.natAbs < 2 ^ 900) : (x * y + z * u).natAbs < 2 ^ 3000 :=
  pow_le_mono (abs_add_lt (abs_mul_lt a b) (abs_mul_lt c d)) (by decide)
theorem lt1801s {x y z u : Int} (a : x.natAbs < 2 ^ 900) (b : y.natAbs < 2 ^ 900) (c : z.natAbs < 2 ^ 900) (d : u.natAbs < 2 ^ 900) : (x * y - z * u).natAbs < 2 ^ 3000 :=
  pow_le_mono (abs_sub_lt (abs_mul_lt a b) (abs_mul_lt c d)) (by decide)
theorem lt1800 {x y : Int} (a : x.natAbs < 2 ^ 900) (b : y.natAbs < 2 ^ 900) : (x * y).natAbs < 2 ^ 3000 :=
  pow_le_mono (abs_mul_lt a b) (by decide)
section
variable {P : Program} {w : World} {K : PySem.W.Frag} {mg : Str → Option Value} {base : Heap} {C : Addr}
theorem sc_lowest : FnScope ["p", "q", "divisor"] ["p", "q"] (defScope s_lowest) := ⟨rfl, rfl, rfl, by decide +kernel, rfl, by decide +kernel, by decide +kernel⟩
theorem k_lowest (T : Txt K mg C) : Keeps P w K mg base 1 "lowest" ["p", "q"] (spLowest K) := by
  refine keeps_of T.d_lowest fun f fd F => ?_
  refine F.ok sc_lowest (fun vs H Q E h => ?_) (fun cdv A outer s H vs Q E hr h => ?_)
  · obtain ⟨p, q, rfl, _⟩ := h
    rfl
  · obtain ⟨p, q, rfl, hq, hp3, hq3, k⟩ := h
    refine ⟨_, pss_cons (ps_if (pt_cmpR op_eq (pv 1) pe_int (nomark _)) (pss_one ps_never) pss_nil)
      (pss_cons (ps_set (i := 2) sc_lowest.nd rfl (Or.inl rfl) (pe_callBfun cr_gcd rfl T.gcd (pa_cons (pv 0) (pa_cons (pv 1) pa_nil))))
      (pss_cons (ps_if (pt_cmpR op_lt (pv 1) pe_int (nomark _)) (pss_one ps_never) pss_nil)
      (pss_one (ps_ret (pe_tup (pa_cons (pe_op op_fdivW (pv 0) (pv 2)) (pa_cons (pe_op op_fdivW (pv 1) (pv 2)) pa_nil))))))), ?_⟩
    have g0 : 0 < Nat.gcd p.natAbs q.natAbs := Nat.gcd_pos_of_pos_right _ (by omega)
    have gl : ((Nat.gcd p.natAbs q.natAbs : Nat) : Int).natAbs < 2 ^ 3000 := by
      rw [Int.natAbs_natCast]
      exact Nat.lt_of_le_of_lt (Nat.gcd_le_right _ (by omega)) hq3
    have gd : CDivW p ((Nat.gcd p.natAbs q.natAbs : Nat) : Int) := wide_div (by omega) gl (by decide) (by decide)
    refine ⟨_, rfl, rfl, _, rfl, iteN (vint_ne (by omega)) ?_⟩
    refine ⟨_, rfl, _, rfl, p, q, rfl, ?_⟩
    refine ⟨_, rfl, _, _, rfl, rfl, _, rfl, iteN (by omega) ?_⟩
    refine ⟨_, rfl, _, rfl, _, _, rfl, rfl, gd, _, rfl, _, rfl, _, _, rfl, rfl, gd, (by show 2 ≤ sizeLine; decide), fun t ht => ?_⟩
    exact k _ _ (same_upd ht) (fr_new (frac_num p hq) (frac_den p hq))

theorem sc_plus : FnScope ["a", "b"] ["a", "b"] (defScope s_plus) := ⟨rfl, rfl, rfl, by decide +kernel, rfl, by decide +kernel, by decide +kernel⟩
theorem k_plus (T : Txt K mg C) : Keeps P w K mg base 2 "plus" ["a", "b"] (sp2 K (fun _ => True) (fun x y => x + y)) := by
  refine keeps_of T.d_plus fun f fd F => ?_
  obtain ⟨fL, fdL, GL, mL, kL, bL⟩ := k_lowest (P := P) (w := w) (base := base) T
  refine F.ok sc_plus (fun vs H Q E h => ?_) (fun cdv A outer s H vs Q E hr h => ?_)
  · obtain ⟨v, u, x, y, rfl, _⟩ := h
    rfl
  · obtain ⟨v, u, x, y, rfl, ⟨a, rfl, hv⟩, ⟨b, rfl, hu⟩, sx, sy, o, k⟩ := h
    refine ⟨_, pss_one (ps_ret (pe_call GL hr rfl mL kL bL .nil pass0 (pa_cons (pe_op op_add (pe_op op_mulW (pe_ix ix_tup (pv 0) pe_int (fun _ _ => rfl)) (pe_ix ix_tup (pv 1) pe_int (fun _ _ => rfl))) (pe_op op_mulW (pe_ix ix_tup (pv 1) pe_int (fun _ _ => rfl)) (pe_ix ix_tup (pv 0) pe_int (fun _ _ => rfl)))) (pa_cons (pe_op op_mulW (pe_ix ix_tup (pv 0) pe_int (fun _ _ => rfl)) (pe_ix ix_tup (pv 1) pe_int (fun _ _ => rfl))) pa_nil)))), ?_⟩
    refine ⟨_, rfl, a, _, _, _, rfl, rfl, hv, at0, _, rfl, b, _, _, _, rfl, rfl, hu, at1, _, _, rfl, rfl, mulW sx.n sy.dI, _, rfl, b, _, _, _, rfl, rfl, hu, at0, _, rfl, a, _, _, _, rfl, rfl, hv, at1, _, _, rfl, rfl, mulW sy.n sx.dI, _, _, rfl, rfl, _, rfl, a, _, _, _, rfl, rfl, hv, at1, _, rfl, b, _, _, _, rfl, rfl, hu, at1, _, _, rfl, rfl, mulW sx.dI sy.dI, ?_⟩
    have e := add_frac x y
    refine ⟨_, _, rfl, Int.mul_pos (den_pos' x) (den_pos' y), lt1801 sx.n sy.dI sy.n sx.dI, lt1800 sx.dI sy.dI, ?_⟩
    rw [← e]
    exact k

theorem sc_minus : FnScope ["a", "b"] ["a", "b"] (defScope s_minus) := ⟨rfl, rfl, rfl, by decide +kernel, rfl, by decide +kernel, by decide +kernel⟩
theorem k_minus (T : Txt K mg C) : Keeps P w K mg base 2 "minus" ["a", "b"] (sp2 K (fun _ => True) (fun x y => x - y)) := by
  refine keeps_of T.d_minus fun f fd F => ?_
  obtain ⟨fL, fdL, GL, mL, kL, bL⟩ := k_lowest (P := P) (w := w) (base := base) T
  refine F.ok sc_minus (fun vs H Q E h => ?_) (fun cdv A outer s H vs Q E hr h => ?_)
  · obtain ⟨v, u, x, y, rfl, _⟩ := h
    rfl
  · obtain ⟨v, u, x, y, rfl, ⟨a, rfl, hv⟩, ⟨b, rfl, hu⟩, sx, sy, o, k⟩ := h
    refine ⟨_, pss_one (ps_ret (pe_call GL hr rfl mL kL bL .nil pass0 (pa_cons (pe_op op_sub (pe_op op_mulW (pe_ix ix_tup (pv 0) pe_int (fun _ _ => rfl)) (pe_ix ix_tup (pv 1) pe_int (fun _ _ => rfl))) (pe_op op_mulW (pe_ix ix_tup (pv 1) pe_int (fun _ _ => rfl)) (pe_ix ix_tup (pv 0) pe_int (fun _ _ => rfl)))) (pa_cons (pe_op op_mulW (pe_ix ix_tup (pv 0) pe_int (fun _ _ => rfl)) (pe_ix ix_tup (pv 1) pe_int (fun _ _ => rfl))) pa_nil)))), ?_⟩
    refine ⟨_, rfl, a, _, _, _, rfl, rfl, hv, at0, _, rfl, b, _, _, _, rfl, rfl, hu, at1, _, _, rfl, rfl, mulW sx.n sy.dI, _, rfl, b, _, _, _, rfl, rfl, hu, at0, _, rfl, a, _, _, _, rfl, rfl, hv, at1, _, _, rfl, rfl, mulW sy.n sx.dI, _, _, rfl, rfl, _, rfl, a, _, _, _, rfl, rfl, hv, at1, _, rfl, b, _, _, _, rfl, rfl, hu, at1, _, _, rfl, rfl, mulW sx.dI sy.dI, ?_⟩
    have e := sub_frac x y
    refine ⟨_, _, rfl, Int.mul_pos (den_pos' x) (den_pos' y), lt1801s sx.n sy.dI sy.n sx.dI, lt1800 sx.dI sy.dI, ?_⟩
    rw [← e]
    exact k

theorem sc_times : FnScope ["a", "b"] ["a", "b"] (defScope s_times) := ⟨rfl, rfl, rfl, by decide +kernel, rfl, by decide +kernel, by decide +kernel⟩
theorem k_times (T : Txt K mg C) : Keeps P w K mg base 2 "times" ["a", "b"] (sp2 K (fun _ => True) (fun x y => x * y)) := by
  refine keeps_of T.d_times fun f fd F => ?_
  obtain ⟨fL, fdL, GL, mL, kL, bL⟩ := k_lowest (P := P) (w := w) (base := base) T
  refine F.ok sc_times (fun vs H Q E h => ?_) (fun cdv A outer s H vs Q E hr h => ?_)
  · obtain ⟨v, u, x, y, rfl, _⟩ := h
    rfl
  · obtain ⟨v, u, x, y, rfl, ⟨a, rfl, hv⟩, ⟨b, rfl, hu⟩, sx, sy, o, k⟩ := h
    refine ⟨_, pss_one (ps_ret (pe_call GL hr rfl mL kL bL .nil pass0 (pa_cons (pe_op op_mulW (pe_ix ix_tup (pv 0) pe_int (fun _ _ => rfl)) (pe_ix ix_tup (pv 1) pe_int (fun _ _ => rfl))) (pa_cons (pe_op op_mulW (pe_ix ix_tup (pv 0) pe_int (fun _ _ => rfl)) (pe_ix ix_tup (pv 1) pe_int (fun _ _ => rfl))) pa_nil)))), ?_⟩
    refine ⟨_, rfl, a, _, _, _, rfl, rfl, hv, at0, _, rfl, b, _, _, _, rfl, rfl, hu, at0, _, _, rfl, rfl, mulW sx.n sy.n, _, rfl, a, _, _, _, rfl, rfl, hv, at1, _, rfl, b, _, _, _, rfl, rfl, hu, at1, _, _, rfl, rfl, mulW sx.dI sy.dI, ?_⟩
    have e := mul_frac x y
    refine ⟨_, _, rfl, Int.mul_pos (den_pos' x) (den_pos' y), lt1800 sx.n sy.n, lt1800 sx.dI sy.dI, ?_⟩
    rw [← e]
    exact k

theorem sc_over : FnScope ["a", "b"] ["a", "b"] (defScope s_over) := ⟨rfl, rfl, rfl, by decide +kernel, rfl, by decide +kernel, by decide +kernel⟩
theorem k_over (T : Txt K mg C) : Keeps P w K mg base 2 "over" ["a", "b"] (sp2 K (fun y => 0 < y) (fun x y => x / y)) := by
  refine keeps_of T.d_over fun f fd F => ?_
  obtain ⟨fL, fdL, GL, mL, kL, bL⟩ := k_lowest (P := P) (w := w) (base := base) T
  refine F.ok sc_over (fun vs H Q E h => ?_) (fun cdv A outer s H vs Q E hr h => ?_)
  · obtain ⟨v, u, x, y, rfl, _⟩ := h
    rfl
  · obtain ⟨v, u, x, y, rfl, ⟨a, rfl, hv⟩, ⟨b, rfl, hu⟩, sx, sy, o, k⟩ := h
    refine ⟨_, pss_one (ps_ret (pe_call GL hr rfl mL kL bL .nil pass0 (pa_cons (pe_op op_mulW (pe_ix ix_tup (pv 0) pe_int (fun _ _ => rfl)) (pe_ix ix_tup (pv 1) pe_int (fun _ _ => rfl))) (pa_cons (pe_op op_mulW (pe_ix ix_tup (pv 0) pe_int (fun _ _ => rfl)) (pe_ix ix_tup (pv 1) pe_int (fun _ _ => rfl))) pa_nil)))), ?_⟩
    refine ⟨_, rfl, a, _, _, _, rfl, rfl, hv, at0, _, rfl, b, _, _, _, rfl, rfl, hu, at1, _, _, rfl, rfl, mulW sx.n sy.dI, _, rfl, a, _, _, _, rfl, rfl, hv, at1, _, rfl, b, _, _, _, rfl, rfl, hu, at0, _, _, rfl, rfl, mulW sx.dI sy.n, ?_⟩
    have e := div_frac x y
    refine ⟨_, _, rfl, Int.mul_pos (den_pos' x) (num_pos o), lt1800 sx.n sy.dI, lt1800 sx.dI sy.n, ?_⟩
    rw [← e]
    exact k
end
end K34

namespace K34
open PySem PySem.Spec PyProof.Rows L2 Mth
/-! ### lists of fractions -/
def FRs (K : PySem.W.Frag) (H : Hp) (l : Addr) (xs : List Rat) : Prop := ∃ as : List V, SqL K H l as ∧ Paired (FR K H) as xs
theorem frs_mono {K : PySem.W.Frag} {H H' : Hp} (e : Same H H') : ∀ {as : List V} {xs : List Rat}, Paired (FR K H) as xs → Paired (FR K H') as xs
  | _, _, .nil => .nil
  | _, _, .cons r t => .cons (r.same e) (frs_mono e t)
theorem FRs.same {K : PySem.W.Frag} {H H' : Hp} {l : Addr} {xs : List Rat} (h : FRs K H l xs) (e : Same H H') : FRs K H' l xs := by
  obtain ⟨as, s, p⟩ := h
  exact ⟨as, e.seq s, frs_mono e p⟩
theorem paired_get {α β : Type} {R : α → β → Prop} : ∀ {as : List α} {bs : List β} {i : Nat} {a : α}, Paired R as bs → as[i]? = some a → ∃ b, bs[i]? = some b ∧ R a b
  | _, _, _, _, .nil, e => by simp at e
  | _, _, 0, _, .cons r _, e => by simp at e; subst e; exact ⟨_, rfl, r⟩
  | _, _, i + 1, _, .cons _ t, e => by
    obtain ⟨b, h1, h2⟩ := paired_get (i := i) t (by simpa using e)
    exact ⟨b, by simpa using h1, h2⟩
theorem paired_len {α β : Type} {R : α → β → Prop} : ∀ {as : List α} {bs : List β}, Paired R as bs → as.length = bs.length
  | _, _, .nil => rfl
  | _, _, .cons _ t => by rw [List.length_cons, List.length_cons, paired_len t]
theorem paired_snoc {α β : Type} {R : α → β → Prop} : ∀ {as : List α} {bs : List β} {a : α} {b : β}, Paired R as bs → R a b → Paired R (as ++ [a]) (bs ++ [b])
  | _, _, _, _, .nil, r => .cons r .nil
  | _, _, _, _, .cons q t, r => .cons q (paired_snoc t r)
theorem take_more {α : Type} : ∀ {l : List α} {i : Nat} {x : α}, l[i]? = some x → l.take (i + 1) = l.take i ++ [x]
  | [], i, x, h => by simp at h
  | a :: l, 0, x, h => by
    have e : a = x := Option.some.inj h
    subst e
    rfl
  | a :: l, i + 1, x, h => by
    have ih := take_more (l := l) (i := i) (x := x) h
    show a :: l.take (i + 1) = a :: l.take i ++ [x]
    rw [ih]
    rfl
theorem sm_take {l : List Rat} {i : Nat} {x : Rat} (h : l[i]? = some x) : sm (l.take (i + 1)) = sm (l.take i) + x := by rw [take_more h, sm_snoc]
theorem sm_Sm {a : Nat} : ∀ {l : List Rat}, (∀ x ∈ l, Sm a x) → Sm (1 + (a + 1) * l.length) (sm l)
  | [], _ => sm_zero
  | x :: r, h => by
    have h1 := h x List.mem_cons_self
    have h2 := sm_Sm (l := r) fun y hy => h y (List.mem_cons_of_mem _ hy)
    have h3 := h1.add h2
    refine h3.mono ?_
    rw [List.length_cons, Nat.mul_add]
    omega
theorem sm_take_Sm {a k : Nat} {l : List Rat} (h : ∀ x ∈ l, Sm a x) (i : Nat) (hk : 1 + (a + 1) * l.length ≤ k) : Sm k (sm (l.take i)) := by
  refine (sm_Sm fun x hx => h x (List.mem_of_mem_take hx)).mono (Nat.le_trans ?_ hk)
  rw [List.length_take]
  exact Nat.add_le_add_left (Nat.mul_le_mul_left _ (Nat.min_le_right _ _)) _
section
variable {P : Program} {w : World} {K : PySem.W.Frag} {mg : Str → Option Value} {base : Heap} {C : Addr}
/-! ### sum_of -/
def spSum (K : PySem.W.Frag) : Sp := fun vs H Q _ => ∃ (l : Addr) (xs : List Rat), vs = [.ref l] ∧ FRs K H l xs ∧ xs.length ≤ 3 ∧ (∀ x ∈ xs, Sm 200 x) ∧ RetFR K H Q (sm xs)
theorem sc_sum_of : FnScope ["fractions", "total", "fraction"] ["fractions"] (defScope s_sum_of) := ⟨rfl, rfl, rfl, by decide +kernel, rfl, by decide +kernel, by decide +kernel⟩
theorem k_sum_of (T : Txt K mg C) : Keeps P w K mg base 3 "sum_of" ["fractions"] (spSum K) := by
  refine keeps_of T.d_sum_of fun f fd F => ?_
  obtain ⟨fP, fdP, GP, mP, kP, bP⟩ := k_plus (P := P) (w := w) (base := base) T
  obtain ⟨n, mn, hn⟩ := noth_fr T.nR
  refine F.ok sc_sum_of (fun vs H Q E h => ?_) (fun cdv A outer s H vs Q E hr h => ?_)
  · obtain ⟨l, xs, rfl, _⟩ := h
    rfl
  · obtain ⟨l, xs, rfl, ⟨as, hS, hp⟩, hlen, hsm, k⟩ := h
    refine ⟨_, pss_cons (ps_set (i := 1) sc_sum_of.nd rfl (Or.inl rfl) (pe_glob (v := .ref n) rfl mn rfl))
      (pss_cons (ps_for PassesOwn.never rfl (pi_list (pv 0)) (pg_name (i := 2) sc_sum_of.nd rfl (Or.inl rfl))
        (pss_one (ps_set (i := 1) sc_sum_of.nd rfl (Or.inl rfl) (pe_call GP hr rfl mP kP bP .nil pass0 (pa_cons (pv 1) (pa_cons (pv 2) pa_nil))))))
      (pss_one (ps_ret (pv 1)))), ?_⟩
    refine ⟨_, rfl, l, rfl, ⟨_, hS⟩, for_list (K := K) (a := l) (xs := as) (fun i σ H' => ∃ (v : V) (t : Option V), σ = [some (.ref l), some v, t] ∧ Same H H' ∧ FR K H' v (sm (xs.take i)))
      ⟨_, none, rfl, Same.refl H, hn H⟩ (fun i σ H' _ ⟨_, _, _, e, _⟩ => e.seq hS) ?_ ?_⟩
    · rintro i y σ H' hi ⟨v, t, rfl, e, fv⟩
      obtain ⟨x, hx, fx⟩ := paired_get hp hi
      refine ⟨_, rfl, _, rfl, v, y, _, x, rfl, fv, fx.same e, sm_take_Sm hsm i (by omega), (hsm x (List.mem_of_getElem? hx)).mono (by decide), trivial, fun H2 v2 e2 f2 => ?_⟩
      exact ⟨v2, _, rfl, e.trans e2, by rw [sm_take hx]; exact f2⟩
    · rintro σ H' ⟨v, t, rfl, e, fv⟩
      rw [paired_len hp, List.take_length] at fv
      exact ⟨_, rfl, k _ _ e fv⟩
/-! ### whole_number -/
def spWhole (K : PySem.W.Frag) : Sp := fun vs H Q _ => ∃ n : Int, vs = [.int n] ∧ n.natAbs < 2 ^ 3000 ∧ RetFR K H Q (n : Rat)
theorem sc_whole_number : FnScope ["number"] ["number"] (defScope s_whole_number) := ⟨rfl, rfl, rfl, by decide +kernel, rfl, by decide +kernel, by decide +kernel⟩
theorem k_whole_number (T : Txt K mg C) : Keeps P w K mg base 2 "whole_number" ["number"] (spWhole K) := by
  refine keeps_of T.d_whole_number fun f fd F => ?_
  obtain ⟨fL, fdL, GL, mL, kL, bL⟩ := k_lowest (P := P) (w := w) (base := base) T
  refine F.ok sc_whole_number (fun vs H Q E h => ?_) (fun cdv A outer s H vs Q E hr h => ?_)
  · obtain ⟨n, rfl, _⟩ := h
    rfl
  · obtain ⟨n, rfl, hn, k⟩ := h
    refine ⟨_, pss_one (ps_ret (pe_call GL hr rfl mL kL bL .nil pass0 (pa_cons (pv 0) (pa_cons pe_int pa_nil)))), ?_⟩
    have e : (n : Rat) = (n : Rat) / ((1 : Int) : Rat) := by rw [show ((1 : Int) : Rat) = 1 from rfl]; grind
    refine ⟨_, rfl, n, 1, rfl, by decide, hn, Nat.one_lt_two_pow (by decide), ?_⟩
    rw [← e]
    exact k
/-! ### items, amounts -/
structure Thing where
  a : Addr
  key : Str
  grp : Str
  w : Int
  z : Int
  deriving DecidableEq
def tV (t : Thing) : V := .ref t.a
def ItOk (K : PySem.W.Frag) (H : Hp) (t : Thing) : Prop := SqT K H t.a [.str t.key, .str t.grp, .int t.w, .int t.z]
def LsOk (K : PySem.W.Frag) (H : Hp) (l : Addr) (ts : List Thing) : Prop := SqL K H l (ts.map tV) ∧ ∀ t ∈ ts, ItOk K H t
theorem ItOk.same {K : PySem.W.Frag} {H H' : Hp} {t : Thing} (h : ItOk K H t) (e : Same H H') : ItOk K H' t := Same.tup e h
theorem LsOk.same {K : PySem.W.Frag} {H H' : Hp} {l : Addr} {ts : List Thing} (h : LsOk K H l ts) (e : Same H H') : LsOk K H' l ts := ⟨e.seq h.1, fun t ht => (h.2 t ht).same e⟩
theorem things_get {ts : List Thing} {i : Nat} {y : V} (h : (ts.map tV)[i]? = some y) : ∃ t, ts[i]? = some t ∧ y = .ref t.a := by
  rw [List.getElem?_map] at h
  cases e : ts[i]? with
  | none => rw [e] at h; cases h
  | some t => rw [e] at h; exact ⟨t, rfl, (Option.some.inj h).symm⟩
/-- all amounts are ints of at most 10 -/
def AmI (kvs : List (Key × V)) : Prop := ∀ k : Str, ∃ i : Int, (valV kvs (Sum.inr k)).getD (.int 0) = .int i ∧ i.natAbs ≤ 10
def amt (kvs : List (Key × V)) (k : Str) : Int := match (valV kvs (Sum.inr k)).getD (.int 0) with | .int i => i | _ => 0
theorem AmI.eq {kvs : List (Key × V)} (h : AmI kvs) (k : Str) : (valV kvs (Sum.inr k)).getD (.int 0) = .int (amt kvs k) := by
  obtain ⟨i, e, _⟩ := h k
  unfold amt
  rw [e]
theorem AmI.le {kvs : List (Key × V)} (h : AmI kvs) (k : Str) : (amt kvs k).natAbs ≤ 10 := by
  obtain ⟨i, e, hi⟩ := h k
  unfold amt
  rw [e]
  exact hi
theorem at_0 {a b c d : V} : atI [a, b, c, d] 0 = some a := rfl
theorem at_2 {a b c d : V} : atI [a, b, c, d] 2 = some c := rfl
def spAmt (K : PySem.W.Frag) : Sp := fun vs H Q _ => ∃ (d : Addr) (kvs : List (Key × V)) (t : Thing), vs = [.ref d, .ref t.a] ∧ H d = some (.dK kvs) ∧ AmI kvs ∧ ItOk K H t ∧ Q (.int (amt kvs t.key)) H
theorem sc_amount_of : FnScope ["amounts", "item"] ["amounts", "item"] (defScope s_amount_of) := ⟨rfl, rfl, rfl, by decide +kernel, rfl, by decide +kernel, by decide +kernel⟩
theorem k_amount_of (T : Txt K mg C) : Keeps P w K mg base 1 "amount_of" ["amounts", "item"] (spAmt K) := by
  refine keeps_of T.d_amount_of fun f fd F => ?_
  refine F.ok sc_amount_of (fun vs H Q E h => ?_) (fun cdv A outer s H vs Q E hr h => ?_)
  · obtain ⟨d, kvs, t, rfl, _⟩ := h
    rfl
  · obtain ⟨d, kvs, t, rfl, hd, ha, ht, k⟩ := h
    refine ⟨_, pss_one (ps_ret (pe_dget2 (hu_of hr) (pv 0) (pe_ix ix_tup (pv 1) pe_int (fun _ _ => rfl)) pe_int ⟨rfl, rfl, rfl, rfl⟩)), ?_⟩
    refine ⟨_, rfl, d, rfl, .inl ⟨kvs, .inl hd⟩, _, rfl, t.a, _, _, _, rfl, rfl, ht, at_0, _, DGet.k (k := Sum.inr t.key) hd, ?_⟩
    show Q ((valV kvs (Sum.inr t.key)).getD (.int 0)) H
    rw [ha.eq]
    exact k
/-! ### true_sum -/
def amts (kvs : List (Key × V)) (ts : List Thing) : List Int := ts.map fun t => amt kvs t.key
def spTrue (K : PySem.W.Frag) : Sp := fun vs H Q _ => ∃ (l d : Addr) (ts : List Thing) (kvs : List (Key × V)), vs = [.ref l, .ref d] ∧ LsOk K H l ts ∧ ts.length ≤ 1000 ∧ H d = some (.dK kvs) ∧ AmI kvs ∧ ∀ H', Same H H' → Q (.int (amts kvs ts).sum) H'
theorem sc_true_sum : FnScope ["things", "amounts", "item"] ["things", "amounts"] (defScope s_true_sum) := ⟨rfl, rfl, rfl, by decide +kernel, rfl, by decide +kernel, by decide +kernel⟩
theorem k_true_sum (T : Txt K mg C) : Keeps P w K mg base 2 "true_sum" ["things", "amounts"] (spTrue K) := by
  refine keeps_of T.d_true_sum fun f fd F => ?_
  obtain ⟨fA, fdA, GA, mA, kA, bA⟩ := k_amount_of (P := P) (w := w) (base := base) T
  refine F.ok sc_true_sum (fun vs H Q E h => ?_) (fun cdv A outer s H vs Q E hr h => ?_)
  · obtain ⟨l, d, ts, kvs, rfl, _⟩ := h
    rfl
  · obtain ⟨l, d, ts, kvs, rfl, hl, hlen, hd, ha, k⟩ := h
    refine ⟨_, pss_one (ps_ret (pe_callB (cr_sum rfl) (by rfl) T.sum (by decide +kernel) (pa_cons
      (pe_lc (own := [("item", 2)]) (g := gName 2) (by rfl) sc_true_sum.nd (pi_list (pv 0)) (blkOk_by (own := [("item", 2)]) (N := ["things", "amounts", "item"]) (sc := defScope s_true_sum) (by decide +kernel))
        (fun _ _ _ _ _ => pg_name (i := 2) sc_true_sum.nd rfl (Or.inl rfl)) (fun _ _ _ _ _ => pts_nil)
        (fun _ _ _ _ _ => pe_call GA hr rfl mA kA bA .nil pass0 (pa_cons (pv 1) (pa_cons (pv 2) pa_nil)))) pa_nil))), ?_⟩
    refine ⟨_, rfl, l, rfl, ⟨_, hl.1⟩, fun D nD => lc_list (K := K) (a := l) (xs := ts.map tV) (fun i H' => Same H H' ∧ H' D = some (.lst ((amts kvs (ts.take i)).map V.int)))
      ⟨same_upd nD, upd_same⟩ (fun i H' _ ⟨e, _⟩ => e.seq hl.1) ?_ ?_⟩
    · rintro i y H' hi ⟨e, eD⟩
      obtain ⟨t, ht, rfl⟩ := things_get hi
      refine ⟨rfl, ?_⟩
      refine ⟨_, rfl, _, rfl, d, kvs, t, rfl, e _ _ hd, ha, (hl.2 t (List.mem_of_getElem? ht)).same e, _, eD, ?_, ?_, ?_⟩
      · rw [List.length_map]
        unfold amts
        rw [List.length_map, List.length_take]
        exact small1000 (Nat.le_trans (Nat.min_le_right _ _) hlen)
      · intro b o q
        rw [upd_ne (ne_of_none q nD)]
        exact e _ _ q
      · rw [upd_same]
        unfold amts
        rw [take_more ht, List.map_append, List.map_append]
        rfl
    · rintro H' ⟨e, eD⟩
      refine ⟨D, amts kvs ts, rfl, SqL.of ?_, k _ e⟩
      rw [eD, List.length_map, List.take_length]
end
end K34

namespace K34
open PySem PySem.Spec PyProof.Rows L2 Mth
/-! ### a sample's attributes -/
theorem ne_st : ¬ (("size" : Str) = "total") := by decide +kernel
theorem ne_sk : ¬ (("size" : Str) = "kept") := by decide +kernel
theorem ne_tk : ¬ (("total" : Str) = "kept") := by decide +kernel
def wf (size total : Int) (l : Addr) : List (Str × V) := putF "kept" (.ref l) (putF "total" (.int total) (putF "size" (.int size) []))
theorem wf_kept (size total : Int) (l : Addr) : (wf size total l).lookup ("kept" : Str) = some (.ref l) := by
  unfold wf
  rw [lookup_putF, if_pos rfl]
theorem wf_total (size total : Int) (l : Addr) : (wf size total l).lookup ("total" : Str) = some (.int total) := by
  unfold wf
  rw [lookup_putF, if_neg ne_tk, lookup_putF, if_pos rfl]
theorem wf1 (size : Int) : putF "size" (V.int size) [] = ([("size", V.int size)] : List (Str × V)) := rfl
theorem wf2 (size total : Int) : putF "total" (V.int total) (putF "size" (V.int size) []) = ([("size", V.int size), ("total", V.int total)] : List (Str × V)) := by
  rw [wf1]
  show (if ("size" : Str) = "total" then _ else (("size" : Str), V.int size) :: putF "total" (V.int total) []) = ([("size", V.int size), ("total", V.int total)] : List (Str × V))
  rw [if_neg ne_st]
  all_goals rfl
/-- a Weighted sample stands at p, its list at l -/
def SmpAt (C : Addr) (H : Hp) (p : Addr) (size total : Int) (l : Addr) : Prop := ∃ dx, H p = some (.ins C dx (wf size total l))
theorem SmpAt.same {C : Addr} {H H' : Hp} {p l : Addr} {size total : Int} (h : SmpAt C H p size total l) (e : Same H H') : SmpAt C H' p size total l := by
  obtain ⟨dx, h⟩ := h
  exact ⟨dx, e _ _ h⟩
theorem sqt_upd {K : PySem.W.Frag} {H : Hp} {a o : Addr} {xs ys : List V} {u : HO} (h : SqT K H a xs) (ho : H o = some (.lst ys)) : SqT K (upd H o u) a xs := by
  rcases h with (h | ⟨ob, h⟩) | h
  · exact .inl (.inl (by rw [upd_ne (ne_of h ho (by intro z; cases z))]; exact h))
  · exact .inl (.inr ⟨ob, by rw [upd_ne (ne_of h ho (by intro z; cases z))]; exact h⟩)
  · exact .inr h
theorem FR.upd {K : PySem.W.Frag} {H : Hp} {v : V} {x : Rat} {o : Addr} {ys : List V} {u : HO} (h : FR K H v x) (ho : H o = some (.lst ys)) : FR K (upd H o u) v x := by
  obtain ⟨a, rfl, h⟩ := h
  exact ⟨a, rfl, sqt_upd h ho⟩
theorem frs_upd {K : PySem.W.Frag} {H : Hp} {o : Addr} {ys : List V} {u : HO} (ho : H o = some (.lst ys)) : ∀ {as : List V} {xs : List Rat}, Paired (FR K H) as xs → Paired (FR K (upd H o u)) as xs
  | _, _, .nil => .nil
  | _, _, .cons r t => .cons (r.upd ho) (frs_upd ho t)
/-- a store at an address that was new to H leaves what H tracks -/
theorem same_store {H H' : Hp} {o : Addr} {u : HO} (e : Same H H') (hn : H o = none) : Same H (upd H' o u) := fun b z q => by
  rw [upd_ne (ne_of_none q hn)]
  exact e _ _ q
/-! ### the numbers behind -/
abbrev wR (t : Thing) : Rat := (t.w : Rat)
abbrev yR (kvs : List (Key × V)) (t : Thing) : Rat := ((amt kvs t.key : Int) : Rat)
theorem S_int {α : Type} (f : α → Int) : ∀ l : List α, S l (fun x => ((f x : Int) : Rat)) = (((l.map f).sum : Int) : Rat)
  | [] => rfl
  | x :: r => by rw [S_cons, S_int f r, List.map_cons, List.sum_cons, Rat.intCast_add]
/-- the kept items' bounds -/
structure Kept (ts : List Thing) (total : Int) : Prop where
  len : ts.length ≤ 3
  lo : ∀ t ∈ ts, 1 ≤ t.w ∧ t.w ≤ 1000
  tot : total.natAbs ≤ 5000
theorem sum_bound {l : List Int} {b : Nat} (h : ∀ x ∈ l, x.natAbs ≤ b) : l.sum.natAbs ≤ b * l.length := by
  induction l with
  | nil => exact Nat.le_refl 0
  | cons x r ih =>
    have h1 := h x List.mem_cons_self
    have h2 := ih fun y hy => h y (List.mem_cons_of_mem _ hy)
    rw [List.sum_cons, List.length_cons, Nat.mul_add]
    omega
theorem Kept.left {ts : List Thing} {total : Int} (h : Kept ts total) (i : Nat) : (total - ((ts.take i).map Thing.w).sum).natAbs ≤ 8000 := by
  have h1 : ((ts.take i).map Thing.w).sum.natAbs ≤ 1000 * ((ts.take i).map Thing.w).length := sum_bound fun x hx => by
    obtain ⟨t, ht, rfl⟩ := List.mem_map.mp hx
    have := h.lo t (List.mem_of_mem_take ht)
    omega
  have h2 := h.tot
  have h3 := h.len
  rw [List.length_map, List.length_take] at h1
  omega
theorem amts_bound {kvs : List (Key × V)} (ha : AmI kvs) (ts : List Thing) : (amts kvs ts).sum.natAbs ≤ 10 * ts.length := by
  have := sum_bound (l := amts kvs ts) (b := 10) fun x hx => by
    obtain ⟨t, _, rfl⟩ := List.mem_map.mp hx
    exact ha.le _
  unfold amts at this ⊢
  rw [List.length_map] at this
  exact this
/-- one ordered estimate is small -/
theorem one_Sm {b a l v : Int} (hb : b.natAbs ≤ 40) (ha : a.natAbs ≤ 10) (hl : l.natAbs ≤ 8000) (hv : 1 ≤ v ∧ v ≤ 1000) : Sm 24 ((b : Rat) + ((a * l : Int) : Rat) / ((v : Int) : Rat)) := by
  have h1 : Sm 6 (b : Rat) := sm_int (by omega)
  have h2 : (a * l).natAbs < 2 ^ 17 := by
    rw [Int.natAbs_mul]
    have := Nat.mul_le_mul ha hl
    omega
  exact h1.add (sm_frac (k := 17) (by omega) h2 (by omega))
section
variable {P : Program} {w : World} {K : PySem.W.Frag} {mg : Str → Option Value} {base : Heap} {C : Addr}
/-! ### spread -/
def spSpread (K : PySem.W.Frag) : Sp := fun vs H Q _ => ∃ (l : Addr) (v : V) (xs : List Rat) (m : Rat), vs = [.ref l, v] ∧ FRs K H l xs ∧ xs.length ≤ 3 ∧ (∀ x ∈ xs, Sm 24 x) ∧ FR K H v m ∧ Sm 80 m ∧ RetFR K H Q (spr xs m)
theorem sc_spread : FnScope ["numbers", "middle", "whole", "number", "difference"] ["numbers", "middle"] (defScope s_spread) := ⟨rfl, rfl, rfl, by decide +kernel, rfl, by decide +kernel, by decide +kernel⟩
theorem k_spread (T : Txt K mg C) : Keeps P w K mg base 3 "spread" ["numbers", "middle"] (spSpread K) := by
  refine keeps_of T.d_spread fun f fd F => ?_
  obtain ⟨fP, fdP, GP, mP, kP, bP⟩ := k_plus (P := P) (w := w) (base := base) T
  obtain ⟨fM, fdM, GM, mM, kM, bM⟩ := k_minus (P := P) (w := w) (base := base) T
  obtain ⟨fT, fdT, GT, mT, kT, bT⟩ := k_times (P := P) (w := w) (base := base) T
  obtain ⟨n, mn, hn⟩ := noth_fr T.nE
  refine F.ok sc_spread (fun vs H Q E h => ?_) (fun cdv A outer s H vs Q E hr h => ?_)
  · obtain ⟨l, v, xs, m, rfl, _⟩ := h
    rfl
  · obtain ⟨l, v, xs, m, rfl, ⟨as, hS, hp⟩, hlen, hsm, fm, sm', k⟩ := h
    refine ⟨_, pss_cons (ps_set (i := 2) sc_spread.nd rfl (Or.inl rfl) (pe_glob (v := .ref n) rfl mn rfl))
      (pss_cons (ps_for PassesOwn.never rfl (pi_list (pv 0)) (pg_name (i := 3) sc_spread.nd rfl (Or.inl rfl))
        (pss_cons (ps_set (i := 4) sc_spread.nd rfl (Or.inl rfl) (pe_call GM hr rfl mM kM bM .nil pass0 (pa_cons (pv 3) (pa_cons (pv 1) pa_nil))))
        (pss_one (ps_set (i := 2) sc_spread.nd rfl (Or.inl rfl) (pe_call GP hr rfl mP kP bP .nil pass0 (pa_cons (pv 2) (pa_cons (pe_call GT hr rfl mT kT bT .nil pass0 (pa_cons (pv 4) (pa_cons (pv 4) pa_nil))) pa_nil)))))))
      (pss_one (ps_ret (pv 2)))), ?_⟩
    have hsq : ∀ x ∈ xs, Sm 210 ((x - m) * (x - m)) := fun x hx => ((hsm x hx).sub sm').mul ((hsm x hx).sub sm')
    refine ⟨_, rfl, l, rfl, ⟨_, hS⟩, for_list (K := K) (a := l) (xs := as) (fun i σ H' => ∃ (u : V) (t d : Option V), σ = [some (.ref l), some v, some u, t, d] ∧ Same H H' ∧ FR K H' u (spr (xs.take i) m))
      ⟨_, none, none, rfl, Same.refl H, hn H⟩ (fun i σ H' _ ⟨_, _, _, _, e, _⟩ => e.seq hS) ?_ ?_⟩
    · rintro i y σ H' hi ⟨u, t, d, rfl, e, fu⟩
      obtain ⟨x, hx, fx⟩ := paired_get hp hi
      have hx' := List.mem_of_getElem? hx
      have sw : Sm 900 (spr (xs.take i) m) := by
        have h0 := sm_Sm (a := 210) (l := (xs.take i).map fun t => (t - m) * (t - m)) fun z hz => by
          obtain ⟨x, hx, rfl⟩ := List.mem_map.mp hz
          exact hsq x (List.mem_of_mem_take hx)
        refine h0.mono ?_
        rw [List.length_map, List.length_take]
        omega
      refine ⟨_, rfl, _, rfl, y, v, x, m, rfl, fx.same e, fm.same e, (hsm x hx').mono (by decide), sm'.mono (by decide), trivial, fun H1 d1 e1 f1 => ?_⟩
      have sd : Sm 900 (x - m) := ((hsm x hx').sub sm').mono (by decide)
      refine ⟨_, rfl, _, rfl, _, rfl, d1, d1, _, _, rfl, f1, f1, sd, sd, trivial, fun H2 q2 e2 f2 => ?_⟩
      refine ⟨u, q2, _, _, rfl, (fu.same e1).same e2, f2, sw, (hsq x hx').mono (by decide), trivial, fun H3 u3 e3 f3 => ?_⟩
      refine ⟨u3, _, _, rfl, ((e.trans e1).trans e2).trans e3, ?_⟩
      unfold spr
      rw [take_more hx, List.map_append]
      show FR K H3 u3 (sm ((xs.take i).map (fun t => (t - m) * (t - m)) ++ [(x - m) * (x - m)]))
      rw [sm_snoc]
      exact f3
    · rintro σ H' ⟨u, t, d, rfl, e, fu⟩
      rw [paired_len hp, List.take_length] at fu
      exact ⟨_, rfl, k _ _ e fu⟩
/-! ### mean_of -/
def spMean (K : PySem.W.Frag) : Sp := fun vs H Q _ => ∃ (l : Addr) (xs : List Rat), vs = [.ref l] ∧ FRs K H l xs ∧ 0 < xs.length ∧ xs.length ≤ 3 ∧ (∀ x ∈ xs, Sm 200 x) ∧ RetFR K H Q (sm xs / ((xs.length : Int) : Rat))
theorem sc_mean_of : FnScope ["numbers"] ["numbers"] (defScope s_mean_of) := ⟨rfl, rfl, rfl, by decide +kernel, rfl, by decide +kernel, by decide +kernel⟩
theorem k_mean_of (T : Txt K mg C) : Keeps P w K mg base 4 "mean_of" ["numbers"] (spMean K) := by
  refine keeps_of T.d_mean_of fun f fd F => ?_
  obtain ⟨fO, fdO, GO, mO, kO, bO⟩ := k_over (P := P) (w := w) (base := base) T
  obtain ⟨fS, fdS, GS, mS, kS, bS⟩ := k_sum_of (P := P) (w := w) (base := base) T
  obtain ⟨fW, fdW, GW, mW, kW, bW⟩ := k_whole_number (P := P) (w := w) (base := base) T
  refine F.ok sc_mean_of (fun vs H Q E h => ?_) (fun cdv A outer s H vs Q E hr h => ?_)
  · obtain ⟨l, xs, rfl, _⟩ := h
    rfl
  · obtain ⟨l, xs, rfl, hl, h0, hlen, hsm, k⟩ := h
    have hr2 : Room 2 _ := hr.mono (by decide)
    refine ⟨_, pss_one (ps_ret (pe_call GO hr2 rfl mO kO bO .nil pass0 (pa_cons (pe_call GS hr rfl mS kS bS .nil pass0 (pa_cons (pv 0) pa_nil))
      (pa_cons (pe_call GW hr2 rfl mW kW bW .nil pass0 (pa_cons (pe_callB call_len_seq (by rfl) T.len PySem.boot_len (pa_cons (pv 0) pa_nil)) pa_nil)) pa_nil)))), ?_⟩
    refine ⟨_, rfl, l, xs, rfl, hl, hlen, hsm, fun H1 v1 e1 f1 => ?_⟩
    obtain ⟨as, hS, hp⟩ := hl.same e1
    refine ⟨_, rfl, l, _, rfl, .inl hS, ?_⟩
    have el := paired_len hp
    refine ⟨_, rfl, by rw [el, Int.natAbs_natCast]; exact Nat.lt_of_le_of_lt hlen (Nat.lt_of_lt_of_le (by decide : 3 < 2 ^ 2) (Nat.pow_le_pow_right (by decide) (by decide))), fun H2 v2 e2 f2 => ?_⟩
    rw [el] at f2
    refine ⟨v1, v2, _, _, rfl, f1.same e2, f2, (sm_Sm hsm).mono (by omega), sm_int (by rw [Int.natAbs_natCast]; exact Nat.lt_of_le_of_lt hlen (Nat.lt_of_lt_of_le (by decide : 3 < 2 ^ 2) (Nat.pow_le_pow_right (by decide) (by decide)))), Rat.intCast_pos.mpr (by omega), fun H3 v3 e3 f3 => ?_⟩
    exact k _ _ ((e1.trans e2).trans e3) f3
/-! ### ordered_of -/
def spOrdOf (K : PySem.W.Frag) : Sp := fun vs H Q _ => ∃ (total : Int) (l d : Addr) (things : List Thing) (kvs : List (Key × V)), vs = [.int total, .ref l, .ref d] ∧ LsOk K H l things ∧ Kept things total ∧ H d = some (.dK kvs) ∧ AmI kvs ∧
  ∀ H' p, Same H H' → H p = none → FRs K H' p (ts wR (yR kvs) (total : Rat) things) → Q (.ref p) H'
theorem sc_ordered_of : FnScope ["total", "things", "amounts", "found", "left", "before", "item", "amount"] ["total", "things", "amounts"] (defScope s_ordered_of) := ⟨rfl, rfl, rfl, by decide +kernel, rfl, by decide +kernel, by decide +kernel⟩
theorem ts_Sm {things : List Thing} {total : Int} {kvs : List (Key × V)} (hk : Kept things total) (ha : AmI kvs) (i : Nat) : ∀ x ∈ ts wR (yR kvs) (total : Rat) (things.take i), Sm 24 x := by
  induction i with
  | zero => intro x hx; simp [ts, tsT] at hx
  | succ i ih =>
    intro x hx
    cases e : things[i]? with
    | none =>
      have h1 : things.length ≤ i := List.getElem?_eq_none_iff.mp e
      rw [List.take_of_length_le (by omega)] at hx
      rw [List.take_of_length_le h1] at ih
      exact ih x hx
    | some t =>
      rw [take_more e, ts_snoc] at hx
      rcases List.mem_append.mp hx with q | q
      · exact ih x q
      · have q := List.mem_singleton.mp q
        subst q
        rw [S_int, S_int, ← Rat.intCast_sub, ← Rat.intCast_mul]
        have h1 := amts_bound ha (things.take i)
        unfold amts at h1
        rw [List.length_take] at h1
        have h2 := hk.len
        exact one_Sm (by omega) (ha.le _) (hk.left i) (hk.lo t (List.mem_of_getElem? e))
theorem k_ordered_of (T : Txt K mg C) : Keeps P w K mg base 3 "ordered_of" ["total", "things", "amounts"] (spOrdOf K) := by
  refine keeps_of T.d_ordered_of fun f fd F => ?_
  obtain ⟨fA, fdA, GA, mA, kA, bA⟩ := k_amount_of (P := P) (w := w) (base := base) T
  obtain ⟨fP, fdP, GP, mP, kP, bP⟩ := k_plus (P := P) (w := w) (base := base) T
  obtain ⟨fW, fdW, GW, mW, kW, bW⟩ := k_whole_number (P := P) (w := w) (base := base) T
  obtain ⟨fL, fdL, GL, mL, kL, bL⟩ := k_lowest (P := P) (w := w) (base := base) T
  refine F.ok sc_ordered_of (fun vs H Q E h => ?_) (fun cdv A outer s H vs Q E hr h => ?_)
  · obtain ⟨total, l, d, things, kvs, rfl, _⟩ := h
    rfl
  · obtain ⟨total, l, d, things, kvs, rfl, hl, hk, hd, ha, k⟩ := h
    have hr1 : Room 1 _ := hr.mono (by decide)
    have nd := sc_ordered_of.nd
    refine ⟨_, pss_cons (ps_set (i := 3) nd rfl (Or.inl rfl) (pe_lst pa_nil))
      (pss_cons (ps_set (i := 4) nd rfl (Or.inl rfl) (pv 0))
      (pss_cons (ps_set (i := 5) nd rfl (Or.inl rfl) pe_int)
      (pss_cons (ps_for PassesOwn.never rfl (pi_list (pv 1)) (pg_name (i := 6) nd rfl (Or.inl rfl))
        (pss_cons (ps_set (i := 7) nd rfl (Or.inl rfl) (pe_call GA hr1 rfl mA kA bA .nil pass0 (pa_cons (pv 2) (pa_cons (pv 6) pa_nil))))
        (pss_cons (ps_expr (pe_bm PySem.F.plainAttrs_list PySem.F.slot_list_append PySem.F.type_list_append mt_append (pv 3) (pa_cons
          (pe_call GP hr rfl mP kP bP .nil pass0 (pa_cons (pe_call GW hr rfl mW kW bW .nil pass0 (pa_cons (pv 5) pa_nil))
            (pa_cons (pe_call GL hr1 rfl mL kL bL .nil pass0 (pa_cons (pe_op op_mulW (pv 7) (pv 4)) (pa_cons (pe_ix ix_tup (pv 6) pe_int (fun _ _ => rfl)) pa_nil))) pa_nil))) pa_nil)))
        (pss_cons (ps_aug (i := 5) nd rfl (Or.inl rfl) (pv 7) ip_add)
        (pss_one (ps_aug (i := 4) nd rfl (Or.inl rfl) (pe_ix ix_tup (pv 6) pe_int (fun _ _ => rfl)) ip_sub))))))
      (pss_one (ps_ret (pv 3)))))), ?_⟩
    refine ⟨Nat.zero_le _, fun o no => ⟨_, rfl, _, rfl, l, rfl, ⟨_, (same_upd no).seq hl.1⟩, ?_⟩⟩
    refine for_list (K := K) (a := l) (xs := things.map tV) (fun i σ H' => ∃ (t m : Option V) (as : List V), σ = [some (.int total), some (.ref l), some (.ref d), some (.ref o), some (.int (total - ((things.take i).map Thing.w).sum)), some (.int (amts kvs (things.take i)).sum), t, m] ∧
      Same H H' ∧ H' o = some (.lst as) ∧ Paired (FR K H') as (ts wR (yR kvs) (total : Rat) (things.take i)))
      ⟨none, none, [], ?_, same_upd no, upd_same, .nil⟩ (fun i σ H' _ ⟨_, _, _, _, e, _⟩ => e.seq hl.1) ?_ ?_
    · show _ = [some (V.int total), some (.ref l), some (.ref d), some (.ref o), some (.int (total - 0)), some (.int 0), none, none]
      rw [Int.sub_zero]
      rfl
    · rintro i y σ H' hi ⟨t, m, as, rfl, e, eo, pp⟩
      obtain ⟨x, hx, rfl⟩ := things_get hi
      have hx' := List.mem_of_getElem? hx
      have hb := amts_bound ha (things.take i)
      rw [List.length_take] at hb
      have hlen := hk.len
      have hlf := hk.left i
      have hw := hk.lo x hx'
      have hxa := ha.le x.key
      have big : ∀ {a b : Nat}, a < 2 ^ b → b ≤ 3000 → a < 2 ^ 3000 := fun h1 h2 => pow_le_mono h1 h2
      -- amount = amount_of(amounts, item)
      refine ⟨_, rfl, _, rfl, d, kvs, x, rfl, e _ _ hd, ha, (hl.2 x hx').same e, ?_⟩
      -- found.append(plus(whole_number(before), lowest(amount * left, item[2])))
      have hm : (amt kvs x.key * (total - ((things.take i).map Thing.w).sum)).natAbs < 2 ^ 17 := by
        rw [Int.natAbs_mul]
        have := Nat.mul_le_mul hxa hlf
        omega
      refine ⟨_, rfl, .inl ⟨rfl, _, SqL.of eo⟩, _, rfl, _, rfl, big (b := 6) (by omega) (by decide), fun H1 v1 e1 f1 => ?_⟩
      refine ⟨_, rfl, _, rfl, _, _, rfl, rfl, wide_mul (a := 4) (b := 13) (by omega) (by omega) (by decide) (by decide) (by decide), ?_⟩
      refine ⟨_, rfl, x.a, _, _, _, rfl, rfl, ((hl.2 x hx').same e).same e1, at_2, _, _, rfl, by omega, big hm (by decide), big (b := 10) (by omega) (by decide), fun H2 v2 e2 f2 => ?_⟩
      have s1 : Sm 6 (((amts kvs (things.take i)).sum : Int) : Rat) := sm_int (by omega)
      have s2 : Sm 17 (((amt kvs x.key * (total - ((things.take i).map Thing.w).sum) : Int) : Rat) / ((x.w : Int) : Rat)) := sm_frac (by omega) hm (by omega)
      refine ⟨v1, v2, _, _, rfl, f1.same e2, f2, s1.mono (by decide), s2.mono (by decide), trivial, fun H3 v3 e3 f3 => ?_⟩
      have eo3 := e3 _ _ (e2 _ _ (e1 _ _ eo))
      refine ⟨o, _, _, rfl, rfl, eo3, ?_, ?_⟩
      · have := paired_len pp
        rw [ts_len, List.length_take] at this
        exact small1000 (by omega)
      have ex : ts wR (yR kvs) (total : Rat) (things.take (i + 1)) = ts wR (yR kvs) (total : Rat) (things.take i) ++ [(((amts kvs (things.take i)).sum : Int) : Rat) + ((amt kvs x.key * (total - ((things.take i).map Thing.w).sum) : Int) : Rat) / ((x.w : Int) : Rat)] := by
        rw [take_more hx, ts_snoc, S_int, S_int, ← Rat.intCast_sub, ← Rat.intCast_mul]
        rfl
      -- before += amount; left -= item[2]
      have ix2 : ItOk K (upd H3 o (.lst (as ++ [v3]))) x := sqt_upd ((((hl.2 x hx').same e).same e1).same e2 |>.same e3) eo3
      refine ⟨_, rfl, _, rfl, _, _, rfl, rfl, _, rfl, _, rfl, x.a, _, _, _, rfl, rfl, ix2, at_2, _, _, rfl, rfl, ?_⟩
      refine ⟨some (.ref x.a), some (.int (amt kvs x.key)), as ++ [v3], ?_, same_store (((e.trans e1).trans e2).trans e3) no, upd_same, ?_⟩
      · have q1 : (amts kvs (things.take (i + 1))).sum = (amts kvs (things.take i)).sum + amt kvs x.key := by
          unfold amts
          rw [take_more hx, List.map_append, List.sum_append]
          simp
        have q2 : ((things.take (i + 1)).map Thing.w).sum = ((things.take i).map Thing.w).sum + x.w := by
          rw [take_more hx, List.map_append, List.sum_append]
          simp
        have q3 : total - (((things.take i).map Thing.w).sum + x.w) = total - ((things.take i).map Thing.w).sum - x.w := by omega
        rw [q1, q2, q3]
        rfl
      · rw [ex]
        exact paired_snoc (frs_upd eo3 (frs_mono (e1.trans (e2.trans e3)) pp)) (f3.upd eo3)
    · rintro σ H' ⟨t, m, as, rfl, e, eo, pp⟩
      rw [List.length_map, List.take_length] at pp
      exact ⟨_, rfl, k _ _ e no ⟨as, SqL.of eo, pp⟩⟩
end
end K34

namespace K34
open PySem PySem.Spec PyProof.Rows L2 Mth
theorem vint_eq {a b : Int} : decide (V.int a = V.int b) = decide (a = b) := by
  by_cases e : a = b
  · subst e; simp
  · rw [decide_eq_false (vint_ne e), decide_eq_false e]
def ws (things : List Thing) : List Int := things.map Thing.w
/-- what estimate hands back: the estimate, and the variance or none -/
def AnsAt (H : Hp) (K : PySem.W.Frag) (p : Addr) (e : Rat) (vr : Option Rat) : Prop := ∃ v u : V, H p = some (.tup [v, u]) ∧ FR K H v e ∧ match vr with | none => u = .non | some x => (∃ a, u = .ref a) ∧ FR K H u x
section
variable {P : Program} {w : World} {K : PySem.W.Frag} {mg : Str → Option Value} {base : Heap} {C : Addr}
/-! ### Weighted.__init__ -/
def spInit (K : PySem.W.Frag) (C : Addr) : Sp := fun vs H Q _ => ∃ (p dx l : Addr) (size total : Int) (ys : List V), vs = [.ref p, .int size, .int total, .ref l] ∧ H p = some (.ins C dx []) ∧ SqL K H l ys ∧
  ∀ (l' : Addr) (H' : Hp), SmpAt C H' p size total l' → H l' = none → H' l' = some (.lst ys) → (∀ b o, H b = some o → b ≠ p → H' b = some o) → Q .non H'
theorem sc_init : FnScope ["self", "size", "total", "kept"] ["self", "size", "total", "kept"] (defScope s_init) := ⟨rfl, rfl, rfl, by decide +kernel, rfl, by decide +kernel, by decide +kernel⟩
theorem ok_init (T : Txt K mg C) {U O f : Addr} {fd : FuncData} (WT : WOk K mg C U O f fd) : FnOk P w K mg base CX0 1 f fd ["self", "size", "total", "kept"] (spInit K C) := by
  refine WT.fn.ok sc_init (fun vs H Q E h => ?_) (fun cdv A outer s H vs Q E hr h => ?_)
  · obtain ⟨p, dx, l, size, total, ys, rfl, _⟩ := h
    rfl
  · obtain ⟨p, dx, l, size, total, ys, rfl, hp, hl, k⟩ := h
    refine ⟨_, pss_cons (ps_fld (pv 0) (pv 1) rfl) (pss_cons (ps_fld (pv 0) (pv 2) rfl)
      (pss_one (ps_fld (pv 0) (pe_callTy call_list_of (by rfl) T.list (by decide +kernel) (pa_cons (pv 3) pa_nil)) rfl))), ?_⟩
    refine ⟨_, rfl, _, rfl, p, C, dx, [], rfl, hp, WT.cl, WT.nS, (by show 0 < 1000; decide), ?_⟩
    refine ⟨_, rfl, _, rfl, p, C, dx, _, rfl, upd_same, WT.cl, WT.nT, (by show 1 < 1000; decide), ?_⟩
    have hL : SqL K (upd (upd H p (.ins C dx (putF "size" (.int size) []))) p (.ins C dx (putF "total" (.int total) (putF "size" (.int size) [])))) l ys := by
      rcases hl with (h | ⟨ob, h⟩) | h
      · exact .inl (.inl (by rw [upd_ne (ne_of h hp (by intro z; cases z)), upd_ne (ne_of h hp (by intro z; cases z))]; exact h))
      · exact .inl (.inr ⟨ob, by rw [upd_ne (ne_of h hp (by intro z; cases z)), upd_ne (ne_of h hp (by intro z; cases z))]; exact h⟩)
      · exact .inr h
    refine ⟨_, rfl, l, ys, rfl, .inl hL, fun m hm => ?_⟩
    have npm : m ≠ p := fun q => by
      rw [q, upd_same] at hm
      cases hm
    refine ⟨_, rfl, p, C, dx, _, rfl, (by rw [upd_ne npm.symm]; exact upd_same), WT.cl, WT.nK, (by rw [wf2]; show 2 < 1000; decide), ?_⟩
    have hm0 : H m = Option.none := by
      rw [upd_ne npm, upd_ne npm] at hm
      exact hm
    refine k m _ ⟨dx, upd_same⟩ hm0 (by rw [upd_ne npm, upd_same]) fun b o e hb => ?_
    rw [upd_ne hb, upd_ne (ne_of_none e hm0), upd_ne hb, upd_ne hb]
    exact e
/-! ### is_whole -/
def spIsW (K : PySem.W.Frag) (C : Addr) : Sp := fun vs H Q _ => ∃ (p l : Addr) (size total : Int) (things : List Thing), vs = [.ref p] ∧ SmpAt C H p size total l ∧ LsOk K H l things ∧ things.length ≤ 1000 ∧ ∀ H', Same H H' → Q (.bl (decide ((ws things).sum = total))) H'
theorem sc_is_whole : FnScope ["sample", "item", "adjusted"] ["sample"] (defScope s_is_whole) := ⟨rfl, rfl, rfl, by decide +kernel, rfl, by decide +kernel, by decide +kernel⟩
theorem k_is_whole (T : Txt K mg C) : Keeps P w K mg base 1 "is_whole" ["sample"] (spIsW K C) := by
  refine keeps_of T.d_is_whole fun f fd F => ?_
  obtain ⟨U, O, fI, fdI, WT⟩ := T.wt
  refine F.ok sc_is_whole (fun vs H Q E h => ?_) (fun cdv A outer s H vs Q E hr h => ?_)
  · obtain ⟨p, l, size, total, things, rfl, _⟩ := h
    rfl
  · obtain ⟨p, l, size, total, things, rfl, ⟨dx, hp⟩, hl, hlen, k⟩ := h
    have ty : TyX K H (.ref p) (.ref C) := .base (.ins hp WT.cl WT.ha WT.hn WT.htk WT.hm)
    refine ⟨_, pss_cons (ps_if (pt_val (pe_callB call_isi (by rfl) T.isi (by decide +kernel) (pa_cons (pv 0) (pa_cons (pe_glob (v := .ref U) rfl WT.mgU rfl) pa_nil)))) (pss_one ps_never) pss_nil)
      (pss_cons (ps_if (pt_val (pe_callB call_isi (by rfl) T.isi (by decide +kernel) (pa_cons (pv 0) (pa_cons (pe_glob (v := .ref O) rfl WT.mgO rfl) pa_nil)))) (pss_one ps_never) pss_nil)
      (pss_one (ps_ret (pe_cmpR op_eq (pe_callB (cr_sum rfl) (by rfl) T.sum (by decide +kernel) (pa_cons
        (pe_lc (own := [("item", 1)]) (g := gName 1) (by rfl) sc_is_whole.nd (pi_list (pe_fld (pv 0) rfl)) (blkOk_by (own := [("item", 1)]) (N := ["sample", "item", "adjusted"]) (sc := defScope s_is_whole) (by decide +kernel))
          (fun _ _ _ _ _ => pg_name (i := 1) sc_is_whole.nd rfl (Or.inl rfl)) (fun _ _ _ _ _ => pts_nil)
          (fun _ _ _ _ _ => pe_ix (r := rIxT K) ix_tup (pv 1) pe_int (fun _ _ => rfl))) pa_nil)) (pe_fld (pv 0) rfl) (nomark _))))), ?_⟩
    refine ⟨_, rfl, _, _, _, _, _, rfl, .own U, ty, WT.kU, false, rfl, ?_⟩
    refine ⟨_, rfl, _, _, _, _, _, rfl, .own O, ty, WT.kO, false, rfl, ?_⟩
    refine ⟨_, rfl, p, C, dx, _, _, rfl, hp, WT.cl, WT.nK, wf_kept _ _ _, l, rfl, ⟨_, hl.1⟩, fun D nD => lc_list (K := K) (a := l) (xs := things.map tV) (fun i H' => Same H H' ∧ H' D = some (.lst ((ws (things.take i)).map V.int)))
      ⟨same_upd nD, upd_same⟩ (fun i H' _ ⟨e, _⟩ => e.seq hl.1) ?_ ?_⟩
    · rintro i y H' hi ⟨e, eD⟩
      obtain ⟨t, ht, rfl⟩ := things_get hi
      refine ⟨rfl, ?_⟩
      refine ⟨_, rfl, t.a, _, _, _, rfl, rfl, (hl.2 t (List.mem_of_getElem? ht)).same e, at_2, _, eD, ?_, ?_, ?_⟩
      · rw [List.length_map]
        unfold ws
        rw [List.length_map, List.length_take]
        exact small1000 (Nat.le_trans (Nat.min_le_right _ _) hlen)
      · exact same_store e nD
      · rw [upd_same]
        unfold ws
        rw [take_more ht, List.map_append, List.map_append]
        rfl
    · rintro H' ⟨e, eD⟩
      refine ⟨D, ws things, rfl, SqL.of (by rw [eD, List.length_map, List.take_length]), _, rfl, p, C, dx, _, _, rfl, e _ _ hp, WT.cl, WT.nT, wf_total _ _ _, rfl, ?_⟩
      show Q (.bl (decide (V.int (ws things).sum = V.int total))) H'
      rw [vint_eq]
      exact k _ e
/-! ### estimate_weighted -/
def midR (kvs : List (Key × V)) (total : Int) (things : List Thing) : Rat := mid wR (yR kvs) (total : Rat) things
def varR (kvs : List (Key × V)) (total : Int) (things : List Thing) : Rat := var wR (yR kvs) (total : Rat) things
theorem mid_Sm {things : List Thing} {total : Int} {kvs : List (Key × V)} (hk : Kept things total) (ha : AmI kvs) (h0 : 0 < things.length) : Sm 80 (midR kvs total things) := by
  have h1 := ts_Sm hk ha things.length
  rw [List.take_length] at h1
  have h2 := sm_Sm h1
  rw [ts_len] at h2
  have h3 : Sm 2 (((things.length : Nat) : Int) : Rat) := sm_int (by have := hk.len; omega)
  have h4 : (0 : Rat) < (((things.length : Nat) : Int) : Rat) := Rat.intCast_pos.mpr (by omega)
  have hlen := hk.len
  exact (h2.div h3 h4).mono (by omega)
theorem spr_Sm {things : List Thing} {total : Int} {kvs : List (Key × V)} (hk : Kept things total) (ha : AmI kvs) (h0 : 0 < things.length) : Sm 640 (spr (ts wR (yR kvs) (total : Rat) things) (midR kvs total things)) := by
  have h1 := ts_Sm hk ha things.length
  rw [List.take_length] at h1
  have hm := mid_Sm hk ha h0
  have h2 := sm_Sm (a := 210) (l := (ts wR (yR kvs) (total : Rat) things).map fun t => (t - midR kvs total things) * (t - midR kvs total things)) fun z hz => by
    obtain ⟨x, hx, rfl⟩ := List.mem_map.mp hz
    exact ((h1 x hx).sub hm).mul ((h1 x hx).sub hm)
  refine h2.mono ?_
  rw [List.length_map, ts_len]
  have := hk.len
  omega
theorem many_ (n : Nat) (h : n ≤ 3) : ((n : Int) * ((n : Int) - 1)).natAbs < 2 ^ 3 := by
  match n, h with
  | 0, _ => decide
  | 1, _ => decide
  | 2, _ => decide
  | 3, _ => decide
theorem var_Sm {things : List Thing} {total : Int} {kvs : List (Key × V)} (hk : Kept things total) (ha : AmI kvs) (h0 : 1 < things.length) : Sm 650 (varR kvs total things) := by
  have h1 := spr_Sm hk ha (by omega)
  have hp : (0 : Rat) < (((things.length : Int) * ((things.length : Int) - 1) : Int) : Rat) := Rat.intCast_pos.mpr (Int.mul_pos (by omega) (by omega))
  have hs : Sm 3 (((things.length : Int) * ((things.length : Int) - 1) : Int) : Rat) := sm_int (many_ _ hk.len)
  exact (h1.div hs hp).mono (by decide)
def spEstW (K : PySem.W.Frag) (C : Addr) : Sp := fun vs H Q _ => ∃ (p l d : Addr) (size total : Int) (things : List Thing) (kvs : List (Key × V)), vs = [.ref p, .ref d] ∧ SmpAt C H p size total l ∧ LsOk K H l things ∧ Kept things total ∧ 0 < things.length ∧
  H d = some (.dK kvs) ∧ AmI kvs ∧ ∀ H' q, Same H H' → AnsAt H' K q (midR kvs total things) (if things.length = 1 then none else some (varR kvs total things)) → Q (.ref q) H'
theorem sc_estimate_weighted : FnScope ["sample", "amounts", "numbers", "many", "middle"] ["sample", "amounts"] (defScope s_estimate_weighted) := ⟨rfl, rfl, rfl, by decide +kernel, rfl, by decide +kernel, by decide +kernel⟩
theorem pow3000 {a : Nat} (b : Nat) (h : a < 2 ^ b) (hb : b ≤ 3000) : a < 2 ^ 3000 := pow_le_mono h hb
theorem k_estimate_weighted (T : Txt K mg C) : Keeps P w K mg base 5 "estimate_weighted" ["sample", "amounts"] (spEstW K C) := by
  refine keeps_of T.d_estimate_weighted fun f fd F => ?_
  obtain ⟨U, O, fI, fdI, WT⟩ := T.wt
  obtain ⟨fA, fdA, GA, mA, kA, bA⟩ := k_ordered_of (P := P) (w := w) (base := base) T
  obtain ⟨fM, fdM, GM, mM, kM, bM⟩ := k_mean_of (P := P) (w := w) (base := base) T
  obtain ⟨fO, fdO, GO, mO, kO, bO⟩ := k_over (P := P) (w := w) (base := base) T
  obtain ⟨fS, fdS, GS, mS, kS, bS⟩ := k_spread (P := P) (w := w) (base := base) T
  obtain ⟨fW, fdW, GW, mW, kW, bW⟩ := k_whole_number (P := P) (w := w) (base := base) T
  refine F.ok sc_estimate_weighted (fun vs H Q E h => ?_) (fun cdv A outer s H vs Q E hr h => ?_)
  · obtain ⟨p, l, d, size, total, things, kvs, rfl, _⟩ := h
    rfl
  · obtain ⟨p, l, d, size, total, things, kvs, rfl, ⟨dx, hp⟩, hl, hk, h0, hd, ha, k⟩ := h
    have nd := sc_estimate_weighted.nd
    have hr2 : Room 2 _ := hr.mono (by decide)
    have hr3 : Room 3 _ := hr.mono (by decide)
    refine ⟨_, pss_cons (ps_set (i := 2) nd rfl (Or.inl rfl) (pe_call GA hr3 rfl mA kA bA .nil pass0 (pa_cons (pe_fld (pv 0) rfl) (pa_cons (pe_fld (pv 0) rfl) (pa_cons (pv 1) pa_nil)))))
      (pss_cons (ps_set (i := 3) nd rfl (Or.inl rfl) (pe_callB call_len_seq (by rfl) T.len PySem.boot_len (pa_cons (pv 2) pa_nil)))
      (pss_cons (ps_set (i := 4) nd rfl (Or.inl rfl) (pe_call GM hr rfl mM kM bM .nil pass0 (pa_cons (pv 2) pa_nil)))
      (pss_cons (ps_if (pt_cmpR op_eq (pv 3) pe_int (nomark _)) (pss_one (ps_ret (pe_tup (pa_cons (pv 4) (pa_cons pe_non pa_nil))))) pss_nil)
      (pss_one (ps_ret (pe_tup (pa_cons (pv 4) (pa_cons
        (pe_call GO hr2 rfl mO kO bO .nil pass0 (pa_cons (pe_call GS hr3 rfl mS kS bS .nil pass0 (pa_cons (pv 2) (pa_cons (pv 4) pa_nil)))
          (pa_cons (pe_call GW hr2 rfl mW kW bW .nil pass0 (pa_cons (pe_op op_mulW (pv 3) (pe_op op_sub (pv 3) pe_int)) pa_nil)) pa_nil))) pa_nil)))))))), ?_⟩
    -- numbers = ordered_of(sample.total, sample.kept, amounts)
    refine ⟨_, rfl, p, C, dx, _, _, rfl, hp, WT.cl, WT.nT, wf_total _ _ _, _, rfl, p, C, dx, _, _, rfl, hp, WT.cl, WT.nK, wf_kept _ _ _, _, rfl, total, l, d, things, kvs, rfl, hl, hk, hd, ha, fun H1 q1 e1 _ f1 => ?_⟩
    obtain ⟨as, hS, hpp⟩ := id f1
    have hlen := hk.len
    have el : as.length = things.length := by rw [paired_len hpp, ts_len]
    -- many = len(numbers)
    refine ⟨_, rfl, q1, _, rfl, .inl hS, ?_⟩
    -- middle = mean_of(numbers)
    have t24 := ts_Sm hk ha things.length
    rw [List.take_length] at t24
    refine ⟨_, rfl, q1, _, rfl, f1, by rw [ts_len]; exact h0, by rw [ts_len]; exact hlen, fun x hx => (t24 x hx).mono (by decide), fun H2 m2 e2 f2 => ?_⟩
    rw [ts_len] at f2
    have f2 : FR K H2 m2 (midR kvs total things) := f2
    -- if many == 1
    refine ⟨_, rfl, rfl, _, rfl, ?_⟩
    rw [el]
    show if decide (V.int (things.length : Int) = V.int 1) = true then _ else _
    by_cases hone : things.length = 1
    · refine iteY (by rw [hone]; rfl) ?_
      refine ⟨_, rfl, by show 2 ≤ sizeLine; decide, fun t ht => ?_⟩
      refine k _ t ((e1.trans e2).trans (same_upd ht)) ⟨m2, .non, upd_same, f2.same (same_upd ht), ?_⟩
      rw [if_pos hone]
    · refine iteN (vint_ne (by omega)) ?_
      have f1' := f1.same e2
      refine ⟨_, rfl, _, rfl, _, rfl, q1, m2, _, _, rfl, f1', by rw [ts_len]; exact hlen, t24, f2, mid_Sm hk ha h0, fun H3 v3 e3 f3 => ?_⟩
      have hmn := many_ things.length hlen
      refine ⟨_, rfl, _, rfl, _, _, rfl, rfl, _, _, rfl, rfl, wide_mul (a := 2) (b := 2) (by omega) (by omega) (by decide) (by decide) (by decide), ?_⟩
      refine ⟨_, rfl, pow3000 3 hmn (by decide), fun H4 v4 e4 f4 => ?_⟩
      refine ⟨v3, v4, _, _, rfl, f3.same e4, f4, (spr_Sm hk ha h0).mono (by decide), (sm_int (k := 3) hmn).mono (by decide), Rat.intCast_pos.mpr (Int.mul_pos (by omega) (by omega)), fun H5 v5 e5 f5 => ?_⟩
      refine ⟨by show 2 ≤ sizeLine; decide, fun t ht => ?_⟩
      have e25 := (e3.trans e4).trans e5
      refine k _ t (((e1.trans e2).trans e25).trans (same_upd ht)) ⟨m2, v5, upd_same, (f2.same e25).same (same_upd ht), ?_⟩
      rw [if_neg hone]
      obtain ⟨a5, rfl, _⟩ := id f5
      exact ⟨⟨a5, rfl⟩, f5.same (same_upd ht)⟩
/-! ### estimate -/
def estE (kvs : List (Key × V)) (total : Int) (things : List Thing) : Rat := if (ws things).sum = total then (((amts kvs things).sum : Int) : Rat) else midR kvs total things
def estV (kvs : List (Key × V)) (total : Int) (things : List Thing) : Option Rat := if (ws things).sum = total then some 0 else if things.length = 1 then none else some (varR kvs total things)
def spEst (K : PySem.W.Frag) (C : Addr) : Sp := fun vs H Q _ => ∃ (p l d : Addr) (size total : Int) (things : List Thing) (kvs : List (Key × V)), vs = [.ref p, .ref d] ∧ SmpAt C H p size total l ∧ LsOk K H l things ∧ Kept things total ∧ 0 < things.length ∧
  H d = some (.dK kvs) ∧ AmI kvs ∧ ∀ H' q, Same H H' → AnsAt H' K q (estE kvs total things) (estV kvs total things) → Q (.ref q) H'
theorem sc_estimate : FnScope ["sample", "amounts"] ["sample", "amounts"] (defScope s_estimate) := ⟨rfl, rfl, rfl, by decide +kernel, rfl, by decide +kernel, by decide +kernel⟩
theorem amts_big {kvs : List (Key × V)} (ha : AmI kvs) {things : List Thing} (h : things.length ≤ 3) : (amts kvs things).sum.natAbs < 2 ^ 3000 := by
  have := amts_bound ha things
  exact pow3000 5 (by omega) (by decide)
theorem k_estimate (T : Txt K mg C) : Keeps P w K mg base 6 "estimate" ["sample", "amounts"] (spEst K C) := by
  refine keeps_of T.d_estimate fun f fd F => ?_
  obtain ⟨U, O, fI, fdI, WT⟩ := T.wt
  obtain ⟨fI, fdI, GI, mI, kI, bI⟩ := k_is_whole (P := P) (w := w) (base := base) T
  obtain ⟨fW, fdW, GW, mW, kW, bW⟩ := k_whole_number (P := P) (w := w) (base := base) T
  obtain ⟨fT, fdT, GT, mT, kT, bT⟩ := k_true_sum (P := P) (w := w) (base := base) T
  obtain ⟨fE, fdE, GE, mE, kE, bE⟩ := k_estimate_weighted (P := P) (w := w) (base := base) T
  obtain ⟨n, mn, hn⟩ := noth_fr T.nE
  refine F.ok sc_estimate (fun vs H Q E h => ?_) (fun cdv A outer s H vs Q E hr h => ?_)
  · obtain ⟨p, l, d, size, total, things, kvs, rfl, _⟩ := h
    rfl
  · obtain ⟨p, l, d, size, total, things, kvs, rfl, hs, hl, hk, h0, hd, ha, k⟩ := h
    have nd := sc_estimate.nd
    have hr1 : Room 1 _ := hr.mono (by decide)
    have hr2 : Room 2 _ := hr.mono (by decide)
    have hlen := hk.len
    obtain ⟨dx, hp⟩ := id hs
    refine ⟨_, pss_cons (ps_if (pt_val (pe_call GI hr1 rfl mI kI bI .nil pass0 (pa_cons (pv 0) pa_nil)))
        (pss_one (ps_ret (pe_tup (pa_cons (pe_call GW hr2 rfl mW kW bW .nil pass0 (pa_cons (pe_call GT hr2 rfl mT kT bT .nil pass0 (pa_cons (pe_fld (pv 0) rfl) (pa_cons (pv 1) pa_nil))) pa_nil)) (pa_cons (pe_glob (v := .ref n) rfl mn rfl) pa_nil))))) pss_nil)
      (pss_cons (ps_if (pt_val (pe_callB call_isi (by rfl) T.isi (by decide +kernel) (pa_cons (pv 0) (pa_cons (pe_glob (v := .ref U) rfl WT.mgU rfl) pa_nil)))) (pss_one ps_never) pss_nil)
      (pss_cons (ps_if (pt_val (pe_callB call_isi (by rfl) T.isi (by decide +kernel) (pa_cons (pv 0) (pa_cons (pe_glob (v := .ref O) rfl WT.mgO rfl) pa_nil)))) (pss_one ps_never) pss_nil)
      (pss_one (ps_ret (pe_call GE hr rfl mE kE bE .nil pass0 (pa_cons (pv 0) (pa_cons (pv 1) pa_nil))))))), ?_⟩
    refine ⟨_, rfl, p, l, size, total, things, rfl, hs, hl, by omega, fun H1 e1 => ⟨_, rfl, ?_⟩⟩
    have hp1 := e1 _ _ hp
    by_cases hw : (ws things).sum = total
    · refine iteY hw ?_
      refine ⟨_, rfl, p, C, dx, _, _, rfl, hp1, WT.cl, WT.nK, wf_kept _ _ _, _, rfl, l, d, things, kvs, rfl, hl.same e1, by omega, e1 _ _ hd, ha, fun H2 e2 => ?_⟩
      refine ⟨_, rfl, amts_big ha hlen, fun H3 v3 e3 f3 => ⟨by show 2 ≤ sizeLine; decide, fun t ht => ?_⟩⟩
      refine k _ t (((e1.trans e2).trans e3).trans (same_upd ht)) ⟨v3, .ref n, upd_same, ?_, ?_⟩
      · unfold estE
        rw [if_pos hw]
        exact f3.same (same_upd ht)
      · unfold estV
        rw [if_pos hw]
        exact ⟨⟨n, rfl⟩, hn _⟩
    · refine iteN hw ?_
      have ty : TyX K H1 (.ref p) (.ref C) := .base (.ins hp1 WT.cl WT.ha WT.hn WT.htk WT.hm)
      refine ⟨_, rfl, _, _, _, _, _, rfl, .own U, ty, WT.kU, false, rfl, ?_⟩
      refine ⟨_, rfl, _, _, _, _, _, rfl, .own O, ty, WT.kO, false, rfl, ?_⟩
      refine ⟨_, rfl, _, rfl, p, l, d, size, total, things, kvs, rfl, hs.same e1, hl.same e1, hk, h0, e1 _ _ hd, ha, fun H2 q2 e2 a2 => ?_⟩
      refine k _ q2 (e1.trans e2) ?_
      unfold estE estV
      rw [if_neg hw, if_neg hw]
      exact a2
/-! ### ordered -/
def ordL (kvs : List (Key × V)) (total : Int) (things : List Thing) : List Rat := if (ws things).sum = total then [(((amts kvs things).sum : Int) : Rat)] else ts wR (yR kvs) (total : Rat) things
def spOrd (K : PySem.W.Frag) (C : Addr) : Sp := fun vs H Q _ => ∃ (p l d : Addr) (size total : Int) (things : List Thing) (kvs : List (Key × V)), vs = [.ref p, .ref d] ∧ SmpAt C H p size total l ∧ LsOk K H l things ∧ Kept things total ∧
  H d = some (.dK kvs) ∧ AmI kvs ∧ ∀ H' q, Same H H' → H q = none → FRs K H' q (ordL kvs total things) → Q (.ref q) H'
theorem sc_ordered : FnScope ["sample", "amounts"] ["sample", "amounts"] (defScope s_ordered) := ⟨rfl, rfl, rfl, by decide +kernel, rfl, by decide +kernel, by decide +kernel⟩
theorem k_ordered (T : Txt K mg C) : Keeps P w K mg base 4 "ordered" ["sample", "amounts"] (spOrd K C) := by
  refine keeps_of T.d_ordered fun f fd F => ?_
  obtain ⟨U, O, fI, fdI, WT⟩ := T.wt
  obtain ⟨fI, fdI, GI, mI, kI, bI⟩ := k_is_whole (P := P) (w := w) (base := base) T
  obtain ⟨fW, fdW, GW, mW, kW, bW⟩ := k_whole_number (P := P) (w := w) (base := base) T
  obtain ⟨fT, fdT, GT, mT, kT, bT⟩ := k_true_sum (P := P) (w := w) (base := base) T
  obtain ⟨fE, fdE, GE, mE, kE, bE⟩ := k_ordered_of (P := P) (w := w) (base := base) T
  refine F.ok sc_ordered (fun vs H Q E h => ?_) (fun cdv A outer s H vs Q E hr h => ?_)
  · obtain ⟨p, l, d, size, total, things, kvs, rfl, _⟩ := h
    rfl
  · obtain ⟨p, l, d, size, total, things, kvs, rfl, hs, hl, hk, hd, ha, k⟩ := h
    have hr1 : Room 1 _ := hr.mono (by decide)
    have hr2 : Room 2 _ := hr.mono (by decide)
    have hlen := hk.len
    obtain ⟨dx, hp⟩ := id hs
    refine ⟨_, pss_cons (ps_if (pt_val (pe_call GI hr1 rfl mI kI bI .nil pass0 (pa_cons (pv 0) pa_nil)))
        (pss_one (ps_ret (pe_lst (pa_cons (pe_call GW hr2 rfl mW kW bW .nil pass0 (pa_cons (pe_call GT hr2 rfl mT kT bT .nil pass0 (pa_cons (pe_fld (pv 0) rfl) (pa_cons (pv 1) pa_nil))) pa_nil)) pa_nil)))) pss_nil)
      (pss_one (ps_ret (pe_call GE hr rfl mE kE bE .nil pass0 (pa_cons (pe_fld (pv 0) rfl) (pa_cons (pe_fld (pv 0) rfl) (pa_cons (pv 1) pa_nil)))))), ?_⟩
    refine ⟨_, rfl, p, l, size, total, things, rfl, hs, hl, by omega, fun H1 e1 => ⟨_, rfl, ?_⟩⟩
    have hp1 := e1 _ _ hp
    by_cases hw : (ws things).sum = total
    · refine iteY hw ?_
      refine ⟨_, rfl, p, C, dx, _, _, rfl, hp1, WT.cl, WT.nK, wf_kept _ _ _, _, rfl, l, d, things, kvs, rfl, hl.same e1, by omega, e1 _ _ hd, ha, fun H2 e2 => ?_⟩
      refine ⟨_, rfl, amts_big ha hlen, fun H3 v3 e3 f3 => ⟨by show 1 ≤ sizeLine; decide, fun t ht => ?_⟩⟩
      refine k _ t (((e1.trans e2).trans e3).trans (same_upd ht)) (((e1.trans e2).trans e3).free ht) ⟨[v3], SqL.of upd_same, ?_⟩
      unfold ordL
      rw [if_pos hw]
      exact .cons (f3.same (same_upd ht)) .nil
    · refine iteN hw ?_
      refine ⟨_, rfl, p, C, dx, _, _, rfl, hp1, WT.cl, WT.nT, wf_total _ _ _, _, rfl, p, C, dx, _, _, rfl, hp1, WT.cl, WT.nK, wf_kept _ _ _, _, rfl, total, l, d, things, kvs, rfl, hl.same e1, hk, e1 _ _ hd, ha, fun H2 q2 e2 n2 f2 => ?_⟩
      refine k _ q2 (e1.trans e2) (e1.free n2) ?_
      unfold ordL
      rw [if_neg hw]
      exact f2
end
end K34

namespace K34
open PySem PySem.Spec PyProof.Rows L2 Mth
def spLow (K : PySem.W.Frag) : Sp := fun vs H Q _ => ∃ p q : Int, vs = [.int p, .int q] ∧ 0 < q ∧ p.natAbs < 2 ^ 3000 ∧ q.natAbs < 2 ^ (900 + 900) ∧ RetFR K H Q ((p : Rat) / (q : Rat))
theorem abs_if (p : Int) : (if p < 0 then -p else p) = ((p.natAbs : Nat) : Int) := by
  by_cases h : p < 0
  · rw [if_pos h]; omega
  · rw [if_neg h]; omega
section
variable {P : Program} {w : World} {K : PySem.W.Frag} {mg : Str → Option Value} {base : Heap} {C : Addr}
theorem sc__law_low : FnScope ["_law_p", "_law_q", "_law_first", "_law_second", "_law_turn"] ["_law_p", "_law_q"] (defScope s__law_low) := ⟨rfl, rfl, rfl, by decide +kernel, rfl, by decide +kernel, by decide +kernel⟩
theorem k__law_low (T : Txt K mg C) : Keeps P w K mg base 1 "_law_low" ["_law_p", "_law_q"] (spLow K) := by
  refine keeps_of T.d__law_low fun f fd F => ?_
  refine F.ok sc__law_low (fun vs H Q E h => ?_) (fun cdv A outer s H vs Q E hr h => ?_)
  · obtain ⟨p, q, rfl, _⟩ := h
    rfl
  · obtain ⟨p, q, rfl, hq, hp3, hq3, k⟩ := h
    have nd := sc__law_low.nd
    refine ⟨_, pss_cons (ps_par (i := 2) (j := 3) (by rfl) nd rfl rfl (by decide) rfl rfl (pa_cons (pe_callB call_abs (by rfl) T.abs (by decide +kernel) (pa_cons (pv 0) pa_nil)) (pa_cons (pv 1) pa_nil)) (by rfl))
      (pss_cons (ps_for PassesOwn.never rfl (pi_range1 (by rfl) T.range (pa_cons pe_int pa_nil)) (pg_name (i := 4) nd rfl (Or.inl rfl))
        (pss_cons (ps_if (pt_cmpR op_eq (pv 3) pe_int (nomark _)) (pss_one ps_break) pss_nil)
        (pss_one (ps_par (i := 2) (j := 3) (by rfl) nd rfl rfl (by decide) rfl rfl (pa_cons (pv 3) (pa_cons (pe_op op_mod (pe_callTy call_int1 (by rfl) T.int (by decide +kernel) (pa_cons (pv 2) pa_nil)) (pv 3)) pa_nil)) (by rfl)))))
      (pss_one (ps_ret (pe_tup (pa_cons (pe_op op_fdivW (pv 0) (pv 2)) (pa_cons (pe_op op_fdivW (pv 1) (pv 2)) pa_nil)))))), ?_⟩
    have g0 : 0 < Nat.gcd p.natAbs q.natAbs := Nat.gcd_pos_of_pos_right _ (by omega)
    have gl : ((Nat.gcd p.natAbs q.natAbs : Nat) : Int).natAbs < 2 ^ 1800 := by
      rw [Int.natAbs_natCast]
      exact Nat.lt_of_le_of_lt (Nat.gcd_le_right _ (by omega)) hq3
    have gd : ∀ x : Int, CDivW x ((Nat.gcd p.natAbs q.natAbs : Nat) : Int) := fun x => wide_div (by omega) gl (by decide) (by decide)
    have eq : q = ((q.natAbs : Nat) : Int) := by omega
    refine ⟨_, rfl, p, rfl, _, rfl, _, _, rfl, ?_⟩
    rw [abs_if]
    refine ⟨4000, rfl, by decide, by decide, for_range (n := 4000) (fun i σ H' => ∃ (a b : Nat) (t : Option V), σ = [some (.int p), some (.int q), some (.int (a : Int)), some (.int (b : Int)), t] ∧ H' = H ∧ Eu (Nat.gcd p.natAbs q.natAbs) (2 * 1800) i a b ∧ (i = 0 → b < 2 ^ 1800))
      ⟨p.natAbs, q.natAbs, none, by rw [← eq]; rfl, rfl, Eu.start (k := 1800) hq3, fun _ => hq3⟩ ?_ ?_⟩
    · rintro i σ H' hi ⟨a, b, t, rfl, rfl, eu, hb⟩
      refine ⟨_, rfl, rfl, _, rfl, ?_⟩
      by_cases h0 : b = 0
      · subst h0
        have e := eu.stop
        subst e
        refine iteY rfl ?_
        refine ⟨_, rfl, _, rfl, _, _, rfl, rfl, gd p, _, rfl, _, rfl, _, _, rfl, rfl, gd q, (by show 2 ≤ sizeLine; decide), fun u hu => ?_⟩
        exact k _ _ (same_upd hu) (fr_new (frac_num p hq) (frac_den p hq))
      · refine iteN (vint_ne (by omega)) ?_
        refine ⟨_, rfl, _, rfl, .inl ⟨_, rfl, _, rfl, _, _, rfl, rfl, (by show (0 : Int) < (b : Int); omega), _, _, rfl, ?_⟩⟩
        exact ⟨b, a % b, _, by rw [Int.natCast_emod]; rfl, rfl, eu.turn h0 hb, fun h => absurd h (by omega)⟩
    · rintro σ H' ⟨a, b, t, rfl, rfl, eu, _⟩
      have e0 := eu.last (by decide)
      subst e0
      have e := eu.stop
      subst e
      refine ⟨_, rfl, _, rfl, _, _, rfl, rfl, gd p, _, rfl, _, rfl, _, _, rfl, rfl, gd q, (by show 2 ≤ sizeLine; decide), fun u hu => ?_⟩
      exact k _ _ (same_upd hu) (fr_new (frac_num p hq) (frac_den p hq))

theorem sc__law_plus : FnScope ["_law_one", "_law_other"] ["_law_one", "_law_other"] (defScope s__law_plus) := ⟨rfl, rfl, rfl, by decide +kernel, rfl, by decide +kernel, by decide +kernel⟩
theorem k__law_plus (T : Txt K mg C) : Keeps P w K mg base 2 "_law_plus" ["_law_one", "_law_other"] (sp2 K (fun _ => True) (fun x y => x + y)) := by
  refine keeps_of T.d__law_plus fun f fd F => ?_
  obtain ⟨fL, fdL, GL, mL, kL, bL⟩ := k__law_low (P := P) (w := w) (base := base) T
  refine F.ok sc__law_plus (fun vs H Q E h => ?_) (fun cdv A outer s H vs Q E hr h => ?_)
  · obtain ⟨v, u, x, y, rfl, _⟩ := h
    rfl
  · obtain ⟨v, u, x, y, rfl, ⟨a, rfl, hv⟩, ⟨b, rfl, hu⟩, sx, sy, o, k⟩ := h
    refine ⟨_, pss_one (ps_ret (pe_call GL hr rfl mL kL bL .nil pass0 (pa_cons (pe_op op_add (pe_op op_mulW (pe_ix ix_tup (pv 0) pe_int (fun _ _ => rfl)) (pe_ix ix_tup (pv 1) pe_int (fun _ _ => rfl))) (pe_op op_mulW (pe_ix ix_tup (pv 1) pe_int (fun _ _ => rfl)) (pe_ix ix_tup (pv 0) pe_int (fun _ _ => rfl)))) (pa_cons (pe_op op_mulW (pe_ix ix_tup (pv 0) pe_int (fun _ _ => rfl)) (pe_ix ix_tup (pv 1) pe_int (fun _ _ => rfl))) pa_nil)))), ?_⟩
    refine ⟨_, rfl, a, _, _, _, rfl, rfl, hv, at0, _, rfl, b, _, _, _, rfl, rfl, hu, at1, _, _, rfl, rfl, mulW sx.n sy.dI, _, rfl, b, _, _, _, rfl, rfl, hu, at0, _, rfl, a, _, _, _, rfl, rfl, hv, at1, _, _, rfl, rfl, mulW sy.n sx.dI, _, _, rfl, rfl, _, rfl, a, _, _, _, rfl, rfl, hv, at1, _, rfl, b, _, _, _, rfl, rfl, hu, at1, _, _, rfl, rfl, mulW sx.dI sy.dI, ?_⟩
    have e := add_frac x y
    refine ⟨_, _, rfl, Int.mul_pos (den_pos' x) (den_pos' y), lt1801 sx.n sy.dI sy.n sx.dI, abs_mul_lt sx.dI sy.dI, ?_⟩
    rw [← e]
    exact k

theorem sc__law_minus : FnScope ["_law_one", "_law_other"] ["_law_one", "_law_other"] (defScope s__law_minus) := ⟨rfl, rfl, rfl, by decide +kernel, rfl, by decide +kernel, by decide +kernel⟩
theorem k__law_minus (T : Txt K mg C) : Keeps P w K mg base 2 "_law_minus" ["_law_one", "_law_other"] (sp2 K (fun _ => True) (fun x y => x - y)) := by
  refine keeps_of T.d__law_minus fun f fd F => ?_
  obtain ⟨fL, fdL, GL, mL, kL, bL⟩ := k__law_low (P := P) (w := w) (base := base) T
  refine F.ok sc__law_minus (fun vs H Q E h => ?_) (fun cdv A outer s H vs Q E hr h => ?_)
  · obtain ⟨v, u, x, y, rfl, _⟩ := h
    rfl
  · obtain ⟨v, u, x, y, rfl, ⟨a, rfl, hv⟩, ⟨b, rfl, hu⟩, sx, sy, o, k⟩ := h
    refine ⟨_, pss_one (ps_ret (pe_call GL hr rfl mL kL bL .nil pass0 (pa_cons (pe_op op_sub (pe_op op_mulW (pe_ix ix_tup (pv 0) pe_int (fun _ _ => rfl)) (pe_ix ix_tup (pv 1) pe_int (fun _ _ => rfl))) (pe_op op_mulW (pe_ix ix_tup (pv 1) pe_int (fun _ _ => rfl)) (pe_ix ix_tup (pv 0) pe_int (fun _ _ => rfl)))) (pa_cons (pe_op op_mulW (pe_ix ix_tup (pv 0) pe_int (fun _ _ => rfl)) (pe_ix ix_tup (pv 1) pe_int (fun _ _ => rfl))) pa_nil)))), ?_⟩
    refine ⟨_, rfl, a, _, _, _, rfl, rfl, hv, at0, _, rfl, b, _, _, _, rfl, rfl, hu, at1, _, _, rfl, rfl, mulW sx.n sy.dI, _, rfl, b, _, _, _, rfl, rfl, hu, at0, _, rfl, a, _, _, _, rfl, rfl, hv, at1, _, _, rfl, rfl, mulW sy.n sx.dI, _, _, rfl, rfl, _, rfl, a, _, _, _, rfl, rfl, hv, at1, _, rfl, b, _, _, _, rfl, rfl, hu, at1, _, _, rfl, rfl, mulW sx.dI sy.dI, ?_⟩
    have e := sub_frac x y
    refine ⟨_, _, rfl, Int.mul_pos (den_pos' x) (den_pos' y), lt1801s sx.n sy.dI sy.n sx.dI, abs_mul_lt sx.dI sy.dI, ?_⟩
    rw [← e]
    exact k

theorem sc__law_times : FnScope ["_law_one", "_law_other"] ["_law_one", "_law_other"] (defScope s__law_times) := ⟨rfl, rfl, rfl, by decide +kernel, rfl, by decide +kernel, by decide +kernel⟩
theorem k__law_times (T : Txt K mg C) : Keeps P w K mg base 2 "_law_times" ["_law_one", "_law_other"] (sp2 K (fun _ => True) (fun x y => x * y)) := by
  refine keeps_of T.d__law_times fun f fd F => ?_
  obtain ⟨fL, fdL, GL, mL, kL, bL⟩ := k__law_low (P := P) (w := w) (base := base) T
  refine F.ok sc__law_times (fun vs H Q E h => ?_) (fun cdv A outer s H vs Q E hr h => ?_)
  · obtain ⟨v, u, x, y, rfl, _⟩ := h
    rfl
  · obtain ⟨v, u, x, y, rfl, ⟨a, rfl, hv⟩, ⟨b, rfl, hu⟩, sx, sy, o, k⟩ := h
    refine ⟨_, pss_one (ps_ret (pe_call GL hr rfl mL kL bL .nil pass0 (pa_cons (pe_op op_mulW (pe_ix ix_tup (pv 0) pe_int (fun _ _ => rfl)) (pe_ix ix_tup (pv 1) pe_int (fun _ _ => rfl))) (pa_cons (pe_op op_mulW (pe_ix ix_tup (pv 0) pe_int (fun _ _ => rfl)) (pe_ix ix_tup (pv 1) pe_int (fun _ _ => rfl))) pa_nil)))), ?_⟩
    refine ⟨_, rfl, a, _, _, _, rfl, rfl, hv, at0, _, rfl, b, _, _, _, rfl, rfl, hu, at0, _, _, rfl, rfl, mulW sx.n sy.n, _, rfl, a, _, _, _, rfl, rfl, hv, at1, _, rfl, b, _, _, _, rfl, rfl, hu, at1, _, _, rfl, rfl, mulW sx.dI sy.dI, ?_⟩
    have e := mul_frac x y
    refine ⟨_, _, rfl, Int.mul_pos (den_pos' x) (den_pos' y), lt1800 sx.n sy.n, abs_mul_lt sx.dI sy.dI, ?_⟩
    rw [← e]
    exact k

/-! ### _law_sum -/
def spLawSum (K : PySem.W.Frag) : Sp := fun vs H Q _ => ∃ (l : Addr) (xs : List Rat), vs = [.ref l] ∧ FRs K H l xs ∧ (∀ x ∈ xs, Sm 900 x) ∧ (∀ i, Sm 900 (sm (xs.take i))) ∧ RetFR K H Q (sm xs)
theorem sc__law_sum : FnScope ["_law_rows", "_law_whole", "_law_one"] ["_law_rows"] (defScope s__law_sum) := ⟨rfl, rfl, rfl, by decide +kernel, rfl, by decide +kernel, by decide +kernel⟩
theorem k__law_sum (T : Txt K mg C) : Keeps P w K mg base 3 "_law_sum" ["_law_rows"] (spLawSum K) := by
  refine keeps_of T.d__law_sum fun f fd F => ?_
  obtain ⟨fP, fdP, GP, mP, kP, bP⟩ := k__law_plus (P := P) (w := w) (base := base) T
  refine F.ok sc__law_sum (fun vs H Q E h => ?_) (fun cdv A outer s H vs Q E hr h => ?_)
  · obtain ⟨l, xs, rfl, _⟩ := h
    rfl
  · obtain ⟨l, xs, rfl, ⟨as, hS, hp⟩, hsm, hst, k⟩ := h
    refine ⟨_, pss_cons (ps_set (i := 1) sc__law_sum.nd rfl (Or.inl rfl) (pe_tup (pa_cons pe_int (pa_cons pe_int pa_nil))))
      (pss_cons (ps_for PassesOwn.never rfl (pi_list (pv 0)) (pg_name (i := 2) sc__law_sum.nd rfl (Or.inl rfl))
        (pss_one (ps_set (i := 1) sc__law_sum.nd rfl (Or.inl rfl) (pe_call GP hr rfl mP kP bP .nil pass0 (pa_cons (pv 1) (pa_cons (pv 2) pa_nil))))))
      (pss_one (ps_ret (pv 1)))), ?_⟩
    refine ⟨(by show 2 ≤ sizeLine; decide), fun z hz => ?_⟩
    refine ⟨_, rfl, l, rfl, ⟨_, (same_upd hz).seq hS⟩, for_list (K := K) (a := l) (xs := as) (fun i σ H' => ∃ (v : V) (t : Option V), σ = [some (.ref l), some v, t] ∧ Same H H' ∧ FR K H' v (sm (xs.take i)))
      ⟨_, none, rfl, same_upd hz, fr_new (x := 0) rfl rfl⟩ (fun i σ H' _ ⟨_, _, _, e, _⟩ => e.seq hS) ?_ ?_⟩
    · rintro i y σ H' hi ⟨v, t, rfl, e, fv⟩
      obtain ⟨x, hx, fx⟩ := paired_get hp hi
      refine ⟨_, rfl, _, rfl, v, y, _, x, rfl, fv, fx.same e, hst i, hsm x (List.mem_of_getElem? hx), trivial, fun H2 v2 e2 f2 => ?_⟩
      exact ⟨v2, _, rfl, e.trans e2, by rw [sm_take hx]; exact f2⟩
    · rintro σ H' ⟨v, t, rfl, e, fv⟩
      rw [paired_len hp, List.take_length] at fv
      exact ⟨_, rfl, k _ _ e fv⟩
end
end K34

namespace K34
open PySem PySem.Spec PyProof.Rows L2 Mth
/-! ### heaps in which the list at l alone has changed -/
def SB (l : Addr) (H H' : Hp) : Prop := ∀ c o, c ≠ l → H c = some o → H' c = some o
theorem SB.refl (l : Addr) (H : Hp) : SB l H H := fun _ _ _ h => h
theorem SB.trans {l : Addr} {H H1 H2 : Hp} (a : SB l H H1) (b : SB l H1 H2) : SB l H H2 := fun c o n h => b c o n (a c o n h)
theorem SB.of {l : Addr} {H H' : Hp} (e : Same H H') : SB l H H' := fun c o _ h => e c o h
theorem SB.new {l : Addr} {H H' : Hp} {o : Addr} {u : HO} (e : SB l H H') (hn : H o = none) : SB l H (upd H' o u) := fun b z n q => by
  rw [upd_ne (ne_of_none q hn)]
  exact e _ _ n q
theorem sqt_sb {K : PySem.W.Frag} {l a : Addr} {H H' : Hp} {xs ys : List V} (h : SqT K H a xs) (hl : H l = some (.lst ys)) (e : SB l H H') : SqT K H' a xs := by
  rcases h with (h | ⟨ob, h⟩) | h
  · exact .inl (.inl (e _ _ (ne_of h hl (by intro z; cases z)) h))
  · exact .inl (.inr ⟨ob, e _ _ (ne_of h hl (by intro z; cases z)) h⟩)
  · exact .inr h
/-- a list of ints -/
def RowAt (H : Hp) (l : Addr) : Prop := ∃ ns : List Int, H l = some (.lst (ns.map V.int))
theorem SB.free {l : Addr} {H H' : Hp} (e : SB l H H') {o : Addr} (hl : ∃ ys, H l = some (.lst ys)) (hl' : ∃ ys, H' l = some (.lst ys)) (h : H' o = none) : H o = none := by
  cases q : H o with
  | none => rfl
  | some u =>
    by_cases hol : o = l
    · subst hol
      obtain ⟨ys, hl'⟩ := hl'
      rw [hl'] at h; cases h
    · rw [e o u hol q] at h
      cases h
section
variable {P : Program} {w : World} {K : PySem.W.Frag} {mg : Str → Option Value} {base : Heap} {C : Addr}
/-! ### _law_mix -/
def spMix : Sp := fun vs H Q _ => ∃ n k : Int, vs = [.int n, .int k] ∧ ∀ r : Int, Q (.int r) H
theorem sc__law_mix : FnScope ["_law_number", "_law_k"] ["_law_number", "_law_k"] (defScope s__law_mix) := ⟨rfl, rfl, rfl, by decide +kernel, rfl, by decide +kernel, by decide +kernel⟩
theorem k__law_mix (T : Txt K mg C) : Keeps P w K mg base 1 "_law_mix" ["_law_number", "_law_k"] spMix := by
  refine keeps_of T.d__law_mix fun f fd F => ?_
  refine F.ok sc__law_mix (fun vs H Q E h => ?_) (fun cdv A outer s H vs Q E hr h => ?_)
  · obtain ⟨n, k, rfl, _⟩ := h
    rfl
  · obtain ⟨n, m, rfl, k⟩ := h
    refine ⟨_, pss_one (ps_ret (pe_op op_mod (pe_op op_mul (pe_op op_mod (pe_callTy call_int1 (by rfl) T.int (by decide +kernel) (pa_cons
      (pe_op op_mul (pe_op op_add (pe_op op_add (pe_op op_mod (pe_callTy call_int1 (by rfl) T.int (by decide +kernel) (pa_cons (pv 0) pa_nil)) pe_int) (pe_op op_mul pe_int (pv 1))) pe_int) pe_int) pa_nil)) pe_int) pe_int) pe_int)), ?_⟩
    refine ⟨_, rfl, .inl ⟨_, rfl, _, _, rfl, rfl, (by show (0 : Int) < 1000003; decide), _, rfl, _, _, rfl, rfl, .inl ⟨by decide, by decide⟩, _, _, rfl, rfl, _, _, rfl, rfl, _, _, rfl, rfl, .inr ⟨by decide, by decide⟩, .inl ⟨_, rfl, ?_⟩⟩⟩
    refine ⟨_, _, rfl, rfl, (by show (0 : Int) < 1000033; decide), _, _, rfl, rfl, .inr ⟨by decide, by decide⟩, _, _, rfl, rfl, (by show (0 : Int) < 998244353; decide), ?_⟩
    exact k _
/-! ### _law_numbers -/
theorem cut_ints (ns : List Int) (lo hi : Option Int) : ∃ ms : List Int, cutV (ns.map V.int) lo hi = ms.map V.int ∧ ms.length ≤ ns.length := by
  refine ⟨(ns.drop (HT.sIx (ns.map V.int).length 0 lo)).take (HT.sIx (ns.map V.int).length (ns.map V.int).length hi - HT.sIx (ns.map V.int).length 0 lo), ?_, ?_⟩
  · unfold cutV
    rw [List.map_take, List.map_drop]
  · rw [List.length_take, List.length_drop]
    omega
theorem big_lt {n m : Nat} (h : n ≤ m) (hm : m < 10000) : n < sizeLine := Nat.lt_of_le_of_lt h (Nat.lt_of_lt_of_le hm (by rw [sizeLine_eq]; decide))
def spNums (K : PySem.W.Frag) : Sp := fun vs H Q _ => ∃ (a : Addr) (ns : List Int), vs = [.ref a, .int 90] ∧ SqL K H a (ns.map V.int) ∧ ns.length ≤ 63 ∧ ∀ H' p, Same H H' → H p = none → RowAt H' p → Q (.ref p) H'
theorem sc__law_numbers : FnScope ["_law_script", "_law_count", "_law_row", "_law_base", "_law_cell", "_law_rest", "_law_k"] ["_law_script", "_law_count"] (defScope s__law_numbers) := ⟨rfl, rfl, rfl, by decide +kernel, rfl, by decide +kernel, by decide +kernel⟩
theorem k__law_numbers (T : Txt K mg C) : Keeps P w K mg base 2 "_law_numbers" ["_law_script", "_law_count"] (spNums K) := by
  refine keeps_of T.d__law_numbers fun f fd F => ?_
  obtain ⟨fM, fdM, GM, mM, kM, bM⟩ := k__law_mix (P := P) (w := w) (base := base) T
  refine F.ok sc__law_numbers (fun vs H Q E h => ?_) (fun cdv A outer s H vs Q E hr h => ?_)
  · obtain ⟨a, ns, rfl, _⟩ := h
    rfl
  · obtain ⟨a, ns, rfl, hS, hlen, k⟩ := h
    have nd := sc__law_numbers.nd
    refine ⟨_, pss_cons (ps_set (i := 2) nd rfl (Or.inl rfl) (pe_lst pa_nil))
      (pss_cons (ps_set (i := 3) nd rfl (Or.inl rfl) pe_int)
      (pss_cons (ps_for PassesOwn.never rfl (pi_list (pe_slice sl_list (pv 0) po_none (po_some pe_int))) (pg_name (i := 4) nd rfl (Or.inl rfl))
        (pss_cons (ps_set (i := 3) nd rfl (Or.inl rfl) (pe_op op_add (pv 3) (pv 4)))
        (pss_one (ps_if (pt_cmpR op_ge (pv 4) pe_int (nomark _))
          (pss_cons (ps_set (i := 5) nd rfl (Or.inl rfl) (pv 4))
          (pss_one (ps_for PassesOwn.never rfl (pi_range1 (by rfl) T.range (pa_cons pe_int pa_nil)) (pg_name (i := 6) nd rfl (Or.inl rfl))
            (pss_cons (ps_expr (pe_bm PySem.F.plainAttrs_list PySem.F.slot_list_append PySem.F.type_list_append mt_append (pv 2) (pa_cons (pe_op op_mod (pe_callTy call_int1 (by rfl) T.int (by decide +kernel) (pa_cons (pv 5) pa_nil)) pe_int) pa_nil)))
            (pss_cons (ps_set (i := 5) nd rfl (Or.inl rfl) (pe_op op_fdiv (pv 5) pe_int))
            (pss_one (ps_if (pt_cmpR op_eq (pv 5) pe_int (nomark _)) (pss_one ps_break) pss_nil)))))))
          (pss_one (ps_expr (pe_bm PySem.F.plainAttrs_list PySem.F.slot_list_append PySem.F.type_list_append mt_append (pv 2) (pa_cons (pe_call GM hr rfl mM kM bM .nil pass0 (pa_cons (pe_call GM hr rfl mM kM bM .nil pass0 (pa_cons (pv 4) (pa_cons pe_int pa_nil))) (pa_cons pe_int pa_nil))) pa_nil))))))))
      (pss_cons (ps_for PassesOwn.never rfl (pi_range1 (by rfl) T.range (pa_cons (pv 1) pa_nil)) (pg_name (i := 6) nd rfl (Or.inl rfl))
        (pss_one (ps_expr (pe_bm PySem.F.plainAttrs_list PySem.F.slot_list_append PySem.F.type_list_append mt_append (pv 2) (pa_cons
          (pe_call GM hr rfl mM kM bM .nil pass0 (pa_cons (pe_call GM hr rfl mM kM bM .nil pass0 (pa_cons (pe_op op_add (pv 3) (pe_op op_mul pe_int (pv 6))) (pa_cons (pe_op op_add pe_int (pv 6)) pa_nil))) (pa_cons pe_int pa_nil))) pa_nil)))))
      (pss_cons (ps_expr (pe_bm0 PySem.F.plainAttrs_list PySem.F.slot_list_reverse PySem.F.type_list_reverse mt_reverse (pv 2)))
      (pss_one (ps_ret (pv 2))))))), ?_⟩
    -- row = []; base = 0; script[:63]
    refine ⟨Nat.zero_le _, fun o no => ⟨_, rfl, 63, rfl, a, _, rfl, (same_upd no).seq hS, fun c nc => ?_⟩⟩
    obtain ⟨ms, ecut, hms⟩ := cut_ints ns none (some 63)
    rw [ecut]
    have nco : c ≠ o := fun e => by
      rw [e, upd_same] at nc
      cases nc
    have nc0 : H c = none := by
      rw [upd_ne nco] at nc
      exact nc
    refine ⟨c, rfl, ⟨_, SqL.of upd_same⟩, for_list (K := K) (a := c) (xs := ms.map V.int) (fun i σ H' => ∃ (b : Int) (t u v : Option V) (rs : List Int), σ = [some (.ref a), some (.int 90), some (.ref o), some (.int b), t, u, v] ∧ Same H H' ∧ H' c = some (.lst (ms.map V.int)) ∧ H' o = some (.lst (rs.map V.int)) ∧ rs.length ≤ 60 * i)
      ⟨0, none, none, none, [], rfl, (same_upd no).trans (same_upd nc), upd_same, by rw [upd_ne nco.symm, upd_same]; rfl, Nat.zero_le _⟩ (fun i σ H' _ ⟨_, _, _, _, _, _, _, e, _⟩ => SqL.of e) ?_ ?_⟩
    · rintro i y σ H' hi ⟨b, t, u, v, rs, rfl, e, ec, eo, hrs⟩
      have hi63 : i < ms.length := by
        have q := (List.getElem?_eq_some_iff.mp hi).1
        rw [List.length_map] at q
        exact q
      obtain ⟨z, rfl⟩ : ∃ z, y = V.int z := by
        rw [List.getElem?_map] at hi
        cases e : ms[i]? with
        | none =>
          rw [e] at hi
          cases hi
        | some z =>
          rw [e] at hi
          exact ⟨z, (Option.some.inj hi).symm⟩
      refine ⟨_, rfl, _, rfl, _, _, rfl, rfl, _, rfl, _, _, rfl, rfl, _, rfl, ?_⟩
      refine ite2 (fun _ => ?_) (fun _ => ?_)
      · -- a great cell: its digits
        refine ⟨_, rfl, ?_⟩
        refine ⟨60, rfl, by decide, by decide, for_range (n := 60) (fun j σ H2 => ∃ (x : Int) (v : Option V) (qs : List Int), σ = [some (.ref a), some (.int 90), some (.ref o), some (.int (b + z)), some (.int z), some (.int x), v] ∧ Same H H2 ∧ H2 c = some (.lst (ms.map V.int)) ∧ H2 o = some (.lst (qs.map V.int)) ∧ qs.length ≤ 60 * i + j)
          ⟨z, v, rs, rfl, e, ec, eo, hrs⟩ ?_ ?_⟩
        · rintro j σ H2 hj ⟨x, v, qs, rfl, e2, ec2, eo2, hqs⟩
          refine ⟨_, rfl, .inl ⟨rfl, _, SqL.of eo2⟩, _, rfl, .inl ⟨_, rfl, _, _, rfl, rfl, (by show (0 : Int) < 840; decide), o, _, _, rfl, rfl, eo2, by rw [List.length_map]; exact big_lt hqs (by omega), ?_⟩⟩
          have st : Same H (upd H2 o (.lst (qs.map V.int ++ [V.int (x % 840)]))) := same_store e2 no
          have cc : (upd H2 o (.lst (qs.map V.int ++ [V.int (x % 840)]))) c = some (.lst (ms.map V.int)) := by rw [upd_ne nco]; exact ec2
          have oo : (upd H2 o (.lst (qs.map V.int ++ [V.int (x % 840)]))) o = some (.lst ((qs ++ [x % 840]).map V.int)) := by rw [upd_same, List.map_append]; rfl
          have ln : (qs ++ [x % 840]).length = qs.length + 1 := by rw [List.length_append]; rfl
          refine ⟨_, rfl, _, _, rfl, rfl, ⟨by decide, by decide⟩, _, rfl, rfl, _, rfl, ?_⟩
          refine ite2 (fun _ => ?_) (fun _ => ?_)
          · exact ⟨b + z, _, _, _, qs ++ [x % 840], rfl, st, cc, oo, by rw [ln]; omega⟩
          · exact ⟨_, _, qs ++ [x % 840], rfl, st, cc, oo, by rw [ln]; omega⟩
        · rintro σ H2 ⟨x, v, qs, rfl, e2, ec2, eo2, hqs⟩
          exact ⟨b + z, _, _, _, qs, rfl, e2, ec2, eo2, by omega⟩
      · refine ⟨_, rfl, .inl ⟨rfl, _, SqL.of eo⟩, _, rfl, z, 3, rfl, fun r1 => ⟨r1, 5, rfl, fun r2 => ?_⟩⟩
        refine ⟨o, _, _, rfl, rfl, eo, by rw [List.length_map]; exact big_lt hrs (by omega), ?_⟩
        refine ⟨b + z, _, _, _, rs ++ [r2], rfl, same_store e no, by rw [upd_ne nco]; exact ec, by rw [upd_same, List.map_append]; rfl, ?_⟩
        rw [List.length_append]
        show rs.length + 1 ≤ _
        omega
    · rintro σ H' ⟨b, t, u, v, rs, rfl, e, ec, eo, hrs⟩
      rw [List.length_map] at hrs
      refine ⟨_, rfl, 90, rfl, by decide, by decide, for_range (n := 90) (fun j σ H2 => ∃ (v : Option V) (qs : List Int), σ = [some (.ref a), some (.int 90), some (.ref o), some (.int b), t, u, v] ∧ Same H H2 ∧ H2 o = some (.lst (qs.map V.int)) ∧ qs.length ≤ 60 * 63 + j)
        ⟨v, rs, rfl, e, eo, by omega⟩ ?_ ?_⟩
      · rintro j σ H2 hj ⟨v, qs, rfl, e2, eo2, hqs⟩
        refine ⟨_, rfl, .inl ⟨rfl, _, SqL.of eo2⟩, _, rfl, _, rfl, _, _, rfl, rfl, .inl ⟨by decide, by decide⟩, _, _, rfl, rfl, _, rfl, _, _, rfl, rfl, _, _, rfl, fun r1 => ⟨r1, 17, rfl, fun r2 => ?_⟩⟩
        refine ⟨o, _, _, rfl, rfl, eo2, by rw [List.length_map]; exact big_lt hqs (by omega), ?_⟩
        refine ⟨_, qs ++ [r2], rfl, same_store e2 no, by rw [upd_same, List.map_append]; rfl, ?_⟩
        rw [List.length_append]
        show qs.length + 1 ≤ _
        omega
      · rintro σ H2 ⟨v, qs, rfl, e2, eo2, hqs⟩
        refine ⟨_, rfl, .inl ⟨rfl, _, SqL.of eo2⟩, o, _, rfl, rfl, eo2, ?_⟩
        exact ⟨_, rfl, k _ o (same_store e2 no) no ⟨qs.reverse, by rw [upd_same, List.map_reverse]⟩⟩
/-! ### _law_take -/
def spTake (K : PySem.W.Frag) : Sp := fun vs H Q _ => ∃ (l : Addr) (b : Int), vs = [.ref l, .int b] ∧ RowAt H l ∧ 0 < b ∧ ∀ (r : Int) H', 0 ≤ r → r < b → RowAt H' l → SB l H H' → Q (.int r) H'
theorem sc__law_take : FnScope ["_law_row", "_law_bound"] ["_law_row", "_law_bound"] (defScope s__law_take) := ⟨rfl, rfl, rfl, by decide +kernel, rfl, by decide +kernel, by decide +kernel⟩
theorem k__law_take (T : Txt K mg C) : Keeps P w K mg base 1 "_law_take" ["_law_row", "_law_bound"] (spTake K) := by
  refine keeps_of T.d__law_take fun f fd F => ?_
  refine F.ok sc__law_take (fun vs H Q E h => ?_) (fun cdv A outer s H vs Q E hr h => ?_)
  · obtain ⟨l, b, rfl, _⟩ := h
    rfl
  · obtain ⟨l, b, rfl, ⟨ns, hl⟩, hb, k⟩ := h
    refine ⟨_, pss_cons (ps_if (pt_not (pt_truth (pv 0) (by intro _; rfl))) (pss_one (ps_ret pe_int)) pss_nil)
      (pss_one (ps_ret (pe_op op_mod (pe_callTy call_int1 (by rfl) T.int (by decide +kernel) (pa_cons (pe_bm0 PySem.F.plainAttrs_list PySem.F.slot_list_pop PySem.F.type_list_pop mt_pop (pv 0)) pa_nil)) (pv 1)))), ?_⟩
    refine ⟨_, rfl, _, .inl ⟨_, SqL.of hl, rfl⟩, ?_⟩
    cases ns with
    | nil => exact k 0 H (by decide) hb ⟨[], hl⟩ (SB.refl l H)
    | cons n r =>
      obtain ⟨z, hz⟩ : ∃ z, (n :: r)[(n :: r).length - 1]? = some z := ⟨_, List.getElem?_eq_getElem (by rw [List.length_cons]; omega)⟩
      refine ⟨_, rfl, .inl ⟨rfl, _, SqL.of hl⟩, l, _, V.int z, rfl, rfl, hl, ?_, ?_⟩
      · rw [List.length_map, List.getElem?_map, hz]
        rfl
      · refine .inl ⟨z, rfl, _, rfl, _, _, rfl, rfl, hb, ?_⟩
        refine k _ _ (Int.emod_nonneg _ (by omega)) (Int.emod_lt_of_pos _ hb) ⟨(n :: r).dropLast, ?_⟩ fun c u hc e => by rw [upd_ne hc]; exact e
        rw [upd_same, List.map_dropLast]
end
end K34

namespace K34
open PySem PySem.Spec PyProof.Rows L2 Mth
open C8 (pss_cut)
/-! ### the items' keys -/
def kc (k : Nat) : Nat := [51, 49, 48, 52, 53].getD k 0
def keyOf (k : Nat) : Str := ("k" : Str) ++ ⟨#[kc k]⟩
theorem kc_at : ∀ k : Nat, k < 5 → (Str.ofString "3104526").cps[((0 : Int) + (k : Int)).toNat]? = some (kc k)
  | 0, _ => by decide +kernel
  | 1, _ => by decide +kernel
  | 2, _ => by decide +kernel
  | 3, _ => by decide +kernel
  | 4, _ => by decide +kernel
  | k + 5, h => by omega
theorem key_inj : ∀ i j : Nat, i < 5 → j < 5 → keyOf i = keyOf j → i = j := by
  have h : ∀ i : Fin 5, ∀ j : Fin 5, keyOf i.1 = keyOf j.1 → i = j := by decide +kernel
  intro i j hi hj e
  exact congrArg (fun x : Fin 5 => x.1) (h ⟨i, hi⟩ ⟨j, hj⟩ e)
/-- the items as they are made -/
structure Made (things : List Thing) : Prop where
  grp : ∀ t ∈ things, t.grp = "x" ∨ t.grp = "y"
  key : ∀ j t, things[j]? = some t → t.key = keyOf j
  lo : ∀ t ∈ things, 1 ≤ t.w ∧ t.w ≤ 1000
theorem four_at {r : Int} (h0 : 0 ≤ r) (h4 : r < 4) : ∃ z : Int, atI [V.int 1000, V.int 1, V.int 40, V.int 7] r = some (V.int z) ∧ 1 ≤ z ∧ z ≤ 1000 := by
  obtain rfl | rfl | rfl | rfl : r = 0 ∨ r = 1 ∨ r = 2 ∨ r = 3 := by omega
  · exact ⟨1000, rfl, by decide, by decide⟩
  · exact ⟨1, rfl, by decide, by decide⟩
  · exact ⟨40, rfl, by decide, by decide⟩
  · exact ⟨7, rfl, by decide, by decide⟩
theorem two_at {a b : V} {r : Int} (h0 : 0 ≤ r) (h2 : r < 2) : ∃ z : V, atI [a, b] r = some z ∧ (z = a ∨ z = b) := by
  obtain rfl | rfl : r = 0 ∨ r = 1 := by omega
  · exact ⟨_, rfl, .inl rfl⟩
  · exact ⟨_, rfl, .inr rfl⟩
/-- tracked items -/
def ItT (H : Hp) (t : Thing) : Prop := H t.a = some (.tup [.str t.key, .str t.grp, .int t.w, .int t.z])
theorem ItT.sb {H H' : Hp} {t : Thing} {l : Addr} {ys : List V} (h : ItT H t) (hl : H l = some (.lst ys)) (e : SB l H H') : ItT H' t := e _ _ (ne_of h hl (by intro z; cases z)) h
section
variable {P : Program} {w : World} {K : PySem.W.Frag} {mg : Str → Option Value} {base : Heap} {C : Addr}
/-! ### _law_items -/
def spItems : Sp := fun vs H Q _ => ∃ (l : Addr) (n : Nat), vs = [.ref l, .int n] ∧ RowAt H l ∧ n ≤ 5 ∧
  ∀ (H' : Hp) (p : Addr) (things : List Thing), RowAt H' l → SB l H H' → H p = none → H' p = some (.lst (things.map tV)) → (∀ t ∈ things, ItT H' t) → Made things → things.length = n → Q (.ref p) H'
theorem sc__law_items : FnScope ["_law_row", "_law_many", "_law_found", "_law_k", "_law_weight"] ["_law_row", "_law_many"] (defScope s__law_items) := ⟨rfl, rfl, rfl, by decide +kernel, rfl, by decide +kernel, by decide +kernel⟩
theorem k__law_items (T : Txt K mg C) : Keeps P w K mg base 2 "_law_items" ["_law_row", "_law_many"] spItems := by
  refine keeps_of T.d__law_items fun f fd F => ?_
  obtain ⟨fT, fdT, GT, mT, kT, bT⟩ := k__law_take (P := P) (w := w) (base := base) T
  refine F.ok sc__law_items (fun vs H Q E h => ?_) (fun cdv A outer s H vs Q E hr h => ?_)
  · obtain ⟨l, n, rfl, _⟩ := h
    rfl
  · obtain ⟨l, n, rfl, hl, hn, k⟩ := h
    have nd := sc__law_items.nd
    obtain ⟨ns0, hl0⟩ := id hl
    refine ⟨_, pss_cons (ps_set (i := 2) nd rfl (Or.inl rfl) (pe_lst pa_nil))
      (pss_cons (ps_for PassesOwn.never rfl (pi_range1 (by rfl) T.range (pa_cons (pv 1) pa_nil)) (pg_name (i := 3) nd rfl (Or.inl rfl))
        (pss_cons (ps_set (i := 4) nd rfl (Or.inl rfl) (pe_op op_add pe_int (pe_call GT hr rfl mT kT bT .nil pass0 (pa_cons (pv 0) (pa_cons pe_int pa_nil)))))
        (pss_cut (ps_if (pt_cmpR op_eq (pe_call GT hr rfl mT kT bT .nil pass0 (pa_cons (pv 0) (pa_cons pe_int pa_nil))) pe_int (nomark _))
            (pss_one (ps_set (i := 4) nd rfl (Or.inl rfl) (pe_ix ix_list (pe_lst (pa_cons pe_int (pa_cons pe_int (pa_cons pe_int (pa_cons pe_int pa_nil))))) (pe_call GT hr rfl mT kT bT .nil pass0 (pa_cons (pv 0) (pa_cons pe_int pa_nil))) (fun _ _ => rfl)))) pss_nil)
        (pss_one (ps_expr (pe_bm PySem.F.plainAttrs_list PySem.F.slot_list_append PySem.F.type_list_append mt_append (pv 2) (pa_cons
          (pe_tup (pa_cons (pe_op op_add_str pe_str (pe_item_str pe_str (pv 3) (fun _ _ => rfl)))
            (pa_cons (pe_ix ix_list (pe_lst (pa_cons pe_str (pa_cons pe_str pa_nil))) (pe_call GT hr rfl mT kT bT .nil pass0 (pa_cons (pv 0) (pa_cons pe_int pa_nil))) (fun _ _ => rfl))
            (pa_cons (pv 4) (pa_cons (pe_op op_sub (pe_call GT hr rfl mT kT bT .nil pass0 (pa_cons (pv 0) (pa_cons pe_int pa_nil))) pe_int) pa_nil))))) pa_nil)))))))
      (pss_one (ps_ret (pv 2)))), ?_⟩
    refine ⟨Nat.zero_le _, fun o no => ?_⟩
    have nol : o ≠ l := (ne_of_none hl0 no).symm
    refine ⟨_, rfl, (n : Int), rfl, by omega, by omega, ?_⟩
    rw [show ((n : Int)).toNat = n by omega]
    refine for_range (n := n) (fun i σ H' => ∃ (t u : Option V) (things : List Thing), σ = [some (.ref l), some (.int n), some (.ref o), t, u] ∧ RowAt H' l ∧ SB l H H' ∧ H' o = some (.lst (things.map tV)) ∧ (∀ t ∈ things, ItT H' t) ∧ Made things ∧ things.length = i)
      ⟨none, none, [], rfl, ⟨ns0, by rw [upd_ne nol.symm]; exact hl0⟩, (SB.refl l H).new no, upd_same, (fun t ht => by cases ht), ⟨(fun t ht => by cases ht), (fun j t h => by simp at h), (fun t ht => by cases ht)⟩, rfl⟩ ?_ ?_
    · rintro i σ H' hi ⟨t, u, things, rfl, hl', e, eo, hit, hmd, hlen⟩
      -- weight = 1 + take(row, 9)
      refine ⟨_, rfl, l, 9, rfl, hl', by decide, fun r1 H1 h10 h19 hl1 e1 => ⟨_, _, rfl, rfl, ?_⟩⟩
      obtain ⟨ns', hle'⟩ := id hl'
      obtain ⟨ns1, hle1⟩ := id hl1
      have eo1 := e1 _ _ nol eo
      have hit1 : ∀ t ∈ things, ItT H1 t := fun t ht => (hit t ht).sb hle' e1
      -- the other weights
      refine ⟨fun σ' H2 => ∃ z : Int, 1 ≤ z ∧ z ≤ 1000 ∧ σ' = [some (.ref l), some (.int n), some (.ref o), some (.int (0 + (i : Int))), some (.int z)] ∧ RowAt H2 l ∧ SB l H1 H2, ?_, ?_⟩
      · refine ⟨_, rfl, l, 6, rfl, hl1, by decide, fun r2 H2 h20 h26 hl2 e2 => ⟨rfl, _, rfl, ?_⟩⟩
        refine ite2 (fun _ => ?_) (fun _ => ?_)
        · obtain ⟨ns2, hle2⟩ := id hl2
          refine ⟨by show 4 ≤ sizeLine; decide, fun d nd' => ?_⟩
          have ndl : d ≠ l := (ne_of_none hle2 nd').symm
          refine ⟨_, rfl, l, 4, rfl, ⟨ns2, by rw [upd_ne ndl.symm]; exact hle2⟩, by decide, fun r3 H3 h30 h34 hl3 e3 => ?_⟩
          obtain ⟨z, hz, z1, z2⟩ := four_at h30 h34
          refine ⟨d, _, _, _, rfl, rfl, SqL.of (e3 _ _ ndl upd_same), hz, ?_⟩
          exact ⟨z, z1, z2, rfl, hl3, (e2.trans ((SB.refl l H2).new nd')).trans e3⟩
        · exact ⟨1 + r1, by omega, by omega, rfl, hl2, e2⟩
      · rintro σ' H2 ⟨z, z1, z2, rfl, hl2, e2⟩
        obtain ⟨ns2, hle2⟩ := id hl2
        have eo2 := e2 _ _ nol eo1
        have hit2 : ∀ t ∈ things, ItT H2 t := fun t ht => (hit1 t ht).sb hle1 e2
        refine ⟨_, rfl, .inl ⟨rfl, _, SqL.of eo2⟩, _, rfl, _, (0 + (i : Int)), kc i, rfl, rfl, by omega, by omega, by show (0 : Int) + (i : Int) < (7 : Int); omega, kc_at i (by omega), _, _, rfl, rfl, by show 1 + 1 ≤ sizeLine; decide, ?_⟩
        refine ⟨by show 2 ≤ sizeLine; decide, fun d nd' => ?_⟩
        have ndl : d ≠ l := (ne_of_none hle2 nd').symm
        have ndo : d ≠ o := (ne_of_none eo2 nd').symm
        refine ⟨_, rfl, l, 2, rfl, ⟨ns2, by rw [upd_ne ndl.symm]; exact hle2⟩, by decide, fun r3 H3 h30 h32 hl3 e3 => ?_⟩
        obtain ⟨g, hg, hgg⟩ := two_at (a := .str "x") (b := .str "y") h30 h32
        obtain ⟨gs, rfl, hgs⟩ : ∃ gs : Str, g = .str gs ∧ (gs = "x" ∨ gs = "y") := by
          rcases hgg with rfl | rfl
          · exact ⟨_, rfl, .inl rfl⟩
          · exact ⟨_, rfl, .inr rfl⟩
        obtain ⟨ns3, hle3⟩ := id hl3
        have e23 : SB l H2 H3 := ((SB.refl l H2).new nd').trans e3
        refine ⟨d, _, _, _, rfl, rfl, SqL.of (e3 _ _ ndl upd_same), hg, _, rfl, _, rfl, l, 19, rfl, hl3, by decide, fun r4 H4 h40 h419 hl4 e4 => ?_⟩
        obtain ⟨ns4, hle4⟩ := id hl4
        refine ⟨_, _, rfl, rfl, by show 4 ≤ sizeLine; decide, fun q nq => ?_⟩
        have eo4 := e4 _ _ nol (e23 _ _ nol eo2)
        have nql : q ≠ l := (ne_of_none hle4 nq).symm
        have nqo : q ≠ o := (ne_of_none eo4 nq).symm
        have eo5 : (upd H4 q (.tup [.str (keyOf i), .str gs, .int z, .int (r4 - 9)])) o = some (.lst (things.map tV)) := by rw [upd_ne nqo.symm]; exact eo4
        refine ⟨o, _, _, rfl, rfl, eo5, by rw [List.length_map]; exact small1000 (by omega), ?_⟩
        have hit4 : ∀ t ∈ things, ItT H4 t := fun t ht => ((hit2 t ht).sb hle2 e23).sb hle3 e4
        refine ⟨_, _, things ++ [⟨q, keyOf i, gs, z, r4 - 9⟩], rfl, ⟨ns4, by rw [upd_ne nol.symm, upd_ne nql.symm]; exact hle4⟩, ?_, by rw [upd_same, List.map_append]; rfl, ?_, ⟨?_, ?_, ?_⟩, by rw [List.length_append, hlen]; rfl⟩
        · exact ((((e.trans e1).trans e2).trans e23).trans e4 |>.trans ((SB.refl l H4).new nq)).new no
        · intro t ht
          rcases List.mem_append.mp ht with h | h
          · have := hit4 t h
            show (upd (upd H4 q _) o _) t.a = _
            rw [upd_ne (ne_of this eo4 (by intro z; cases z)), upd_ne (ne_of_none this nq)]
            exact this
          · have h := List.mem_singleton.mp h
            subst h
            show (upd (upd H4 q _) o _) q = _
            rw [upd_ne nqo, upd_same]
            rfl
        · intro t ht
          rcases List.mem_append.mp ht with h | h
          · exact hmd.grp t h
          · have h := List.mem_singleton.mp h
            subst h
            exact hgs
        · intro j t h
          by_cases hj : j < things.length
          · rw [List.getElem?_append_left hj] at h
            exact hmd.key j t h
          · rw [List.getElem?_append_right (by omega)] at h
            have hj0 : j - things.length = 0 := by
              have := (List.getElem?_eq_some_iff.mp h).1
              rw [List.length_singleton] at this
              omega
            rw [hj0] at h
            have h := Option.some.inj h
            subst h
            show keyOf i = keyOf j
            rw [show j = i by omega]
        · intro t ht
          rcases List.mem_append.mp ht with h | h
          · exact hmd.lo t h
          · have h := List.mem_singleton.mp h
            subst h
            exact ⟨z1, z2⟩
    · rintro σ H' ⟨t, u, things, rfl, hl', e, eo, hit, hmd, hlen⟩
      exact ⟨_, rfl, k H' o things hl' e no eo hit hmd hlen⟩
/-! ### _law_amounts -/
def spAmounts (K : PySem.W.Frag) : Sp := fun vs H Q _ => ∃ (l p : Addr) (things : List Thing), vs = [.ref l, .ref p] ∧ RowAt H l ∧ H p = some (.lst (things.map tV)) ∧ p ≠ l ∧ (∀ t ∈ things, ItT H t) ∧ things.length ≤ 5 ∧
  ∀ (H' : Hp) (d : Addr) (kvs : List (Key × V)), RowAt H' l → SB l H H' → H d = none → H' d = some (.dK kvs) → AmI kvs → Q (.ref d) H'
theorem sc__law_amounts : FnScope ["_law_row", "_law_things", "_law_amounts_here", "_law_item"] ["_law_row", "_law_things"] (defScope s__law_amounts) := ⟨rfl, rfl, rfl, by decide +kernel, rfl, by decide +kernel, by decide +kernel⟩
theorem ami_start : AmI (mergeK [] [(Sum.inr "other", V.int 5)]) := fun k => by
  show ∃ i : Int, (valV (putK [] (Sum.inr ("other" : Str)) (V.int 5)) (Sum.inr k)).getD (.int 0) = .int i ∧ i.natAbs ≤ 10
  rw [valV_put]
  by_cases h : (Sum.inr k : Key) = Sum.inr ("other" : Str)
  · rw [if_pos h]; exact ⟨5, rfl, by decide⟩
  · rw [if_neg h]; exact ⟨0, rfl, by decide⟩
theorem ami_put {kvs : List (Key × V)} (h : AmI kvs) (k : Str) {z : Int} (hz : z.natAbs ≤ 10) : AmI (putK kvs (Sum.inr k) (V.int z)) := fun j => by
  rw [valV_put]
  by_cases e : (Sum.inr j : Key) = Sum.inr k
  · rw [if_pos e]; exact ⟨z, rfl, hz⟩
  · rw [if_neg e]; exact h j
theorem k__law_amounts (T : Txt K mg C) : Keeps P w K mg base 2 "_law_amounts" ["_law_row", "_law_things"] (spAmounts K) := by
  refine keeps_of T.d__law_amounts fun f fd F => ?_
  obtain ⟨fT, fdT, GT, mT, kT, bT⟩ := k__law_take (P := P) (w := w) (base := base) T
  refine F.ok sc__law_amounts (fun vs H Q E h => ?_) (fun cdv A outer s H vs Q E hr h => ?_)
  · obtain ⟨l, p, things, rfl, _⟩ := h
    rfl
  · obtain ⟨l, p, things, rfl, hl, hp, npl, hit, hlen, k⟩ := h
    have nd := sc__law_amounts.nd
    obtain ⟨ns0, hl0⟩ := id hl
    refine ⟨_, pss_cons (ps_set (i := 2) nd rfl (Or.inl rfl) (pe_disp (pps_cons pe_str pe_int pps_nil) (by rfl) (by rfl) (fun z => by cases z) (by decide)))
      (pss_cons (ps_for PassesOwn.never rfl (pi_list (pv 1)) (pg_name (i := 3) nd rfl (Or.inl rfl))
        (pss_one (ps_if (pt_cmpR op_gt (pe_call GT hr rfl mT kT bT .nil pass0 (pa_cons (pv 0) (pa_cons pe_int pa_nil))) pe_int (nomark _))
          (pss_one (ps_dput (hu_of hr) (pv 2) (pe_ix ix_tup (pv 3) pe_int (fun _ _ => rfl)) (pe_op op_sub (pe_call GT hr rfl mT kT bT .nil pass0 (pa_cons (pv 0) (pa_cons pe_int pa_nil))) pe_int) rfl)) pss_nil)))
      (pss_one (ps_ret (pv 2)))), ?_⟩
    intro d nd'
    have ndl : d ≠ l := (ne_of_none hl0 nd').symm
    have ndp : d ≠ p := (ne_of_none hp nd').symm
    refine ⟨upd_same, [(Sum.inr "other", V.int 5)], rfl, by decide, ?_⟩
    rw [upd_upd]
    refine ⟨_, rfl, p, rfl, ⟨_, SqL.of (by rw [upd_ne ndp.symm]; exact hp)⟩, for_list (K := K) (a := p) (xs := things.map tV) (fun i σ H' => ∃ (t : Option V) (kvs : List (Key × V)), σ = [some (.ref l), some (.ref p), some (.ref d), t] ∧ RowAt H' l ∧ SB l H H' ∧ H' d = some (.dK kvs) ∧ AmI kvs ∧ kvs.length ≤ 1 + i)
      ⟨none, _, rfl, ⟨ns0, by rw [upd_ne ndl.symm]; exact hl0⟩, (SB.refl l H).new nd', upd_same, ami_start, Nat.le_refl _⟩ (fun i σ H' _ ⟨_, _, _, _, e, _⟩ => SqL.of (e _ _ npl hp)) ?_ ?_⟩
    · rintro i y σ H' hi ⟨t, kvs, rfl, hl', e, ed, ha, hk⟩
      obtain ⟨x, hx, rfl⟩ := things_get hi
      have hx' := List.mem_of_getElem? hx
      have hi5 : i < things.length := (List.getElem?_eq_some_iff.mp hx).1
      refine ⟨_, rfl, l, 5, rfl, hl', by decide, fun r1 H1 h10 h15 hl1 e1 => ⟨_, _, rfl, rfl, _, rfl, ?_⟩⟩
      have ed1 := e1 _ _ ndl ed
      refine ite2 (fun _ => ?_) (fun _ => ?_)
      · refine ⟨_, rfl, l, 21, rfl, hl1, by decide, fun r2 H2 h20 h221 hl2 e2 => ?_⟩
        have ed2 := e2 _ _ ndl ed1
        have ix : ItT H2 x := ((hit x hx').sb hl0 ((e.trans e1).trans e2))
        refine ⟨_, _, rfl, rfl, _, rfl, _, rfl, x.a, _, _, _, rfl, rfl, SqT.of ix, at_0, d, _, rfl, DPut.k (k := Sum.inr x.key) ed2 (small1000 (by omega)), ?_⟩
        obtain ⟨ns2, hle2⟩ := hl2
        refine ⟨_, _, rfl, ⟨ns2, by rw [upd_ne ndl.symm]; exact hle2⟩, ((e.trans e1).trans e2).new nd', upd_same, ami_put ha _ (by omega), ?_⟩
        exact Nat.le_trans (length_putK _ _ _) (by omega)
      · exact ⟨_, kvs, rfl, hl1, e.trans e1, ed1, ha, by omega⟩
    · rintro σ H' ⟨t, kvs, rfl, hl', e, ed, ha, hk⟩
      exact ⟨_, rfl, k H' d kvs hl' e nd' ed ha⟩
/-! ### _law_true -/
def spLawTrue (K : PySem.W.Frag) : Sp := fun vs H Q _ => ∃ (l d : Addr) (things : List Thing) (kvs : List (Key × V)), vs = [.ref l, .ref d] ∧ LsOk K H l things ∧ things.length ≤ 1000 ∧ H d = some (.dK kvs) ∧ AmI kvs ∧ ∀ H', Same H H' → Q (.int (amts kvs things).sum) H'
theorem sc__law_true : FnScope ["_law_things", "_law_amounts_here", "_law_item"] ["_law_things", "_law_amounts_here"] (defScope s__law_true) := ⟨rfl, rfl, rfl, by decide +kernel, rfl, by decide +kernel, by decide +kernel⟩
theorem k__law_true (T : Txt K mg C) : Keeps P w K mg base 1 "_law_true" ["_law_things", "_law_amounts_here"] (spLawTrue K) := by
  refine keeps_of T.d__law_true fun f fd F => ?_
  refine F.ok sc__law_true (fun vs H Q E h => ?_) (fun cdv A outer s H vs Q E hr h => ?_)
  · obtain ⟨l, d, things, kvs, rfl, _⟩ := h
    rfl
  · obtain ⟨l, d, things, kvs, rfl, hl, hlen, hd, ha, k⟩ := h
    refine ⟨_, pss_one (ps_ret (pe_callB (cr_sum rfl) (by rfl) T.sum (by decide +kernel) (pa_cons
      (pe_lc (own := [("_law_item", 2)]) (g := gName 2) (by rfl) sc__law_true.nd (pi_list (pv 0)) (blkOk_by (own := [("_law_item", 2)]) (N := ["_law_things", "_law_amounts_here", "_law_item"]) (sc := defScope s__law_true) (by decide +kernel))
        (fun _ _ _ _ _ => pg_name (i := 2) sc__law_true.nd rfl (Or.inl rfl)) (fun _ _ _ _ _ => pts_nil)
        (fun _ _ _ _ _ => pe_dget2 (hu_of hr) (pv 1) (pe_ix (r := rIxT K) ix_tup (pv 2) pe_int (fun _ _ => rfl)) pe_int ⟨rfl, rfl, rfl, rfl⟩)) pa_nil))), ?_⟩
    refine ⟨_, rfl, l, rfl, ⟨_, hl.1⟩, fun D nD => lc_list (K := K) (a := l) (xs := things.map tV) (fun i H' => Same H H' ∧ H' D = some (.lst ((amts kvs (things.take i)).map V.int)))
      ⟨same_upd nD, upd_same⟩ (fun i H' _ ⟨e, _⟩ => e.seq hl.1) ?_ ?_⟩
    · rintro i y H' hi ⟨e, eD⟩
      obtain ⟨t, ht, rfl⟩ := things_get hi
      refine ⟨rfl, ?_⟩
      refine ⟨_, rfl, d, rfl, .inl ⟨kvs, .inl (e _ _ hd)⟩, _, rfl, t.a, _, _, _, rfl, rfl, (hl.2 t (List.mem_of_getElem? ht)).same e, at_0, _, DGet.k (k := Sum.inr t.key) (e _ _ hd), _, eD, ?_, same_store e nD, ?_⟩
      · rw [List.length_map]
        unfold amts
        rw [List.length_map, List.length_take]
        exact small1000 (Nat.le_trans (Nat.min_le_right _ _) hlen)
      · rw [upd_same, ha.eq]
        unfold amts
        rw [take_more ht, List.map_append, List.map_append]
        rfl
    · rintro H' ⟨e, eD⟩
      refine ⟨D, amts kvs things, rfl, SqL.of ?_, k _ e⟩
      rw [eD, List.length_map, List.take_length]
end
end K34

namespace K34
open PySem PySem.Spec PyProof.Rows L2 Mth
/-! ### things as data -/
def thD (t : Thing) : PyData := .tuple [.str t.key, .str t.grp, .int t.w, .int t.z]
theorem thD_dp {K : PySem.W.Frag} {H : Hp} {t : Thing} (h : ItOk K H t) : Dp K H (.ref t.a) (thD t) := .tup h (.cons (.str _) (.cons (.str _) (.cons (.int _) (.cons (.int _) .nil))))
theorem things_dp {K : PySem.W.Frag} {H : Hp} : ∀ {things : List Thing}, (∀ t ∈ things, ItOk K H t) → DpAll K H (things.map tV) (things.map thD)
  | [], _ => .nil
  | t :: r, h => .cons (thD_dp (h t List.mem_cons_self)) (things_dp fun u hu => h u (List.mem_cons_of_mem _ hu))
/-- its texts are texts -/
def TxtOk (t : Thing) : Prop := PyData.strOk t.key = true ∧ PyData.strOk t.grp = true
theorem thD_lay {t : Thing} (h : TxtOk t) : (thD t).canLay0 = true := by simp [thD, PyData.canLay0, PyData.canLayAll0, h.1, h.2]
theorem thD_depth (t : Thing) : (thD t).depth ≤ 1 := by simp [thD, PyData.depth, PyData.depthAll]
theorem ths_lay : ∀ {l : List Thing}, (∀ t ∈ l, TxtOk t) → PyData.canLayAll0 (l.map thD) = true
  | [], _ => by simp [PyData.canLayAll0]
  | z :: l, h => by simp [PyData.canLayAll0, thD_lay (h z List.mem_cons_self), ths_lay fun u hu => h u (List.mem_cons_of_mem _ hu)]
theorem ths_depth : ∀ l : List Thing, PyData.depthAll (l.map thD) ≤ 1
  | [] => by simp [PyData.depthAll]
  | z :: l => by
    have h1 := ths_depth l
    have h2 := thD_depth z
    simp only [List.map_cons, PyData.depthAll]
    omega
theorem thD_shaped {t : Thing} (h : TxtOk t) : SeqAt.shaped (thD t) = true := by
  have := thD_depth t
  exact Bool.and_eq_true_iff.mpr ⟨thD_lay h, decide_eq_true (by omega)⟩
theorem ths_shaped {l : List Thing} (h : ∀ t ∈ l, TxtOk t) : SeqAt.shaped (.list (l.map thD)) = true := by
  have := ths_depth l
  refine Bool.and_eq_true_iff.mpr ⟨by simp only [PyData.canLay0]; exact ths_lay h, decide_eq_true ?_⟩
  simp only [PyData.depth]
  omega
theorem thD_eqv_key {t u : Thing} (h : PyData.eqv (thD t) (thD u) = true) : t.key = u.key := by
  simp [thD, PyData.eqv, PyData.eqvAll] at h
  exact h.1
/-- things that differ differ in their keys -/
structure KeyD (L : List Thing) : Prop where
  d : ∀ t ∈ L, ∀ u ∈ L, t.key = u.key → t = u
  ok : ∀ t ∈ L, TxtOk t
theorem thD_refl (t : Thing) : PyData.eqv (thD t) (thD t) = true := by simp [thD, PyData.eqv, PyData.eqvAll]
theorem in_things {L one : List Thing} {t : Thing} (hd : KeyD L) (ht : t ∈ L) (hs : ∀ x ∈ one, x ∈ L) : ((one.map thD).any fun z => PyData.eqv z (thD t)) = decide (t ∈ one) := by
  by_cases h : t ∈ one
  · rw [decide_eq_true h, List.any_eq_true]
    exact ⟨thD t, List.mem_map.mpr ⟨t, h, rfl⟩, thD_refl t⟩
  · rw [decide_eq_false h, List.any_eq_false]
    intro z hz e
    obtain ⟨u, hu, rfl⟩ := List.mem_map.mp hz
    have := hd.d u (hs u hu) t ht (thD_eqv_key e)
    exact h (this ▸ hu)
/-! ### lists of lists of things -/
def OrdsAt (H : Hp) (p : Addr) (os : List (List Thing)) : Prop := ∃ as : List Addr, H p = some (.lst (as.map V.ref)) ∧ Paired (fun a one => H a = some (.lst (List.map tV one))) as os
theorem ords_mono {H H' : Hp} (e : Same H H') : ∀ {as : List Addr} {os : List (List Thing)}, Paired (fun a one => H a = some (.lst (List.map tV one))) as os → Paired (fun a one => H' a = some (.lst (List.map tV one))) as os
  | _, _, .nil => .nil
  | _, _, .cons r t => .cons (e _ _ r) (ords_mono e t)
theorem OrdsAt.same {H H' : Hp} {p : Addr} {os : List (List Thing)} (h : OrdsAt H p os) (e : Same H H') : OrdsAt H' p os := by
  obtain ⟨as, h1, h2⟩ := h
  exact ⟨as, e _ _ h1, ords_mono e h2⟩
/-- .. at places that were free in H -/
structure OrdsF (H H' : Hp) (p : Addr) (os : List (List Thing)) : Prop where
  fr : H p = none
  ex : ∃ as : List Addr, (∀ x ∈ as, H x = none) ∧ H' p = some (.lst (as.map V.ref)) ∧ Paired (fun a one => H' a = some (.lst (List.map tV one))) as os
theorem OrdsF.same {H0 H H' : Hp} {p : Addr} {os : List (List Thing)} (h : OrdsF H0 H p os) (e : Same H H') : OrdsF H0 H' p os := by
  obtain ⟨p, as, h0, h1, h2⟩ := h
  exact ⟨p, as, h0, e _ _ h1, ords_mono e h2⟩
theorem ords_store {H H' : Hp} {D : Addr} {u : HO} (e : Same H H') : ∀ {as : List Addr} {os : List (List Thing)}, (∀ x ∈ as, x ≠ D) → Paired (fun a one => H a = some (.lst (List.map tV one))) as os →
    Paired (fun a one => (upd H' D u) a = some (.lst (List.map tV one))) as os
  | _, _, _, .nil => .nil
  | _, _, h, .cons r t => .cons (by rw [upd_ne (h _ List.mem_cons_self)]; exact e _ _ r) (ords_store e (fun x hx => h x (List.mem_cons_of_mem _ hx)) t)
theorem paired_app {α β : Type} {R : α → β → Prop} : ∀ {as cs : List α} {bs ds : List β}, Paired R as bs → Paired R cs ds → Paired R (as ++ cs) (bs ++ ds)
  | _, _, _, _, .nil, r => r
  | _, _, _, _, .cons q t, r => .cons q (paired_app t r)
theorem ext_len (L one : List Thing) : (ext L one).length ≤ L.length := by
  unfold ext out
  rw [List.length_map]
  exact List.length_filter_le _ _
theorem flat_len (L : List Thing) : ∀ l : List (List Thing), (l.flatMap (ext L)).length ≤ l.length * L.length
  | [] => by simp
  | a :: r => by
    rw [List.flatMap_cons, List.length_append, List.length_cons, Nat.succ_mul, Nat.add_comm]
    exact Nat.add_le_add (flat_len L r) (ext_len L a)
theorem ords_len (L : List Thing) : ∀ s, (ords L s).length ≤ L.length ^ s
  | 0 => by show 1 ≤ 1; exact Nat.le_refl 1
  | s + 1 => by
    rw [Nat.pow_succ]
    exact Nat.le_trans (flat_len L _) (Nat.mul_le_mul_right _ (ords_len L s))
theorem ords_len5 {L : List Thing} (h : L.length ≤ 5) {s : Nat} (hs : s ≤ 3) : (ords L s).length ≤ 125 :=
  Nat.le_trans (ords_len L s) (Nat.le_trans (Nat.pow_le_pow_left h s) (Nat.le_trans (Nat.pow_le_pow_right (by decide) hs) (by decide)))
section
variable {P : Program} {w : World} {K : PySem.W.Frag} {mg : Str → Option Value} {base : Heap} {C : Addr}
/-! ### _law_orders -/
def spOrders (K : PySem.W.Frag) : Sp := fun vs H Q _ => ∃ (l : Addr) (s : Nat) (L : List Thing), vs = [.ref l, .int s] ∧ LsOk K H l L ∧ KeyD L ∧ L.length ≤ 5 ∧ s ≤ 3 ∧ ∀ H' p, Same H H' → OrdsF H H' p (ords L s) → Q (.ref p) H'
theorem sc__law_orders : FnScope ["_law_things", "_law_many", "_law_found", "_law_turn", "_law_more", "_law_one", "_law_item"] ["_law_things", "_law_many"] (defScope s__law_orders) := ⟨rfl, rfl, rfl, by decide +kernel, rfl, by decide +kernel, by decide +kernel⟩
theorem k__law_orders (T : Txt K mg C) : Keeps P w K mg base 1 "_law_orders" ["_law_things", "_law_many"] (spOrders K) := by
  refine keeps_of T.d__law_orders fun f fd F => ?_
  refine F.ok sc__law_orders (fun vs H Q E h => ?_) (fun cdv A outer s H vs Q E hr h => ?_)
  · obtain ⟨l, n, L, rfl, _⟩ := h
    rfl
  · obtain ⟨l, n, L, rfl, hl, hkd, hlen, hn, k⟩ := h
    have nd := sc__law_orders.nd
    have hu65 : A.units + 3 + 65 < cLine := by
      have := hr.un
      have e : (A.deeper (envOfC "_law_orders" (defScope s__law_orders) s.heap.objs.size f cdv)).units = A.units + 3 := rfl
      omega
    refine ⟨_, pss_cons (ps_set (i := 2) nd rfl (Or.inl rfl) (pe_lst (pa_cons (pe_lst pa_nil) pa_nil)))
      (pss_cons (ps_for PassesOwn.never rfl (pi_range1 (by rfl) T.range (pa_cons (pv 1) pa_nil)) (pg_name (i := 3) nd rfl (Or.inl rfl))
        (pss_cons (ps_set (i := 4) nd rfl (Or.inl rfl) (pe_lst pa_nil))
        (pss_cons (ps_for PassesOwn.never rfl (pi_list (pv 2)) (pg_name (i := 5) nd rfl (Or.inr rfl))
          (pss_one (ps_set (i := 4) nd rfl (Or.inl rfl) (pe_op op_cat (pv 4)
            (pe_lc (own := [("_law_item", 6)]) (g := gName 6) (by rfl) nd (pi_list (pv 0)) (blkOk_by (own := [("_law_item", 6)]) (N := ["_law_things", "_law_many", "_law_found", "_law_turn", "_law_more", "_law_one", "_law_item"]) (sc := defScope s__law_orders) (by decide +kernel))
              (fun _ _ _ _ _ => pg_name (i := 6) nd rfl (Or.inl rfl)) (fun _ _ _ _ _ => pts_one (pt_cmpR (r := rNotInD K) (op_notInD hu65) (pv 6) (pv 5) (by rfl)))
              (fun _ _ _ _ _ => pe_op op_cat (pv 5) (pe_lst (pa_cons (pv 6) pa_nil))))))))
        (pss_one (ps_set (i := 2) nd rfl (Or.inl rfl) (pv 4))))))
      (pss_one (ps_ret (pv 2)))), ?_⟩
    refine ⟨Nat.zero_le _, fun a na => ⟨by show 1 ≤ sizeLine; decide, fun p np => ?_⟩⟩
    refine ⟨_, rfl, (n : Int), rfl, by omega, by omega, ?_⟩
    rw [show ((n : Int)).toNat = n by omega]
    refine for_range (n := n) (fun i σ H' => ∃ (p : Addr) (t m o it : Option V), σ = [some (.ref l), some (.int n), some (.ref p), t, m, o, it] ∧ Same H H' ∧ OrdsF H H' p (ords L i))
      ⟨p, none, none, none, none, rfl, (same_upd na).trans (same_upd np), (same_upd na).free np, [a], (fun x hx => by rw [List.mem_singleton.mp hx]; exact na), upd_same, .cons ?_ .nil⟩ ?_ ?_
    · rw [upd_ne (ne_of_none upd_same np), upd_same]
      rfl
    · rintro i σ H' hi ⟨p, t, m, o, it, rfl, e, ho⟩
      refine ⟨Nat.zero_le _, fun m0 nm0 => ?_⟩
      obtain ⟨pF, as, asF, hp, has⟩ := ho.same (same_upd nm0)
      refine ⟨_, rfl, p, rfl, ⟨_, SqL.of hp⟩, for_list (K := K) (a := p) (xs := as.map V.ref) (fun j σ H2 => ∃ (m : Addr) (o it : Option V), σ = [some (.ref l), some (.int n), some (.ref p), some (.int (0 + (i : Int))), some (.ref m), o, it] ∧ Same (upd H' m0 (.lst [])) H2 ∧ OrdsF H H2 m (((ords L i).take j).flatMap (ext L)))
        ⟨m0, _, _, rfl, Same.refl _, e.free nm0, [], (fun x hx => by cases hx), upd_same, .nil⟩ (fun j σ H2 _ ⟨_, _, _, _, e2, _⟩ => SqL.of (e2 _ _ hp)) ?_ ?_⟩
      · rintro j y σ H2 hj ⟨m, o, it, rfl, e2, hm⟩
        obtain ⟨oa, hoa, rfl⟩ : ∃ oa, as[j]? = some oa ∧ y = .ref oa := by
          rw [List.getElem?_map] at hj
          cases q : as[j]? with
          | none => rw [q] at hj; cases hj
          | some oa => rw [q] at hj; exact ⟨oa, rfl, (Option.some.inj hj).symm⟩
        obtain ⟨one, hone, hoa2⟩ := paired_get has hoa
        have honeM := List.mem_of_getElem? hone
        have G := ords_good honeM
        have e02 : Same H H2 := (e.trans (same_upd nm0)).trans e2
        have hl2 := hl.same e02
        have ho2 : H2 oa = some (.lst (one.map tV)) := e2 _ _ hoa2
        obtain ⟨mF, ms, msF, hm2, hms⟩ := hm
        -- the comprehension
        refine ⟨_, rfl, _, rfl, l, rfl, ⟨_, hl2.1⟩, fun D nD => lc_list (K := K) (a := l) (xs := L.map tV) (fun c H3 => Same H2 H3 ∧ ∃ cs : List Addr, H3 D = some (.lst (cs.map V.ref)) ∧ (∀ x ∈ cs, x ≠ D ∧ H x = none) ∧ Paired (fun a one => H3 a = some (.lst (List.map tV one))) cs (((L.take c).filter fun x => !decide (x ∈ one)).map fun x => one ++ [x]))
          ⟨same_upd nD, [], upd_same, (fun x hx => by cases hx), .nil⟩ (fun c H3 _ ⟨e3, _⟩ => e3.seq hl2.1) ?_ ?_⟩
        · rintro c y H3 hc ⟨e3, cs, hD, hcs, hcp⟩
          obtain ⟨x, hx, rfl⟩ := things_get hc
          have hx' := List.mem_of_getElem? hx
          have hl3 := hl2.same e3
          have ho3 : H3 oa = some (.lst (one.map tV)) := e3 _ _ ho2
          refine ⟨rfl, ?_⟩
          refine ⟨_, rfl, _, rfl, thD x, one.map thD, thD_dp (hl3.2 x hx'), .lst (SqL.of ho3) (things_dp fun u hu => hl3.2 u (G.sub u hu)), thD_shaped (hkd.ok x hx'), ths_shaped (fun u hu => hkd.ok u (G.sub u hu)), _, rfl, ?_⟩
          rw [in_things hkd hx' G.sub]
          by_cases hin : x ∈ one
          · rw [decide_eq_true hin]
            refine ⟨e3, cs, hD, hcs, ?_⟩
            rw [take_more hx, List.filter_append, List.filter_cons, if_neg (by simp [hin])]
            simpa using hcp
          · rw [decide_eq_false hin]
            refine ⟨_, rfl, _, rfl, by show 1 ≤ sizeLine; decide, fun d1 nd1 => ?_⟩
            refine ⟨oa, d1, _, _, rfl, rfl, by rw [upd_ne (ne_of_none ho3 nd1)]; exact ho3, upd_same, ?_, fun d2 nd2 => ?_⟩
            · rw [List.length_map, G.len]
              show i + 1 ≤ sizeLine
              exact Nat.le_of_lt (small1000 (by omega))
            have e34 : Same H3 (upd (upd H3 d1 (.lst [V.ref x.a])) d2 (.lst (one.map tV ++ [V.ref x.a]))) := (same_upd nd1).trans (same_upd nd2)
            have hD4 := e34 _ _ hD
            have ndD : d2 ≠ D := fun q => by
              rw [q] at nd2
              rw [(same_upd nd1) _ _ hD] at nd2
              cases nd2
            refine ⟨_, hD4, ?_, same_store (e3.trans e34) nD, cs ++ [d2], by rw [upd_same, List.map_append]; rfl, ?_, ?_⟩
            · rw [List.length_map, paired_len hcp, List.length_map]
              refine small1000 (Nat.le_trans (List.length_filter_le _ _) ?_)
              rw [List.length_take]
              omega
            · intro z hz
              rcases List.mem_append.mp hz with q | q
              · exact hcs z q
              · rw [List.mem_singleton.mp q]; exact ⟨ndD, ((e02.trans e3).trans (same_upd nd1)).free nd2⟩
            · rw [take_more hx, List.filter_append, List.filter_cons, if_pos (by simp [hin]), List.map_append]
              refine paired_snoc ?_ ?_
              · exact ords_store e34 (fun x hx => (hcs x hx).1) hcp
              · rw [upd_ne ndD, upd_same, List.map_append]
                rfl
        · rintro H3 ⟨e3, cs, hD, hcs, hcp⟩
          rw [List.length_map, List.take_length] at hcp
          refine ⟨m, D, _, _, rfl, rfl, e3 _ _ hm2, hD, ?_, fun q nq => ?_⟩
          · rw [List.length_map, List.length_map, paired_len hms, paired_len hcp]
            have h1 := flat_len L ((ords L i).take j)
            have h2 := ords_len5 hlen (s := i) (by omega)
            have h3 : ((ords L i).take j).length ≤ 125 := by rw [List.length_take]; omega
            have h4 : ((ords L i).take j).length * L.length ≤ 125 * 5 := Nat.mul_le_mul h3 hlen
            have h5 := ext_len L one
            have h6 : (ext L one).length = ((L.filter fun x => !decide (x ∈ one)).map fun x => one ++ [x]).length := rfl
            have : 1000 < sizeLine := by rw [sizeLine_eq]; decide
            omega
          · refine ⟨q, _, _, rfl, (e2.trans e3).trans (same_upd nq), (e02.trans e3).free nq, ms ++ cs, ?_, by rw [upd_same, List.map_append], ?_⟩
            · intro x hx
              rcases List.mem_append.mp hx with h | h
              · exact msF x h
              · exact (hcs x h).2
            rw [take_more hone, List.flatMap_append]
            refine paired_app (ords_mono (e3.trans (same_upd nq)) hms) ?_
            rw [List.flatMap_cons, List.flatMap_nil, List.append_nil]
            exact ords_mono (same_upd nq) hcp
      · rintro σ H2 ⟨m, o, it, rfl, e2, hm⟩
        rw [List.length_map, paired_len has, List.take_length] at hm
        exact ⟨_, rfl, m, _, _, _, _, rfl, (e.trans (same_upd nm0)).trans e2, hm⟩
    · rintro σ H' ⟨p, t, m, o, it, rfl, e, ho⟩
      exact ⟨_, rfl, k H' p e ho⟩
end
end K34

namespace K34
open PySem PySem.Spec PyProof.Rows L2 Mth
/-- what is left before each draw is at least one -/
structure Drawn (ts : List Thing) (total : Int) : Prop where
  kept : Kept ts total
  left : ∀ i, i < ts.length → 1 ≤ total - ((ts.take i).map Thing.w).sum
theorem ch_take {ts : List Thing} {total : Int} {i : Nat} {x : Thing} (h : ts[i]? = some x) : ch wR (total : Rat) (ts.take (i + 1)) = ch wR (total : Rat) (ts.take i) * (((x.w : Int) : Rat) / ((total - ((ts.take i).map Thing.w).sum : Int) : Rat)) := by
  rw [take_more h, ch_snoc, S_int, ← Rat.intCast_sub]
theorem one_chance {a b : Int} (ha : 1 ≤ a ∧ a ≤ 1000) (hb : 1 ≤ b) (hb2 : b.natAbs ≤ 8000) : Sm 13 ((a : Rat) / (b : Rat)) := sm_frac (by omega) (by omega) (by omega)
theorem ch_Sm {ts : List Thing} {total : Int} (hd : Drawn ts total) : ∀ i, Sm (1 + 13 * i) (ch wR (total : Rat) (ts.take i))
  | 0 => sm_one
  | i + 1 => by
    have ih := ch_Sm hd i
    cases e : ts[i]? with
    | none =>
      have h1 : ts.length ≤ i := List.getElem?_eq_none_iff.mp e
      rw [List.take_of_length_le (by omega)]
      rw [List.take_of_length_le h1] at ih
      exact ih.mono (by omega)
    | some x =>
      rw [ch_take e]
      have hi : i < ts.length := (List.getElem?_eq_some_iff.mp e).1
      exact (ih.mul (one_chance (hd.kept.lo x (List.mem_of_getElem? e)) (hd.left i hi) (hd.kept.left i))).mono (by omega)
theorem max_one {b : Int} (h : 1 ≤ b) : (if b > 1 then b else 1) = b := by
  by_cases e : b > 1
  · rw [if_pos e]
  · rw [if_neg e]; omega
/-! ### rows of pairs of fractions -/
def RowsAt (K : PySem.W.Frag) (H : Hp) (l : Addr) (ps : List (Rat × Rat)) : Prop := ∃ as : List Addr, H l = some (.lst (as.map V.ref)) ∧ Paired (fun a (p : Rat × Rat) => ∃ v u : V, SqT K H a [v, u] ∧ FR K H v p.1 ∧ FR K H u p.2) as ps
section
variable {P : Program} {w : World} {K : PySem.W.Frag} {mg : Str → Option Value} {base : Heap} {C : Addr}
/-! ### _law_order_chance -/
def spChance (K : PySem.W.Frag) : Sp := fun vs H Q _ => ∃ (l : Addr) (total : Int) (things : List Thing), vs = [.int total, .ref l] ∧ LsOk K H l things ∧ Drawn things total ∧ RetFR K H Q (ch wR (total : Rat) things)
theorem sc__law_order_chance : FnScope ["_law_total", "_law_things", "_law_chance", "_law_left", "_law_item"] ["_law_total", "_law_things"] (defScope s__law_order_chance) := ⟨rfl, rfl, rfl, by decide +kernel, rfl, by decide +kernel, by decide +kernel⟩
theorem k__law_order_chance (T : Txt K mg C) : Keeps P w K mg base 3 "_law_order_chance" ["_law_total", "_law_things"] (spChance K) := by
  refine keeps_of T.d__law_order_chance fun f fd F => ?_
  obtain ⟨fT, fdT, GT, mT, kT, bT⟩ := k__law_times (P := P) (w := w) (base := base) T
  obtain ⟨fL, fdL, GL, mL, kL, bL⟩ := k__law_low (P := P) (w := w) (base := base) T
  refine F.ok sc__law_order_chance (fun vs H Q E h => ?_) (fun cdv A outer s H vs Q E hr h => ?_)
  · obtain ⟨l, total, things, rfl, _⟩ := h
    rfl
  · obtain ⟨l, total, things, rfl, hl, hd, k⟩ := h
    have nd := sc__law_order_chance.nd
    have hr1 : Room 1 _ := hr.mono (by decide)
    have hlen := hd.kept.len
    refine ⟨_, pss_cons (ps_set (i := 2) nd rfl (Or.inl rfl) (pe_tup (pa_cons pe_int (pa_cons pe_int pa_nil))))
      (pss_cons (ps_set (i := 3) nd rfl (Or.inl rfl) (pv 0))
      (pss_cons (ps_for PassesOwn.never rfl (pi_list (pv 1)) (pg_name (i := 4) nd rfl (Or.inl rfl))
        (pss_cons (ps_set (i := 2) nd rfl (Or.inl rfl) (pe_call GT hr rfl mT kT bT .nil pass0 (pa_cons (pv 2) (pa_cons
          (pe_call GL hr1 rfl mL kL bL .nil pass0 (pa_cons (pe_ix ix_tup (pv 4) pe_int (fun _ _ => rfl)) (pa_cons (pe_callB (call_max2 rfl) (by rfl) T.max (by decide +kernel) (pa_cons pe_int (pa_cons (pv 3) pa_nil))) pa_nil))) pa_nil))))
        (pss_one (ps_set (i := 3) nd rfl (Or.inl rfl) (pe_op op_sub (pv 3) (pe_ix ix_tup (pv 4) pe_int (fun _ _ => rfl)))))))
      (pss_one (ps_ret (pv 2))))), ?_⟩
    refine ⟨by show 2 ≤ sizeLine; decide, fun z hz => ⟨_, rfl, _, rfl, l, rfl, ⟨_, (same_upd hz).seq hl.1⟩, ?_⟩⟩
    refine for_list (K := K) (a := l) (xs := things.map tV) (fun i σ H' => ∃ (v : V) (t : Option V), σ = [some (.int total), some (.ref l), some v, some (.int (total - ((things.take i).map Thing.w).sum)), t] ∧ Same H H' ∧ FR K H' v (ch wR (total : Rat) (things.take i)))
      ⟨_, none, ?_, same_upd hz, fr_new (x := 1) rfl rfl⟩ (fun i σ H' _ ⟨_, _, _, e, _⟩ => e.seq hl.1) ?_ ?_
    · show _ = [some (V.int total), some (.ref l), some _, some (.int (total - 0)), none]
      rw [Int.sub_zero]
      rfl
    · rintro i y σ H' hi ⟨v, t, rfl, e, fv⟩
      obtain ⟨x, hx, rfl⟩ := things_get hi
      have hx' := List.mem_of_getElem? hx
      have hi' : i < things.length := (List.getElem?_eq_some_iff.mp hx).1
      have hle := hd.left i hi'
      have hlf := hd.kept.left i
      have hw := hd.kept.lo x hx'
      refine ⟨_, rfl, _, rfl, x.a, _, _, _, rfl, rfl, (hl.2 x hx').same e, at_2, _, rfl, _, _, rfl, ?_⟩
      rw [max_one hle]
      refine ⟨_, _, rfl, by omega, pow3000 10 (by omega) (by decide), Nat.lt_of_le_of_lt hlf (Nat.lt_of_lt_of_le (by decide : 8000 < 2 ^ 13) (Nat.pow_le_pow_right (by decide) (by decide))), fun H1 v1 e1 f1 => ?_⟩
      refine ⟨v, v1, _, _, rfl, fv.same e1, f1, (ch_Sm hd i).mono (by omega), (one_chance hw hle hlf).mono (by decide), trivial, fun H2 v2 e2 f2 => ?_⟩
      refine ⟨_, rfl, _, rfl, x.a, _, _, _, rfl, rfl, (((hl.2 x hx').same e).same e1).same e2, at_2, _, _, rfl, rfl, ?_⟩
      refine ⟨v2, some (.ref x.a), ?_, (e.trans e1).trans e2, ?_⟩
      · have q2 : ((things.take (i + 1)).map Thing.w).sum = ((things.take i).map Thing.w).sum + x.w := by
          rw [take_more hx, List.map_append, List.sum_append]
          simp
        have q3 : total - (((things.take i).map Thing.w).sum + x.w) = total - ((things.take i).map Thing.w).sum - x.w := by omega
        rw [q2, q3]
        rfl
      · rw [ch_take hx]
        exact f2
    · rintro σ H' ⟨v, t, rfl, e, fv⟩
      rw [List.length_map, List.take_length] at fv
      exact ⟨_, rfl, k _ _ e fv⟩
/-! ### _law_moments -/
theorem rows_mono {H H' : Hp} (e : Same H H') : ∀ {as : List Addr} {ps : List (Rat × Rat)}, Paired (fun a (p : Rat × Rat) => ∃ v u : V, SqT K H a [v, u] ∧ FR K H v p.1 ∧ FR K H u p.2) as ps → Paired (fun a (p : Rat × Rat) => ∃ v u : V, SqT K H' a [v, u] ∧ FR K H' v p.1 ∧ FR K H' u p.2) as ps
  | _, _, .nil => .nil
  | _, _, .cons ⟨v, u, a, b, c⟩ t => .cons ⟨v, u, Same.tup e a, b.same e, c.same e⟩ (rows_mono e t)
def midM (ps : List (Rat × Rat)) : Rat := sm (ps.map fun p => p.1 * p.2)
def sprM (ps : List (Rat × Rat)) (m : Rat) : Rat := sm (ps.map fun p => p.2 * ((p.1 - m) * (p.1 - m)))
structure MomOk (ps : List (Rat × Rat)) : Prop where
  len : ps.length ≤ 1000
  e : ∀ p ∈ ps, Sm 100 p.1
  c : ∀ p ∈ ps, Sm 50 p.2
  m : Sm 100 (midM ps)
  s1 : ∀ i, Sm 900 (sm ((ps.map fun p => p.1 * p.2).take i))
  s2 : ∀ i, Sm 900 (sm ((ps.take i).map fun p => p.2 * ((p.1 - midM ps) * (p.1 - midM ps))))
def spMom (K : PySem.W.Frag) : Sp := fun vs H Q _ => ∃ (l : Addr) (ps : List (Rat × Rat)), vs = [.ref l] ∧ RowsAt K H l ps ∧ MomOk ps ∧
  ∀ H' (q : Addr) (v u : V), Same H H' → H' q = some (.tup [v, u]) → FR K H' v (midM ps) → FR K H' u (sprM ps (midM ps)) → Q (.ref q) H'
theorem sc__law_moments : FnScope ["_law_rows", "_law_middle", "_law_spread", "_law_number", "_law_chance", "_law_away"] ["_law_rows"] (defScope s__law_moments) := ⟨rfl, rfl, rfl, by decide +kernel, rfl, by decide +kernel, by decide +kernel⟩
theorem k__law_moments (T : Txt K mg C) : Keeps P w K mg base 4 "_law_moments" ["_law_rows"] (spMom K) := by
  refine keeps_of T.d__law_moments fun f fd F => ?_
  obtain ⟨fP, fdP, GP, mP, kP, bP⟩ := k__law_plus (P := P) (w := w) (base := base) T
  obtain ⟨fM, fdM, GM, mM, kM, bM⟩ := k__law_minus (P := P) (w := w) (base := base) T
  obtain ⟨fT, fdT, GT, mT, kT, bT⟩ := k__law_times (P := P) (w := w) (base := base) T
  obtain ⟨fS, fdS, GS, mS, kS, bS⟩ := k__law_sum (P := P) (w := w) (base := base) T
  refine F.ok sc__law_moments (fun vs H Q E h => ?_) (fun cdv A outer s H vs Q E hr h => ?_)
  · obtain ⟨l, ps, rfl, _⟩ := h
    rfl
  · obtain ⟨l, ps, rfl, ⟨as, hl, has⟩, ok, k⟩ := h
    have nd := sc__law_moments.nd
    have hr2 : Room 2 _ := hr.mono (by decide)
    refine ⟨_, pss_cons (ps_set (i := 1) nd rfl (Or.inl rfl) (pe_call GS hr rfl mS kS bS .nil pass0 (pa_cons
        (pe_lc (own := [("_law_number", 3), ("_law_chance", 4)]) (g := gTup K 2 (gCons (gName 3) (gCons (gName 4) gNil))) (by rfl) nd (pi_list (pv 0)) (blkOk_by (own := [("_law_number", 3), ("_law_chance", 4)]) (N := ["_law_rows", "_law_middle", "_law_spread", "_law_number", "_law_chance", "_law_away"]) (sc := defScope s__law_moments) (by decide +kernel))
          (fun _ _ _ _ _ => pg_tup rfl (pgs_cons (pg_name (i := 3) nd rfl (Or.inl rfl)) (pgs_cons (pg_name (i := 4) nd rfl (Or.inl rfl)) pgs_nil))) (fun _ _ _ _ _ => pts_nil)
          (fun _ _ _ _ _ => pe_call GT hr2 rfl mT kT bT .nil pass0 (pa_cons (pv 3) (pa_cons (pv 4) pa_nil)))) pa_nil)))
      (pss_cons (ps_set (i := 2) nd rfl (Or.inl rfl) (pe_tup (pa_cons pe_int (pa_cons pe_int pa_nil))))
      (pss_cons (ps_for PassesOwn.never rfl (pi_list (pv 0)) (pg_tup rfl (pgs_cons (pg_name (i := 3) nd rfl (Or.inl rfl)) (pgs_cons (pg_name (i := 4) nd rfl (Or.inl rfl)) pgs_nil)))
        (pss_cons (ps_set (i := 5) nd rfl (Or.inl rfl) (pe_call GM hr2 rfl mM kM bM .nil pass0 (pa_cons (pv 3) (pa_cons (pv 1) pa_nil))))
        (pss_one (ps_set (i := 2) nd rfl (Or.inl rfl) (pe_call GP hr2 rfl mP kP bP .nil pass0 (pa_cons (pv 2) (pa_cons
          (pe_call GT hr2 rfl mT kT bT .nil pass0 (pa_cons (pv 4) (pa_cons (pe_call GT hr2 rfl mT kT bT .nil pass0 (pa_cons (pv 5) (pa_cons (pv 5) pa_nil))) pa_nil))) pa_nil)))))))
      (pss_one (ps_ret (pe_tup (pa_cons (pv 1) (pa_cons (pv 2) pa_nil))))))), ?_⟩
    -- the list of the products
    refine ⟨_, rfl, l, rfl, ⟨_, SqL.of hl⟩, fun D nD => lc_list (K := K) (a := l) (xs := as.map V.ref) (fun i H' => Same H H' ∧ ∃ cs : List V, H' D = some (.lst cs) ∧ Paired (FR K H') cs ((ps.map fun p => p.1 * p.2).take i))
      ⟨same_upd nD, [], upd_same, .nil⟩ (fun i H' _ ⟨e, _⟩ => SqL.of (e _ _ hl)) ?_ ?_⟩
    · rintro i y H' hi ⟨e, cs, hD, hcp⟩
      obtain ⟨oa, hoa, rfl⟩ : ∃ oa, as[i]? = some oa ∧ y = .ref oa := by
        rw [List.getElem?_map] at hi
        cases q : as[i]? with
        | none => rw [q] at hi; cases hi
        | some oa => rw [q] at hi; exact ⟨oa, rfl, (Option.some.inj hi).symm⟩
      obtain ⟨p, hp, v, u, ht, fv, fu⟩ := paired_get has hoa
      have hp' := List.mem_of_getElem? hp
      refine ⟨oa, [v, u], rfl, Same.tup e ht, rfl, v, [u], rfl, u, [], rfl, rfl, rfl, ?_⟩
      refine ⟨_, rfl, _, rfl, v, u, _, _, rfl, fv.same e, fu.same e, (ok.e p hp').mono (by decide), (ok.c p hp').mono (by decide), trivial, fun H1 v1 e1 f1 => ?_⟩
      refine ⟨cs, e1 _ _ hD, ?_, same_store (e.trans e1) nD, cs ++ [v1], upd_same, ?_⟩
      · rw [paired_len hcp, List.length_take, List.length_map]
        exact small1000 (Nat.le_trans (Nat.min_le_right _ _) ok.len)
      · have hpm : (ps.map fun p => p.1 * p.2)[i]? = some (p.1 * p.2) := by rw [List.getElem?_map, hp]; rfl
        rw [take_more hpm]
        exact paired_snoc (frs_upd (e1 _ _ hD) (frs_mono e1 hcp)) (f1.upd (e1 _ _ hD))
    · rintro H' ⟨e, cs, hD, hcp⟩
      rw [List.length_map, paired_len has] at hcp
      have hlm : (ps.map fun p => p.1 * p.2).take ps.length = ps.map fun p => p.1 * p.2 := List.take_of_length_le (by rw [List.length_map]; exact Nat.le_refl _)
      rw [hlm] at hcp
      refine ⟨D, _, rfl, ⟨cs, SqL.of hD, hcp⟩, ?_, ok.s1, fun H1 m1 e1 fm => ?_⟩
      · intro x hx
        obtain ⟨p, hp, rfl⟩ := List.mem_map.mp hx
        exact ((ok.e p hp).mul (ok.c p hp)).mono (by decide)
      have fm : FR K H1 m1 (midM ps) := fm
      refine ⟨by show 2 ≤ sizeLine; decide, fun z hz => ?_⟩
      have e01 : Same H (upd H1 z (.tup [.int 0, .int 1])) := (e.trans e1).trans (same_upd hz)
      refine ⟨_, rfl, l, rfl, ⟨_, SqL.of (e01 _ _ hl)⟩, for_list (K := K) (a := l) (xs := as.map V.ref) (fun i σ H' => ∃ (v : V) (t c d : Option V), σ = [some (.ref l), some m1, some v, t, c, d] ∧ Same H H' ∧ FR K H' m1 (midM ps) ∧ FR K H' v (sm ((ps.take i).map fun p => p.2 * ((p.1 - midM ps) * (p.1 - midM ps)))))
        ⟨_, none, none, none, rfl, e01, fm.same (same_upd hz), fr_new (x := 0) rfl rfl⟩ (fun i σ H' _ ⟨_, _, _, _, _, e, _⟩ => SqL.of (e _ _ hl)) ?_ ?_⟩
      · rintro i y σ H2 hi ⟨v0, t, c, d, rfl, e2, fm2, fs⟩
        obtain ⟨oa, hoa, rfl⟩ : ∃ oa, as[i]? = some oa ∧ y = .ref oa := by
          rw [List.getElem?_map] at hi
          cases q : as[i]? with
          | none => rw [q] at hi; cases hi
          | some oa => rw [q] at hi; exact ⟨oa, rfl, (Option.some.inj hi).symm⟩
        obtain ⟨p, hp, v, u, ht, fv, fu⟩ := paired_get has hoa
        have hp' := List.mem_of_getElem? hp
        have sa := (ok.e p hp').sub ok.m
        have sq := sa.mul sa
        refine ⟨oa, [v, u], rfl, Same.tup e2 ht, rfl, v, [u], rfl, u, [], rfl, rfl, ?_⟩
        refine ⟨_, rfl, _, rfl, v, m1, _, _, rfl, fv.same e2, fm2, (ok.e p hp').mono (by decide), ok.m.mono (by decide), trivial, fun H3 a3 e3 f3 => ?_⟩
        refine ⟨_, rfl, _, rfl, _, rfl, _, rfl, a3, a3, _, _, rfl, f3, f3, sa.mono (by decide), sa.mono (by decide), trivial, fun H4 q4 e4 f4 => ?_⟩
        refine ⟨u, q4, _, _, rfl, ((fu.same e2).same e3).same e4, f4, (ok.c p hp').mono (by decide), sq.mono (by decide), trivial, fun H5 v5 e5 f5 => ?_⟩
        have e25 := (e3.trans e4).trans e5
        refine ⟨v0, v5, _, _, rfl, fs.same e25, f5, ok.s2 i, ((ok.c p hp').mul sq).mono (by decide), trivial, fun H6 v6 e6 f6 => ?_⟩
        refine ⟨v6, _, _, _, rfl, (e2.trans e25).trans e6, fm2.same (e25.trans e6), ?_⟩
        rw [take_more hp, List.map_append]
        show FR K H6 v6 (sm (((ps.take i).map fun p => p.2 * ((p.1 - midM ps) * (p.1 - midM ps))) ++ [p.2 * ((p.1 - midM ps) * (p.1 - midM ps))]))
        rw [sm_snoc]
        exact f6
      · rintro σ H2 ⟨v0, t, c, d, rfl, e2, fm2, fs⟩
        rw [List.length_map, paired_len has, List.take_length] at fs
        refine ⟨_, rfl, _, rfl, by show 2 ≤ sizeLine; decide, fun q nq => ?_⟩
        exact k _ q m1 v0 (e2.trans (same_upd nq)) upd_same (fm2.same (same_upd nq)) (fs.same (same_upd nq))
end
end K34

namespace K34
open PySem PySem.Spec PyProof.Rows L2 Mth
/-! ### the plain law: what the law's loop reckons, and that it answers as asked -/
structure Sett (L : List Thing) (kvs : List (Key × V)) (s : Nat) : Prop where
  key : KeyD L
  nd : L.Nodup
  len1 : 1 ≤ L.length
  len5 : L.length ≤ 5
  lo : ∀ t ∈ L, 1 ≤ t.w ∧ t.w ≤ 1000
  am : AmI kvs
  s1 : 1 ≤ s
  s3 : s ≤ 3
  sn : s ≤ L.length
def Tt (L : List Thing) : Int := (ws L).sum
def Yt (kvs : List (Key × V)) (L : List Thing) : Int := (amts kvs L).sum
theorem S_ws (l : List Thing) : S l wR = (((ws l).sum : Int) : Rat) := S_int Thing.w l
theorem S_amts (kvs : List (Key × V)) (l : List Thing) : S l (yR kvs) = (((amts kvs l).sum : Int) : Rat) := S_int (fun t => amt kvs t.key) l
section
variable {L : List Thing} {kvs : List (Key × V)} {s : Nat}
theorem Sett.fine (h : Sett L kvs s) : Fine L wR := ⟨h.nd, fun x hx => Rat.intCast_pos.mpr (by have := h.lo x hx; omega)⟩
theorem Sett.tot (h : Sett L kvs s) : (Tt L).natAbs ≤ 5000 := by
  have h1 : (ws L).sum.natAbs ≤ 1000 * (ws L).length := sum_bound fun x hx => by
    obtain ⟨t, ht, rfl⟩ := List.mem_map.mp hx
    have := h.lo t ht
    omega
  have h2 := h.len5
  unfold ws at h1
  rw [List.length_map] at h1
  unfold Tt ws
  omega
theorem good_take {r : Nat} {one : List Thing} (G : Mth.Good L r one) {i : Nat} (hi : i ≤ r) : Mth.Good L i (one.take i) :=
  ⟨G.nd.sublist (List.take_sublist _ _), fun x hx => G.sub x (List.mem_of_mem_take hx), by rw [List.length_take, G.len]; omega⟩
theorem Sett.left_pos (h : Sett L kvs s) {r : Nat} {one : List Thing} (G : Mth.Good L r one) (hr : r < L.length) : 1 ≤ Tt L - (ws one).sum := by
  have := h.fine.left_pos G hr
  rw [S_ws, S_ws, ← Rat.intCast_sub] at this
  have := Rat.intCast_pos.mp this
  unfold Tt
  omega
theorem Sett.whole (h : Sett L kvs s) {one : List Thing} (ho : one ∈ ords L s) : (ws one).sum = Tt L ↔ s = L.length := by
  have G := ords_good ho
  constructor
  · intro e
    by_cases hs : s < L.length
    · have := h.left_pos G hs
      omega
    · have := h.sn
      omega
  · intro e
    have := h.fine.left_zero G e
    rw [S_ws, S_ws, ← Rat.intCast_sub] at this
    have : (ws L).sum - (ws one).sum = 0 := Rat.intCast_inj.mp this
    unfold Tt
    omega
theorem Sett.drawn (h : Sett L kvs s) {one : List Thing} (ho : one ∈ ords L s) : Drawn one (Tt L) := by
  have G := ords_good ho
  refine ⟨⟨by rw [G.len]; exact h.s3, fun t ht => h.lo t (G.sub t ht), h.tot⟩, fun i hi => ?_⟩
  rw [G.len] at hi
  have := h.sn
  exact h.left_pos (good_take G (Nat.le_of_lt hi)) (by omega)
theorem Sett.yt (h : Sett L kvs s) : (Yt kvs L).natAbs ≤ 50 := by
  have := amts_bound h.am L
  have := h.len5
  unfold Yt
  omega
/-! ### the numbers of an order -/
def cO (L one : List Thing) : Rat := ch wR ((Tt L : Int) : Rat) one
def vO (kvs : List (Key × V)) (L one : List Thing) : Rat := match estV kvs (Tt L) one with | none => 0 | some v => v * cO L one
def rowO (kvs : List (Key × V)) (L one : List Thing) : Rat × Rat := (estE kvs (Tt L) one, cO L one)
def eO (kvs : List (Key × V)) (L : List Thing) (k : Nat) (one : List Thing) : Rat := (ordL kvs (Tt L) one).getD k 0 * cO L one
theorem Sett.estE_lt (h : Sett L kvs s) (hs : s < L.length) {one : List Thing} (ho : one ∈ ords L s) : estE kvs (Tt L) one = midR kvs (Tt L) one := by
  unfold estE
  rw [if_neg (fun e => by have := (h.whole ho).mp e; omega)]
theorem Sett.ordL_lt (h : Sett L kvs s) (hs : s < L.length) {one : List Thing} (ho : one ∈ ords L s) : ordL kvs (Tt L) one = ts wR (yR kvs) ((Tt L : Int) : Rat) one := by
  unfold ordL
  rw [if_neg (fun e => by have := (h.whole ho).mp e; omega)]
theorem Sett.estV_lt (h : Sett L kvs s) (hs : s < L.length) {one : List Thing} (ho : one ∈ ords L s) : estV kvs (Tt L) one = if s = 1 then none else some (varR kvs (Tt L) one) := by
  unfold estV
  rw [if_neg (fun e => by have := (h.whole ho).mp e; omega), (ords_good ho).len]
theorem Sett.estE_eq (h : Sett L kvs s) (hs : s = L.length) {one : List Thing} (ho : one ∈ ords L s) : estE kvs (Tt L) one = ((Yt kvs L : Int) : Rat) := by
  unfold estE
  rw [if_pos ((h.whole ho).mpr hs), ← S_amts, whole_amount (yR kvs) h.fine (ords_good ho) hs, S_amts]
  rfl
theorem Sett.estV_eq (h : Sett L kvs s) (hs : s = L.length) {one : List Thing} (ho : one ∈ ords L s) : estV kvs (Tt L) one = some 0 := by
  unfold estV
  rw [if_pos ((h.whole ho).mpr hs)]
theorem Sett.none_iff (h : Sett L kvs s) {one : List Thing} (ho : one ∈ ords L s) : estV kvs (Tt L) one = none ↔ (s = 1 ∧ 1 < L.length) := by
  by_cases hs : s = L.length
  · rw [h.estV_eq hs ho]
    constructor
    · intro e; cases e
    · rintro ⟨a, b⟩; omega
  · have hlt : s < L.length := by have := h.sn; omega
    rw [h.estV_lt hlt ho]
    by_cases h1 : s = 1
    · rw [if_pos h1]
      exact ⟨fun _ => ⟨h1, by omega⟩, fun _ => rfl⟩
    · rw [if_neg h1]
      exact ⟨(fun e => by cases e), fun e => absurd e.1 h1⟩
theorem Sett.ord_len (h : Sett L kvs s) {one : List Thing} (ho : one ∈ ords L s) : 1 ≤ (ordL kvs (Tt L) one).length ∧ (ordL kvs (Tt L) one).length ≤ 3 := by
  unfold ordL
  by_cases e : (ws one).sum = Tt L
  · rw [if_pos e]; exact ⟨Nat.le_refl 1, by show 1 ≤ 3; decide⟩
  · rw [if_neg e, ts_len, (ords_good ho).len]; exact ⟨h.s1, h.s3⟩
/-- the estimate is the mean of the ordered ones -/
theorem Sett.mean_eq (h : Sett L kvs s) {one : List Thing} (ho : one ∈ ords L s) : sm (ordL kvs (Tt L) one) * (((1 : Int) : Rat) / ((((ordL kvs (Tt L) one).length : Nat) : Int) : Rat)) = estE kvs (Tt L) one := by
  unfold ordL estE
  by_cases e : (ws one).sum = Tt L
  · rw [if_pos e, if_pos e]
    show ((((amts kvs one).sum : Int) : Rat) + 0) * (((1 : Int) : Rat) / ((1 : Int) : Rat)) = _
    rw [show ((1 : Int) : Rat) = 1 from rfl]
    grind
  · rw [if_neg e, if_neg e, ts_len]
    unfold midR mid
    rw [show ((1 : Int) : Rat) = 1 from rfl]
    grind
/-! ### the sums -/
theorem sum_swap (l : List (List Thing)) (f : List Thing → Rat) : S l (fun one => f one * cO L one) = S l (fun one => cO L one * f one) := S_congr fun _ _ => by grind
theorem E_is (s : Nat) (f : List Thing → Rat) : S (ords L s) (fun one => f one * cO L one) = E L wR s f := by
  rw [sum_swap]
  unfold E cO
  rw [S_ws]
  rfl
/-- the mean of the estimates is the whole -/
theorem Sett.mid (h : Sett L kvs s) : S (ords L s) (fun one => estE kvs (Tt L) one * cO L one) = ((Yt kvs L : Int) : Rat) := by
  rw [E_is]
  by_cases hs : s = L.length
  · rw [E_congr (g := fun _ => ((Yt kvs L : Int) : Rat)) fun one ho => h.estE_eq hs ho]
    exact E_const h.fine h.sn _
  · have hlt : s < L.length := by have := h.sn; omega
    have e : E L wR s (fun one => estE kvs (Tt L) one) = E L wR s (Mth.mid wR (yR kvs) (S L wR)) := E_congr fun one ho => by
      rw [h.estE_lt hlt ho]
      unfold midR
      rw [S_ws]
      rfl
    rw [e, mid_mean (yR kvs) h.fine h.s1 h.sn, S_amts]
    rfl
/-- each ordered estimate is right in the mean -/
theorem Sett.each (h : Sett L kvs s) (hlt : s < L.length) {k : Nat} (hk : k < s) : S (ords L s) (eO kvs L k) = ((Yt kvs L : Int) : Rat) := by
  have e : S (ords L s) (eO kvs L k) = E L wR s (fun one => (ts wR (yR kvs) (S L wR) one).getD k 0) := by
    rw [← E_is]
    refine S_congr fun one ho => ?_
    unfold eO
    rw [h.ordL_lt hlt ho, S_ws]
    rfl
  rw [e, each_mean (yR kvs) h.fine h.sn k hk, S_amts]
  rfl
/-- the mean of the told variances is the variance of the estimates -/
theorem Sett.told (h : Sett L kvs s) (hn : ¬ (s = 1 ∧ 1 < L.length)) :
    S (ords L s) (vO kvs L) = S (ords L s) (fun one => cO L one * ((estE kvs (Tt L) one - ((Yt kvs L : Int) : Rat)) * (estE kvs (Tt L) one - ((Yt kvs L : Int) : Rat)))) := by
  by_cases hs : s = L.length
  · refine S_congr fun one ho => ?_
    unfold vO
    rw [h.estV_eq hs ho, h.estE_eq hs ho]
    show (0 : Rat) * _ = _
    grind
  · have hlt : s < L.length := by have := h.sn; omega
    have h1 : ¬ s = 1 := fun e => hn ⟨e, by omega⟩
    have e1 : S (ords L s) (vO kvs L) = E L wR s (var wR (yR kvs) (S L wR)) := by
      rw [← E_is]
      refine S_congr fun one ho => ?_
      unfold vO
      rw [h.estV_lt hlt ho, if_neg h1, S_ws]
      rfl
    rw [e1, var_mean (yR kvs) h.fine (by have := h.s1; omega) h.sn]
    unfold E
    refine S_congr fun one ho => ?_
    rw [h.estE_lt hlt ho]
    unfold cO midR
    rw [S_ws, S_amts]
    rfl
end
end K34

namespace K34
open PySem PySem.Spec PyProof.Rows L2 Mth
/-! ### sizes: a common denominator of all that is summed up -/
def prd : List Nat → Nat
  | [] => 1
  | x :: r => x * prd r
theorem prd_pos : ∀ {l : List Nat}, (∀ x ∈ l, 0 < x) → 0 < prd l
  | [], _ => Nat.one_pos
  | x :: r, h => Nat.mul_pos (h x List.mem_cons_self) (prd_pos fun y hy => h y (List.mem_cons_of_mem _ hy))
theorem prd_dvd : ∀ {l : List Nat} {x : Nat}, x ∈ l → ∃ c, prd l = x * c
  | y :: r, x, h => by
    rcases List.mem_cons.mp h with e | e
    · subst e; exact ⟨prd r, rfl⟩
    · obtain ⟨c, hc⟩ := prd_dvd (l := r) e
      exact ⟨y * c, by show y * prd r = _; rw [hc, Nat.mul_left_comm]⟩
theorem prd_le {b : Nat} : ∀ {l : List Nat}, (∀ x ∈ l, x ≤ 2 ^ b) → prd l ≤ 2 ^ (b * l.length)
  | [], _ => by show 1 ≤ 2 ^ (b * 0); exact Nat.le_refl 1
  | x :: r, h => by
    show x * prd r ≤ _
    rw [List.length_cons, Nat.mul_add, Nat.mul_one, Nat.add_comm, Nat.pow_add]
    exact Nat.mul_le_mul (h x List.mem_cons_self) (prd_le fun y hy => h y (List.mem_cons_of_mem _ hy))
theorem S_ge {α : Type} {l : List α} {f : α → Rat} (h : ∀ x ∈ l, 0 < f x) {x : α} (hx : x ∈ l) : f x ≤ S l f := by
  have nn : ∀ {l : List α}, (∀ x ∈ l, 0 < f x) → 0 ≤ S l f := by
    intro l
    induction l with
    | nil => intro _; exact Rat.le_refl
    | cons a r ih =>
      intro h
      rw [S_cons]
      have h1 := h a List.mem_cons_self
      have h2 := ih fun x hx => h x (List.mem_cons_of_mem _ hx)
      grind
  induction l with
  | nil => cases hx
  | cons a r ih =>
    rw [S_cons]
    have h1 := h a List.mem_cons_self
    have h2 := nn fun y hy => h y (List.mem_cons_of_mem _ hy)
    rcases List.mem_cons.mp hx with e | e
    · subst e; grind
    · have := ih (fun y hy => h y (List.mem_cons_of_mem _ hy)) e
      grind
/-- to a greater denominator -/
theorem Dn_to {D c M a b k : Nat} {x : Rat} (h : Dn D (2 ^ a) x) (e : D * c = M) (hc : c ≤ 2 ^ b) (hk : a + b ≤ k) : Dn M (2 ^ k) x := by
  subst e
  refine (h.scale c).mono ?_
  refine Nat.le_trans (Nat.mul_le_mul_left _ hc) ?_
  rw [← Nat.pow_add]
  exact Nat.pow_le_pow_right (by decide) hk
theorem Dn_up {D a b : Nat} {x : Rat} (h : Dn D (2 ^ a) x) (hk : a ≤ b) : Dn D (2 ^ b) x := h.mono (Nat.pow_le_pow_right (by decide) hk)
theorem Dn_add {D a : Nat} {x y : Rat} (h : Dn D (2 ^ a) x) (g : Dn D (2 ^ a) y) : Dn D (2 ^ (a + 1)) (x + y) := (h.add g).mono (by rw [Nat.pow_succ]; omega)
theorem Dn_sub {D a : Nat} {x y : Rat} (h : Dn D (2 ^ a) x) (g : Dn D (2 ^ a) y) : Dn D (2 ^ (a + 1)) (x - y) := (h.sub g).mono (by rw [Nat.pow_succ]; omega)
theorem Dn_mul {D D' a b : Nat} {x y : Rat} (h : Dn D (2 ^ a) x) (g : Dn D' (2 ^ b) y) : Dn (D * D') (2 ^ (a + b)) (x * y) := (h.mul g).mono (by rw [Nat.pow_add]; exact Nat.le_refl _)
/-- a sum of at most 2 ^ n -/
theorem Dn_S {α : Type} {D a n : Nat} {f : α → Rat} {l : List α} (h : ∀ x ∈ l, Dn D (2 ^ a) (f x)) (hn : l.length ≤ 2 ^ n) : Dn D (2 ^ (a + n)) (S l f) :=
  (Dn.S h).mono (by rw [Nat.pow_add, Nat.mul_comm]; exact Nat.mul_le_mul_left _ hn)
theorem sm_S (l : List Rat) : sm l = S l (fun x => x) := by unfold S; rw [List.map_id']
section
variable {L : List Thing} {kvs : List (Key × V)} {s : Nat}
def lft (L one : List Thing) : Nat := (Tt L - (ws one).sum).toNat
def N1 (L : List Thing) : Nat → Nat
  | 0 => 1
  | s + 1 => N1 L s * prd ((ords L s).map (lft L))
def Wp (L : List Thing) : Nat := prd (L.map fun t => t.w.toNat)
theorem Sett.N1_pos (h : Sett L kvs s) : ∀ {r : Nat}, r ≤ L.length → 0 < N1 L r
  | 0, _ => Nat.one_pos
  | r + 1, hr => Nat.mul_pos (h.N1_pos (by omega)) (prd_pos fun x hx => by
      obtain ⟨one, ho, rfl⟩ := List.mem_map.mp hx
      have := h.left_pos (ords_good ho) (by omega)
      unfold lft
      omega)
theorem ws_bound {l : List Thing} (h : ∀ t ∈ l, 1 ≤ t.w ∧ t.w ≤ 1000) : 0 ≤ (ws l).sum := by
  unfold ws
  induction l with
  | nil => exact Int.le_refl 0
  | cons a r ih =>
    have h1 := h a List.mem_cons_self
    have h2 := ih fun t ht => h t (List.mem_cons_of_mem _ ht)
    rw [List.map_cons, List.sum_cons]
    omega
theorem Sett.lft_le (h : Sett L kvs s) {r : Nat} {one : List Thing} (ho : one ∈ ords L r) : lft L one ≤ 2 ^ 13 := by
  have h1 := h.tot
  have h2 := ws_bound (l := one) fun t ht => h.lo t ((ords_good ho).sub t ht)
  unfold lft
  omega
theorem Sett.N1_le (h : Sett L kvs s) : N1 L s ≤ 2 ^ 403 := by
  have step : ∀ r, prd ((ords L r).map (lft L)) ≤ 2 ^ (13 * (ords L r).length) := fun r => by
    have := prd_le (b := 13) (l := (ords L r).map (lft L)) fun x hx => by
      obtain ⟨one, ho, rfl⟩ := List.mem_map.mp hx
      exact h.lft_le ho
    rw [List.length_map] at this
    exact this
  have len : ∀ r, (ords L r).length ≤ 5 ^ r := fun r => Nat.le_trans (ords_len L r) (Nat.pow_le_pow_left h.len5 r)
  have st : ∀ r b, (ords L r).length ≤ b → prd ((ords L r).map (lft L)) ≤ 2 ^ (13 * b) := fun r b hb =>
    Nat.le_trans (step r) (Nat.pow_le_pow_right (by decide) (Nat.mul_le_mul_left _ hb))
  have m : ∀ {x y a b : Nat}, x ≤ 2 ^ a → y ≤ 2 ^ b → x * y ≤ 2 ^ (a + b) := fun h1 h2 => by
    rw [Nat.pow_add]; exact Nat.mul_le_mul h1 h2
  have n0 : N1 L 0 ≤ 2 ^ 0 := Nat.le_refl 1
  have n1 : N1 L 1 ≤ 2 ^ (0 + 13 * 1) := m n0 (st 0 1 (len 0))
  have n2 : N1 L 2 ≤ 2 ^ (0 + 13 * 1 + 13 * 5) := m n1 (st 1 5 (len 1))
  have n3 : N1 L 3 ≤ 2 ^ (0 + 13 * 1 + 13 * 5 + 13 * 25) := m n2 (st 2 25 (len 2))
  have h3 := h.s3
  obtain rfl | rfl | rfl | rfl : s = 0 ∨ s = 1 ∨ s = 2 ∨ s = 3 := by omega
  · exact Nat.le_trans n0 (Nat.pow_le_pow_right (by decide) (by decide))
  · exact Nat.le_trans n1 (Nat.pow_le_pow_right (by decide) (by decide))
  · exact Nat.le_trans n2 (Nat.pow_le_pow_right (by decide) (by decide))
  · exact Nat.le_trans n3 (Nat.pow_le_pow_right (by decide) (by decide))
/-- the chances of the orders -/
theorem Sett.ch_Dn (h : Sett L kvs s) : ∀ {r : Nat}, r ≤ L.length → ∀ {one : List Thing}, one ∈ ords L r → Dn (N1 L r) (N1 L r) (cO L one)
  | 0, _, one, ho => by
    have e : one = [] := by simpa [ords] using ho
    subst e
    exact Dn.int 1
  | r + 1, hr, one', ho => by
    obtain ⟨one, ho1, h1⟩ := List.mem_flatMap.mp (show one' ∈ (ords L r).flatMap (ext L) from ho)
    obtain ⟨x, hx, rfl⟩ := List.mem_map.mp h1
    have G := ords_good ho1
    have hl := h.left_pos G (by omega)
    have hxL := (mem_out.mp hx).1
    have hw := h.lo x hxL
    obtain ⟨z, ez, hz⟩ := h.ch_Dn (r := r) (by omega) ho1
    obtain ⟨c, hc⟩ := prd_dvd (List.mem_map.mpr ⟨one, ho1, rfl⟩ : lft L one ∈ (ords L r).map (lft L))
    have el : ((lft L one : Nat) : Int) = Tt L - (ws one).sum := by unfold lft; omega
    have hle : x.w ≤ Tt L - (ws one).sum := by
      have := S_ge (l := out L one) (f := wR) (fun y hy => h.fine.pos y (mem_out.mp hy).1) hx
      rw [h.fine.left G, S_ws, S_ws, ← Rat.intCast_sub] at this
      have := Rat.intCast_le_intCast.mp this
      unfold Tt
      omega
    have ech : cO L (one ++ [x]) = cO L one * (((x.w : Int) : Rat) / (((lft L one : Nat) : Int) : Rat)) := by
      unfold cO
      rw [ch_snoc, S_ws, ← Rat.intCast_sub, el]
    refine ⟨z * (x.w * c), ?_, ?_⟩
    · show cO L (one ++ [x]) * (((N1 L r * prd ((ords L r).map (lft L)) : Nat) : Int) : Rat) = _
      have hp : (0 : Rat) < (((lft L one : Nat) : Int) : Rat) := Rat.intCast_pos.mpr (by omega)
      rw [hc, ech, Int.natCast_mul, Int.natCast_mul, Rat.intCast_mul, Rat.intCast_mul, Rat.intCast_mul, Rat.intCast_mul, ← ez]
      grind
    · show _ ≤ N1 L r * prd ((ords L r).map (lft L))
      rw [hc, Int.natAbs_mul, Int.natAbs_mul, Int.natAbs_natCast]
      refine Nat.mul_le_mul hz (Nat.mul_le_mul_right _ ?_)
      unfold lft
      omega
/-! the estimates -/
theorem Sett.Wp_pos (h : Sett L kvs s) : 0 < Wp L := prd_pos fun x hx => by
  obtain ⟨t, ht, rfl⟩ := List.mem_map.mp hx
  have := h.lo t ht
  omega
theorem Sett.Wp_le (h : Sett L kvs s) : Wp L ≤ 2 ^ 50 := by
  have := prd_le (b := 10) (l := L.map fun t => t.w.toNat) fun x hx => by
    obtain ⟨t, ht, rfl⟩ := List.mem_map.mp hx
    have := h.lo t ht
    omega
  rw [List.length_map] at this
  exact Nat.le_trans this (Nat.pow_le_pow_right (by decide) (by have := h.len5; omega))
theorem Sett.one_Dn (h : Sett L kvs s) {b a l : Int} {x : Thing} (hx : x ∈ L) (hb : b.natAbs ≤ 40) (ha : a.natAbs ≤ 10) (hl : l.natAbs ≤ 8000) :
    Dn (Wp L) (2 ^ 67) ((b : Rat) + ((a * l : Int) : Rat) / ((x.w : Int) : Rat)) := by
  obtain ⟨c, hc⟩ := prd_dvd (List.mem_map.mpr ⟨x, hx, rfl⟩ : x.w.toNat ∈ L.map fun t => t.w.toNat)
  have hw := h.lo x hx
  have ew : ((x.w.toNat : Nat) : Int) = x.w := by omega
  have hp : (0 : Rat) < ((x.w : Int) : Rat) := Rat.intCast_pos.mpr (by omega)
  have hW := h.Wp_le
  have hcW : c ≤ Wp L := by
    unfold Wp
    rw [hc]
    exact Nat.le_mul_of_pos_left _ (by omega)
  refine ⟨b * (Wp L : Int) + a * l * c, ?_, ?_⟩
  · have e : ((Wp L : Nat) : Int) = x.w * c := by unfold Wp; rw [hc, Int.natCast_mul, ew]
    rw [Rat.intCast_add, Rat.intCast_mul, Rat.intCast_mul, Rat.intCast_mul, e, Rat.intCast_mul]
    grind
  · have h1 : (b * (Wp L : Int)).natAbs ≤ 40 * 2 ^ 50 := by
      rw [Int.natAbs_mul, Int.natAbs_natCast]
      exact Nat.mul_le_mul hb hW
    have h2 : (a * l * c).natAbs ≤ 10 * 8000 * 2 ^ 50 := by
      rw [Int.natAbs_mul, Int.natAbs_mul, Int.natAbs_natCast]
      exact Nat.mul_le_mul (Nat.mul_le_mul ha hl) (Nat.le_trans hcW hW)
    have h3 := Int.natAbs_add_le (b * (Wp L : Int)) (a * l * c)
    omega
theorem Sett.ts_Dn (h : Sett L kvs s) {one : List Thing} (ho : one ∈ ords L s) (i : Nat) : ∀ x ∈ ts wR (yR kvs) ((Tt L : Int) : Rat) (one.take i), Dn (Wp L) (2 ^ 67) x := by
  have hk := (h.drawn ho).kept
  induction i with
  | zero => intro x hx; simp [ts, tsT] at hx
  | succ i ih =>
    intro x hx
    cases e : one[i]? with
    | none =>
      have h1 : one.length ≤ i := List.getElem?_eq_none_iff.mp e
      rw [List.take_of_length_le (by omega)] at hx
      rw [List.take_of_length_le h1] at ih
      exact ih x hx
    | some t =>
      rw [take_more e, ts_snoc] at hx
      rcases List.mem_append.mp hx with q | q
      · exact ih x q
      · have q := List.mem_singleton.mp q
        subst q
        rw [S_int, S_int, ← Rat.intCast_sub, ← Rat.intCast_mul]
        have h1 := amts_bound h.am (one.take i)
        unfold amts at h1
        rw [List.length_take] at h1
        have h2 := hk.len
        exact h.one_Dn ((ords_good ho).sub t (List.mem_of_getElem? e)) (by omega) (h.am.le _) (hk.left i)
theorem Sett.tsA (h : Sett L kvs s) {one : List Thing} (ho : one ∈ ords L s) : ∀ x ∈ ts wR (yR kvs) ((Tt L : Int) : Rat) one, Dn (Wp L) (2 ^ 67) x := by
  have := h.ts_Dn ho one.length
  rw [List.take_length] at this
  exact this
def W6 (L : List Thing) : Nat := Wp L * 6
def MM (L : List Thing) : Nat := W6 L * W6 L * 6
theorem Sett.mid_Dn (h : Sett L kvs s) {one : List Thing} (ho : one ∈ ords L s) : Dn (W6 L) (2 ^ 72) (midR kvs (Tt L) one) := by
  have G := ords_good ho
  have h1 : Dn (Wp L) (2 ^ (67 + 2)) (sm (ts wR (yR kvs) ((Tt L : Int) : Rat) one)) := by
    rw [sm_S]
    exact Dn_S (h.tsA ho) (by rw [ts_len, G.len]; have := h.s3; omega)
  unfold midR Mth.mid
  rw [G.len]
  have s1 := h.s1
  have s3 := h.s3
  obtain ⟨d, hd, hd6⟩ : ∃ d, s * d = 6 ∧ d ≤ 2 ^ 3 := by
    obtain rfl | rfl | rfl : s = 1 ∨ s = 2 ∨ s = 3 := by omega
    · exact ⟨6, rfl, by decide⟩
    · exact ⟨3, rfl, by decide⟩
    · exact ⟨2, rfl, by decide⟩
  have h2 := h1.over (c := s) (d := d) (by omega)
  rw [hd] at h2
  refine h2.mono ?_
  exact Nat.le_trans (Nat.mul_le_mul_left _ hd6) (by rw [← Nat.pow_add]; exact Nat.pow_le_pow_right (by decide) (by decide))
theorem Sett.sq_Dn (h : Sett L kvs s) {one : List Thing} (ho : one ∈ ords L s) {x : Rat} (hx : Dn (W6 L) (2 ^ 72) x) : Dn (W6 L * W6 L) (2 ^ 146) ((x - midR kvs (Tt L) one) * (x - midR kvs (Tt L) one)) := by
  have := Dn_sub hx (h.mid_Dn ho)
  exact Dn_mul this this
theorem Sett.var_Dn (h : Sett L kvs s) (h2 : 2 ≤ s) {one : List Thing} (ho : one ∈ ords L s) : Dn (MM L) (2 ^ 151) (varR kvs (Tt L) one) := by
  have G := ords_good ho
  have h1 : Dn (W6 L * W6 L) (2 ^ (146 + 2)) (spr (ts wR (yR kvs) ((Tt L : Int) : Rat) one) (midR kvs (Tt L) one)) := by
    unfold spr
    refine Dn_S (l := ts wR (yR kvs) ((Tt L : Int) : Rat) one) (f := fun t => (t - midR kvs (Tt L) one) * (t - midR kvs (Tt L) one)) (fun x hx => h.sq_Dn ho ?_) (by rw [ts_len, G.len]; have := h.s3; omega)
    exact Dn_to (h.tsA ho x hx) rfl (by decide : 6 ≤ 2 ^ 3) (by decide)
  unfold varR Mth.var
  rw [G.len]
  have s3 := h.s3
  have fin : ∀ {c d : Nat}, 0 < c → c * d = 6 → d ≤ 2 ^ 3 → Dn (MM L) (2 ^ 151) (spr (ts wR (yR kvs) ((Tt L : Int) : Rat) one) (midR kvs (Tt L) one) / ((c : Int) : Rat)) := by
    intro c d hc hd hd3
    have h2 := h1.over (c := c) (d := d) hc
    rw [hd] at h2
    refine h2.mono ?_
    exact Nat.le_trans (Nat.mul_le_mul_left _ hd3) (by rw [← Nat.pow_add]; exact Nat.pow_le_pow_right (by decide) (by decide))
  obtain rfl | rfl : s = 2 ∨ s = 3 := by omega
  · exact fin (c := 2) (d := 3) (by decide) rfl (by decide)
  · exact fin (c := 6) (d := 1) (by decide) rfl (by decide)
/-- all at the one denominator -/
theorem Dn_ch (h : Sett L kvs s) {one : List Thing} (ho : one ∈ ords L s) : Dn (N1 L s) (2 ^ 403) (cO L one) := (h.ch_Dn h.sn ho).mono h.N1_le
def DD (L : List Thing) (s : Nat) : Nat := MM L * N1 L s
theorem Sett.DD_pos (h : Sett L kvs s) : 0 < DD L s :=
  Nat.mul_pos (Nat.mul_pos (Nat.mul_pos (Nat.mul_pos h.Wp_pos (by decide)) (Nat.mul_pos h.Wp_pos (by decide))) (by decide)) (h.N1_pos h.sn)
theorem Sett.W6_le (h : Sett L kvs s) : W6 L ≤ 2 ^ 53 := by
  unfold W6
  have := h.Wp_le
  omega
theorem Sett.MM_le (h : Sett L kvs s) : MM L ≤ 2 ^ 109 := by
  have h1 := Nat.mul_le_mul h.W6_le h.W6_le
  unfold MM
  omega
theorem Sett.DD_lt (h : Sett L kvs s) : DD L s < 2 ^ 600 := by
  have h1 := Nat.mul_le_mul h.MM_le h.N1_le
  rw [← Nat.pow_add] at h1
  exact Nat.lt_of_le_of_lt h1 (Nat.pow_lt_pow_right (by decide) (by decide))
/-- a term with an M-sized factor -/
theorem Sett.term (h : Sett L kvs s) {one : List Thing} (ho : one ∈ ords L s) {x : Rat} (hx : Dn (MM L) (2 ^ 180) x) : Dn (DD L s) (2 ^ 583) (x * cO L one) := Dn_mul hx (Dn_ch h ho)
/-- any partial sum of such terms is small -/
theorem Sett.part (h : Sett L kvs s) {f : List Thing → Rat} (hf : ∀ one ∈ ords L s, Dn (DD L s) (2 ^ 583) (f one)) (i : Nat) : Sm 900 (S ((ords L s).take i) f) := by
  have h1 : Dn (DD L s) (2 ^ (583 + 7)) (S ((ords L s).take i) f) := Dn_S (fun x hx => hf x (List.mem_of_mem_take hx)) (by
    rw [List.length_take]
    have := ords_len5 h.len5 h.s3
    omega)
  exact (h1.sm (k := 600) h.DD_pos h.DD_lt (Nat.pow_lt_pow_right (by decide) (by decide))).mono (by decide)
theorem int_Dn (h : Sett L kvs s) {n : Int} (hn : n.natAbs ≤ 50) : Dn (W6 L) (2 ^ 72) (n : Rat) := by
  have h1 : Dn 1 (2 ^ 6) (n : Rat) := (Dn.int n).mono (by omega)
  exact Dn_to (c := W6 L) h1 (by rw [Nat.one_mul]) h.W6_le (by decide)
theorem Sett.toM (h : Sett L kvs s) {x : Rat} (hx : Dn (W6 L) (2 ^ 72) x) : Dn (MM L) (2 ^ 180) x :=
  Dn_to (c := W6 L * 6) (b := 56) hx (by unfold MM; rw [Nat.mul_assoc]) (by have := h.W6_le; omega) (by decide)
theorem Sett.estE_Dn (h : Sett L kvs s) {one : List Thing} (ho : one ∈ ords L s) : Dn (W6 L) (2 ^ 72) (estE kvs (Tt L) one) := by
  by_cases hs : s = L.length
  · rw [h.estE_eq hs ho]
    exact int_Dn h h.yt
  · rw [h.estE_lt (by have := h.sn; omega) ho]
    exact h.mid_Dn ho
theorem Sett.e_term (h : Sett L kvs s) : ∀ one ∈ ords L s, Dn (DD L s) (2 ^ 583) (estE kvs (Tt L) one * cO L one) := fun one ho => h.term ho (h.toM (h.estE_Dn ho))
theorem Sett.sp_term (h : Sett L kvs s) : ∀ one ∈ ords L s, Dn (DD L s) (2 ^ 583) (cO L one * ((estE kvs (Tt L) one - ((Yt kvs L : Int) : Rat)) * (estE kvs (Tt L) one - ((Yt kvs L : Int) : Rat)))) := fun one ho => by
  have h1 := Dn_sub (h.estE_Dn ho) (int_Dn h h.yt)
  have h2 : Dn (MM L) (2 ^ 180) _ := Dn_to (c := 6) (b := 3) (Dn_mul h1 h1) rfl (by decide) (by decide)
  have h3 := h.term ho h2
  rw [Rat.mul_comm] at h3
  exact h3
theorem Sett.v_term (h : Sett L kvs s) : ∀ one ∈ ords L s, Dn (DD L s) (2 ^ 583) (vO kvs L one) := fun one ho => by
  have z : Dn (DD L s) (2 ^ 583) 0 := (Dn.zero _).mono (Nat.zero_le _)
  unfold vO
  by_cases hs : s = L.length
  · rw [h.estV_eq hs ho]
    show Dn _ _ ((0 : Rat) * _)
    rw [Rat.zero_mul]
    exact z
  · rw [h.estV_lt (by have := h.sn; omega) ho]
    by_cases h1 : s = 1
    · rw [if_pos h1]
      exact z
    · rw [if_neg h1]
      exact h.term ho (Dn_up (h.var_Dn (by have := h.s1; omega) ho) (by decide))
theorem Sett.k_term (h : Sett L kvs s) (hs : s < L.length) (k : Nat) : ∀ one ∈ ords L s, Dn (DD L s) (2 ^ 583) (eO kvs L k one) := fun one ho => by
  unfold eO
  rw [h.ordL_lt hs ho]
  refine h.term ho (h.toM ?_)
  by_cases hk : k < (ts wR (yR kvs) ((Tt L : Int) : Rat) one).length
  · rw [List.getD_eq_getElem?_getD, List.getElem?_eq_getElem hk]
    exact Dn_to (h.tsA ho _ (List.getElem_mem hk)) rfl (by decide : 6 ≤ 2 ^ 3) (by decide)
  · rw [List.getD_eq_getElem?_getD, List.getElem?_eq_none (by omega)]
    exact (Dn.zero _).mono (Nat.zero_le _)
/-! ### what the walk asks -/
theorem Sett.c_Sm (h : Sett L kvs s) {one : List Thing} (ho : one ∈ ords L s) : Sm 40 (cO L one) := by
  have h1 := ch_Sm (h.drawn ho) one.length
  rw [List.take_length] at h1
  have := (h.drawn ho).kept.len
  exact h1.mono (by omega)
theorem Sett.e_Sm (h : Sett L kvs s) {one : List Thing} (ho : one ∈ ords L s) : Sm 80 (estE kvs (Tt L) one) := by
  by_cases hs : s = L.length
  · rw [h.estE_eq hs ho]
    have := h.yt
    exact sm_int (by omega)
  · rw [h.estE_lt (by have := h.sn; omega) ho]
    have := h.s1
    exact mid_Sm (h.drawn ho).kept h.am (by rw [(ords_good ho).len]; omega)
theorem Sett.o_Sm (h : Sett L kvs s) {one : List Thing} (ho : one ∈ ords L s) : ∀ x ∈ ordL kvs (Tt L) one, Sm 24 x := by
  unfold ordL
  by_cases e : (ws one).sum = Tt L
  · rw [if_pos e]
    intro x hx
    rw [List.mem_singleton.mp hx]
    have h1 := amts_bound h.am one
    have h2 := (h.drawn ho).kept.len
    exact sm_int (by omega)
  · rw [if_neg e]
    have := ts_Sm (h.drawn ho).kept h.am one.length
    rw [List.take_length] at this
    exact this
theorem Sett.v_Sm (h : Sett L kvs s) {one : List Thing} (ho : one ∈ ords L s) {v : Rat} (hv : estV kvs (Tt L) one = some v) : Sm 650 v := by
  unfold estV at hv
  by_cases e : (ws one).sum = Tt L
  · rw [if_pos e] at hv
    rw [← Option.some.inj hv]
    exact sm_zero.mono (by decide)
  · rw [if_neg e] at hv
    by_cases h1 : one.length = 1
    · rw [if_pos h1] at hv; cases hv
    · rw [if_neg h1] at hv
      rw [← Option.some.inj hv]
      have := h.s1
      exact var_Sm (h.drawn ho).kept h.am (by rw [(ords_good ho).len] at h1 ⊢; omega)
def rowsO (kvs : List (Key × V)) (L : List Thing) (l : List (List Thing)) : List (Rat × Rat) := l.map (rowO kvs L)
theorem Sett.mom_mid (h : Sett L kvs s) : midM (rowsO kvs L (ords L s)) = ((Yt kvs L : Int) : Rat) := by
  rw [← h.mid]
  unfold midM rowsO
  rw [List.map_map]
  rfl
theorem mom_spr (m : Rat) (l : List (List Thing)) : sprM (rowsO kvs L l) m = S l (fun one => cO L one * ((estE kvs (Tt L) one - m) * (estE kvs (Tt L) one - m))) := by
  unfold sprM rowsO
  rw [List.map_map]
  rfl
theorem Sett.mom (h : Sett L kvs s) : MomOk (rowsO kvs L (ords L s)) := by
  refine ⟨?_, ?_, ?_, ?_, ?_, ?_⟩
  · unfold rowsO
    rw [List.length_map]
    have := ords_len5 h.len5 h.s3
    omega
  · intro p hp
    obtain ⟨one, ho, rfl⟩ := List.mem_map.mp hp
    exact (h.e_Sm ho).mono (by decide)
  · intro p hp
    obtain ⟨one, ho, rfl⟩ := List.mem_map.mp hp
    exact (h.c_Sm ho).mono (by decide)
  · rw [h.mom_mid]
    have := h.yt
    exact sm_int (by omega)
  · intro i
    have := h.part h.e_term i
    unfold rowsO
    rw [List.map_map, ← List.map_take]
    exact this
  · intro i
    rw [h.mom_mid]
    have := h.part h.sp_term i
    unfold rowsO
    rw [← List.map_take, List.map_map]
    exact this
end
end K34

namespace K34
open PySem PySem.Spec PyProof.Rows L2 Mth
open C8 (pss_cut)
/-! ### fractions and lists as data that are compared -/
def frD (x : Rat) : PyData := .tuple [.int x.num, .int ((x.den : Nat) : Int)]
theorem fr_dp {K : PySem.W.Frag} {H : Hp} {v : V} {x : Rat} (h : FR K H v x) : Dp K H v (frD x) := by
  obtain ⟨a, rfl, h⟩ := h
  exact .tup h (.cons (.int _) (.cons (.int _) .nil))
theorem frD_shaped (x : Rat) : SeqAt.shaped (frD x) = true := by
  refine Bool.and_eq_true_iff.mpr ⟨by simp [frD, PyData.canLay0, PyData.canLayAll0], decide_eq_true ?_⟩
  simp [frD, PyData.depth, PyData.depthAll]
theorem frD_refl (x : Rat) : PyData.eqv (frD x) (frD x) = true := by simp [frD, PyData.eqv, PyData.eqvAll]
theorem ths_refl (l : List Thing) : PyData.eqv (.list (l.map thD)) (.list (l.map thD)) = true := by
  have h : ∀ l : List Thing, PyData.eqvAll (l.map thD) (l.map thD) = true := by
    intro l
    induction l with
    | nil => simp [PyData.eqvAll]
    | cons a r ih =>
      rw [List.map_cons]
      simp only [PyData.eqvAll, thD_refl, ih, Bool.and_self]
  simp only [PyData.eqv]
  exact h l
theorem ifNE {b : Bool} {A B : Prop} (hb : b = true) (h : B) : if (!b) = true then A else B := by
  rw [hb]
  exact iteF h
theorem ifD {c d : Prop} [Decidable c] [Decidable d] (e : c ↔ d) : V.bl (decide c) = V.bl (decide d) := by
  by_cases h : d
  · rw [decide_eq_true h, decide_eq_true (e.mpr h)]
  · rw [decide_eq_false h, decide_eq_false fun x => h (e.mp x)]
theorem sql_upd {K : PySem.W.Frag} {H : Hp} {a o : Addr} {xs : List V} {u : HO} (h : SqL K H a xs) (ho : a ≠ o) : SqL K (upd H o u) a xs := by
  rcases h with (h | ⟨ob, h⟩) | h
  · exact .inl (.inl (by rw [upd_ne ho]; exact h))
  · exact .inl (.inr ⟨ob, by rw [upd_ne ho]; exact h⟩)
  · exact .inr h
theorem one_frac {n : Int} (hn : 1 ≤ n) : (((1 : Int) : Rat) / ((n : Int) : Rat)).num = 1 ∧ ((((((1 : Int) : Rat) / ((n : Int) : Rat)).den : Nat)) : Int) = n := by
  rw [frac_num 1 (by omega), frac_den 1 (by omega)]
  have : Nat.gcd (1 : Int).natAbs n.natAbs = 1 := Nat.gcd_one_left _
  rw [this]
  exact ⟨rfl, Int.ediv_one n⟩
/-- the sum over all orders so far of the k-th ordered estimate; nothing where all items are kept -/
def eG (kvs : List (Key × V)) (L : List Thing) (s k : Nat) (one : List Thing) : Rat := if s < L.length then eO kvs L k one else 0
def eachL (kvs : List (Key × V)) (L : List Thing) (s : Nat) (l : List (List Thing)) : List Rat := (List.range s).map fun k => S l (eG kvs L s k)
theorem S_take {α : Type} {l : List α} {i : Nat} {x : α} (f : α → Rat) (h : l[i]? = some x) : S (l.take (i + 1)) f = S (l.take i) f + f x := by rw [take_more h, S_snoc]
theorem eachL_len (kvs : List (Key × V)) (L : List Thing) (s : Nat) (l : List (List Thing)) : (eachL kvs L s l).length = s := by
  unfold eachL
  rw [List.length_map, List.length_range]
theorem eachL_get (kvs : List (Key × V)) (L : List Thing) (s : Nat) (l : List (List Thing)) {k : Nat} (hk : k < s) : (eachL kvs L s l)[k]? = some (S l (eG kvs L s k)) := by
  unfold eachL
  rw [List.getElem?_map, List.getElem?_range hk]
  rfl
theorem at_some {xs : List V} {k : Nat} {v : V} (h : xs[k]? = some v) : atI xs ((0 : Int) + (k : Int)) = some v := by
  rw [Int.zero_add]
  exact atI_nat h
theorem frs_get {K : PySem.W.Frag} {H : Hp} {as : List V} {xs : List Rat} (p : Paired (FR K H) as xs) {k : Nat} {x : Rat} (h : xs[k]? = some x) : ∃ v, as[k]? = some v ∧ FR K H v x := by
  have hk : k < xs.length := (List.getElem?_eq_some_iff.mp h).1
  have hk2 : k < as.length := by rw [paired_len p]; exact hk
  obtain ⟨y, hy, f⟩ := paired_get p (List.getElem?_eq_getElem hk2)
  rw [h] at hy
  cases hy
  exact ⟨_, List.getElem?_eq_getElem hk2, f⟩
theorem made_nd {L : List Thing} (h : Made L) (h5 : L.length ≤ 5) : KeyD L ∧ L.Nodup := by
  have at_ : ∀ t ∈ L, ∃ j, j < L.length ∧ L[j]? = some t := fun t ht => by
    obtain ⟨j, hj, e⟩ := List.mem_iff_getElem.mp ht
    exact ⟨j, hj, by rw [← e]; exact List.getElem?_eq_getElem hj⟩
  refine ⟨⟨fun t ht u hu e => ?_, fun t ht => ?_⟩, ?_⟩
  · obtain ⟨i, hi, ei⟩ := at_ t ht
    obtain ⟨j, hj, ej⟩ := at_ u hu
    rw [h.key i t ei, h.key j u ej] at e
    have := key_inj i j (by omega) (by omega) e
    subst this
    rw [ei] at ej
    exact Option.some.inj ej
  · obtain ⟨i, hi, ei⟩ := at_ t ht
    refine ⟨?_, ?_⟩
    · rw [h.key i t ei]
      have : ∀ i : Fin 5, PyData.strOk (keyOf i.1) = true := by decide +kernel
      exact this ⟨i, by omega⟩
    · rcases h.grp t ht with e | e
      · rw [e]; decide +kernel
      · rw [e]; decide +kernel
  · show List.Pairwise (· ≠ ·) L
    rw [List.pairwise_iff_getElem]
    intro i j hi hj hij e
    have e1 := h.key i _ (List.getElem?_eq_getElem hi)
    have e2 := h.key j _ (List.getElem?_eq_getElem hj)
    rw [e, e2] at e1
    have := key_inj j i (by omega) (by omega) e1
    omega
/-- what the loop holds, behind the orders l: the rows at o, what was told at v, the sums of the ordered estimates at each -/
structure Loop (K : PySem.W.Frag) (H : Hp) (kvs : List (Key × V)) (L : List Thing) (s : Nat) (o each : Addr) (v : V) (l : List (List Thing)) : Prop where
  ne : each ≠ o
  rows : RowsAt K H o (rowsO kvs L l)
  told : FR K H v (S l (vO kvs L))
  each : ∃ es : List V, H each = some (.lst es) ∧ Paired (FR K H) es (eachL kvs L s l)
section
variable {P : Program} {w : World} {K : PySem.W.Frag} {mg : Str → Option Value} {base : Heap} {C : Addr}
def spLaw (K : PySem.W.Frag) : Sp := fun vs H Q _ => ∃ (a : Addr) (ns : List Int), vs = [.ref a] ∧ SqL K H a (ns.map V.int) ∧ ns.length ≤ 63 ∧ ∀ H', Q (.bl true) H'
abbrev lawN : List Str := ["_law_script", "_law_row", "_law_things", "_law_amounts_here", "_law_size", "_law_total", "_law_many", "_law_rows", "_law_told", "_law_each", "_law_kept", "_law_chance", "_law_sample", "_law_answer", "_law_numbers_here", "_law_middle", "_law_spread", "_law_whole", "_law_item", "_law_k", "_law_one"]
theorem sc_law : FnScope lawN ["_law_script"] (defScope s_law) := ⟨rfl, rfl, rfl, by decide +kernel, rfl, by decide +kernel, by decide +kernel⟩
theorem law_ok (T : Txt K mg C) {f : Addr} {fd : FuncData} (F : Fun K "law" "law" s_law f fd) : FnOk P w K mg base CX0 8 f fd ["_law_script"] (spLaw K) := by
  obtain ⟨U, O, fI, fdI, WT⟩ := T.wt
  have GI := ok_init (P := P) (w := w) (base := base) T WT
  obtain ⟨fN, fdN, GN, mN, kN, bN⟩ := k__law_numbers (P := P) (w := w) (base := base) T
  obtain ⟨fT, fdT, GT, mT, kT, bT⟩ := k__law_take (P := P) (w := w) (base := base) T
  obtain ⟨fIt, fdIt, GIt, mIt, kIt, bIt⟩ := k__law_items (P := P) (w := w) (base := base) T
  obtain ⟨fA, fdA, GA, mA, kA, bA⟩ := k__law_amounts (P := P) (w := w) (base := base) T
  obtain ⟨fO, fdO, GO, mO, kO, bO⟩ := k__law_orders (P := P) (w := w) (base := base) T
  obtain ⟨fC, fdC, GC, mC, kC, bC⟩ := k__law_order_chance (P := P) (w := w) (base := base) T
  obtain ⟨fE, fdE, GE, mE, kE, bE⟩ := k_estimate (P := P) (w := w) (base := base) T
  obtain ⟨fR, fdR, GR, mR, kR, bR⟩ := k_ordered (P := P) (w := w) (base := base) T
  obtain ⟨fW, fdW, GW, mW, kW, bW⟩ := k_is_whole (P := P) (w := w) (base := base) T
  obtain ⟨fP, fdP, GP, mP, kP, bP⟩ := k__law_plus (P := P) (w := w) (base := base) T
  obtain ⟨fX, fdX, GX, mX, kX, bX⟩ := k__law_times (P := P) (w := w) (base := base) T
  obtain ⟨fS, fdS, GS, mS, kS, bS⟩ := k__law_sum (P := P) (w := w) (base := base) T
  obtain ⟨fM, fdM, GM, mM, kM, bM⟩ := k__law_moments (P := P) (w := w) (base := base) T
  obtain ⟨fY, fdY, GY, mY, kY, bY⟩ := k__law_true (P := P) (w := w) (base := base) T
  refine F.ok sc_law (fun vs H Q E h => ?_) (fun cdv A outer s0 H vs Q E hr h => ?_)
  · obtain ⟨a, ns, rfl, _⟩ := h
    rfl
  · obtain ⟨a, ns, rfl, hS, hlen, k⟩ := h
    have nd := sc_law.nd
    have hr1 : Room 1 _ := hr.mono (by decide)
    have hr2 : Room 2 _ := hr.mono (by decide)
    have hr3 : Room 3 _ := hr.mono (by decide)
    have hr4 : Room 4 _ := hr.mono (by decide)
    have hr6 : Room 6 _ := hr.mono (by decide)
    refine ⟨_, pss_cons (ps_set (i := 1) nd rfl (Or.inl rfl) (pe_call GN hr2 rfl mN kN bN .nil pass0 (pa_cons (pv 0) (pa_cons pe_int pa_nil))))
      (pss_cons (ps_set (i := 2) nd rfl (Or.inl rfl) (pe_call GIt hr2 rfl mIt kIt bIt .nil pass0 (pa_cons (pv 1) (pa_cons (pe_op op_add pe_int (pe_call GT hr1 rfl mT kT bT .nil pass0 (pa_cons (pv 1) (pa_cons pe_int pa_nil)))) pa_nil))))
      (pss_cons (ps_set (i := 3) nd rfl (Or.inl rfl) (pe_call GA hr2 rfl mA kA bA .nil pass0 (pa_cons (pv 1) (pa_cons (pv 2) pa_nil))))
      (pss_cons (ps_set (i := 4) nd rfl (Or.inl rfl) (pe_op op_add pe_int (pe_call GT hr1 rfl mT kT bT .nil pass0 (pa_cons (pv 1) (pa_cons pe_int pa_nil)))))
      (pss_cons (ps_set (i := 5) nd rfl (Or.inl rfl) (pe_callB (cr_sum rfl) (by rfl) T.sum (by decide +kernel) (pa_cons
        (pe_lc (own := [("_law_item", 18)]) (g := gName 18) (by rfl) nd (pi_list (pv 2)) (blkOk_by (own := [("_law_item", 18)]) (N := lawN) (sc := defScope s_law) (by decide +kernel))
          (fun _ _ _ _ _ => pg_name (i := 18) nd rfl (Or.inl rfl)) (fun _ _ _ _ _ => pts_nil) (fun _ _ _ _ _ => pe_ix (r := rIxT K) ix_tup (pv 18) pe_int (fun _ _ => rfl))) pa_nil)))
      (pss_cons (ps_set (i := 6) nd rfl (Or.inl rfl) (pe_callB (call_min2 rfl) (by rfl) T.min (by decide +kernel) (pa_cons (pv 4) (pa_cons (pe_callB call_len_seq (by rfl) T.len PySem.boot_len (pa_cons (pv 2) pa_nil)) pa_nil))))
      (pss_cons (ps_set (i := 7) nd rfl (Or.inl rfl) (pe_lst pa_nil))
      (pss_cons (ps_set (i := 8) nd rfl (Or.inl rfl) (pe_tup (pa_cons pe_int (pa_cons pe_int pa_nil))))
      (pss_cons (ps_set (i := 9) nd rfl (Or.inr rfl)
        (pe_lc (own := [("_law_k", 19)]) (g := gName 19) (by rfl) nd (pi_range1 (by rfl) T.range (pa_cons (pv 6) pa_nil)) (blkOk_by (own := [("_law_k", 19)]) (N := lawN) (sc := defScope s_law) (by decide +kernel))
          (fun _ _ _ _ _ => pg_name (i := 19) nd rfl (Or.inl rfl)) (fun _ _ _ _ _ => pts_nil) (fun _ _ _ _ _ => pe_tup (pa_cons pe_int (pa_cons pe_int pa_nil)))))
      (pss_cons (ps_for PassesOwn.never rfl (pi_list (pe_call GO hr1 rfl mO kO bO .nil pass0 (pa_cons (pv 2) (pa_cons (pv 6) pa_nil)))) (pg_name (i := 10) nd rfl (Or.inl rfl))
        (pss_cons (ps_set (i := 11) nd rfl (Or.inr rfl) (pe_call GC hr3 rfl mC kC bC .nil pass0 (pa_cons (pv 5) (pa_cons (pv 10) pa_nil))))
        (pss_cons (ps_set (i := 12) nd rfl (Or.inl rfl) (pe_make WT.mkr GI hr2 rfl WT.mgW WT.bi .nil pass0 (pa_cons (pv 4) (pa_cons (pv 5) (pa_cons (pe_callTy call_list_of (by rfl) T.list (by decide +kernel) (pa_cons (pv 10) pa_nil)) pa_nil)))))
        (pss_cons (ps_set (i := 13) nd rfl (Or.inl rfl) (pe_call GE hr6 rfl mE kE bE .nil pass0 (pa_cons (pv 12) (pa_cons (pe_callTy call_dictD (by rfl) T.dict (by decide +kernel) (pa_cons (pv 3) pa_nil)) pa_nil))))
        (pss_cons (ps_set (i := 14) nd rfl (Or.inr rfl) (pe_call GR hr4 rfl mR kR bR .nil pass0 (pa_cons (pv 12) (pa_cons (pe_callTy call_dictD (by rfl) T.dict (by decide +kernel) (pa_cons (pv 3) pa_nil)) pa_nil))))
        (pss_cons (ps_if (PW.pt (pw_or
            (pt_cmpR op_ne (pe_call GW hr1 rfl mW kW bW .nil pass0 (pa_cons (pv 12) pa_nil)) (pe_cmpR op_eq (pv 6) (pe_callB call_len_seq (by rfl) T.len PySem.boot_len (pa_cons (pv 2) pa_nil)) (nomark _)) (nomark _))
            (pw_or1 (pt_cmpR (op_neD hr.units) (pe_fld (pv 12) rfl) (pv 10) (nomark _))))) (pss_one ps_never) pss_nil)
        (pss_cut (ps_if (pt_cmpR op_ne (pe_cmpR op_isN (pe_ix ix_tup (pv 13) pe_int (fun _ _ => rfl)) pe_non (nomark _))
            (pe_and (pe_cmpR op_eq (pv 6) pe_int (nomark _)) (pe_one (pe_cmpR op_gt (pe_callB call_len_seq (by rfl) T.len PySem.boot_len (pa_cons (pv 2) pa_nil)) pe_int (nomark _)))) (nomark _)) (pss_one ps_never) pss_nil)
        (pss_cons (ps_if (pt_cmpR (op_neD hr.units) (pe_call GX hr2 rfl mX kX bX .nil pass0 (pa_cons (pe_call GS hr3 rfl mS kS bS .nil pass0 (pa_cons (pv 14) pa_nil))
            (pa_cons (pe_tup (pa_cons pe_int (pa_cons (pe_callB (call_max2 rfl) (by rfl) T.max (by decide +kernel) (pa_cons pe_int (pa_cons (pe_callB call_len_seq (by rfl) T.len PySem.boot_len (pa_cons (pv 14) pa_nil)) pa_nil))) pa_nil))) pa_nil)))
            (pe_ix ix_tup (pv 13) pe_int (fun _ _ => rfl)) (nomark _)) (pss_one ps_never) pss_nil)
        (pss_cons (ps_expr (pe_bm PySem.F.plainAttrs_list PySem.F.slot_list_append PySem.F.type_list_append mt_append (pv 7) (pa_cons (pe_tup (pa_cons (pe_ix ix_tup (pv 13) pe_int (fun _ _ => rfl)) (pa_cons (pv 11) pa_nil))) pa_nil)))
        (pss_cut (ps_if (pt_cmpR op_notN (pe_ix ix_tup (pv 13) pe_int (fun _ _ => rfl)) pe_non (nomark _))
            (pss_one (ps_set (i := 8) nd rfl (Or.inl rfl) (pe_call GP hr2 rfl mP kP bP .nil pass0 (pa_cons (pv 8) (pa_cons (pe_call GX hr2 rfl mX kX bX .nil pass0 (pa_cons (pe_ix ix_tup (pv 13) pe_int (fun _ _ => rfl)) (pa_cons (pv 11) pa_nil))) pa_nil))))) pss_nil)
        (pss_one (ps_if (pt_cmpR op_lt (pv 6) (pe_callB call_len_seq (by rfl) T.len PySem.boot_len (pa_cons (pv 2) pa_nil)) (nomark _))
          (pss_cons (ps_if (pt_cmpR op_ne (pe_callB call_len_seq (by rfl) T.len PySem.boot_len (pa_cons (pv 14) pa_nil)) (pv 6) (nomark _)) (pss_one ps_never) pss_nil)
          (pss_one (ps_set (i := 9) nd rfl (Or.inr rfl)
            (pe_lc (own := [("_law_k", 19)]) (g := gName 19) (by rfl) nd (pi_range1 (by rfl) T.range (pa_cons (pv 6) pa_nil)) (blkOk_by (own := [("_law_k", 19)]) (N := lawN) (sc := defScope s_law) (by decide +kernel))
              (fun _ _ _ _ _ => pg_name (i := 19) nd rfl (Or.inl rfl)) (fun _ _ _ _ _ => pts_nil)
              (fun _ _ _ _ _ => pe_call GP hr2 rfl mP kP bP .nil pass0 (pa_cons (pe_ix (r := rIxL K) ix_list (pv 9) (pv 19) (fun _ _ => rfl)) (pa_cons
                (pe_call GX hr2 rfl mX kX bX .nil pass0 (pa_cons (pe_ix (r := rIxL K) ix_list (pv 14) (pv 19) (fun _ _ => rfl)) (pa_cons (pv 11) pa_nil))) pa_nil))))))) pss_nil))))))))))))
      (pss_cons (ps_asg (pe_call GM hr4 rfl mM kM bM .nil pass0 (pa_cons (pv 7) pa_nil)) (pg_tup (by rfl) (pgs_cons (pg_name (i := 15) nd rfl (Or.inl rfl)) (pgs_cons (pg_name (i := 16) nd rfl (Or.inl rfl)) pgs_nil))))
      (pss_cons (ps_set (i := 17) nd rfl (Or.inr rfl) (pe_tup (pa_cons (pe_call GY hr1 rfl mY kY bY .nil pass0 (pa_cons (pv 2) (pa_cons (pv 3) pa_nil))) (pa_cons pe_int pa_nil))))
      (pss_cut (ps_if (PW.pt (pw_or (pt_cmpR (op_neD hr.units) (pv 15) (pv 17) (nomark _))
          (pw_or1 (PW.pt (pw_and (pt_cmpR op_lt (pv 6) (pe_callB call_len_seq (by rfl) T.len PySem.boot_len (pa_cons (pv 2) pa_nil)) (nomark _))
            (pw_and1 (pt_val (pe_callB (cr_any rfl) (by rfl) T.any (by decide +kernel) (pa_cons
              (pe_lc (own := [("_law_one", 20)]) (g := gName 20) (by rfl) nd (pi_list (pv 9)) (blkOk_by (own := [("_law_one", 20)]) (N := lawN) (sc := defScope s_law) (by decide +kernel))
                (fun _ _ _ _ _ => pg_name (i := 20) nd rfl (Or.inl rfl)) (fun _ _ _ _ _ => pts_nil) (fun _ _ _ _ _ => pe_cmpR (r := rNeD K) (op_neD hr.units) (pv 20) (pv 17) (nomark _))) pa_nil)))))))))
          (pss_one ps_never) pss_nil)
      (pss_one (ps_ret (pe_or (pe_and (pe_cmpR op_eq (pv 6) pe_int (nomark _)) (pe_one (pe_cmpR op_gt (pe_callB call_len_seq (by rfl) T.len PySem.boot_len (pa_cons (pv 2) pa_nil)) pe_int (nomark _))))
        (pe_one (pe_cmpR (op_eqD hr.units) (pv 8) (pv 16) (nomark _)))))))))))))))))), ?_⟩
    -- row = _law_numbers(script, 90)
    refine ⟨_, rfl, a, ns, rfl, hS, hlen, fun H1 lr e1 n1 hw1 => ?_⟩
    -- things = _law_items(row, 1 + take(row, 5))
    refine ⟨_, rfl, _, rfl, lr, 5, rfl, hw1, by decide, fun r1 H2 r10 r15 hw2 b2 => ?_⟩
    obtain ⟨n, hn, hn1, hn5⟩ : ∃ n : Nat, 1 + r1 = (n : Int) ∧ 1 ≤ n ∧ n ≤ 5 := ⟨(1 + r1).toNat, by omega, by omega, by omega⟩
    refine ⟨_, _, rfl, rfl, lr, n, congrArg (fun z => [V.ref lr, V.int z]) hn, hw2, hn5, fun H3 p L hw3 b3 n3 hp3 hit3 hmd hLn => ?_⟩
    have npl : p ≠ lr := by
      obtain ⟨qs, hq⟩ := hw2
      exact (ne_of_none hq n3).symm
    -- amounts
    refine ⟨_, rfl, _, rfl, lr, p, L, rfl, hw3, hp3, npl, hit3, by omega, fun H4 d kvs hw4 b4 n4 hd4 ham => ?_⟩
    have ndl : d ≠ lr := by
      obtain ⟨qs, hq⟩ := hw3
      exact (ne_of_none hq n4).symm
    -- size
    refine ⟨_, rfl, lr, 3, rfl, hw4, by decide, fun r2 H5 r20 r23 hw5 b5 => ⟨_, _, rfl, rfl, ?_⟩⟩
    have hp5 : H5 p = some (.lst (L.map tV)) := b5 _ _ npl (b4 _ _ npl hp3)
    have hd5 : H5 d = some (.dK kvs) := b5 _ _ ndl hd4
    have hit5 : ∀ t ∈ L, ItT H5 t := fun t ht => by
      obtain ⟨q3, hq3⟩ := hw3
      obtain ⟨q4, hq4⟩ := hw4
      exact ((hit3 t ht).sb hq3 b4).sb hq4 b5
    have hl5 : LsOk K H5 p L := ⟨SqL.of hp5, fun t ht => SqT.of (hit5 t ht)⟩
    obtain ⟨hkd, hnd⟩ := made_nd hmd (by omega)
    -- total
    refine ⟨_, rfl, p, rfl, ⟨_, hl5.1⟩, fun D nD => lc_list (K := K) (a := p) (xs := L.map tV) (fun i H' => Same H5 H' ∧ H' D = some (.lst ((ws (L.take i)).map V.int)))
      ⟨same_upd nD, upd_same⟩ (fun i H' _ ⟨e, _⟩ => e.seq hl5.1) ?_ ?_⟩
    · rintro i y H' hi ⟨e, eD⟩
      obtain ⟨t, ht, rfl⟩ := things_get hi
      refine ⟨rfl, ?_⟩
      refine ⟨_, rfl, t.a, _, _, _, rfl, rfl, (hl5.2 t (List.mem_of_getElem? ht)).same e, at_2, _, eD, ?_, ?_, ?_⟩
      · rw [List.length_map]
        unfold ws
        rw [List.length_map, List.length_take]
        exact small1000 (by omega)
      · exact same_store e nD
      · rw [upd_same]
        unfold ws
        rw [take_more ht, List.map_append, List.map_append]
        rfl
    rintro H6 ⟨e6, eD6⟩
    refine ⟨D, ws L, rfl, SqL.of (by rw [eD6, List.length_map, List.take_length]), ?_⟩
    have hl6 := hl5.same e6
    have hd6 := e6 _ _ hd5
    -- many = min(size, len(things))
    refine ⟨_, rfl, _, rfl, p, _, rfl, .inl hl6.1, _, _, rfl, ?_⟩
    obtain ⟨s, hs, s1, s3, sn⟩ : ∃ s : Nat, (if ((L.map tV).length : Int) < 1 + r2 then ((L.map tV).length : Int) else 1 + r2) = (s : Int) ∧ 1 ≤ s ∧ s ≤ 3 ∧ s ≤ L.length := by
      rw [List.length_map]
      by_cases h : (L.length : Int) < 1 + r2
      · rw [if_pos h]; exact ⟨L.length, rfl, by omega, by omega, Nat.le_refl _⟩
      · rw [if_neg h]; exact ⟨(1 + r2).toNat, by omega, by omega, by omega, by omega⟩
    have St : Sett L kvs s := ⟨hkd, hnd, by omega, by omega, hmd.lo, ham, s1, s3, sn⟩
    -- rows = []; told = (0, 1)
    refine ⟨Nat.zero_le _, fun o no => ⟨by show 2 ≤ sizeLine; decide, fun z nz => ?_⟩⟩
    have eo : Same H6 (upd H6 o (.lst [])) := same_upd no
    have ez : Same (upd H6 o (.lst [])) (upd (upd H6 o (.lst [])) z (.tup [.int 0, .int 1])) := same_upd nz
    -- each = [(0, 1) ..]
    refine ⟨_, rfl, (s : Int), congrArg (fun z => [V.int z]) hs, by omega, by omega, ?_⟩
    rw [show ((s : Int)).toNat = s by omega]
    refine fun D9 nD9 => lc_range (lo := 0) (n := s) (fun i H' => Same (upd (upd H6 o (.lst [])) z (.tup [.int 0, .int 1])) H' ∧ ∃ es : List V, H' D9 = some (.lst es) ∧ Paired (FR K H') es ((List.range i).map fun _ => (0 : Rat)))
      ⟨same_upd nD9, [], upd_same, .nil⟩ ?_ ?_
    · rintro i H' hi ⟨e, es, he, hes⟩
      refine ⟨rfl, ?_⟩
      refine ⟨by show 2 ≤ sizeLine; decide, fun t nt => ?_⟩
      have het : (upd H' t (.tup [.int 0, .int 1])) D9 = some (.lst es) := same_upd nt _ _ he
      refine ⟨es, het, ?_, same_store (e.trans (same_upd nt)) nD9, es ++ [.ref t], upd_same, ?_⟩
      · rw [paired_len hes, List.length_map, List.length_range]
        exact small1000 (by omega)
      · rw [List.range_succ, List.map_append]
        exact paired_snoc (frs_upd het (frs_mono (same_upd nt) hes)) (FR.upd (fr_new (x := 0) rfl rfl) het)
    rintro H9 ⟨e9, es9, hes9, pes9⟩
    have no9 : D9 ≠ o := fun q => by
      rw [q] at nD9
      rw [ez _ _ upd_same] at nD9
      cases nD9
    have hs' : (if ((L.map tV).length : Int) < 1 + r2 then ((L.map tV).length : Int) else 1 + r2) = (s : Int) := hs
    have e69 : Same H6 H9 := (eo.trans ez).trans e9
    have hl9 := hl6.same e69
    have ho9 : H9 o = some (.lst []) := e9 _ _ (ez _ _ upd_same)
    -- for kept in _law_orders(things, many)
    refine ⟨_, rfl, _, rfl, p, s, L, congrArg (fun z => [V.ref p, V.int z]) hs', hl9, hkd, by omega, s3, fun H10 q e10 F10 => ?_⟩
    obtain ⟨qF, as, asF, hq, has⟩ := F10
    have nqo : q ≠ o := (ne_of_none ho9 qF).symm
    have naso : ∀ x ∈ as, x ≠ o := fun x hx => (ne_of_none ho9 (asF x hx)).symm
    refine ⟨q, rfl, ⟨_, SqL.of hq⟩, for_list (K := K) (a := q) (xs := as.map V.ref) (fun i σ H' => ∃ (v : V) (each : Addr) (t10 t11 t12 t13 t14 : Option V),
        σ = [some (.ref a), some (.ref lr), some (.ref p), some (.ref d), some (.int (1 + r2)), some (.int (Tt L)), some (.int (s : Int)), some (.ref o), some v, some (.ref each), t10, t11, t12, t13, t14, none, none, none, none, none, none] ∧
        Same H6 H' ∧ H' q = some (.lst (as.map V.ref)) ∧ Paired (fun a one => H' a = some (.lst (List.map tV one))) as (ords L s) ∧ Loop K H' kvs L s o each v ((ords L s).take i))
      ⟨.ref z, D9, none, none, none, none, none, by rw [← hs']; rfl, e69.trans e10, hq, has, ⟨no9, ⟨[], e10 _ _ ho9, .nil⟩, FR.same (fr_new (x := 0) rfl rfl) (e9.trans e10), es9, e10 _ _ hes9, frs_mono e10 pes9⟩⟩
      (fun i σ H' _ ⟨_, _, _, _, _, _, _, _, _, e, _⟩ => SqL.of e) ?_ ?_⟩
    · rintro i y σ Hb hi ⟨v, each, t10, t11, t12, t13, t14, rfl, e, hqb, hasb, lp⟩
      obtain ⟨oa, hoa, rfl⟩ : ∃ oa, as[i]? = some oa ∧ y = .ref oa := by
        rw [List.getElem?_map] at hi
        cases q : as[i]? with
        | none => rw [q] at hi; cases hi
        | some oa => rw [q] at hi; exact ⟨oa, rfl, (Option.some.inj hi).symm⟩
      obtain ⟨one, hone, ho⟩ := paired_get hasb hoa
      have honeM := List.mem_of_getElem? hone
      have G := ords_good honeM
      have dr := St.drawn honeM
      have hlb := hl6.same e
      have hdb := e _ _ hd6
      have lsone : LsOk K Hb oa one := ⟨SqL.of ho, fun t ht => hlb.2 t (G.sub t ht)⟩
      have hlen3 := dr.kept.len
      obtain ⟨rs, hrs, prs⟩ := lp.rows
      obtain ⟨es, hes, pes⟩ := lp.each
      -- chance
      refine ⟨_, rfl, _, rfl, oa, Tt L, one, rfl, lsone, dr, fun H1 c1 eb1 fc => ?_⟩
      have fc : FR K H1 c1 (cO L one) := fc
      -- sample = Weighted(size, total, list(kept))
      refine ⟨_, rfl, _, rfl, _, rfl, oa, _, rfl, .inl (lsone.same eb1).1, fun l1 nl1 => ?_⟩
      intro x dx nx ndx nex
      have s12 : Same (upd H1 l1 (.lst (one.map tV))) (upd (upd (upd H1 l1 (.lst (one.map tV))) dx (.own x)) x (.ins C dx [])) := fun b u h => by
        rw [upd_ne (ne_of_none h nx), upd_ne (ne_of_none h ndx)]
        exact h
      refine ⟨x, dx, l1, 1 + r2, Tt L, one.map tV, rfl, upd_same, SqL.of (s12 _ _ upd_same), fun l2 H2 smp nl2 hl2 keep => ⟨rfl, ?_⟩⟩
      have s2 : Same (upd H1 l1 (.lst (one.map tV))) H2 := Same.made nx ndx keep
      have e2 : Same H1 H2 := (same_upd nl1).trans s2
      have ls2 : LsOk K H2 l2 one := ⟨SqL.of hl2, fun t ht => (lsone.2 t ht).same (eb1.trans e2)⟩
      -- answer = estimate(sample, dict(amounts))
      refine ⟨_, rfl, _, rfl, d, kvs, rfl, .inl (e2 _ _ (eb1 _ _ hdb)), fun d1 nd1 => ?_⟩
      refine ⟨x, l2, d1, 1 + r2, Tt L, one, kvs, rfl, smp.same (same_upd nd1), ls2.same (same_upd nd1), dr.kept, by rw [G.len]; omega, upd_same, ham, fun H3 qa ea3 ans => ?_⟩
      have e3 : Same H2 H3 := (same_upd nd1).trans ea3
      -- numbers = ordered(sample, dict(amounts))
      refine ⟨_, rfl, _, rfl, d, kvs, rfl, .inl (e3 _ _ (e2 _ _ (eb1 _ _ hdb))), fun d2 nd2 => ?_⟩
      refine ⟨x, l2, d2, 1 + r2, Tt L, one, kvs, rfl, (smp.same e3).same (same_upd nd2), (ls2.same e3).same (same_upd nd2), dr.kept, upd_same, ham, fun H4 qn ea4 nqn fn => ?_⟩
      have e4 : Same H3 H4 := (same_upd nd2).trans ea4
      have e13 : Same Hb H3 := (eb1.trans e2).trans e3
      have nqno : qn ≠ o := (ne_of_none ((same_upd nd2) _ _ (e13 _ _ hrs)) nqn).symm
      obtain ⟨va, ua, hqa, fva, fua⟩ := ans
      obtain ⟨nas, hqn, pqn⟩ := fn
      have eln : nas.length = (ordL kvs (Tt L) one).length := paired_len pqn
      have oln := St.ord_len honeM
      have ols := St.o_Sm honeM
      have smp4 := (smp.same e3).same e4
      have ls4 := (ls2.same e3).same e4
      -- is_whole(sample) != (many == len(things)) or sample.kept != kept
      refine ⟨_, rfl, x, l2, 1 + r2, Tt L, one, rfl, smp4, ls4, by omega, fun H5' e5 => ?_⟩
      have e05 : Same Hb H5' := (e13.trans e4).trans e5
      have hl5' := hlb.same e05
      have hw : V.bl (decide ((ws one).sum = Tt L)) = V.bl (decide (V.int (s : Int) = V.int ((L.map tV).length : Int))) := by
        rw [vint_eq, List.length_map]
        exact ifD ⟨fun h => by have := (St.whole honeM).mp h; omega, fun h => (St.whole honeM).mpr (by omega)⟩
      refine ⟨_, rfl, _, rfl, p, _, rfl, .inl hl5'.1, rfl, rfl, _, rfl, iteNS hw ?_⟩
      obtain ⟨dx4, hx4⟩ := smp4
      have ls5 := ls4.same e5
      have lso5 := lsone.same e05
      have okT : ∀ t ∈ one, TxtOk t := fun t ht => hkd.ok t (G.sub t ht)
      refine ⟨_, rfl, x, C, dx4, _, _, rfl, e5 _ _ hx4, WT.cl, WT.nK, wf_kept _ _ _, _, rfl, .list (one.map thD), .list (one.map thD), .lst ls5.1 (things_dp ls5.2), .lst lso5.1 (things_dp lso5.2), ths_shaped okT, ths_shaped okT, _, rfl, ifNE (ths_refl one) ?_⟩
      -- (answer[1] is None) != (many == 1 and len(things) > 1)
      have e35 : Same H3 H5' := e4.trans e5
      have hqa5 := e35 _ _ hqa
      have hnone : ua = .non ↔ (s = 1 ∧ 1 < L.length) := by
        rw [← St.none_iff honeM]
        cases q : estV kvs (Tt L) one with
        | none => rw [q] at fua; exact ⟨fun _ => rfl, fun _ => fua⟩
        | some w =>
          rw [q] at fua
          obtain ⟨⟨aw, rfl⟩, _⟩ := fua
          exact ⟨(fun h => by cases h), (fun h => by cases h)⟩
      refine ⟨fun σ' H' => σ' = [some (.ref a), some (.ref lr), some (.ref p), some (.ref d), some (.int (1 + r2)), some (.int (Tt L)), some (.int (s : Int)), some (.ref o), some v, some (.ref each), some (.ref oa), some c1, some (.ref x), some (.ref qa), some (.ref qn), none, none, none, none, none, none] ∧ H5' = H', ?_, ?_⟩
      · refine ⟨_, rfl, qa, _, _, _, rfl, rfl, SqT.of hqa5, at1, rfl, _, rfl, rfl, _, rfl, ?_⟩
        by_cases h1 : s = 1
        · refine iteY (by rw [h1]; rfl) ?_
          refine ⟨_, rfl, p, _, rfl, .inl hl5'.1, _, _, rfl, rfl, rfl, _, rfl, iteNS ?_ ⟨rfl, rfl⟩⟩
          refine ifD (hnone.trans ?_)
          rw [List.length_map]
          omega
        · refine iteN (vint_ne (by omega)) ?_
          refine ⟨rfl, _, rfl, iteNS ?_ ⟨rfl, rfl⟩⟩
          show V.bl (decide (ua = .non)) = V.bl false
          rw [decide_eq_false fun h => h1 (hnone.mp h).1]
      rintro σ' H' ⟨rfl, rfl⟩
      -- times(sum(numbers), (1, max(1, len(numbers)))) != answer[0]
      have hqn5 : SqL K H5' qn nas := e5.seq hqn
      have pqn5 := frs_mono e5 pqn
      have c5 : FR K H5' c1 (cO L one) := ((fc.same e2).same e3).same e35
      have va5 := fva.same e35
      refine ⟨_, rfl, qn, _, rfl, ⟨nas, hqn5, pqn5⟩, fun x hx => (ols x hx).mono (by decide), fun i => sm_take_Sm ols i (by omega), fun H6' v6 e6' f6 => ?_⟩
      have hmx : (if ((nas.length : Nat) : Int) > 1 then ((nas.length : Nat) : Int) else 1) = (((ordL kvs (Tt L) one).length : Nat) : Int) := by
        rw [max_one (by omega), eln]
      refine ⟨_, rfl, qn, _, rfl, .inl (e6'.seq hqn5), _, _, rfl, by show 2 ≤ sizeLine; decide, fun t7 nt7 => ?_⟩
      have of := one_frac (n := (((ordL kvs (Tt L) one).length : Nat) : Int)) (by omega)
      have sum900 : Sm 900 (sm (ordL kvs (Tt L) one)) := (sm_Sm ols).mono (by omega)
      have one900 : Sm 900 (((1 : Int) : Rat) / ((((ordL kvs (Tt L) one).length : Nat) : Int) : Rat)) :=
        (sm_frac (k := 2) (by omega) (by decide) (by omega)).mono (by decide)
      refine ⟨v6, .ref t7, _, _, rfl, f6.same (same_upd nt7), fr_new of.1 (of.2.trans hmx.symm), sum900, one900, trivial, fun H7 v7 ea7 f7 => ?_⟩
      have e57 : Same H5' H7 := (e6'.trans (same_upd nt7)).trans ea7
      have f7 : FR K H7 v7 (estE kvs (Tt L) one) := by rw [← St.mean_eq honeM]; exact f7
      have hqa7 := e57 _ _ hqa5
      have va7 := va5.same e57
      refine ⟨_, rfl, qa, _, _, _, rfl, rfl, SqT.of hqa7, at0, frD _, frD _, fr_dp f7, fr_dp va7, frD_shaped _, frD_shaped _, _, rfl, ifNE (frD_refl _) ?_⟩
      -- rows.append((answer[0], chance))
      have e07 : Same Hb H7 := e05.trans e57
      have hrs7 := e07 _ _ hrs
      refine ⟨_, rfl, .inl ⟨rfl, _, SqL.of hrs7⟩, _, rfl, qa, _, _, _, rfl, rfl, SqT.of hqa7, at0, _, rfl, by show 2 ≤ sizeLine; decide, fun t8 nt8 => ?_⟩
      have n8 := same_upd (o := .tup [va, c1]) nt8
      have nt8o : t8 ≠ o := (ne_of_none hrs7 nt8).symm
      have rlen : rs.length = min i (ords L s).length := by
        rw [paired_len prs]
        unfold rowsO
        rw [List.length_map, List.length_take]
      have olen := ords_len5 (by omega : L.length ≤ 5) s3
      refine ⟨o, _, _, rfl, rfl, n8 _ _ hrs7, by rw [List.length_map]; exact small1000 (by omega), ?_⟩
      obtain ⟨H8, hH8⟩ : ∃ H8, H8 = upd (upd H7 t8 (.tup [va, c1])) o (.lst (rs.map V.ref ++ [V.ref t8])) := ⟨_, rfl⟩
      rw [← hH8]
      have e08 : Same Hb (upd H7 t8 (.tup [va, c1])) := e07.trans n8
      have hrs8 := e08 _ _ hrs
      have keepFR : ∀ {u : V} {r : Rat}, FR K (upd H7 t8 (.tup [va, c1])) u r → FR K H8 u r := fun f => by rw [hH8]; exact f.upd hrs8
      have e8 : Same H6 H8 := by rw [hH8]; exact same_store (e.trans e08) no
      have hq8 : H8 q = some (.lst (as.map V.ref)) := by rw [hH8, upd_ne nqo]; exact e08 _ _ hqb
      have has8 : Paired (fun a one => H8 a = some (.lst (List.map tV one))) as (ords L s) := by rw [hH8]; exact ords_store e08 naso hasb
      have hqa8 : H8 qa = some (.tup [va, ua]) := by
        have := n8 _ _ hqa7
        rw [hH8, upd_ne (ne_of this hrs8 (by intro z; cases z))]
        exact this
      have c8 : FR K H8 c1 (cO L one) := keepFR ((c5.same e57).same n8)
      have qn8 : SqL K H8 qn nas := by rw [hH8]; exact sql_upd (n8.seq (e57.seq hqn5)) nqno
      have pqn8 : Paired (FR K H8) nas (ordL kvs (Tt L) one) := by rw [hH8]; exact frs_upd hrs8 (frs_mono n8 (frs_mono e57 pqn5))
      have v8 : FR K H8 v (S ((ords L s).take i) (vO kvs L)) := keepFR (lp.told.same e08)
      have es8 : H8 each = some (.lst es) := by rw [hH8, upd_ne lp.ne]; exact e08 _ _ hes
      have pes8 : Paired (FR K H8) es (eachL kvs L s ((ords L s).take i)) := by rw [hH8]; exact frs_upd hrs8 (frs_mono e08 pes)
      have ho8 : H8 o = some (.lst ((rs ++ [t8]).map V.ref)) := by rw [hH8, upd_same, List.map_append]; rfl
      have rows8 : Paired (fun a (p : Rat × Rat) => ∃ v u : V, SqT K H8 a [v, u] ∧ FR K H8 v p.1 ∧ FR K H8 u p.2) (rs ++ [t8]) (rowsO kvs L ((ords L s).take (i + 1))) := by
        unfold rowsO
        rw [take_more hone, List.map_append]
        refine paired_snoc ?_ ⟨va, c1, ?_, keepFR (va7.same n8), c8⟩
        · have mono : ∀ {as : List Addr} {ps : List (Rat × Rat)}, Paired (fun a (p : Rat × Rat) => ∃ v u : V, SqT K Hb a [v, u] ∧ FR K Hb v p.1 ∧ FR K Hb u p.2) as ps →
              Paired (fun a (p : Rat × Rat) => ∃ v u : V, SqT K H8 a [v, u] ∧ FR K H8 v p.1 ∧ FR K H8 u p.2) as ps := by
            intro as ps p
            induction p with
            | nil => exact .nil
            | cons r t ih =>
              obtain ⟨v, u, h1, h2, h3⟩ := r
              exact .cons ⟨v, u, by rw [hH8]; exact sqt_upd (Same.tup e08 h1) hrs8, keepFR (h2.same e08), keepFR (h3.same e08)⟩ ih
          exact mono prs
        · refine SqT.of ?_
          rw [hH8, upd_ne nt8o, upd_same]
      have hl8 := hl6.same e8
      -- if answer[1] is not None: told = plus(told, times(answer[1], chance))
      refine ⟨fun σ' H' => ∃ v' : V, σ' = [some (.ref a), some (.ref lr), some (.ref p), some (.ref d), some (.int (1 + r2)), some (.int (Tt L)), some (.int (s : Int)), some (.ref o), some v', some (.ref each), some (.ref oa), some c1, some (.ref x), some (.ref qa), some (.ref qn), none, none, none, none, none, none] ∧ Same H8 H' ∧ FR K H' v' (S ((ords L s).take (i + 1)) (vO kvs L)), ?_, ?_⟩
      · refine ⟨_, rfl, qa, _, _, _, rfl, rfl, SqT.of hqa8, at1, rfl, _, rfl, ?_⟩
        rw [S_take _ hone]
        cases hv : estV kvs (Tt L) one with
        | none =>
          rw [hv] at fua
          have fua : ua = .non := fua
          subst fua
          refine iteNS rfl ⟨v, rfl, Same.refl _, ?_⟩
          have : vO kvs L one = 0 := by unfold vO; rw [hv]
          rw [this, Rat.add_zero]
          exact v8
        | some w0 =>
          rw [hv] at fua
          obtain ⟨⟨aw, rfl⟩, fw⟩ := fua
          have fw8 : FR K H8 (.ref aw) w0 := keepFR (((fw.same e35).same e57).same n8)
          show if (!decide (V.ref aw = V.non)) = true then _ else _
          rw [decide_eq_false (fun h => by cases h)]
          have sw := St.v_Sm honeM hv
          have sc := St.c_Sm honeM
          refine ⟨_, rfl, _, rfl, qa, _, _, _, rfl, rfl, SqT.of hqa8, at1, _, rfl, _, _, _, _, rfl, fw8, c8, sw.mono (by decide), sc.mono (by decide), trivial, fun Ha va' ea fa => ?_⟩
          refine ⟨v, va', _, _, rfl, v8.same ea, fa, St.part St.v_term i, (sw.mul sc).mono (by decide), trivial, fun Hc vc ec fcc => ?_⟩
          refine ⟨vc, rfl, ea.trans ec, ?_⟩
          have : vO kvs L one = w0 * cO L one := by unfold vO; rw [hv]
          rw [this]
          exact fcc
      rintro σ' H9' ⟨v', rfl, e89, fv'⟩
      have rows9 : RowsAt K H9' o (rowsO kvs L ((ords L s).take (i + 1))) := ⟨rs ++ [t8], e89 _ _ ho8, rows_mono e89 rows8⟩
      have hl9' := hl8.same e89
      -- if many < len(things): each = [..]
      refine ⟨_, rfl, _, rfl, p, _, rfl, .inl hl9'.1, _, _, rfl, rfl, _, rfl, ?_⟩
      by_cases hlt : s < L.length
      · refine iteY (by rw [List.length_map]; omega) ?_
        have oeq := St.ordL_lt hlt honeM
        have olens : (ordL kvs (Tt L) one).length = s := by rw [oeq, ts_len, G.len]
        have qn9 := e89.seq qn8
        refine ⟨_, rfl, qn, _, rfl, .inl qn9, _, rfl, rfl, _, rfl, iteNS (by rw [eln, olens]) ?_⟩
        refine ⟨_, rfl, (s : Int), rfl, by omega, by omega, ?_⟩
        rw [show ((s : Int)).toNat = s by omega]
        refine fun D nD => lc_range (lo := 0) (n := s) (fun c H' => Same H9' H' ∧ ∃ cs : List V, H' D = some (.lst cs) ∧ Paired (FR K H') cs ((List.range c).map fun k => S ((ords L s).take (i + 1)) (eG kvs L s k)))
          ⟨same_upd nD, [], upd_same, .nil⟩ ?_ ?_
        · rintro c Hd hc ⟨ed, cs, hcs, pcs⟩
          refine ⟨rfl, ?_⟩
          obtain ⟨ev, hev, fev⟩ := frs_get (frs_mono ed (frs_mono e89 pes8)) (eachL_get kvs L s ((ords L s).take i) hc)
          have hk : (ordL kvs (Tt L) one)[c]? = some ((ordL kvs (Tt L) one).getD c 0) := by
            rw [List.getD_eq_getElem?_getD, List.getElem?_eq_getElem (by rw [olens]; exact hc)]
            rfl
          obtain ⟨nv, hnv, fnv⟩ := frs_get (frs_mono ed (frs_mono e89 pqn8)) hk
          have eg : ∀ one, eG kvs L s c one = eO kvs L c one := fun one => by unfold eG; rw [if_pos hlt]
          have sn24 := (ols _ (List.mem_of_getElem? hk))
          have sc := St.c_Sm honeM
          refine ⟨_, rfl, _, rfl, each, _, _, _, rfl, rfl, SqL.of (ed _ _ (e89 _ _ es8)), at_some hev, ?_⟩
          refine ⟨_, rfl, _, rfl, qn, _, _, _, rfl, rfl, ed.seq qn9, at_some hnv, _, rfl, _, _, _, _, rfl, fnv, (c8.same e89).same ed, sn24.mono (by decide), sc.mono (by decide), trivial, fun He ve ee fe => ?_⟩
          have se : Sm 900 (S ((ords L s).take i) (eG kvs L s c)) := by
            rw [S_congr fun one _ => eg one]
            exact St.part (St.k_term hlt c) i
          refine ⟨ev, ve, _, _, rfl, fev.same ee, fe, se, (sn24.mul sc).mono (by decide), trivial, fun Hf vf ef ff => ?_⟩
          have hcs2 := ef _ _ (ee _ _ hcs)
          refine ⟨cs, hcs2, ?_, same_store ((ed.trans ee).trans ef) nD, cs ++ [vf], upd_same, ?_⟩
          · rw [paired_len pcs, List.length_map, List.length_range]
            exact small1000 (by omega)
          · rw [List.range_succ, List.map_append]
            refine paired_snoc (frs_upd hcs2 (frs_mono (ee.trans ef) pcs)) (FR.upd ?_ hcs2)
            show FR K Hf vf (S ((ords L s).take (i + 1)) (eG kvs L s c))
            rw [S_take _ hone, eg one]
            exact ff
        · rintro Hd ⟨ed, cs, hcs, pcs⟩
          have nDo : D ≠ o := (ne_of_none (e89 _ _ ho8) nD).symm
          refine ⟨v', D, _, _, _, _, _, rfl, (e8.trans e89).trans ed, ed _ _ (e89 _ _ hq8), ords_mono (e89.trans ed) has8, ⟨nDo, ?_, fv'.same ed, cs, hcs, pcs⟩⟩
          exact ⟨rs ++ [t8], ed _ _ (e89 _ _ ho8), rows_mono (e89.trans ed) rows8⟩
      · refine iteN (by rw [List.length_map]; omega) ?_
        refine ⟨v', each, _, _, _, _, _, rfl, e8.trans e89, e89 _ _ hq8, ords_mono e89 has8, ⟨lp.ne, rows9, fv', es, e89 _ _ es8, ?_⟩⟩
        have eqv : eachL kvs L s ((ords L s).take (i + 1)) = eachL kvs L s ((ords L s).take i) := by
          unfold eachL
          refine List.map_congr_left fun k _ => ?_
          rw [S_take _ hone]
          have : eG kvs L s k one = 0 := by unfold eG; rw [if_neg hlt]
          rw [this, Rat.add_zero]
        rw [eqv]
        exact frs_mono e89 pes8
    · rintro σ Hb ⟨v, each, t10, t11, t12, t13, t14, rfl, e, hqb, hasb, lp⟩
      have hall : (ords L s).take (as.map V.ref).length = ords L s := by
        rw [List.length_map, paired_len has]
        exact List.take_length
      rw [hall] at lp
      have hlb := hl6.same e
      have hdb := e _ _ hd6
      obtain ⟨es, hes, pes⟩ := lp.each
      -- middle, spread = _law_moments(rows)
      refine ⟨_, rfl, o, _, rfl, lp.rows, St.mom, fun H1 qm m1 p1 e1 hqm fm fp => ?_⟩
      rw [St.mom_mid] at fm fp
      rw [mom_spr] at fp
      refine ⟨qm, [m1, p1], rfl, SqT.of hqm, rfl, m1, [p1], rfl, p1, [], rfl, rfl, ?_⟩
      -- whole = (_law_true(things, amounts), 1)
      refine ⟨_, rfl, _, rfl, p, d, L, kvs, rfl, hlb.same e1, by omega, e1 _ _ hdb, ham, fun H2 e2 => ⟨by show 2 ≤ sizeLine; decide, fun tw ntw => ?_⟩⟩
      obtain ⟨H3, hH3⟩ : ∃ H3, H3 = upd H2 tw (.tup [.int (amts kvs L).sum, .int 1]) := ⟨_, rfl⟩
      have e3 : Same Hb H3 := by rw [hH3]; exact (e1.trans e2).trans (same_upd ntw)
      have e13 : Same H1 H3 := by rw [hH3]; exact e2.trans (same_upd ntw)
      have fw : FR K H3 (.ref tw) ((Yt kvs L : Int) : Rat) := by rw [hH3]; exact fr_new rfl rfl
      rw [← hH3]
      have fm3 := fm.same e13
      have hl3 := hlb.same e3
      have he3 := e3 _ _ hes
      have pe3 := frs_mono e3 pes
      -- if middle != whole or many < len(things) and any(..): return False
      refine ⟨fun σ' H' => σ' = [some (.ref a), some (.ref lr), some (.ref p), some (.ref d), some (.int (1 + r2)), some (.int (Tt L)), some (.int (s : Int)), some (.ref o), some v, some (.ref each), t10, t11, t12, t13, t14, some m1, some p1, some (.ref tw), none, none, none] ∧ Same H3 H', ?_, ?_⟩
      · refine ⟨_, rfl, _, rfl, frD _, frD _, fr_dp fm3, fr_dp fw, frD_shaped _, frD_shaped _, _, rfl, ifNE (frD_refl _) ?_⟩
        refine ⟨_, rfl, _, rfl, p, _, rfl, .inl hl3.1, _, _, rfl, rfl, _, rfl, ?_⟩
        by_cases hlt : s < L.length
        · refine iteY (by rw [List.length_map]; omega) ?_
          refine ⟨_, rfl, each, rfl, ⟨_, SqL.of he3⟩, fun D nD => lc_list (K := K) (a := each) (xs := es) (fun c H' => Same H3 H' ∧ H' D = some (.lst ((List.replicate c false).map V.bl)))
            ⟨same_upd nD, upd_same⟩ (fun c H' _ ⟨ec, _⟩ => SqL.of (ec _ _ he3)) ?_ ?_⟩
          · rintro c y H' hc ⟨ec, hD⟩
            obtain ⟨r, hr', fr⟩ := paired_get pe3 hc
            have hcs : c < s := by
              have := (List.getElem?_eq_some_iff.mp hr').1
              rw [eachL_len] at this
              exact this
            have hrY : r = ((Yt kvs L : Int) : Rat) := by
              rw [eachL_get kvs L s _ hcs] at hr'
              rw [← Option.some.inj hr', ← St.each hlt hcs]
              exact S_congr fun one _ => by unfold eG; rw [if_pos hlt]
            subst hrY
            refine ⟨rfl, ?_⟩
            refine ⟨_, rfl, _, rfl, frD _, frD _, fr_dp (fr.same ec), fr_dp (fw.same ec), frD_shaped _, frD_shaped _, ?_⟩
            rw [frD_refl]
            refine ⟨_, hD, ?_, same_store ec nD, ?_⟩
            · rw [List.length_map, List.length_replicate]
              exact small1000 (by omega)
            · rw [upd_same, List.replicate_succ', List.map_append]
              rfl
          · rintro H' ⟨ec, hD⟩
            refine ⟨D, List.replicate es.length false, rfl, SqL.of hD, _, rfl, ?_⟩
            have ha : (List.replicate es.length false).any id = false := by
              rw [List.any_eq_false]
              intro b hb
              rw [List.eq_of_mem_replicate hb]
              exact Bool.false_ne_true
            rw [ha]
            exact ⟨rfl, ec⟩
        · refine iteN (by rw [List.length_map]; omega) ?_
          exact ⟨rfl, Same.refl _⟩
      rintro σ' H4 ⟨rfl, e4⟩
      have hl4 := hl3.same e4
      -- return many == 1 and len(things) > 1 or told == spread
      refine ⟨_, rfl, rfl, _, rfl, ?_⟩
      by_cases h1 : s = 1
      · refine iteY (by rw [h1]; rfl) ?_
        refine ⟨_, rfl, p, _, rfl, .inl hl4.1, _, _, rfl, rfl, _, rfl, ?_⟩
        by_cases h2 : 1 < L.length
        · refine iteY (by rw [List.length_map]; omega) ?_
          exact k _
        · refine iteN (by rw [List.length_map]; omega) ?_
          have et := St.told (fun h => h2 h.2)
          have ft := (lp.told.same e3).same e4
          have fs := (fp.same e13).same e4
          rw [et] at ft
          refine ⟨_, rfl, _, rfl, frD _, frD _, fr_dp ft, fr_dp fs, frD_shaped _, frD_shaped _, ?_⟩
          rw [frD_refl]
          exact k _
      · refine iteN (vint_ne (by omega)) ?_
        refine ⟨_, rfl, iteF ?_⟩
        have et := St.told (fun h => h1 h.1)
        have ft := (lp.told.same e3).same e4
        have fs := (fp.same e13).same e4
        rw [et] at ft
        refine ⟨_, rfl, _, rfl, frD _, frD _, fr_dp ft, fr_dp fs, frD_shaped _, frD_shaped _, ?_⟩
        rw [frD_refl]
        exact k _
end
end K34

namespace K34
open PySem PySem.Spec PyProof.Rows L2 Mth
/-- a def of the top, by what k_is finds -/
structure TopDef (K : PySem.W.Frag) (x : Str) (st : Stmt) : Prop where
  ex : ∃ (f : Addr) (oc kV dc pm cd ct : Value) (od an : Option Addr) (sl : Array (Option Value)), PySem.W.nsIn K mainGlobals x = some (some (.ref f)) ∧
    K.lookup f = some ⟨oc, od, .func (PySem.W.fnOf x x (defArgs st) (defBody st) (defScope st) .none kV dc pm an cd ct), sl⟩ ∧ PySem.W.codeIn K cd x = true ∧ PySem.W.keepIn K (.ref f) = true
theorem TopDef.ok {K : PySem.W.Frag} {h : Heap} {mg : Str → Option Value} {x : Str} {st : Stmt} {ps : List Str} (X : K.In h) (G : h.Ns mainGlobals mg) (D : TopDef K x st)
    (hb : ∀ (kV doc pm : Value) (an : Option Addr) (cdv ct : Value) (us : List Value), us.length = ps.length → bindArgs (PySem.W.fnOf x x (defArgs st) (defBody st) (defScope st) .none kV doc pm an cdv ct) ⟨us, []⟩ = pure (ps.zip us)) : DefOk K mg x st ps := by
  obtain ⟨f, oc, kV, dc, pm, cd, ct, od, an, sl, a, l, c, k⟩ := D.ex
  have F := fun_mk (st := st) l c k
  exact ⟨f, _, F, PySem.W.mg_of X G a, F.binds (ps := ps) hb⟩
theorem TopDef.mk' {K : PySem.W.Frag} {x : Str} {st : Stmt} {f : Addr} {oc kV dc pm cd ct : Value} {od an : Option Addr} {sl : Array (Option Value)} (a : PySem.W.nsIn K mainGlobals x = some (some (.ref f)))
    (l : K.lookup f = some ⟨oc, od, .func (PySem.W.fnOf x x (defArgs st) (defBody st) (defScope st) .none kV dc pm an cd ct), sl⟩) (c : PySem.W.codeIn K cd x = true) (k : PySem.W.keepIn K (.ref f) = true) : TopDef K x st :=
  ⟨f, oc, kV, dc, pm, cd, ct, od, an, sl, a, l, c, k⟩
theorem kit_false {K : PySem.W.Frag} {C U : Addr} (h1 : PySem.W.subIn K (.ref C) (.ref U) = some false) (h2 : PySem.W.isClsIn K U = true) (h3 : PySem.W.typeIn K (.ref U) = some (.type "type")) (h4 : PySem.W.subIn K (.ref C) (.ref C) = some true) :
    PySem.W.kitOne K (.ref C) (.ref U) = some false := by
  have ne : ¬ C = U := fun e => by
    rw [← e, h4] at h1
    cases h1
  have e1 : (Value.ref C == Value.ref U) = false := beq_eq_false_iff_ne.mpr fun e => ne (Value.ref.inj e)
  have e2 : ((PySem.W.clsIn K U).isSome && PySem.W.typeIn K (.ref U) == some (.type "type")) = true := by
    have h2' : (PySem.W.clsIn K U).isSome = true := h2
    rw [h2', h3] <;> rfl
  show (if (Value.ref C == Value.ref U) = true then some true else if ((PySem.W.clsIn K U).isSome && PySem.W.typeIn K (.ref U) == some (.type "type")) = true then PySem.W.subIn K (.ref C) (.ref U) else none) = some false
  rw [e1, if_neg Bool.false_ne_true, if_pos e2]
  exact h1
/-- a pair of ints of the top -/
theorem noth_mk {K : PySem.W.Frag} {h : Heap} {mg : Str → Option Value} {x : Str} {a : Addr} {o : Obj} (X : K.In h) (G : h.Ns mainGlobals mg) (e : PySem.W.nsIn K mainGlobals x = some (some (.ref a))) (l : K.lookup a = some o)
    (hc : o.cls = .type "tuple") {t u : Tok} {n : Nat} (hd : o.data = .seq #[.int 0 t, .int 1 u] n) : Noth K mg x := ⟨a, PySem.W.mg_of X G e, o, t, u, n, l, hc, hd⟩
theorem txt_mk {K : PySem.W.Frag} {h : Heap} {mg : Str → Option Value} (X : K.In h) (G : h.Ns mainGlobals mg) {C U O fI a1 a2 : Addr} {o1 o2 : Obj} {t1 u1 t2 u2 : Tok} {n1 n2 : Nat} {ocI kVI dcI pmI cdI ctI : Value} {odI anI : Option Addr} {slI : Array (Option Value)}
    (gC : PySem.W.nsIn K mainGlobals "Weighted" = some (some (.ref C)))
    (gU : PySem.W.nsIn K mainGlobals "Uniform" = some (some (.ref U)))
    (gO : PySem.W.nsIn K mainGlobals "Optimal" = some (some (.ref O)))
    (cpg : PySem.W.plainGet K C Str.empty = true)
    (chd : PySem.W.hasDictIn K C = true)
    (cpo : PySem.W.plainOver K C = true)
    (csa : PySem.W.findIn K (.ref C) "__setattr__" = some (some (.builtin "object.__setattr__")))
    (nS : PySem.W.findIn K (.ref C) "size" = some none)
    (nT : PySem.W.findIn K (.ref C) "total" = some none)
    (nK : PySem.W.findIn K (.ref C) "kept" = some none)
    (mkC : PySem.W.makesIn K C = true)
    (iI : PySem.W.findIn K (.ref C) "__init__" = some (some (.ref fI)))
    (fnI : PySem.W.isFn K (.ref fI) = true)
    (kC : PySem.W.keepIn K (.ref C) = true)
    (lI : K.lookup fI = some ⟨ocI, odI, .func (PySem.W.fnOf "__init__" "Weighted.__init__" (defArgs s_init) (defBody s_init) (defScope s_init) .none kVI dcI pmI anI cdI ctI), slI⟩)
    (cI : PySem.W.codeIn K cdI "Weighted.__init__" = true)
    (kI : PySem.W.keepIn K (.ref fI) = true)
    (sU : PySem.W.subIn K (.ref C) (.ref U) = some false)
    (iU : PySem.W.isClsIn K U = true)
    (tU : PySem.W.typeIn K (.ref U) = some (.type "type"))
    (sO : PySem.W.subIn K (.ref C) (.ref O) = some false)
    (iO : PySem.W.isClsIn K O = true)
    (tO : PySem.W.typeIn K (.ref O) = some (.type "type"))
    (sC : PySem.W.subIn K (.ref C) (.ref C) = some true)
    (ha : PySem.W.findIn K (.ref C) "__class__" = some (some (.builtin "object.__class__")))
    (hn : PySem.W.specialIn K (.builtin "object.__class__") "__get__" = some (some (.builtin "getset_descriptor.__get__")))
    (htk : PySem.W.takesIn K (.builtin "object.__class__") = some true)
    (hm : PySem.W.mroIn K C (.type "object") = some true)
    (gg : PySem.W.nsIn K mainGlobals "gcd" = some (some (.builtin "math.gcd")))
    (z_len : PySem.W.nsIn K mainGlobals "len" = some none)
    (z_sum : PySem.W.nsIn K mainGlobals "sum" = some none)
    (z_range : PySem.W.nsIn K mainGlobals "range" = some none)
    (z_int : PySem.W.nsIn K mainGlobals "int" = some none)
    (z_list : PySem.W.nsIn K mainGlobals "list" = some none)
    (z_dict : PySem.W.nsIn K mainGlobals "dict" = some none)
    (z_abs : PySem.W.nsIn K mainGlobals "abs" = some none)
    (z_max : PySem.W.nsIn K mainGlobals "max" = some none)
    (z_min : PySem.W.nsIn K mainGlobals "min" = some none)
    (z_any : PySem.W.nsIn K mainGlobals "any" = some none)
    (z_isinstance : PySem.W.nsIn K mainGlobals "isinstance" = some none)
    (na1 : PySem.W.nsIn K mainGlobals "NOTHING_ratios" = some (some (.ref a1)))
    (nl1 : K.lookup a1 = some o1)
    (nc1 : o1.cls = .type "tuple")
    (nd1 : o1.data = .seq #[.int 0 t1, .int 1 u1] n1)
    (na2 : PySem.W.nsIn K mainGlobals "NOTHING_estimates" = some (some (.ref a2)))
    (nl2 : K.lookup a2 = some o2)
    (nc2 : o2.cls = .type "tuple")
    (nd2 : o2.data = .seq #[.int 0 t2, .int 1 u2] n2)
    (d_lowest : TopDef K "lowest" s_lowest)
    (d_plus : TopDef K "plus" s_plus)
    (d_minus : TopDef K "minus" s_minus)
    (d_times : TopDef K "times" s_times)
    (d_over : TopDef K "over" s_over)
    (d_sum_of : TopDef K "sum_of" s_sum_of)
    (d_whole_number : TopDef K "whole_number" s_whole_number)
    (d_amount_of : TopDef K "amount_of" s_amount_of)
    (d_true_sum : TopDef K "true_sum" s_true_sum)
    (d_is_whole : TopDef K "is_whole" s_is_whole)
    (d_spread : TopDef K "spread" s_spread)
    (d_mean_of : TopDef K "mean_of" s_mean_of)
    (d_ordered_of : TopDef K "ordered_of" s_ordered_of)
    (d_estimate_weighted : TopDef K "estimate_weighted" s_estimate_weighted)
    (d_estimate : TopDef K "estimate" s_estimate)
    (d_ordered : TopDef K "ordered" s_ordered)
    (d__law_mix : TopDef K "_law_mix" s__law_mix)
    (d__law_numbers : TopDef K "_law_numbers" s__law_numbers)
    (d__law_take : TopDef K "_law_take" s__law_take)
    (d__law_low : TopDef K "_law_low" s__law_low)
    (d__law_plus : TopDef K "_law_plus" s__law_plus)
    (d__law_minus : TopDef K "_law_minus" s__law_minus)
    (d__law_times : TopDef K "_law_times" s__law_times)
    (d__law_sum : TopDef K "_law_sum" s__law_sum)
    (d__law_items : TopDef K "_law_items" s__law_items)
    (d__law_amounts : TopDef K "_law_amounts" s__law_amounts)
    (d__law_true : TopDef K "_law_true" s__law_true)
    (d__law_moments : TopDef K "_law_moments" s__law_moments)
    (d__law_orders : TopDef K "_law_orders" s__law_orders)
    (d__law_order_chance : TopDef K "_law_order_chance" s__law_order_chance)
    (d_law : TopDef K "law" s_law) : Txt K mg C where
  wt := ⟨U, O, fI, _, ⟨cpg, chd, cpo, csa⟩, nS, nT, nK, ⟨mkC, iI, fnI, kC⟩, fun_mk (st := s_init) lI cI kI, (fun_mk (st := s_init) lI cI kI).binds (ps := ["self", "size", "total", "kept"]) fun _ _ _ _ _ _ us hl => match us, hl with | [_, _, _, _], _ => rfl,
    PySem.W.mg_of X G gC, PySem.W.mg_of X G gU, PySem.W.mg_of X G gO, kit_false sU iU tU sC, kit_false sO iO tO sC, ha, hn, htk, hm⟩
  gcd := PySem.W.mg_of X G gg
  len := PySem.W.mg_none_of X G z_len
  sum := PySem.W.mg_none_of X G z_sum
  range := PySem.W.mg_none_of X G z_range
  int := PySem.W.mg_none_of X G z_int
  list := PySem.W.mg_none_of X G z_list
  dict := PySem.W.mg_none_of X G z_dict
  abs := PySem.W.mg_none_of X G z_abs
  max := PySem.W.mg_none_of X G z_max
  min := PySem.W.mg_none_of X G z_min
  any := PySem.W.mg_none_of X G z_any
  isi := PySem.W.mg_none_of X G z_isinstance
  nR := noth_mk X G na1 nl1 nc1 nd1
  nE := noth_mk X G na2 nl2 nc2 nd2
  d_lowest := d_lowest.ok X G fun _ _ _ _ _ _ us hl => match us, hl with | [_, _], _ => rfl
  d_plus := d_plus.ok X G fun _ _ _ _ _ _ us hl => match us, hl with | [_, _], _ => rfl
  d_minus := d_minus.ok X G fun _ _ _ _ _ _ us hl => match us, hl with | [_, _], _ => rfl
  d_times := d_times.ok X G fun _ _ _ _ _ _ us hl => match us, hl with | [_, _], _ => rfl
  d_over := d_over.ok X G fun _ _ _ _ _ _ us hl => match us, hl with | [_, _], _ => rfl
  d_sum_of := d_sum_of.ok X G fun _ _ _ _ _ _ us hl => match us, hl with | [_], _ => rfl
  d_whole_number := d_whole_number.ok X G fun _ _ _ _ _ _ us hl => match us, hl with | [_], _ => rfl
  d_amount_of := d_amount_of.ok X G fun _ _ _ _ _ _ us hl => match us, hl with | [_, _], _ => rfl
  d_true_sum := d_true_sum.ok X G fun _ _ _ _ _ _ us hl => match us, hl with | [_, _], _ => rfl
  d_is_whole := d_is_whole.ok X G fun _ _ _ _ _ _ us hl => match us, hl with | [_], _ => rfl
  d_spread := d_spread.ok X G fun _ _ _ _ _ _ us hl => match us, hl with | [_, _], _ => rfl
  d_mean_of := d_mean_of.ok X G fun _ _ _ _ _ _ us hl => match us, hl with | [_], _ => rfl
  d_ordered_of := d_ordered_of.ok X G fun _ _ _ _ _ _ us hl => match us, hl with | [_, _, _], _ => rfl
  d_estimate_weighted := d_estimate_weighted.ok X G fun _ _ _ _ _ _ us hl => match us, hl with | [_, _], _ => rfl
  d_estimate := d_estimate.ok X G fun _ _ _ _ _ _ us hl => match us, hl with | [_, _], _ => rfl
  d_ordered := d_ordered.ok X G fun _ _ _ _ _ _ us hl => match us, hl with | [_, _], _ => rfl
  d__law_mix := d__law_mix.ok X G fun _ _ _ _ _ _ us hl => match us, hl with | [_, _], _ => rfl
  d__law_numbers := d__law_numbers.ok X G fun _ _ _ _ _ _ us hl => match us, hl with | [_, _], _ => rfl
  d__law_take := d__law_take.ok X G fun _ _ _ _ _ _ us hl => match us, hl with | [_, _], _ => rfl
  d__law_low := d__law_low.ok X G fun _ _ _ _ _ _ us hl => match us, hl with | [_, _], _ => rfl
  d__law_plus := d__law_plus.ok X G fun _ _ _ _ _ _ us hl => match us, hl with | [_, _], _ => rfl
  d__law_minus := d__law_minus.ok X G fun _ _ _ _ _ _ us hl => match us, hl with | [_, _], _ => rfl
  d__law_times := d__law_times.ok X G fun _ _ _ _ _ _ us hl => match us, hl with | [_, _], _ => rfl
  d__law_sum := d__law_sum.ok X G fun _ _ _ _ _ _ us hl => match us, hl with | [_], _ => rfl
  d__law_items := d__law_items.ok X G fun _ _ _ _ _ _ us hl => match us, hl with | [_, _], _ => rfl
  d__law_amounts := d__law_amounts.ok X G fun _ _ _ _ _ _ us hl => match us, hl with | [_, _], _ => rfl
  d__law_true := d__law_true.ok X G fun _ _ _ _ _ _ us hl => match us, hl with | [_, _], _ => rfl
  d__law_moments := d__law_moments.ok X G fun _ _ _ _ _ _ us hl => match us, hl with | [_], _ => rfl
  d__law_orders := d__law_orders.ok X G fun _ _ _ _ _ _ us hl => match us, hl with | [_, _], _ => rfl
  d__law_order_chance := d__law_order_chance.ok X G fun _ _ _ _ _ _ us hl => match us, hl with | [_, _], _ => rfl
  d_law := d_law.ok X G fun _ _ _ _ _ _ us hl => match us, hl with | [_], _ => rfl

/-- the law's promise, from the top's facts -/
theorem all_mk {l : PySem.W.OpenLaw} {w : World} {K : PySem.W.Frag} {h : Heap} {mg : Str → Option Value} {fa C : Addr} (hfa : mg "law" = some (.ref fa)) (T : Txt K mg C) :
    ∃ fd : FuncData, (∀ (s : Shared) (v : Value), BindsTo s fd ⟨[v], []⟩ [("_law_script", v)]) ∧ ∀ base : Heap, K.In base → base.Ns mainGlobals mg → FnOk l.prog w K mg base CX0 8 fa fd ["_law_script"] (spLaw K) := by
  obtain ⟨f, fd, F, m, b⟩ := T.d_law.ex
  have e := hfa.symm.trans m
  cases e
  refine ⟨fd, fun s v => ?_, fun base _ _ => ?_⟩
  · obtain ⟨oc, od, kV, doc, pm, an, cdv, ct, osl, rfl, lk, hcd⟩ := F.ex
    exact .of_eq rfl
  · exact law_ok T F
theorem walk {l : PySem.W.OpenLaw} {q : Program} {loose : List Str} {XP : (Str → Option Value) → Heap → Prop} {YP : World → Heap → Prop} {d : DefRec} {K : Params → PySem.W.Frag} (hn : l.most = some 63) (hdf : d.params.defaults = [])
    (hY : ∀ (w : World) (h : Heap), YP w h → (K w.params).In h)
    (F : ∀ (w : World) (mg : Str → Option Value) (fa : Addr) (h : Heap), (K w.params).In h → h.Ns mainGlobals mg → mg d.name = some (.ref fa) →
      ∃ fd : FuncData, (∀ (s : Shared) (u : Value), BindsTo s fd ⟨[u], []⟩ [("_law_script", u)]) ∧ ∀ base : Heap, (K w.params).In base → base.Ns mainGlobals mg → FnOk l.prog w (K w.params) mg base CX0 8 fa fd ["_law_script"] (spLaw (K w.params))) :
    PySem.W.WalkO q loose XP YP l.row.toRowW d [] (fun f vs => PySem.call f vs) :=
  L2.walk_of (n := 63) (k := 8) (x := "_law_script") (CX := fun _ => CX0) (sp := fun w => spLaw (K w.params)) hn (by decide) hdf ⟨rfl, by decide, by decide⟩ hY F (fun _ _ a ns hl _ hS => ⟨a, ns, rfl, hS, hl, fun _ => rfl⟩) fun _ _ _ _ _ z => z
end K34

open PySem PySem.W PyProof.Rows
set_option maxRecDepth 100000 in
set_option maxHeartbeats 0 in
theorem PySem.Challenge.cw_samphire_k34_whole_weighted_estimates_holds : PySem.Challenge.rw_samphire_k34_whole_weighted_estimates.Holds := by
  w_on; o_law; k_head; (case hw => w_witness2)
  k_fill
  refine K34.walk (l := PySem.Challenge.rw_samphire_k34_whole_weighted_estimates) rfl rfl (fun w h Y => PySem.W.kIn_of Y) ?F
  case F =>
    intro w mg fa h KX G hmg
    refine' K34.all_mk (h := h) hmg (K34.txt_mk KX G ?gC ?gU ?gO ?cpg ?chd ?cpo ?csa ?nS ?nT ?nK ?mkC ?iI ?fnI ?kC ?lI ?cI ?kI ?sU ?iU ?tU ?sO ?iO ?tO ?sC ?ha ?hn ?htk ?hm ?gg ?z_len ?z_sum ?z_range ?z_int ?z_list ?z_dict ?z_abs ?z_max ?z_min ?z_any ?z_isinstance ?na1 ?nl1 ?nc1 ?nd1 ?na2 ?nl2 ?nc2 ?nd2 ?d_lowest ?d_plus ?d_minus ?d_times ?d_over ?d_sum_of ?d_whole_number ?d_amount_of ?d_true_sum ?d_is_whole ?d_spread ?d_mean_of ?d_ordered_of ?d_estimate_weighted ?d_estimate ?d_ordered ?d__law_mix ?d__law_numbers ?d__law_take ?d__law_low ?d__law_plus ?d__law_minus ?d__law_times ?d__law_sum ?d__law_items ?d__law_amounts ?d__law_true ?d__law_moments ?d__law_orders ?d__law_order_chance ?d_law)
    (case gC => first | k_is | rfl)
    (case gU => first | k_is | rfl)
    (case gO => first | k_is | rfl)
    (case cpg => first | k_is | rfl)
    (case chd => first | k_is | rfl)
    (case cpo => first | k_is | rfl)
    (case csa => first | k_is | rfl)
    (case nS => first | k_is | rfl)
    (case nT => first | k_is | rfl)
    (case nK => first | k_is | rfl)
    (case mkC => first | k_is | rfl)
    (case iI => first | k_is | rfl)
    (case fnI => first | k_is | rfl)
    (case kC => first | k_is | rfl)
    (case lI => first | k_is | rfl)
    (case cI => first | k_is | rfl)
    (case kI => first | k_is | rfl)
    (case sU => first | k_is | rfl)
    (case iU => first | k_is | rfl)
    (case tU => first | k_is | rfl)
    (case sO => first | k_is | rfl)
    (case iO => first | k_is | rfl)
    (case tO => first | k_is | rfl)
    (case sC => first | k_is | rfl)
    (case ha => first | k_is | rfl)
    (case hn => first | k_is | rfl)
    (case htk => first | k_is | rfl)
    (case hm => first | k_is | rfl)
    (case gg => first | k_is | rfl)
    (case z_len => first | k_is | rfl)
    (case z_sum => first | k_is | rfl)
    (case z_range => first | k_is | rfl)
    (case z_int => first | k_is | rfl)
    (case z_list => first | k_is | rfl)
    (case z_dict => first | k_is | rfl)
    (case z_abs => first | k_is | rfl)
    (case z_max => first | k_is | rfl)
    (case z_min => first | k_is | rfl)
    (case z_any => first | k_is | rfl)
    (case z_isinstance => first | k_is | rfl)
    (case na1 => first | k_is | rfl)
    (case nl1 => first | k_is | rfl)
    (case nc1 => rfl)
    (case nd1 => rfl)
    (case na2 => first | k_is | rfl)
    (case nl2 => first | k_is | rfl)
    (case nc2 => rfl)
    (case nd2 => rfl)
    (case d_lowest => (refine' K34.TopDef.mk' ?a ?l ?c ?k; (case a => k_is); (case l => k_is); (case c => k_is); (case k => k_is)))
    (case d_plus => (refine' K34.TopDef.mk' ?a ?l ?c ?k; (case a => k_is); (case l => k_is); (case c => k_is); (case k => k_is)))
    (case d_minus => (refine' K34.TopDef.mk' ?a ?l ?c ?k; (case a => k_is); (case l => k_is); (case c => k_is); (case k => k_is)))
    (case d_times => (refine' K34.TopDef.mk' ?a ?l ?c ?k; (case a => k_is); (case l => k_is); (case c => k_is); (case k => k_is)))
    (case d_over => (refine' K34.TopDef.mk' ?a ?l ?c ?k; (case a => k_is); (case l => k_is); (case c => k_is); (case k => k_is)))
    (case d_sum_of => (refine' K34.TopDef.mk' ?a ?l ?c ?k; (case a => k_is); (case l => k_is); (case c => k_is); (case k => k_is)))
    (case d_whole_number => (refine' K34.TopDef.mk' ?a ?l ?c ?k; (case a => k_is); (case l => k_is); (case c => k_is); (case k => k_is)))
    (case d_amount_of => (refine' K34.TopDef.mk' ?a ?l ?c ?k; (case a => k_is); (case l => k_is); (case c => k_is); (case k => k_is)))
    (case d_true_sum => (refine' K34.TopDef.mk' ?a ?l ?c ?k; (case a => k_is); (case l => k_is); (case c => k_is); (case k => k_is)))
    (case d_is_whole => (refine' K34.TopDef.mk' ?a ?l ?c ?k; (case a => k_is); (case l => k_is); (case c => k_is); (case k => k_is)))
    (case d_spread => (refine' K34.TopDef.mk' ?a ?l ?c ?k; (case a => k_is); (case l => k_is); (case c => k_is); (case k => k_is)))
    (case d_mean_of => (refine' K34.TopDef.mk' ?a ?l ?c ?k; (case a => k_is); (case l => k_is); (case c => k_is); (case k => k_is)))
    (case d_ordered_of => (refine' K34.TopDef.mk' ?a ?l ?c ?k; (case a => k_is); (case l => k_is); (case c => k_is); (case k => k_is)))
    (case d_estimate_weighted => (refine' K34.TopDef.mk' ?a ?l ?c ?k; (case a => k_is); (case l => k_is); (case c => k_is); (case k => k_is)))
    (case d_estimate => (refine' K34.TopDef.mk' ?a ?l ?c ?k; (case a => k_is); (case l => k_is); (case c => k_is); (case k => k_is)))
    (case d_ordered => (refine' K34.TopDef.mk' ?a ?l ?c ?k; (case a => k_is); (case l => k_is); (case c => k_is); (case k => k_is)))
    (case d__law_mix => (refine' K34.TopDef.mk' ?a ?l ?c ?k; (case a => k_is); (case l => k_is); (case c => k_is); (case k => k_is)))
    (case d__law_numbers => (refine' K34.TopDef.mk' ?a ?l ?c ?k; (case a => k_is); (case l => k_is); (case c => k_is); (case k => k_is)))
    (case d__law_take => (refine' K34.TopDef.mk' ?a ?l ?c ?k; (case a => k_is); (case l => k_is); (case c => k_is); (case k => k_is)))
    (case d__law_low => (refine' K34.TopDef.mk' ?a ?l ?c ?k; (case a => k_is); (case l => k_is); (case c => k_is); (case k => k_is)))
    (case d__law_plus => (refine' K34.TopDef.mk' ?a ?l ?c ?k; (case a => k_is); (case l => k_is); (case c => k_is); (case k => k_is)))
    (case d__law_minus => (refine' K34.TopDef.mk' ?a ?l ?c ?k; (case a => k_is); (case l => k_is); (case c => k_is); (case k => k_is)))
    (case d__law_times => (refine' K34.TopDef.mk' ?a ?l ?c ?k; (case a => k_is); (case l => k_is); (case c => k_is); (case k => k_is)))
    (case d__law_sum => (refine' K34.TopDef.mk' ?a ?l ?c ?k; (case a => k_is); (case l => k_is); (case c => k_is); (case k => k_is)))
    (case d__law_items => (refine' K34.TopDef.mk' ?a ?l ?c ?k; (case a => k_is); (case l => k_is); (case c => k_is); (case k => k_is)))
    (case d__law_amounts => (refine' K34.TopDef.mk' ?a ?l ?c ?k; (case a => k_is); (case l => k_is); (case c => k_is); (case k => k_is)))
    (case d__law_true => (refine' K34.TopDef.mk' ?a ?l ?c ?k; (case a => k_is); (case l => k_is); (case c => k_is); (case k => k_is)))
    (case d__law_moments => (refine' K34.TopDef.mk' ?a ?l ?c ?k; (case a => k_is); (case l => k_is); (case c => k_is); (case k => k_is)))
    (case d__law_orders => (refine' K34.TopDef.mk' ?a ?l ?c ?k; (case a => k_is); (case l => k_is); (case c => k_is); (case k => k_is)))
    (case d__law_order_chance => (refine' K34.TopDef.mk' ?a ?l ?c ?k; (case a => k_is); (case l => k_is); (case c => k_is); (case k => k_is)))
    (case d_law => (refine' K34.TopDef.mk' ?a ?l ?c ?k; (case a => k_is); (case l => k_is); (case c => k_is); (case k => k_is)))
#print axioms PySem.Challenge.cw_samphire_k34_whole_weighted_estimates_holds
