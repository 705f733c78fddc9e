import PyProof.Rows.All
import Wide.All
import OpenK.AllK
import Wide.FinOn
import HandS.ForMost
import HandS.ForExc
import HandS.More
import HandS.DictComp
import HandS.TupAny
import HandS.TupLe
import HandS.IsInst
import HandS.Strs
import HandS.Deep
import HandS.Conv
import HandS.Style
import HandS.Star
import HandS.Lambda
import HandS.EndTab
import HandS.ExcInit
import HandS.ExcIs
import HandS.ExcField
import HandS.NoneIn
import HandS.Zip
import HandS.Flow
import HandS.Walk
import KE.KDictZip
import KE.KDflt
import KE.KNestM
import PyProof.ReprRoads
import PySem.Challenge.RW_namedcuts_k02_whole_ways_and_all_worlds
import KE.GoesMore
import KE.GoesEnum
import PyProof.Draws
import KE.KDictCopyH
import KE.KDictDisplayH
import HandS.Zip0
import HandS.FStrTup
set_option autoImplicit false
set_option linter.all false
namespace K2
section
variable {α : Type} [DecidableEq α]

/-- a fact: one, whether "ahead", other -/
abbrev Fact (α : Type) := α × Bool × α

def SatF (v : α → Int) (f : Fact α) : Prop := if f.2.1 = true then v f.1 < v f.2.2 else v f.1 ≤ v f.2.2
instance (v : α → Int) (f : Fact α) : Decidable (SatF v f) := by unfold SatF; exact inferInstance
def Sat (v : α → Int) (F : List (Fact α)) : Prop := ∀ f ∈ F, SatF v f
instance (v : α → Int) (F : List (Fact α)) : Decidable (Sat v F) := by unfold Sat; exact inferInstance

/-- a way by facts; the mark: whether one of them is "ahead" -/
inductive Wk (F : List (Fact α)) : α → Bool → α → Prop
  | nil (x : α) : Wk F x false x
  | cons {x y z : α} {w m : Bool} : (x, w, y) ∈ F → Wk F y m z → Wk F x (w || m) z

theorem Wk.one {F : List (Fact α)} {x y : α} {w : Bool} (h : (x, w, y) ∈ F) : Wk F x w y := by
  have := Wk.cons h (Wk.nil y)
  rwa [Bool.or_false] at this

theorem Wk.trans {F : List (Fact α)} {x y z : α} {m n : Bool} (a : Wk F x m y) (b : Wk F y n z) : Wk F x (m || n) z := by
  induction a with
  | nil x => simpa using b
  | cons h _ ih => rw [Bool.or_assoc]; exact .cons h (ih b)

theorem Wk.sat {F : List (Fact α)} {v : α → Int} (hv : Sat v F) {x y : α} {m : Bool} (a : Wk F x m y) : v x ≤ v y ∧ (m = true → v x < v y) := by
  induction a with
  | nil x => exact ⟨Int.le_refl _, fun h => by cases h⟩
  | @cons x y z w m h _ ih =>
    have := hv _ h
    unfold SatF at this
    cases w <;> cases m <;> simp at this ih ⊢ <;> omega

theorem Wk.mono {F G : List (Fact α)} (h : ∀ f ∈ F, f ∈ G) {x y : α} {m : Bool} (a : Wk F x m y) : Wk G x m y := by
  induction a with
  | nil x => exact .nil x
  | cons e _ ih => exact .cons (h _ e) ih

/-! ### levels_of by folds -/
def mx (i j : Int) : Int := if j > i then j else i
def lv (w : Bool) : Int := if w then 2 else 1
def upd2 (g : α → α → Int) (a b : α) (n : Int) : α → α → Int := fun x y => if x = a ∧ y = b then n else g x y
def g0 : α → α → Int := fun x y => if x = y then 1 else 0
def stepF (g : α → α → Int) (f : Fact α) : α → α → Int := upd2 g f.1 f.2.2 (mx (g f.1 f.2.2) (lv f.2.1))
def gFacts (F : List (Fact α)) : α → α → Int := F.foldl stepF g0
def step3 (m one : α) (g : α → α → Int) (other : α) : α → α → Int :=
  if 0 < g one m ∧ 0 < g m other then upd2 g one other (mx (g one other) (mx (g one m) (g m other))) else g
def step2 (N : List α) (m : α) (g : α → α → Int) (one : α) : α → α → Int := N.foldl (step3 m one) g
def step1 (N : List α) (g : α → α → Int) (m : α) : α → α → Int := N.foldl (step2 N m) g
def lev (N : List α) (F : List (Fact α)) : α → α → Int := N.foldl (step1 N) (gFacts F)

/-- what a level tells is borne by ways -/
structure Borne (F : List (Fact α)) (g : α → α → Int) : Prop where
  lo : ∀ x y, 0 ≤ g x y
  hi : ∀ x y, g x y ≤ 2
  one : ∀ x y, 0 < g x y → ∃ m, Wk F x m y
  two : ∀ x y, 1 < g x y → Wk F x true y

theorem Borne.g0 (F : List (Fact α)) : Borne F K2.g0 := by
  constructor <;> intro x y <;> unfold K2.g0 <;> split
  · decide
  · decide
  · decide
  · decide
  · rename_i h; intro _; subst h; exact ⟨_, .nil x⟩
  · intro h; omega
  · intro h; omega
  · intro h; omega

theorem Borne.upd {F : List (Fact α)} {g : α → α → Int} (B : Borne F g) {a b : α} {n : Int} (h0 : 0 ≤ n) (h2 : n ≤ 2) (h3 : 0 < n → ∃ m, Wk F a m b) (h4 : 1 < n → Wk F a true b) : Borne F (upd2 g a b n) := by
  constructor <;> intro x y <;> unfold upd2 <;> split
  · exact h0
  · exact B.lo x y
  · exact h2
  · exact B.hi x y
  · rename_i h; rw [h.1, h.2]; exact h3
  · exact B.one x y
  · rename_i h; rw [h.1, h.2]; exact h4
  · exact B.two x y

theorem Borne.stepF {F : List (Fact α)} {g : α → α → Int} (B : Borne F g) {f : Fact α} (hf : f ∈ F) : Borne F (stepF g f) := by
  obtain ⟨a, w, b⟩ := f
  have := B.lo a b; have := B.hi a b; have o1 := B.one a b; have o2 := B.two a b
  unfold K2.stepF
  refine B.upd ?_ ?_ ?_ ?_ <;> simp only [mx, lv] <;> cases w <;> simp only [Bool.false_eq_true, if_false, if_true]
  · split <;> omega
  · split <;> omega
  · split <;> omega
  · split <;> omega
  · intro _; exact ⟨_, Wk.one hf⟩
  · intro _; exact ⟨_, Wk.one hf⟩
  · split
    · intro h; omega
    · exact o2
  · intro _; exact Wk.one hf

theorem Borne.step3 {F : List (Fact α)} {g : α → α → Int} (B : Borne F g) (m one other : α) : Borne F (step3 m one g other) := by
  unfold K2.step3
  split
  · rename_i h
    obtain ⟨m1, w1⟩ := B.one _ _ h.1
    obtain ⟨m2, w2⟩ := B.one _ _ h.2
    have l1 := B.lo one other; have l2 := B.lo one m; have l3 := B.lo m other
    have u1 := B.hi one other; have u2 := B.hi one m; have u3 := B.hi m other
    have t1 := B.two one other
    have t2 : 1 < g one m → Wk F one true other := fun h => by
      have := (B.two _ _ h).trans w2
      rwa [Bool.true_or] at this
    have t3 : 1 < g m other → Wk F one true other := fun h => by
      have := w1.trans (B.two _ _ h)
      rwa [Bool.or_true] at this
    refine B.upd ?_ ?_ ?_ ?_ <;> simp only [mx]
    · split <;> split <;> omega
    · split <;> split <;> omega
    · intro _; exact ⟨_, w1.trans w2⟩
    · split <;> split <;> assumption
  · exact B

theorem foldl_inv {β γ : Type} (P : β → Prop) (f : β → γ → β) : ∀ (l : List γ) (b : β), P b → (∀ b c, c ∈ l → P b → P (f b c)) → P (l.foldl f b)
  | [], b, h, _ => h
  | c :: l, b, h, k => foldl_inv P f l (f b c) (k b c List.mem_cons_self h) fun b' c' hc => k b' c' (List.mem_cons_of_mem _ hc)

theorem Borne.gFacts (F : List (Fact α)) : Borne F (gFacts F) := foldl_inv (Borne F) K2.stepF F K2.g0 (Borne.g0 F) fun _ _ hf B => B.stepF hf
theorem Borne.step1 {F : List (Fact α)} {g : α → α → Int} (B : Borne F g) (N : List α) (m : α) : Borne F (step1 N g m) :=
  foldl_inv (Borne F) (step2 N m) N g B fun _ one _ B => foldl_inv (Borne F) (K2.step3 m one) N _ B fun _ other _ B => B.step3 m one other
theorem Borne.lev (N : List α) (F : List (Fact α)) : Borne F (lev N F) :=
  foldl_inv (Borne F) (K2.step1 N) N _ (Borne.gFacts F) fun _ m _ B => B.step1 N m

/-! ### what the levels reach -/
theorem upd2_same (g : α → α → Int) (a b : α) (n : Int) : upd2 g a b n a b = n := by unfold upd2; simp
theorem upd2_ne (g : α → α → Int) {a b x y : α} (n : Int) (h : ¬ (x = a ∧ y = b)) : upd2 g a b n x y = g x y := by unfold upd2; rw [if_neg h]
theorem le_mx_l (i j : Int) : i ≤ mx i j := by unfold mx; split <;> omega
theorem le_mx_r (i j : Int) : j ≤ mx i j := by unfold mx; split <;> omega
theorem mx_le {i j k : Int} (a : i ≤ k) (b : j ≤ k) : mx i j ≤ k := by unfold mx; split <;> omega

def LeG (g h : α → α → Int) : Prop := ∀ x y, g x y ≤ h x y
theorem LeG.refl (g : α → α → Int) : LeG g g := fun _ _ => Int.le_refl _
theorem LeG.trans {g h k : α → α → Int} (a : LeG g h) (b : LeG h k) : LeG g k := fun x y => Int.le_trans (a x y) (b x y)
theorem LeG.upd (g : α → α → Int) {a b : α} {n : Int} (h : g a b ≤ n) : LeG g (upd2 g a b n) := fun x y => by
  unfold upd2; split
  · rename_i e; rw [e.1, e.2]; exact h
  · exact Int.le_refl _
theorem LeG.stepF (g : α → α → Int) (f : Fact α) : LeG g (stepF g f) := LeG.upd g (le_mx_l _ _)
theorem LeG.step3 (m one : α) (g : α → α → Int) (other : α) : LeG g (step3 m one g other) := by
  unfold K2.step3; split
  · exact LeG.upd g (le_mx_l _ _)
  · exact LeG.refl g
theorem LeG.foldl {γ : Type} (f : (α → α → Int) → γ → (α → α → Int)) (h : ∀ g c, LeG g (f g c)) : ∀ (l : List γ) (g : α → α → Int), LeG g (l.foldl f g)
  | [], g => LeG.refl g
  | c :: l, g => (h g c).trans (LeG.foldl f h l (f g c))
theorem LeG.step1 (N : List α) (g : α → α → Int) (m : α) : LeG g (step1 N g m) :=
  LeG.foldl _ (fun g one => LeG.foldl _ (fun g other => LeG.step3 m one g other) N g) N g

theorem gFacts_fact {F : List (Fact α)} {f : Fact α} (hf : f ∈ F) : lv f.2.1 ≤ gFacts F f.1 f.2.2 := by
  have key : ∀ (l : List (Fact α)) (g : α → α → Int), f ∈ l → lv f.2.1 ≤ l.foldl K2.stepF g f.1 f.2.2 := by
    intro l
    induction l with
    | nil => intro g h; cases h
    | cons c l ih =>
      intro g h
      rcases List.mem_cons.mp h with e | h
      · subst e
        refine Int.le_trans ?_ (LeG.foldl _ LeG.stepF l _ f.1 f.2.2)
        unfold K2.stepF
        rw [upd2_same]
        exact le_mx_r _ _
      · exact ih _ h
  exact key F _ hf
theorem lev_fact (N : List α) {F : List (Fact α)} {f : Fact α} (hf : f ∈ F) : lv f.2.1 ≤ lev N F f.1 f.2.2 :=
  Int.le_trans (gFacts_fact hf) (LeG.foldl _ (LeG.step1 N) N _ _ _)
theorem lev_refl (N : List α) (F : List (Fact α)) (x : α) : 1 ≤ lev N F x x := by
  refine Int.le_trans ?_ (LeG.foldl _ (LeG.step1 N) N _ x x)
  refine Int.le_trans ?_ (LeG.foldl _ LeG.stepF F _ x x)
  unfold g0; simp

/-- where a way goes on through m -/
def TT (g : α → α → Int) (m x y : α) : Int := if 0 < g x m ∧ 0 < g m y then mx (g x y) (mx (g x m) (g m y)) else g x y

theorem TT_ge (g : α → α → Int) (m x y : α) : g x y ≤ TT g m x y := by unfold TT; split; exact le_mx_l _ _; exact Int.le_refl _

theorem TT_col {g : α → α → Int} {m : α} (h1 : g m m = 1) (x : α) : TT g m x m = g x m := by
  unfold TT; rw [h1]; split
  · rename_i h
    refine Int.le_antisymm (mx_le (Int.le_refl _) (mx_le (Int.le_refl _) (by omega))) (le_mx_l _ _)
  · rfl
theorem TT_row {g : α → α → Int} {m : α} (h1 : g m m = 1) (y : α) : TT g m m y = g m y := by
  unfold TT; rw [h1]; split
  · rename_i h
    refine Int.le_antisymm (mx_le (Int.le_refl _) (mx_le (by omega) (Int.le_refl _))) (le_mx_l _ _)
  · rfl

theorem step1_eq (N : List α) (g : α → α → Int) (m : α) (h1 : g m m = 1) (h0 : ∀ x y, 0 ≤ g x y) : ∀ x ∈ N, ∀ y ∈ N, step1 N g m x y = TT g m x y := by
  have c1 := TT_col h1
  have c2 := TT_row h1
  -- between g and TT
  let B : (α → α → Int) → Prop := fun h => LeG g h ∧ ∀ x y, h x y ≤ TT g m x y
  have bm : ∀ h, B h → (∀ x, h x m = g x m) ∧ (∀ y, h m y = g m y) := fun h b => ⟨fun x => by
    have := b.1 x m; have := b.2 x m; rw [c1] at this; omega, fun y => by
    have := b.1 m y; have := b.2 m y; rw [c2] at this; omega⟩
  have b3 : ∀ one h other, B h → B (step3 m one h other) ∧ TT g m one other ≤ step3 m one h other one other := fun one h other b => by
    obtain ⟨e1, e2⟩ := bm h b
    unfold K2.step3
    rw [e1, e2]
    split
    · rename_i q
      refine ⟨⟨b.1.trans (LeG.upd h (le_mx_l _ _)), fun x y => ?_⟩, ?_⟩
      · unfold upd2; split
        · rename_i e
          rw [e.1, e.2]
          refine mx_le (b.2 _ _) ?_
          unfold TT; rw [if_pos q]; exact le_mx_r _ _
        · exact b.2 x y
      · rw [upd2_same]
        unfold TT; rw [if_pos q]
        refine mx_le (Int.le_trans (b.1 _ _) (le_mx_l _ _)) (le_mx_r _ _)
    · rename_i q
      refine ⟨b, ?_⟩
      unfold TT; rw [if_neg q]; exact b.1 _ _
  have b2 : ∀ one (l : List α) h, B h → B (l.foldl (K2.step3 m one) h) ∧ ∀ y ∈ l, TT g m one y ≤ l.foldl (K2.step3 m one) h one y := by
    intro one l
    induction l with
    | nil => intro h b; exact ⟨b, fun y hy => by cases hy⟩
    | cons c l ih =>
      intro h b
      obtain ⟨b', q⟩ := b3 one h c b
      obtain ⟨b'', q'⟩ := ih _ b'
      refine ⟨b'', fun y hy => ?_⟩
      rcases List.mem_cons.mp hy with e | hy
      · subst e
        exact Int.le_trans q (LeG.foldl _ (fun g other => LeG.step3 m one g other) l _ _ _)
      · exact q' y hy
  have b1 : ∀ (l : List α) h, B h → B (l.foldl (step2 N m) h) ∧ ∀ x ∈ l, ∀ y ∈ N, TT g m x y ≤ l.foldl (step2 N m) h x y := by
    intro l
    induction l with
    | nil => intro h b; exact ⟨b, fun y hy => by cases hy⟩
    | cons c l ih =>
      intro h b
      obtain ⟨b', q⟩ := b2 c N h b
      obtain ⟨b'', q'⟩ := ih (step2 N m h c) b'
      refine ⟨b'', fun x hx y hy => ?_⟩
      rcases List.mem_cons.mp hx with e | hx
      · subst e
        exact Int.le_trans (q y hy) (LeG.foldl _ (fun g one => LeG.foldl _ (fun g other => LeG.step3 m one g other) N g) l _ _ _)
      · exact q' x hx y hy
  obtain ⟨⟨_, u⟩, q⟩ := b1 N g ⟨LeG.refl g, TT_ge g m⟩
  intro x hx y hy
  exact Int.le_antisymm (u x y) (q x hx y hy)

/-- closed under going through the names of S -/
def Cl (N : List α) (g : α → α → Int) (p : α) : Prop := ∀ x ∈ N, ∀ y ∈ N, 0 < g x p → 0 < g p y → g x p ≤ g x y ∧ g p y ≤ g x y

theorem cl_arith {xp py xy xm mp my pm : Int} (z1 : 0 ≤ xp) (z2 : 0 ≤ py) (z3 : 0 ≤ xy) (z4 : 0 ≤ xm) (z5 : 0 ≤ mp) (z6 : 0 ≤ my) (z7 : 0 ≤ pm)
    (k1 : 0 < xp → 0 < py → xp ≤ xy ∧ py ≤ xy) (k2 : 0 < mp → 0 < py → mp ≤ my ∧ py ≤ my) (k3 : 0 < xp → 0 < pm → xp ≤ xm ∧ pm ≤ xm) (k4 : 0 < mp → 0 < pm → mp ≤ 1 ∧ pm ≤ 1) :
    0 < (if 0 < xm ∧ 0 < mp then mx xp (mx xm mp) else xp) → 0 < (if 0 < pm ∧ 0 < my then mx py (mx pm my) else py) →
    (if 0 < xm ∧ 0 < mp then mx xp (mx xm mp) else xp) ≤ (if 0 < xm ∧ 0 < my then mx xy (mx xm my) else xy) ∧ (if 0 < pm ∧ 0 < my then mx py (mx pm my) else py) ≤ (if 0 < xm ∧ 0 < my then mx xy (mx xm my) else xy) := by
  have G1 : xy ≤ (if 0 < xm ∧ 0 < my then mx xy (mx xm my) else xy) := by
    split
    · exact le_mx_l _ _
    · exact Int.le_refl _
  have G2 : 0 < xm → 0 < my → xm ≤ (if 0 < xm ∧ 0 < my then mx xy (mx xm my) else xy) ∧ my ≤ (if 0 < xm ∧ 0 < my then mx xy (mx xm my) else xy) := fun p q => by
    rw [if_pos ⟨p, q⟩]
    exact ⟨Int.le_trans (le_mx_l _ _) (le_mx_r _ _), Int.le_trans (le_mx_r _ _) (le_mx_r _ _)⟩
  generalize (if 0 < xm ∧ 0 < my then mx xy (mx xm my) else xy) = G at G1 G2 ⊢
  intro hA hB
  have hA' : 0 < xp ∨ (0 < xm ∧ 0 < mp) := by
    split at hA
    · rename_i q; exact .inr q
    · exact .inl hA
  have hB' : 0 < py ∨ (0 < pm ∧ 0 < my) := by
    split at hB
    · rename_i q; exact .inr q
    · exact .inl hB
  refine ⟨?_, ?_⟩
  · split
    · refine mx_le ?_ (mx_le ?_ ?_) <;> omega
    · omega
  · split
    · refine mx_le ?_ (mx_le ?_ ?_) <;> omega
    · omega

theorem Cl.step {N : List α} {g : α → α → Int} {m : α} (hm : m ∈ N) (h1 : g m m = 1) (h0 : ∀ x y, 0 ≤ g x y) : Cl N (step1 N g m) m ∧ ∀ p ∈ N, Cl N g p → Cl N (step1 N g m) p := by
  have e := step1_eq N g m h1 h0
  refine ⟨fun x hx y hy => ?_, fun p hp c x hx y hy => ?_⟩
  · rw [e x hx m hm, e m hm y hy, e x hx y hy]
    rw [TT_col h1, TT_row h1]
    intro a b
    unfold TT; rw [if_pos ⟨a, b⟩]
    exact ⟨Int.le_trans (le_mx_l _ _) (le_mx_r _ _), Int.le_trans (le_mx_r _ _) (le_mx_r _ _)⟩
  · rw [e x hx p hp, e p hp y hy, e x hx y hy]
    have k1 := c x hx y hy
    have k2 := c m hm y hy
    have k3 := c x hx m hm
    have k4 := c m hm m hm
    rw [h1] at k4
    have z1 := h0 x p; have z2 := h0 p y; have z3 := h0 x y; have z4 := h0 x m; have z5 := h0 m p; have z6 := h0 m y; have z7 := h0 p m
    exact cl_arith z1 z2 z3 z4 z5 z6 z7 k1 k2 k3 k4

theorem lev_closed (N : List α) (F : List (Fact α)) {v : α → Int} (hv : Sat v F) : ∀ p ∈ N, Cl N (lev N F) p := by
  have key : ∀ (l : List α) (g : α → α → Int), (∀ m ∈ l, m ∈ N) → Borne F g → (∀ x, 1 ≤ g x x) → (∀ p ∈ N, (p ∈ l → True) → Cl N g p ∨ p ∈ l) → ∀ p ∈ N, Cl N (l.foldl (step1 N) g) p := by
    intro l
    induction l with
    | nil =>
      intro g _ _ _ h p hp
      rcases h p hp (fun _ => trivial) with q | q
      · exact q
      · cases q
    | cons m l ih =>
      intro g hl B r h
      have hm : m ∈ N := hl m List.mem_cons_self
      have h1 : g m m = 1 := by
        have a := r m
        have b : ¬ 1 < g m m := fun z => by
          have := ((B.two _ _ z).sat hv).2 rfl
          omega
        omega
      obtain ⟨q1, q2⟩ := Cl.step hm h1 B.lo
      refine ih (step1 N g m) (fun x hx => hl x (List.mem_cons_of_mem _ hx)) (B.step1 N m) (fun x => Int.le_trans (r x) (LeG.step1 N g m x x)) fun p hp _ => ?_
      rcases h p hp (fun _ => trivial) with q | q
      · exact .inl (q2 p hp q)
      · rcases List.mem_cons.mp q with e | q
        · subst e; exact .inl q1
        · exact .inr q
  refine key N (gFacts F) (fun _ h => h) (Borne.gFacts F) (fun x => ?_) fun p hp _ => .inr hp
  refine Int.le_trans ?_ (LeG.foldl _ LeG.stepF F _ x x)
  unfold g0; simp
end
end K2
namespace K2
section
variable {α : Type} [DecidableEq α]

/-! ### every level that is not told is missed by some world -/
theorem bound_ex (v : α → Int) : ∀ (N : List α), ∃ B : Int, ∀ x ∈ N, -B < v x ∧ v x < B
  | [] => ⟨0, fun x h => by cases h⟩
  | a :: l => by
    obtain ⟨B, hB⟩ := bound_ex v l
    refine ⟨(if B < 0 then 0 else B) + (if v a < 0 then - v a else v a) + 1, fun x hx => ?_⟩
    rcases List.mem_cons.mp hx with e | hx
    · subst e; repeat' split
      all_goals omega
    · have := hB x hx
      repeat' split
      all_goals omega

/-- facts about the names -/
def On (N : List α) (F : List (Fact α)) : Prop := ∀ f ∈ F, f.1 ∈ N ∧ f.2.2 ∈ N

section
variable {N : List α} {F : List (Fact α)} {w0 : α → Int} (hO : On N F) (hw : Sat w0 F) {x y : α} (hx : x ∈ N) (hy : y ∈ N)
include hO hw hx hy

theorem miss_le (h : ¬ 0 < lev N F x y) : ∃ v, Sat v F ∧ v y < v x := by
  have C := lev_closed N F hw
  obtain ⟨B, hB⟩ := bound_ex w0 N
  refine ⟨fun z => w0 z + (if 0 < lev N F x z then 2 * B else 0), fun f hf => ?_, ?_⟩
  · obtain ⟨a, w, b⟩ := f
    obtain ⟨ha, hb⟩ := hO _ hf
    have s := hw _ hf
    have l := lev_fact N hf
    have l1 : 0 < lev N F a b := by
      dsimp only at l; unfold lv at l; split at l <;> omega
    have up : 0 < lev N F x a → 0 < lev N F x b := fun q => by
      have := (C a ha x hx b hb q l1).1; omega
    have b1 := hB a ha
    dsimp only at ha hb
    unfold SatF at s ⊢
    dsimp only at s ⊢
    by_cases q : 0 < lev N F x a
    · have q' := up q
      rw [if_pos q, if_pos q']
      cases w <;> simp at s ⊢ <;> omega
    · rw [if_neg q]
      cases w <;> simp at s ⊢ <;> split <;> omega
  · show w0 y + (if 0 < lev N F x y then 2 * B else 0) < w0 x + (if 0 < lev N F x x then 2 * B else 0)
    have r := lev_refl N F x
    rw [if_neg h, if_pos (by omega)]
    have b1 := hB x hx; have b2 := hB y hy
    omega

theorem miss_lt (h : ¬ 1 < lev N F x y) : ∃ v, Sat v F ∧ v y ≤ v x := by
  by_cases h0 : 0 < lev N F x y
  · have e : lev N F x y = 1 := by omega
    have C := lev_closed N F hw
    obtain ⟨B, hB⟩ := bound_ex w0 N
    refine ⟨fun z => if 0 < lev N F z y then (if 0 < lev N F x z then 0 else w0 z - B) else w0 z + B, fun f hf => ?_, ?_⟩
    · obtain ⟨a, w, b⟩ := f
      obtain ⟨ha, hb⟩ := hO _ hf
      have s := hw _ hf
      have l := lev_fact N hf
      have l1 : 0 < lev N F a b := by
        dsimp only at l; unfold lv at l; split at l <;> omega
      have up : 0 < lev N F x a → 0 < lev N F x b := fun q => by
        have := (C a ha x hx b hb q l1).1; omega
      have dn : 0 < lev N F b y → 0 < lev N F a y := fun q => by
        have := (C b hb a ha y hy l1 q).1; omega
      have no : 0 < lev N F x a → 0 < lev N F b y → w = false := fun q1 q2 => by
        have k1 := (C a ha x hx b hb q1 l1).2
        have k2 := (C b hb x hx y hy (up q1) q2).1
        cases w
        · rfl
        · unfold lv at l; simp at l; omega
      have b1 := hB a ha; have b2 := hB b hb
      dsimp only at ha hb b1 b2
      unfold SatF at s ⊢
      dsimp only at s ⊢
      by_cases p1 : 0 < lev N F a y <;> by_cases p2 : 0 < lev N F x a <;> by_cases p3 : 0 < lev N F b y <;> by_cases p4 : 0 < lev N F x b
      all_goals simp only [p1, p2, p3, p4, if_true, if_false]
      all_goals first
        | exact absurd (up p2) p4
        | exact absurd (dn p3) p1
        | (have := no p2 p3; subst this; simp)
        | (cases w <;> simp at s ⊢ <;> omega)
    · show (if 0 < lev N F y y then (if 0 < lev N F x y then 0 else w0 y - B) else w0 y + B) ≤ (if 0 < lev N F x y then (if 0 < lev N F x x then 0 else w0 x - B) else w0 x + B)
      have r1 := lev_refl N F x; have r2 := lev_refl N F y
      rw [if_pos (show 0 < lev N F y y by omega), if_pos h0, if_pos h0, if_pos (show 0 < lev N F x x by omega)]
      exact Int.le_refl _
  · obtain ⟨v, s, q⟩ := miss_le hO hw hx hy h0
    exact ⟨v, s, Int.le_of_lt q⟩
end

/-! ### the law's rows: ranks twice -/
def ddStep (acc : List Int) (x : Int) : List Int := if x ∈ acc then acc else acc ++ [x]
def dd (l : List Int) : List Int := l.foldl ddStep []
def rankOk (row : List Int) : Bool := (List.range (dd row).length).all fun j => decide ((2 * (j : Int)) ∈ row)
def rowsM (n : Nat) : Nat → List (List Int)
  | 0 => [[]]
  | k + 1 => (rowsM n k).flatMap fun row => (List.range n).map fun r : Nat => row ++ [2 * (r : Int)]
def byM (N : List α) (row : List Int) : α → Int := fun x => ((N.zip row).lookup x).getD 0
def goodRow (N : List α) (F : List (Fact α)) (row : List Int) : Bool := decide (Sat (byM N row) F) && rankOk row
def worldsM (N : List α) (F : List (Fact α)) : List (List Int) := (rowsM N.length N.length).filter (goodRow N F)

theorem mem_rowsM {n : Nat} : ∀ {k : Nat} {row : List Int}, row ∈ rowsM n k ↔ row.length = k ∧ ∀ e ∈ row, ∃ r : Nat, r < n ∧ e = 2 * (r : Int)
  | 0, row => by
    unfold rowsM
    simp only [List.mem_singleton]
    constructor
    · intro h; subst h; exact ⟨rfl, fun e h => by cases h⟩
    · intro h; exact List.length_eq_zero_iff.mp h.1
  | k + 1, row => by
    unfold rowsM
    simp only [List.mem_flatMap, List.mem_map, List.mem_range]
    constructor
    · rintro ⟨r0, h0, r, hr, rfl⟩
      obtain ⟨h1, h2⟩ := mem_rowsM.mp h0
      refine ⟨by simp [h1], fun e he => ?_⟩
      rcases List.mem_append.mp he with he | he
      · exact h2 e he
      · exact ⟨r, hr, by simpa using he⟩
    · rintro ⟨h1, h2⟩
      have hne : row ≠ [] := fun z => by rw [z] at h1; cases h1
      obtain ⟨r, hr, e⟩ := h2 _ (List.getLast_mem hne)
      refine ⟨row.dropLast, mem_rowsM.mpr ⟨by rw [List.length_dropLast, h1]; rfl, fun e he => h2 e (List.dropLast_subset _ he)⟩, r, hr, ?_⟩
      rw [← e]
      exact List.dropLast_concat_getLast hne

theorem mem_worldsM {N : List α} {F : List (Fact α)} {row : List Int} : row ∈ worldsM N F ↔ row ∈ rowsM N.length N.length ∧ Sat (byM N row) F ∧ rankOk row = true := by
  unfold worldsM goodRow
  rw [List.mem_filter, Bool.and_eq_true, decide_eq_true_iff]

theorem lookup_zip_map (r : α → Int) : ∀ (N : List α) (x : α), x ∈ N → (N.zip (N.map r)).lookup x = some (r x)
  | a :: l, x, h => by
    rw [List.map_cons, List.zip_cons_cons, List.lookup_cons]
    by_cases e : x = a
    · subst e; simp
    · have : (x == a) = false := by simpa using e
      rw [this]
      exact lookup_zip_map r l x ((List.mem_cons.mp h).resolve_left e)
theorem byM_map (N : List α) (r : α → Int) {x : α} (h : x ∈ N) : byM N (N.map r) x = r x := by
  unfold byM; rw [lookup_zip_map r N x h]; rfl

/-! ### the distinct values -/
theorem dd_mem_acc (l : List Int) : ∀ (acc : List Int) (x : Int), x ∈ l.foldl ddStep acc ↔ x ∈ acc ∨ x ∈ l := by
  induction l with
  | nil => intro acc x; simp
  | cons a l ih =>
    intro acc x
    rw [List.foldl_cons, ih]
    unfold ddStep
    split
    · rename_i h
      rw [List.mem_cons]
      constructor
      · rintro (q | q); exact .inl q; exact .inr (.inr q)
      · rintro (q | q | q)
        · exact .inl q
        · subst q; exact .inl h
        · exact .inr q
    · rw [List.mem_append, List.mem_singleton, List.mem_cons]
      constructor
      · rintro ((q | q) | q); exact .inl q; exact .inr (.inl q); exact .inr (.inr q)
      · rintro (q | q | q); exact .inl (.inl q); exact .inl (.inr q); exact .inr q
theorem mem_dd {l : List Int} {x : Int} : x ∈ dd l ↔ x ∈ l := by unfold dd; rw [dd_mem_acc]; simp
theorem dd_nodup_acc (l : List Int) : ∀ (acc : List Int), acc.Nodup → (l.foldl ddStep acc).Nodup := by
  induction l with
  | nil => intro acc h; exact h
  | cons a l ih =>
    intro acc h
    refine ih _ ?_
    unfold ddStep
    split
    · exact h
    · rename_i q
      refine List.nodup_append.mpr ⟨h, by simp, fun x hx y hy => ?_⟩
      rw [List.mem_singleton] at hy
      subst hy
      intro e; subst e; exact q hx
theorem nodup_dd (l : List Int) : (dd l).Nodup := dd_nodup_acc l [] List.nodup_nil
theorem dd_len_acc (l : List Int) : ∀ (acc : List Int), (l.foldl ddStep acc).length ≤ acc.length + l.length := by
  induction l with
  | nil => intro acc; exact Nat.le_refl _
  | cons a l ih =>
    intro acc
    refine Nat.le_trans (ih _) ?_
    unfold ddStep
    split
    · simp
    · simp; omega
theorem dd_len (l : List Int) : (dd l).length ≤ l.length := by have := dd_len_acc l []; unfold dd; simpa using this
theorem dd_map_acc (f : Int → Int) (l : List Int) : ∀ (acc : List Int), (∀ a b, (a ∈ acc ∨ a ∈ l) → (b ∈ acc ∨ b ∈ l) → f a = f b → a = b) → (l.map f).foldl ddStep (acc.map f) = (l.foldl ddStep acc).map f := by
  induction l with
  | nil => intro acc _; rfl
  | cons a l ih =>
    intro acc inj
    rw [List.map_cons, List.foldl_cons, List.foldl_cons]
    have e : ddStep (acc.map f) (f a) = (ddStep acc a).map f := by
      unfold ddStep
      by_cases h : a ∈ acc
      · rw [if_pos h, if_pos (List.mem_map.mpr ⟨a, h, rfl⟩)]
      · rw [if_neg h, if_neg (fun z => by
          obtain ⟨b, hb, eb⟩ := List.mem_map.mp z
          have := inj b a (.inl hb) (.inr List.mem_cons_self) eb
          subst this; exact h hb)]
        simp
    rw [e]
    refine ih _ fun b c hb hc => inj b c ?_ ?_
    · have hb' : b ∈ ddStep acc a ∨ b ∈ l := hb
      have := (dd_mem_acc l (ddStep acc a) b)
      rcases hb' with q | q
      · unfold ddStep at q; split at q
        · exact .inl q
        · rcases List.mem_append.mp q with q | q
          · exact .inl q
          · rw [List.mem_singleton] at q; subst q; exact .inr List.mem_cons_self
      · exact .inr (List.mem_cons_of_mem _ q)
    · rcases hc with q | q
      · unfold ddStep at q; split at q
        · exact .inl q
        · rcases List.mem_append.mp q with q | q
          · exact .inl q
          · rw [List.mem_singleton] at q; subst q; exact .inr List.mem_cons_self
      · exact .inr (List.mem_cons_of_mem _ q)
theorem dd_map (f : Int → Int) (l : List Int) (inj : ∀ a ∈ l, ∀ b ∈ l, f a = f b → a = b) : dd (l.map f) = (dd l).map f := by
  have := dd_map_acc f l [] fun a b ha hb => inj a (ha.resolve_left (by simp)) b (hb.resolve_left (by simp))
  simpa [dd] using this

/-! ### pigeons -/
theorem len_of_sub {β : Type} [DecidableEq β] : ∀ (L M : List β), L.Nodup → (∀ x ∈ L, x ∈ M) → L.length ≤ M.length
  | [], M, _, _ => Nat.zero_le _
  | x :: L, M, h, s => by
    obtain ⟨h1, h2⟩ := List.nodup_cons.mp h
    have hx := s x List.mem_cons_self
    have := len_of_sub L (M.erase x) h2 fun y hy => (List.mem_erase_of_ne (fun e => h1 (by rw [← e]; exact hy))).mpr (s y (List.mem_cons_of_mem _ hy))
    rw [List.length_erase_of_mem hx] at this
    have pos : 0 < M.length := List.length_pos_of_mem hx
    rw [List.length_cons]; omega
theorem full_of {L : List Nat} (h : L.Nodup) (lt : ∀ x ∈ L, x < L.length) : ∀ j, j < L.length → j ∈ L := fun j hj => by
  refine Classical.byContradiction fun n => ?_
  have := len_of_sub L ((List.range L.length).erase j) h fun x hx => (List.mem_erase_of_ne (fun e => n (by rw [← e]; exact hx))).mpr (List.mem_range.mpr (lt x hx))
  rw [List.length_erase_of_mem (List.mem_range.mpr hj), List.length_range] at this
  omega

/-! ### ranks -/
def cnt (D : List Int) (a : Int) : Nat := D.countP fun d => decide (d < a)
theorem cnt_mono {D : List Int} {a b : Int} (h : a ≤ b) : cnt D a ≤ cnt D b := List.countP_mono_left fun d _ q => by
  have := of_decide_eq_true q
  exact decide_eq_true (by omega)
theorem cnt_lt : ∀ {D : List Int} {a b : Int}, a ∈ D → a < b → cnt D a < cnt D b
  | d :: D, a, b, ha, h => by
    unfold cnt
    rw [List.countP_cons, List.countP_cons]
    rcases List.mem_cons.mp ha with e | ha
    · subst e
      have m : cnt D a ≤ cnt D b := cnt_mono (Int.le_of_lt h)
      unfold cnt at m
      rw [if_neg (by simp), if_pos (by simpa using h)]
      omega
    · have m := cnt_lt (D := D) ha h
      unfold cnt at m
      by_cases q : d < a
      · rw [if_pos (by simpa using q), if_pos (by simp; omega)]; omega
      · rw [if_neg (by simpa using q)]; omega
theorem cnt_len {D : List Int} {a : Int} (h : a ∈ D) : cnt D a < D.length := by
  have h1 : cnt D a < cnt D (a + 1) := cnt_lt h (by omega)
  have h2 : cnt D (a + 1) ≤ D.length := List.countP_le_length
  omega
theorem cnt_inj {D : List Int} {a b : Int} (ha : a ∈ D) (hb : b ∈ D) (e : cnt D a = cnt D b) : a = b := by
  rcases Int.lt_trichotomy a b with q | q | q
  · have := cnt_lt ha q; omega
  · exact q
  · have := cnt_lt hb q; omega

theorem nodup_map_of {β γ : Type} (f : β → γ) : ∀ (l : List β), l.Nodup → (∀ a ∈ l, ∀ b ∈ l, f a = f b → a = b) → (l.map f).Nodup
  | [], _, _ => List.nodup_nil
  | a :: l, h, inj => by
    obtain ⟨h1, h2⟩ := List.nodup_cons.mp h
    rw [List.map_cons]
    refine List.nodup_cons.mpr ⟨fun z => ?_, nodup_map_of f l h2 fun x hx y hy => inj x (List.mem_cons_of_mem _ hx) y (List.mem_cons_of_mem _ hy)⟩
    obtain ⟨b, hb, e⟩ := List.mem_map.mp z
    have := inj b (List.mem_cons_of_mem _ hb) a List.mem_cons_self e
    subst this; exact h1 hb

/-- each world has a row -/
theorem row_of {N : List α} {F : List (Fact α)} (hO : On N F) {v : α → Int} (hv : Sat v F) :
    ∃ row ∈ worldsM N F, ∀ x ∈ N, ∀ y ∈ N, (v x ≤ v y ↔ byM N row x ≤ byM N row y) := by
  let D := dd (N.map v)
  let r : α → Int := fun x => 2 * (cnt D (v x) : Int)
  have inD : ∀ x ∈ N, v x ∈ D := fun x hx => mem_dd.mpr (List.mem_map.mpr ⟨x, hx, rfl⟩)
  have ord : ∀ x ∈ N, ∀ y ∈ N, (v x ≤ v y ↔ r x ≤ r y) := fun x hx y hy => by
    constructor
    · intro h; have := cnt_mono (D := D) h; show 2 * (cnt D (v x) : Int) ≤ 2 * (cnt D (v y) : Int); omega
    · intro h
      refine Classical.byContradiction fun n => ?_
      have := cnt_lt (D := D) (inD y hy) (show v y < v x by omega)
      have h' : 2 * (cnt D (v x) : Int) ≤ 2 * (cnt D (v y) : Int) := h
      omega
  have by_ : ∀ x ∈ N, byM N (N.map r) x = r x := fun x hx => byM_map N r hx
  refine ⟨N.map r, mem_worldsM.mpr ⟨mem_rowsM.mpr ⟨by simp, fun e he => ?_⟩, fun f hf => ?_, ?_⟩, fun x hx y hy => by rw [by_ x hx, by_ y hy]; exact ord x hx y hy⟩
  · obtain ⟨x, hx, rfl⟩ := List.mem_map.mp he
    refine ⟨cnt D (v x), Nat.lt_of_lt_of_le (cnt_len (inD x hx)) ?_, rfl⟩
    have := dd_len (N.map v)
    rw [List.length_map] at this
    exact this
  · have s := hv f hf
    obtain ⟨ha, hb⟩ := hO f hf
    unfold SatF at s ⊢
    rw [by_ _ ha, by_ _ hb]
    have o1 := ord _ ha _ hb; have o2 := ord _ hb _ ha
    split
    · rename_i q; rw [if_pos q] at s; omega
    · rename_i q; rw [if_neg q] at s; omega
  · unfold rankOk
    have e1 : N.map r = (N.map v).map fun a => 2 * (cnt D a : Int) := by rw [List.map_map]; rfl
    have inj : ∀ a ∈ N.map v, ∀ b ∈ N.map v, 2 * (cnt D a : Int) = 2 * (cnt D b : Int) → a = b := fun a ha b hb e => cnt_inj (D := D) (mem_dd.mpr ha) (mem_dd.mpr hb) (by omega)
    have e2 : dd (N.map r) = D.map fun a => 2 * (cnt D a : Int) := by rw [e1]; exact dd_map _ _ inj
    rw [List.all_eq_true]
    intro j hj
    rw [List.mem_range, e2, List.length_map] at hj
    have nd : (D.map (cnt D)).Nodup := nodup_map_of _ D (nodup_dd _) fun a ha b hb e => cnt_inj ha hb e
    have := full_of nd (fun x hx => by
      obtain ⟨a, ha, rfl⟩ := List.mem_map.mp hx
      rw [List.length_map]; exact cnt_len ha) j (by rw [List.length_map]; exact hj)
    obtain ⟨a, ha, e⟩ := List.mem_map.mp this
    obtain ⟨x, hx, e'⟩ := List.mem_map.mp (mem_dd.mp ha)
    refine decide_eq_true (List.mem_map.mpr ⟨x, hx, ?_⟩)
    show 2 * (cnt D (v x) : Int) = 2 * (j : Int)
    rw [e', e]

/-! ### told is what all worlds say -/
def dueM (W : List (List Int)) (i j : Nat) : Int :=
  if W.filter (fun r => decide (r.getD j 0 ≤ r.getD i 0)) = [] then 2 else if W.filter (fun r => decide (r.getD j 0 < r.getD i 0)) = [] then 1 else 0

theorem lookup_zip_at : ∀ (N : List α) (row : List Int) (i : Nat) (x : α), N.Nodup → N[i]? = some x → row.length = N.length → (N.zip row).lookup x = some (row.getD i 0)
  | a :: l, b :: row, 0, x, h, e, hl => by
    simp at e; subst e; simp
  | a :: l, b :: row, i + 1, x, h, e, hl => by
    obtain ⟨h1, h2⟩ := List.nodup_cons.mp h
    have e' : l[i]? = some x := by simpa using e
    have hx : x ∈ l := List.mem_of_getElem? e'
    rw [List.zip_cons_cons, List.lookup_cons]
    have : (x == a) = false := by simpa using fun z : x = a => h1 (z ▸ hx)
    rw [this, List.getD_cons_succ]
    exact lookup_zip_at l row i x h2 e' (by simpa using hl)
theorem byM_at {N : List α} {row : List Int} {i : Nat} {x : α} (h : N.Nodup) (e : N[i]? = some x) (hl : row.length = N.length) : byM N row x = row.getD i 0 := by
  unfold byM; rw [lookup_zip_at N row i x h e hl]; rfl

theorem world_row {N : List α} {F : List (Fact α)} {row : List Int} (h : row ∈ worldsM N F) : row.length = N.length ∧ Sat (byM N row) F :=
  let ⟨a, b, _⟩ := mem_worldsM.mp h
  ⟨(mem_rowsM.mp a).1, b⟩

theorem told_due {N : List α} {F : List (Fact α)} (hN : N.Nodup) (hO : On N F) (hW : worldsM N F ≠ []) {i j : Nat} {x y : α} (hi : N[i]? = some x) (hj : N[j]? = some y) : dueM (worldsM N F) i j = lev N F x y := by
  have hx : x ∈ N := List.mem_of_getElem? hi
  have hy : y ∈ N := List.mem_of_getElem? hj
  obtain ⟨w0, hw0⟩ := List.exists_mem_of_ne_nil _ hW
  have s0 := (world_row hw0).2
  have B := Borne.lev N F
  have get : ∀ row ∈ worldsM N F, byM N row x = row.getD i 0 ∧ byM N row y = row.getD j 0 := fun row h => ⟨byM_at hN hi (world_row h).1, byM_at hN hj (world_row h).1⟩
  have b0 := B.lo x y; have b2 := B.hi x y
  unfold dueM
  by_cases q2 : 1 < lev N F x y
  · rw [if_pos (List.filter_eq_nil_iff.mpr fun row h => by
      obtain ⟨g1, g2⟩ := get row h
      have := ((B.two x y q2).sat (world_row h).2).2 rfl
      rw [g1, g2] at this
      simp; exact this)]
    omega
  · rw [if_neg (fun z => by
      obtain ⟨v, sv, hv⟩ := miss_lt hO s0 hx hy q2
      obtain ⟨row, hr, ho⟩ := row_of hO sv
      have := fun q => List.filter_eq_nil_iff.mp z row hr (decide_eq_true q)
      obtain ⟨g1, g2⟩ := get row hr
      have o := (ho y hy x hx).mp hv
      rw [g1, g2] at o
      exact this o)]
    by_cases q1 : 0 < lev N F x y
    · rw [if_pos (List.filter_eq_nil_iff.mpr fun row h => by
        obtain ⟨g1, g2⟩ := get row h
        obtain ⟨m, wk⟩ := B.one x y q1
        have := (wk.sat (world_row h).2).1
        rw [g1, g2] at this
        simp; exact this)]
      omega
    · rw [if_neg (fun z => by
        obtain ⟨v, sv, hv⟩ := miss_le hO s0 hx hy q1
        obtain ⟨row, hr, ho⟩ := row_of hO sv
        have := fun q => List.filter_eq_nil_iff.mp z row hr (decide_eq_true q)
        obtain ⟨g1, g2⟩ := get row hr
        have o := ho x hx y hy
        rw [g1, g2] at o
        exact this (by omega))]
      omega

/-! ### same worlds, same levels -/
theorem sat_of_levels {N : List α} {F G : List (Fact α)} (hO : On N F) {v : α → Int} (hv : Sat v G) (e : ∀ x ∈ N, ∀ y ∈ N, lev N F x y = lev N G x y) : Sat v F := fun f hf => by
  obtain ⟨ha, hb⟩ := hO f hf
  have l := lev_fact N hf
  rw [e _ ha _ hb] at l
  have B := Borne.lev N G
  unfold SatF
  unfold lv at l
  split
  · rename_i q
    rw [if_pos q] at l
    exact ((B.two _ _ (by omega)).sat hv).2 rfl
  · rename_i q
    rw [if_neg q] at l
    obtain ⟨m, wk⟩ := B.one _ _ (show 0 < lev N G f.1 f.2.2 by omega)
    exact (wk.sat hv).1
theorem same_iff {N : List α} {F G : List (Fact α)} (hN : N.Nodup) (hF : On N F) (hG : On N G) (wF : worldsM N F ≠ []) (wG : worldsM N G ≠ []) :
    worldsM N F = worldsM N G ↔ ∀ x ∈ N, ∀ y ∈ N, lev N F x y = lev N G x y := by
  constructor
  · intro e x hx y hy
    obtain ⟨i, hi⟩ := List.getElem?_of_mem hx
    obtain ⟨j, hj⟩ := List.getElem?_of_mem hy
    rw [← told_due hN hF wF hi hj, ← told_due hN hG wG hi hj, e]
  · intro e
    unfold worldsM
    refine List.filter_congr fun row _ => ?_
    unfold goodRow
    congr 1
    exact decide_eq_decide.mpr ⟨fun h => sat_of_levels hG h fun x hx y hy => (e x hx y hy).symm, fun h => sat_of_levels hF h e⟩
theorem worlds_mono {N : List α} {F G : List (Fact α)} (h : ∀ f ∈ G, f ∈ F) (w : worldsM N F ≠ []) : worldsM N G ≠ [] := by
  obtain ⟨row, hr⟩ := List.exists_mem_of_ne_nil _ w
  obtain ⟨a, b, c⟩ := mem_worldsM.mp hr
  exact List.ne_nil_of_mem (mem_worldsM.mpr ⟨a, fun f hf => b f (h f hf), c⟩)
end
end K2

set_option Elab.async false
set_option linter.all false
set_option maxRecDepth 100000
set_option maxHeartbeats 4000000
/-! the base: what stands in the heap, words for defs, further rules -/
namespace NC
open PySem L2

/-! ### the text by places -/
def top (i : Nat) : Stmt := PySem.Challenge.pw_namedcuts_k02_whole_ways_and_all_worlds.main.body.getD i (.Pass ⟨0, 0, 0, 0⟩)

/-! ### heaps -/
theorem sameT {K : PySem.W.Frag} {H H' : Hp} {a : Addr} {xs : List V} (e : Same H H') (h : SqT K H a xs) : SqT K H' a xs := by
  rcases h with (h | ⟨o, h⟩) | h
  · exact .inl (.inl (e _ _ h))
  · exact .inl (.inr ⟨o, e _ _ h⟩)
  · exact .inr h
theorem sameN {H : Hp} {p : Addr} {o : HO} (n : H p = none) : Same H (upd H p o) := fun b u e => by
  rw [upd_ne (ne_of_none e n)]; exact e
theorem sameU {H H1 : Hp} {p : Addr} {o : HO} (s : Same H H1) (n : H1 p = none) : Same H (upd H1 p o) := fun b u e => by
  rw [upd_ne (ne_of_none (s b u e) n)]; exact s b u e
theorem sameNe {H H' : Hp} {a p : Addr} {o : HO} (s : Same H H') (h : H a = some o) (n : H' p = none) : a ≠ p := ne_of_none (s _ _ h) n
theorem tyx_tup {K : PySem.W.Frag} {H : Hp} {a : Addr} {xs : List V} (h : SqT K H a xs) : TyX K H (.ref a) (.type "tuple") := by
  rcases h with (h | ⟨o, h⟩) | ⟨o, its, n, h, c, _⟩
  · exact .base (.tup h)
  · exact .fTuple h
  · exact .kTuple h c

/-! ### a frame: its names, its facts -/
def wd (w : Bool) : Str := if w then "ahead" else "upto"
abbrev Fc := K2.Fact Str
def encF (f : Fc) : List V := [.str f.1, .str (wd f.2.1), .str f.2.2]
structure FactsAt (K : PySem.W.Frag) (H : Hp) (p : Addr) (fs : List Addr) (F : List Fc) : Prop where
  tup : SqT K H p (fs.map V.ref)
  each : Paired (fun a f => SqT K H a (encF f)) fs F
/-- at p a frame of the names N and the facts F -/
structure FrAt (K : PySem.W.Frag) (H : Hp) (p : Addr) (N : List Str) (F : List Fc) : Prop where
  ex : ∃ pn pf fs, SqT K H p [.ref pn, .ref pf] ∧ SqT K H pn (N.map V.str) ∧ FactsAt K H pf fs F
theorem Paired.imp {α β : Type} {R S : α → β → Prop} (h : ∀ a b, R a b → S a b) : ∀ {l : List α} {m : List β}, Paired R l m → Paired S l m
  | _, _, .nil => .nil
  | _, _, .cons r t => .cons (h _ _ r) (Paired.imp h t)
theorem FactsAt.same {K : PySem.W.Frag} {H H' : Hp} {p : Addr} {fs : List Addr} {F : List Fc} (e : Same H H') (h : FactsAt K H p fs F) : FactsAt K H' p fs F :=
  ⟨sameT e h.tup, Paired.imp (fun _ _ q => sameT e q) h.each⟩
theorem FrAt.same {K : PySem.W.Frag} {H H' : Hp} {p : Addr} {N : List Str} {F : List Fc} (e : Same H H') (h : FrAt K H p N F) : FrAt K H' p N F := by
  obtain ⟨pn, pf, fs, h1, h2, h3⟩ := h.ex
  exact ⟨pn, pf, fs, sameT e h1, sameT e h2, h3.same e⟩
theorem Paired.len {α β : Type} {R : α → β → Prop} : ∀ {l : List α} {m : List β}, Paired R l m → l.length = m.length
  | _, _, .nil => rfl
  | _, _, .cons _ t => by rw [List.length_cons, List.length_cons, Paired.len t]
theorem Paired.at {α β : Type} {R : α → β → Prop} : ∀ {l : List α} {m : List β}, Paired R l m → ∀ {i : Nat} {a : α}, l[i]? = some a → ∃ b, m[i]? = some b ∧ R a b
  | _, _, .nil, i, a, h => by simp at h
  | _, _, .cons r t, 0, a, h => by
    have e := Option.some.inj (show some _ = some a from h)
    subst e; exact ⟨_, rfl, r⟩
  | _, _, .cons r t, i + 1, a, h => Paired.at t (i := i) (a := a) (by simpa using h)

/-! ### defs as their callers see them -/
structure Df (P : Program) (w : World) (K : PySem.W.Frag) (mg : Str → Option Value) (base : Heap) (CX : CXT) (x : Str) (ps : List Str) (k : Nat) (sp : Sp) : Prop where
  ex : ∃ f fd, mg x = some (.ref f) ∧ PySem.W.keepIn K (.ref f) = true ∧ Binds K fd ps [] ∧ FnOk P w K mg base CX k f fd ps sp
/-- the def stands in the written part under its name -/
structure Std (K : PySem.W.Frag) (mg : Str → Option Value) (x : Str) (st : Stmt) : Prop where
  ex : ∃ f fd, mg x = some (.ref f) ∧ Fun K x x st f fd
section
variable {X : Cx} {CX : CXT} {k : Nat} {ps : List Str} {sp : Sp} {E : XK} {x : Str} {p pos : Pos} {e : Expr} {es : List Expr} {t : TA}
def tCl (sp : Sp) (E : XK) (t : TA) : TE := fun σ H Q => t σ H fun vs H1 => sp vs H1 Q E
theorem pe_df (F : Df X.prog X.w X.K X.mg X.base CX x ps k sp) (hr : Room k X.A) (hx : Passes CX X E) (ha : PA X (e :: es) t) (hg : Gl X x := by rfl)
    (hdb : (x == ("__debug__" : Str)) = false := by decide) (he : starEach (e :: es) X.env = (false, eval e X.env) :: starEach es X.env := by rfl) (hpl : (backTo pos (starEach es X.env)).any (·.1) = false := by rfl) :
    PE X (.Call (.Name x p) (e :: es) [] pos) (tCl sp E t) := by
  obtain ⟨f, fd, hm, hk, hb, G⟩ := F.ex
  refine ⟨fun pins s σ H Q I h => (pe_call G hr hg hm hk hb .nil hx ha hdb he hpl).run pins s σ H Q I ?_⟩
  have e0 : (fun (vs : List V) (H1 : Hp) => sp (vs ++ []) H1 Q E) = fun vs H1 => sp vs H1 Q E := by
    funext vs H1
    rw [List.append_nil]
  show t σ H (fun vs H1 => sp (vs ++ []) H1 Q E)
  rw [e0]
  exact h
theorem pe_df0 (F : Df X.prog X.w X.K X.mg X.base CX x ps k sp) (hr : Room k X.A) (hx : Passes CX X E) (hg : Gl X x := by rfl) (hdb : (x == ("__debug__" : Str)) = false := by decide) :
    PE X (.Call (.Name x p) [] [] pos) (tCl sp E tNil) := by
  obtain ⟨f, fd, hm, hk, hb, G⟩ := F.ex
  exact pe_call0 G hr hg hm hk hb .nil hx hdb
end

/-! ### room -/
theorem rm0 {k : Nat} {A : Around} (r : Room k A) : A.units < cLine := by have := r.un; omega
theorem rm1 {k : Nat} {A : Around} (r : Room k A) : A.units + 1 < cLine := by have := r.un; omega
theorem rm64 {k : Nat} {A : Around} (r : Room k A) : A.units + 64 < cLine := by have := r.un; omega
theorem rm65 {k : Nat} {A : Around} (r : Room k A) : A.units + 65 < cLine := by have := r.un; omega
/-! ### what the top has written -/
structure Txt (K : PySem.W.Frag) (mg : Str → Option Value) : Prop where
  nIsi : mg "isinstance" = none
  nStr : mg "str" = none
  nLen : mg "len" = none
  nAll : mg "all" = none
  nTuple : mg "tuple" = none
  nEnum : mg "enumerate" = none
  nMax : mg "max" = none
  nRange : mg "range" = none
  nInt : mg "int" = none
  nList : mg "list" = none
  nDict : mg "dict" = none
  nZip : mg "zip" = none
  nSorted : mg "sorted" = none
  nRepr : mg "repr" = none
  nMin : mg "min" = none
  cLET : ∃ t, mg "LETTERS" = some (.str "abcdefghijklmnopqrstuvwxyz" t)
  cML : ∃ t, mg "MOST_LETTERS" = some (.int 6 t)
  cMN : ∃ t, mg "MOST_NAMES" = some (.int 7 t)
  cMF : ∃ t, mg "MOST_FACTS" = some (.int 60 t)
  cUP : ∃ t, mg "UPTO" = some (.str "upto" t)
  cAH : ∃ t, mg "AHEAD" = some (.str "ahead" t)
  cLEV : ∃ L, mg "LEVELS" = some (.ref L) ∧ (∀ H, SqT K H L [.non, .str "upto", .str "ahead"]) ∧ ∃ o, K.lookup L = some o ∧ o.cls = .type "tuple" ∧ o.dict = none

/-! ### short words -/
section
variable {X : Cx} {a b e : Expr} {ta tb te : TE} {pos p p2 : Pos}
/-- a word for less -/
theorem pe_imp {u : TE} (h : PE X e te) (k : ∀ σ H Q, u σ H Q → te σ H Q) : PE X e u := ⟨fun pins s σ H Q I q => h.run pins s σ H Q I (k σ H Q q)⟩
/-- what changes nothing, by its answer -/
def tPureE (te : TE) : TE := fun σ H Q => ∃ v, te σ H (fun y H1 => y = v ∧ H1 = H) ∧ Q v H
def tPureT (tt : TT) : TT := fun σ H Q => ∃ b, tt σ H (fun d H1 => d = b ∧ H1 = H) ∧ Q b H
theorem pe_pure (h : PE X e te) : PE X e (tPureE te) := ⟨fun pins s σ H Q I ⟨v, h1, q⟩ =>
  wpAny_mono (h.run pins s σ H _ I h1) (fun u s' ⟨y, H1, I1, r, ey, eH⟩ => by subst ey eH; exact ⟨y, H1, I1, r, q⟩) fun _ _ z => z⟩
theorem pt_pure {tt : TT} (h : PT X e tt) : PT X e (tPureT tt) := ⟨fun pins s σ H Q I ⟨b, h1, q⟩ =>
  wpAny_mono (h.run pins s σ H _ I h1) (fun d s' ⟨H1, I1, ed, eH⟩ => by subst ed eH; exact ⟨H1, I1, q⟩) fun _ _ z => z⟩
/-- len(e) -/
theorem pe_len (hm : X.mg "len" = none) (h : PE X e te) (hg : Gl X "len" := by rfl) (he : starEach [e] X.env = (false, eval e X.env) :: starEach [] X.env := by rfl) : PE X (.Call (.Name "len" p) [e] [] pos) (tCB (fun xs H Q => ∃ p ys, xs = [.ref p] ∧ (SqL X.K H p ys ∨ SqT X.K H p ys) ∧ Q (.int ys.length) H) (tCons te tNil)) :=
  pe_callB call_len_seq hg hm PySem.boot_len (pa_cons h pa_nil he) (he := he) (hpl := by rfl)
/-- isinstance(e, T), T built in -/
theorem pe_isi {T : String} {x : Str} (hm : X.mg "isinstance" = none) (h : PE X e te) (hx : X.mg x = none) (hb : bootBuiltins x = some (.type T)) (hg : Gl X "isinstance" := by rfl) (hg2 : Gl X x := by rfl) (hn : x ≠ "__name__" := by decide) (hd : (x == ("__debug__" : Str)) = false := by decide)
    (he : starEach [e, .Name x p2] X.env = (false, eval e X.env) :: starEach [.Name x p2] X.env := by rfl) (he2 : starEach [.Name x p2] X.env = (false, eval (.Name x p2) X.env) :: starEach [] X.env := by rfl)
    (hpl : (backTo pos (starEach [.Name x p2] X.env)).any (·.1) = false := by rfl) :
    PE X (.Call (.Name "isinstance" p) [e, .Name x p2] [] pos) (fun σ H Q => te σ H fun v H1 => ∃ t b, TyX X.K H1 v t ∧ PySem.W.kitOne X.K t (.type T) = some b ∧ Q (.bl b) H1) := by
  refine ⟨fun pins s σ H Q I q => (pe_callB call_isi hg hm (by decide +kernel) (pa_cons h (pa_cons (pe_bltn (v := .ty T) hg2 hx hb rfl hn hd) pa_nil he2) he) (he := he) (hpl := hpl)).run pins s σ H Q I ?_⟩
  refine (?_ : te σ H _)
  have : (fun v H1 => ∃ t b, TyX X.K H1 v t ∧ PySem.W.kitOne X.K t (.type T) = some b ∧ Q (.bl b) H1) = (fun v H1 => tCons (tC (.ty T)) tNil σ H1 fun xs H2 => rIsi X.K (v :: xs) H2 Q) := by
    funext v H1
    apply propext
    constructor
    · rintro ⟨t, b, h1, h2, h3⟩
      exact ⟨v, .ty T, t, .type T, b, rfl, .ty T, h1, h2, h3⟩
    · rintro ⟨x, c, t, u, b, e1, e2, h1, h2, h3⟩
      injection e1 with e3 e4
      injection e4 with e5 _
      subst e3 e5
      cases e2
      exact ⟨t, b, h1, h2, h3⟩
  rw [this] at q
  exact q
end
end NC

set_option Elab.async false
set_option linter.all false
set_option maxRecDepth 100000
set_option maxHeartbeats 4000000
/-! a rule that the layer lacks: enumerate over a tuple -/
namespace PySem
/-- enumerate(v) where iter(v) is told by Begins -/
theorem nc_enum_new {v : Value} {o : Obj} {H : Heap → Prop} (B : Begins v o H) : Meets (Builtin.«enumerate.__new__» ⟨[.type "enumerate", v], []⟩) (fun _ R s => H s.heap ∧
    R (.ok (.ret (.ref (s.heap.push o).objs.size))) { s with heap := (s.heap.push o).push { cls := .type "enumerate", data := .fields #[.none, .bool false, .ref s.heap.objs.size, rawInt 0, .none, .none] } }) := by
  refine .of_wp fun prog w A R s hh => ?_
  rcases hh with ⟨hH, hR⟩
  cases s with
  | mk hp g d tk os =>
    have sub := sub_enumerate
    have it : ∀ {A' : Around} {E Q : Value → Shared → Prop}, Q (.ref hp.objs.size) ⟨hp.push o, g, d, tk, os⟩ → wpAny (model prog w) A' (pyIter v) Q E ⟨hp, g, d, tk, os⟩ := fun q => B.iter _ _ _ _ _ _ hH q
    wp_walk using it
    refine wpAny_stack_any fun _ => wpAny_pure ?_
    split
    · rename_i c _ _ _ _ _
      rcases (c == Value.type "enumerate") with _ | _ <;> (wp_walk using it; exact ⟨_, rfl, hR⟩)
    · wp_walk using it
      exact ⟨_, rfl, hR⟩
theorem nc_enum_call {prog : Program} {w : World} {A : Around} {E Q : Value → Shared → Prop} {s : Shared} {v : Value} {o : Obj} {H : Heap → Prop} (B : Begins v o H) (hH : H s.heap)
    (q : ∀ G : Heap, IsEnum G (s.heap.objs.size + 1) s.heap.objs.size 0 .none → G.get? s.heap.objs.size = some o → (∀ b ob, s.heap.get? b = some ob → G.get? b = some ob) → Q (.ref (s.heap.objs.size + 1)) { s with heap := G }) :
    wpAny (model prog w) A (call (.type "enumerate") [v]) Q E s := by
  have z : (s.heap.push o).objs.size = s.heap.objs.size + 1 := Heap.size_push ..
  refine callType_new F.called_enumerate (by decide) (F.typeCall_enumerate_1 _) (F.newCall_enumerate_1 _) (fun obj => F.args_object_init_2 obj _) F.entry_enumerate_new (nc_enum_new B) ⟨hH, ?_⟩
  rw [z]
  have e : IsEnum ((s.heap.push o).push { cls := .type "enumerate", data := .fields #[.none, .bool false, .ref s.heap.objs.size, rawInt 0, .none, .none] }) (s.heap.objs.size + 1) s.heap.objs.size 0 .none := by
    rw [← z]
    exact Heap.get?_push_size _ rfl
  exact ⟨⟨_, e, rfl⟩, q _ e (Heap.get?_push_of_some _ (Heap.get?_push_size _ B.free)) fun b ob x => Heap.get?_push_of_some _ (Heap.get?_push_of_some _ x)⟩
end PySem
namespace NC
open PySem L2 PySem.Spec PyProof.Rows
/-- the items of the tuple at a, each in a new pair with its number -/
def IteT (K : PySem.W.Frag) (a : Addr) : It where
  go := fun i H => ∃ xs x, SqT K H a xs ∧ xs[i]? = some x
  yld := fun i H v H' => ∃ T x, v = .ref T ∧ H T = none ∧ H' = upd H T (.tup [.int (i : Nat), x]) ∧ ∀ xs, SqT K H a xs → xs[i]? = some x
  stop := fun i H => ∃ xs, SqT K H a xs ∧ xs.length = i
theorem turn_enumT {P : Program} {w : World} {K : PySem.W.Frag} {es : List Expr} {k : Nat} {tp : Pos} (a e it : Addr) (n1 : e ≠ it) (n2 : a ≠ it) (n3 : e ≠ a) :
    Turn P w K (.Tuple es k tp) (IteT K a) [e, it] e (fun i h => (∃ old, IsEnum h e it (i : Nat) old) ∧ h.IsTupleIter it a i) := by
  have two : ∀ {b}, b ∈ [e, it] → b = e ∨ b = it := fun h => by simpa using h
  refine { mem := List.mem_cons_self, obj := ?_, keep := ?_, item := ?_, done := ?_, self := ?_ }
  · rintro i h ⟨⟨old, he⟩, oi, ho, _, hd⟩ b hb
    rcases two hb with rfl | rfl
    · exact ⟨_, he, fun v q => nomatch q⟩
    · exact ⟨oi, ho, fun v q => by rw [hd] at q; cases q⟩
  · rintro i h h' ⟨⟨old, he⟩, hi⟩ kp
    exact ⟨⟨old, kp e List.mem_cons_self _ he⟩, hi.at fun o q => kp it (List.mem_cons_of_mem _ List.mem_cons_self) o q⟩
  · intro X hP hw hK hc i pins s σ H E I fp st ⟨xs, x, hq, hx⟩
    cases hP; cases hw; cases hK
    obtain ⟨its, rv, tu, _⟩ := I.tuple hq
    obtain ⟨u, hu, ru⟩ := rv.get hx
    have W := WalksT.enumerateD (Draws.tuple (prog := X.prog) (w := X.w) (A := X.A.in1) (I.ok.hd hc) it a n2 its.toArray) e n1 (by simp [n1, n3]) List.mem_cons_self
    have lt : i < its.toArray.size := by have := (List.getElem?_eq_some_iff.mp hu).1; simpa using this
    refine W.item i s _ _ lt ⟨st.1, st.2, tu⟩ fun T vals h1 tk ⟨t, y, hy, ev⟩ hT tT md kp => ⟨_, rfl, ?_⟩
    have ey : y = u := Option.some.inj ((show its[i]? = some y by simpa using hy).symm.trans hu)
    refine W.go es k tp i T { s with heap := h1, toks := tk } _ _ md fun h2 st2 kp2 => ?_
    obtain ⟨ob, o1, o2, o3, o4⟩ := tT
    have in2 : h2.get? T = some ob := kp2 T ob (W.apart i T h1 md) o1
    have fresh : ∀ b ∈ [e, it], b ≠ T := fun b hb z => W.apart i T h1 md (z ▸ hb)
    have J := I.turnedNew (t' := tk) (h' := h2) (ob := .tup [.int (i : Nat), x]) (fun b o nb eo => kp2 b o nb (kp b o nb eo)) fp hT
      ⟨by show 2 ≤ sizeLine; decide, [.int i t, y], .cons ⟨t, rfl⟩ (.cons (ey ▸ ru) .nil), ob, in2, o2, o3, by rw [o4, ev]⟩
    refine ⟨.ref T, _, J, rfl, ⟨T, x, rfl, I.hok.fresh hT, rfl, fun ys hy => by rw [I.tuple_inj hy hq]; exact hx⟩, ⟨st2.1, st2.2.1⟩, fun b hb => ?_⟩
    rw [upd_ne (fresh b hb)]
    exact (fp b hb).1
  · intro X hP hw hK hc i pins s σ H E I fp st ⟨xs, hq, hx⟩
    cases hP; cases hw; cases hK
    obtain ⟨its, rv, tu, _⟩ := I.tuple hq
    have W := WalksT.enumerateD (Draws.tuple (prog := X.prog) (w := X.w) (A := X.A.in1) (I.ok.hd hc) it a n2 its.toArray) e n1 (by simp [n1, n3]) List.mem_cons_self
    have en : i = its.toArray.size := by have := rv.length; simp; omega
    cases en
    refine W.done s _ _ ⟨st.1, st.2, tu⟩ fun h1 tk kp => ⟨rfl, ?_⟩
    have q := fun b hb => fp b hb
    exact I.step (g' := s.gens) (d' := s.drawn) (ch := [e, it]) (fun b hb => ⟨(q b hb).2.2.2.1, (q b hb).2.1, (q b hb).2.2.2.2.1, (q b hb).2.2.2.2.2⟩) (fun b o _ _ hc eo _ => kp b o hc eo) (fun b o _ _ hc eo _ => ⟨o.slots, kp b o hc eo⟩)
      (fun _ _ _ _ n => n) (fun b o hc eo => ⟨o, kp b o hc eo⟩) (fun _ _ z => z) (fun _ _ _ z => z) (fun b ps z => ⟨#[], by rw [z]; simp⟩) (fun m ⟨o, es, ep, ho, r⟩ => ⟨o, es, ep, kp _ o (fun z => (q _ z).2.1 rfl) ho, r⟩)
      (fun b u eb => (I.hok b u eb).stay (fun c v hc z => kp c v (fun zc => by
        have nn := (q c zc).1
        rcases hc with hc | hc
        · rw [hc, eb] at nn; cases nn
        · rw [hc] at nn; cases nn) z) (fun _ z => z) fun _ _ z => z) I.bare
  · intro A i s Q E ⟨⟨old, he⟩, _⟩ h
    exact wpAny_pyIter_enum he h
def iEnumT (K : PySem.W.Frag) (ta : TA) : TI := fun σ H R => ta σ H fun vs H1 => ∃ a xs, vs = [.ref a] ∧ SqT K H1 a xs ∧ R (IteT K a) H1
theorem pi_enumT {X : Cx} {e : Expr} {ta : TA} {p pos tpos : Pos} {es : List Expr} {k : Nat} (hg : Gl X "enumerate") (hm : X.mg "enumerate" = none) (ha : PA X [e] ta) (hs : starEach [e] X.env = [(false, eval e X.env)] := by rfl) :
    PI X (.Tuple es k tpos) (.Call (.Name "enumerate" p) [e] [] pos) (iEnumT X.K ta) := by
  refine ⟨fun pins s σ H R I h => Call_ (ld_blt I hg hm boot_enumerate (callWith_type1 (thn (ha.run pos pins s σ H _ I h) fun us s1 ⟨vs, H1, I1, r1, a, xs, ev, hq, q⟩ => ?_) hs rfl))⟩
  cases ev
  obtain ⟨u, rfl, ru⟩ := vals1 r1
  cases (show u = .ref a from ru)
  obtain ⟨its, rv, tu, _⟩ := I1.tuple hq
  have al : a < s1.heap.objs.size := tu.lt
  refine nc_enum_call (begins_tuple a its.toArray) tu fun G he hi kp => wpAny_pyIter_enum he ?_
  refine ⟨s1.heap.objs.size + 1, [s1.heap.objs.size + 1, s1.heap.objs.size], _, _, H1, rfl, I1.kept (t' := s1.toks) kp, turn_enumT a _ _ (Nat.succ_ne_self _) (Nat.ne_of_lt al) (Nat.ne_of_gt (Nat.lt_succ_of_lt al)), ⟨⟨.none, he⟩, _, hi, rfl, rfl⟩, fun b hb => ?_, q⟩
  have le : s1.heap.objs.size ≤ b := by
    rcases (show b = s1.heap.objs.size + 1 ∨ b = s1.heap.objs.size by simpa using hb) with z | z <;> rw [z]
    · exact Nat.le_succ _
    · exact Nat.le_refl _
  exact I1.fpOk le (I1.hok.fresh le)
theorem walk_enumT {K : PySem.W.Frag} {a : Addr} {xs : List V} : Walk (IteT K a) xs.length (fun H => SqT K H a xs) (YPair (fun i => some (.int (i : Nat))) (fun i => xs[i]?)) :=
  ⟨fun i _ hi q => ⟨xs, xs[i], q, by simp [hi]⟩, fun _ q => ⟨xs, q, rfl⟩, fun i H v H' _ q ⟨T, x, h1, h2, h3, h4⟩ => ⟨T, .int (i : Nat), x, h1, h2, h3, rfl, h4 xs q⟩⟩
end NC

set_option Elab.async false
set_option linter.all false
set_option maxRecDepth 100000
set_option maxHeartbeats 4000000
namespace NC
open PySem L2
/-- a letter of the names: one sign -/
def letter (c : Nat) : Str := ⟨#[c]⟩
section
variable {P : Program} {w : World} {K : PySem.W.Frag} {mg : Str → Option Value} {base : Heap}
theorem Std.df {CX : CXT} {x : Str} {st : Stmt} {ps : List Str} {k : Nat} {sp : Sp} (S : Std K mg x st)
    (hb : ∀ (kV doc pm : Value) (an : Option Addr) (cdv ct : Value) (us : List Value), us.length = ps.length → bindArgs (PySem.W.fnOf x x (defArgs st) (defBody st) (defScope st) .none kV doc pm an cdv ct) ⟨us, []⟩ = pure (ps.zip us))
    (G : ∀ f fd, Fun K x x st f fd → FnOk P w K mg base CX k f fd ps sp) : Df P w K mg base CX x ps k sp := by
  obtain ⟨f, fd, hm, F⟩ := S.ex
  exact ⟨f, fd, hm, F.kp, F.binds hb, G f fd F⟩

/-! ### is_word -/
abbrev sWord : Stmt := top 13
def spWord : Sp := fun vs H Q _ => ∃ c : Nat, vs = [.str (letter c)] ∧ 97 ≤ c ∧ c ≤ 122 ∧ ∀ H', Same H H' → Q (.bl true) H'
theorem scWord : FnScope ["thing", "letter"] ["thing"] (defScope sWord) := ⟨rfl, rfl, rfl, by decide +kernel, rfl, by decide +kernel, by decide +kernel⟩
theorem letters_has : ∀ c : Nat, 97 ≤ c → c ≤ 122 → decide (c ∈ (("abcdefghijklmnopqrstuvwxyz" : Str)).cps.toList) = true := by
  intro c h1 h2
  have key : ∀ c : Fin 123, 97 ≤ c.val → decide (c.val ∈ (("abcdefghijklmnopqrstuvwxyz" : Str)).cps.toList) = true := by decide +kernel
  exact key ⟨c, by omega⟩ h1
theorem df_word (T : Txt K mg) (S : Std K mg "is_word" sWord) : Df P w K mg base CX0 "is_word" ["thing"] 1 spWord := by
  refine S.df (fun _ _ _ _ _ _ us hl => match us, hl with | [_], _ => rfl) fun f fd F => F.ok scWord (fun vs H Q E h => ?_) (fun cdv A outer s H vs Q E hr h => ?_)
  · obtain ⟨c, rfl, _⟩ := h
    rfl
  · obtain ⟨c, rfl, h1, h2, k⟩ := h
    obtain ⟨t1, cL⟩ := T.cLET
    obtain ⟨t2, cM⟩ := T.cML
    refine ⟨_, pss_cons (ps_if (PW.pt (pw_or (pt_not (pt_val (pe_isi (T := "str") T.nIsi (pv 0) T.nStr (by decide +kernel))))
        (pw_or1 (pt_not (pt_chain op_le op_le pe_int (pe_callB call_len_str (by rfl) T.nLen PySem.boot_len (pa_cons (pv 0) pa_nil)) (pe_glob (v := .int 6) rfl cM ⟨_, rfl⟩))))))
        (pss_one (ps_ret pe_bl)) pss_nil)
      (pss_one (ps_ret (pe_callB (cr_all rfl) (by rfl) T.nAll (by decide +kernel) (pa_cons (pe_lc (own := [("letter", 1)]) (g := gName 1) (tt := tYes) rfl scWord.nd (pi_str (pv 0)) (blkOk_by (N := ["thing", "letter"]) (sc := defScope sWord) (by decide +kernel))
        (fun _ _ _ _ _ => pg_name (i := 1) scWord.nd rfl (Or.inl rfl)) (fun _ _ _ _ _ => pts_nil) (fun _ _ _ _ _ => pe_cmpR op_in_sign (pv 1) (pe_glob (v := .str "abcdefghijklmnopqrstuvwxyz") rfl cL ⟨_, rfl⟩) rfl)) pa_nil)))), ?_⟩
    refine ⟨_, rfl, .type "str", true, .base (.str _), kit_ty (by decide +kernel), _, rfl, ?_⟩
    refine iteF ?_
    refine ⟨_, rfl, _, rfl, (by show 1 ≤ sizeLine; decide), _, _, rfl, rfl, _, rfl, ?_⟩
    refine ite2 (fun _ => ?_) (fun n => absurd (decide_eq_true (show (1 : Int) ≤ ((1 : Nat) : Int) by decide)) n)
    refine ⟨_, _, rfl, rfl, _, rfl, iteF ?_⟩
    refine ⟨_, rfl, _, rfl, fun D nD => lc_it walk_str (fun i H' => (i = 0 ∧ H' = upd H D (.lst [])) ∨ (i = 1 ∧ H' = upd H D (.lst [.bl true]))) (.inl ⟨rfl, rfl⟩) (fun _ _ _ _ => trivial) ?_ ?_⟩
    · rintro i x H1 H2 hi hp ⟨rfl, c', hc', rfl⟩
      have hi0 : i = 0 := by have : i < 1 := hi; omega
      subst hi0
      rcases hp with ⟨_, rfl⟩ | ⟨z, _⟩
      · have ec : c = c' := Option.some.inj hc'
        subst ec
        refine ⟨rfl, ?_⟩
        refine ⟨_, rfl, c, _, rfl, rfl, [], upd_same, by decide, .inr ⟨rfl, ?_⟩⟩
        rw [upd_upd, letters_has c h1 h2]
        rfl
      · omega
    · rintro H' (⟨z, _⟩ | ⟨_, rfl⟩)
      · cases z
      · exact ⟨D, [true], rfl, SqL.of upd_same, k _ (sameN nD)⟩
end
end NC

set_option Elab.async false
set_option linter.all false
set_option maxRecDepth 100000
set_option maxHeartbeats 4000000
namespace NC
open PySem L2
/-! ### names -/
def nms (n : Nat) : List Str := (List.range n).map fun i => letter (97 + i)
theorem nms_len (n : Nat) : (nms n).length = n := by unfold nms; rw [List.length_map, List.length_range]
theorem nms_at {n i : Nat} (h : i < n) : (nms n)[i]? = some (letter (97 + i)) := by
  unfold nms
  rw [List.getElem?_map, List.getElem?_range h]
  rfl
theorem letter_inj {a b : Nat} (h : letter a = letter b) : a = b := by
  unfold letter at h
  have h1 : (#[a] : Array Nat) = #[b] := by injection h
  have h2 : [a] = [b] := by injection h1
  injection h2
theorem nms_nodup (n : Nat) : (nms n).Nodup := by
  unfold nms
  exact K2.nodup_map_of _ _ List.nodup_range fun a _ b _ e => by have := letter_inj e; omega
theorem mem_nms {n : Nat} {x : Str} (h : x ∈ nms n) : ∃ i, i < n ∧ x = letter (97 + i) ∧ (nms n)[i]? = some x := by
  unfold nms at h
  obtain ⟨i, hi, rfl⟩ := List.mem_map.mp h
  have hi' := List.mem_range.mp hi
  exact ⟨i, hi', rfl, nms_at hi'⟩
/-- whether a value is one of the names -/
def isNm (N : List Str) : V → Bool
  | .str z => decide (z ∈ N)
  | _ => false
theorem inV_strs (z : Str) (N : List Str) : inV (.str z) (N.map V.str) = decide (z ∈ N) := by
  unfold inV
  rw [List.any_map]
  by_cases h : z ∈ N
  · rw [decide_eq_true h]
    exact List.any_eq_true.mpr ⟨z, h, beq_self_eq_true z⟩
  · rw [decide_eq_false h]
    refine Bool.eq_false_iff.mpr fun q => ?_
    obtain ⟨y, hy, e⟩ := List.any_eq_true.mp q
    have e' : y = z := eq_of_beq e
    subst e'
    exact h hy
theorem flat_strs' (N : List Str) : (N.map V.str).all flatV = true := by
  rw [List.all_map]
  exact List.all_eq_true.mpr fun _ _ => rfl
/-- a text, or what isinstance tells to be none -/
def Odd (K : PySem.W.Frag) (H : Hp) (v : V) : Prop := (∃ z, v = .str z) ∨ ((∀ z, v ≠ .str z) ∧ ∃ t, TyX K H v t ∧ PySem.W.kitOne K t (.type "str") = some false)
section
variable {P : Program} {w : World} {K : PySem.W.Frag} {mg : Str → Option Value} {base : Heap}
/-! ### is_name -/
abbrev sName : Stmt := top 14
def spName (K : PySem.W.Frag) : Sp := fun vs H Q _ => ∃ (pn : Addr) (N : List Str) (v : V), vs = [.ref pn, v] ∧ SqT K H pn (N.map V.str) ∧ Odd K H v ∧ Q (.bl (isNm N v)) H
theorem scName : FnScope ["names", "thing"] ["names", "thing"] (defScope sName) := ⟨rfl, rfl, rfl, by decide +kernel, rfl, by decide +kernel, by decide +kernel⟩
theorem df_name (T : Txt K mg) (S : Std K mg "is_name" sName) : Df P w K mg base CX0 "is_name" ["names", "thing"] 1 (spName K) := by
  refine S.df (fun _ _ _ _ _ _ us hl => match us, hl with | [_, _], _ => rfl) fun f fd F => F.ok scName (fun vs H Q E h => ?_) (fun cdv A outer s H vs Q E hr h => ?_)
  · obtain ⟨pn, N, v, rfl, _⟩ := h
    rfl
  · obtain ⟨pn, N, v, rfl, hN, ho, k⟩ := h
    refine ⟨_, pss_one (ps_ret (pe_and (pe_isi (T := "str") T.nIsi (pv 1) T.nStr (by decide +kernel)) (pe_one (pe_cmpR op_in_seq (pv 1) (pv 0) rfl)))), ?_⟩
    rcases ho with ⟨z, rfl⟩ | ⟨hz, t, ht, hk⟩
    · refine ⟨_, rfl, .type "str", true, .base (.str _), kit_ty (by decide +kernel), _, rfl, iteT ?_⟩
      refine ⟨_, rfl, _, rfl, pn, _, rfl, .inr hN, rfl, flat_strs' N, ?_⟩
      show Q (.bl (inV (.str z) (N.map V.str))) H
      rw [inV_strs]
      exact k
    · refine ⟨_, rfl, t, false, ht, hk, _, rfl, iteF ?_⟩
      have e : isNm N v = false := by
        cases v <;> first | rfl | exact absurd rfl (hz _)
      rw [e] at k
      exact k
/-! ### is_fact -/
abbrev sFact : Stmt := top 15
def spFact (K : PySem.W.Frag) : Sp := fun vs H Q _ => ∃ (pn a : Addr) (N : List Str) (f : Fc), vs = [.ref pn, .ref a] ∧ SqT K H pn (N.map V.str) ∧ SqT K H a (encF f) ∧ f.1 ∈ N ∧ f.2.2 ∈ N ∧ f.1 ≠ f.2.2 ∧ ∀ H', Same H H' → Q (.bl true) H'
theorem scFact : FnScope ["names", "thing"] ["names", "thing"] (defScope sFact) := ⟨rfl, rfl, rfl, by decide +kernel, rfl, by decide +kernel, by decide +kernel⟩
theorem wd_mem (b : Bool) : inV (.str (wd b)) [.str "upto", .str "ahead"] = true := by cases b <;> decide +kernel
theorem isNm_mem {N : List Str} {x : Str} (h : x ∈ N) : isNm N (.str x) = true := decide_eq_true h
theorem df_fact (T : Txt K mg) (S : Std K mg "is_fact" sFact) (DN : Df P w K mg base CX0 "is_name" ["names", "thing"] 1 (spName K)) : Df P w K mg base CX0 "is_fact" ["names", "thing"] 2 (spFact K) := by
  refine S.df (fun _ _ _ _ _ _ us hl => match us, hl with | [_, _], _ => rfl) fun f fd F => F.ok scFact (fun vs H Q E h => ?_) (fun cdv A outer s H vs Q E hr h => ?_)
  · obtain ⟨pn, a, N, f, rfl, _⟩ := h
    rfl
  · obtain ⟨pn, a, N, f, rfl, hN, ha, h1, h2, h3, k⟩ := h
    obtain ⟨t1, cU⟩ := T.cUP
    obtain ⟨t2, cA⟩ := T.cAH
    refine ⟨_, pss_cons (ps_if (PW.pt (pw_or (pt_not (pt_val (pe_isi (T := "tuple") T.nIsi (pv 1) T.nTuple (by decide +kernel))))
        (pw_or (pt_cmpR op_ne (pe_len T.nLen (pv 1)) pe_int (nomark _))
        (pw_or (pt_not (pt_val (pe_df DN hr pass0 (pa_cons (pv 0) (pa_cons (pe_ix ix_tup (pv 1) pe_int (fun _ _ => rfl)) pa_nil)))))
        (pw_or1 (pt_not (pt_val (pe_df DN hr pass0 (pa_cons (pv 0) (pa_cons (pe_ix ix_tup (pv 1) pe_int (fun _ _ => rfl)) pa_nil))))))))))
        (pss_one (ps_ret pe_bl)) pss_nil)
      (pss_one (ps_ret (pe_and (pe_cmpR op_ne (pe_ix ix_tup (pv 1) pe_int (fun _ _ => rfl)) (pe_ix ix_tup (pv 1) pe_int (fun _ _ => rfl)) (nomark _))
        (pe_and (pe_isi (T := "str") T.nIsi (pe_ix ix_tup (pv 1) pe_int (fun _ _ => rfl)) T.nStr (by decide +kernel))
        (pe_one (pe_cmpR op_in_seq (pe_ix ix_tup (pv 1) pe_int (fun _ _ => rfl)) (pe_tup (pa_cons (pe_glob (v := .str "upto") rfl cU ⟨_, rfl⟩) (pa_cons (pe_glob (v := .str "ahead") rfl cA ⟨_, rfl⟩) pa_nil))) rfl)))))), ?_⟩
    refine ⟨_, rfl, .type "tuple", true, tyx_tup ha, kit_ty (by decide +kernel), _, rfl, iteF ?_⟩
    refine ⟨_, rfl, a, _, rfl, .inr ha, rfl, _, rfl, iteF ?_⟩
    refine ⟨_, rfl, _, rfl, a, _, _, _, rfl, rfl, ha, rfl, pn, N, _, rfl, hN, .inl ⟨_, rfl⟩, _, rfl, ?_⟩
    rw [isNm_mem h1]
    refine iteF ?_
    refine ⟨_, rfl, _, rfl, a, _, _, _, rfl, rfl, ha, rfl, pn, N, _, rfl, hN, .inl ⟨_, rfl⟩, _, rfl, ?_⟩
    rw [isNm_mem h2]
    refine iteF ?_
    refine ⟨_, rfl, a, _, _, _, rfl, rfl, ha, rfl, _, rfl, a, _, _, _, rfl, rfl, ha, rfl, rfl, _, rfl, ?_⟩
    rw [decide_eq_false (fun z : V.str f.1 = V.str f.2.2 => h3 (by injection z))]
    refine iteT ?_
    refine ⟨_, rfl, a, _, _, _, rfl, rfl, ha, rfl, .type "str", true, .base (.str _), kit_ty (by decide +kernel), _, rfl, iteT ?_⟩
    refine ⟨_, rfl, a, _, _, _, rfl, rfl, ha, rfl, (by show 2 ≤ sizeLine; decide), fun p np => ⟨p, _, rfl, .inr (SqT.of upd_same), rfl, rfl, ?_⟩⟩
    show Q (.bl (inV (.str (wd f.2.1)) [.str "upto", .str "ahead"])) _
    rw [wd_mem]
    exact k _ (sameN np)
/-! ### names_fault -/
abbrev sNamesF : Stmt := top 16
def spNamesF (K : PySem.W.Frag) : Sp := fun vs H Q _ => ∃ (pn : Addr) (n : Nat), vs = [.ref pn] ∧ SqT K H pn ((nms n).map V.str) ∧ 1 ≤ n ∧ n ≤ 7 ∧ ∀ H' p, Same H H' → H' p = some (.lst []) → Q (.ref p) H'
theorem scNamesF : FnScope ["names", "number", "name"] ["names"] (defScope sNamesF) := ⟨rfl, rfl, rfl, by decide +kernel, rfl, by decide +kernel, by decide +kernel⟩
theorem letter_lt {a b : Nat} (h : a < b) : decide ((letter a).cps.toList < (letter b).cps.toList) = true := by
  refine decide_eq_true ?_
  show [a] < [b]
  exact List.Lex.rel h
theorem df_namesF (T : Txt K mg) (S : Std K mg "names_fault" sNamesF) (DW : Df P w K mg base CX0 "is_word" ["thing"] 1 spWord) : Df P w K mg base CX0 "names_fault" ["names"] 2 (spNamesF K) := by
  refine S.df (fun _ _ _ _ _ _ us hl => match us, hl with | [_], _ => rfl) fun f fd F => F.ok scNamesF (fun vs H Q E h => ?_) (fun cdv A outer s H vs Q E hr h => ?_)
  · obtain ⟨pn, n, rfl, _⟩ := h
    rfl
  · obtain ⟨pn, n, rfl, hN, n1, n7, k⟩ := h
    obtain ⟨t1, cM⟩ := T.cMN
    have nd := scNamesF.nd
    refine ⟨_, pss_cons (ps_if (PW.pt (pw_or (pt_not (pt_val (pe_isi (T := "tuple") T.nIsi (pv 0) T.nTuple (by decide +kernel))))
        (pw_or1 (pt_not (pt_chain op_le op_le pe_int (pe_len T.nLen (pv 0)) (pe_glob (v := .int 7) rfl cM ⟨_, rfl⟩))))))
        (pss_one (ps_ret (pe_lst (pa_cons pe_non pa_nil)))) pss_nil)
      (pss_cons (ps_for PassesOwn.never rfl (pi_enumT rfl T.nEnum (pa_cons (pv 0) pa_nil)) (pg_tup rfl (pgs_cons (pg_name (i := 1) nd rfl (.inl rfl)) (pgs_cons (pg_name (i := 2) nd rfl (.inl rfl)) pgs_nil)))
        (pss_one (ps_if (PW.pt (pw_or (pt_not (pt_val (pe_df DW hr pass0 (pa_cons (pv 2) pa_nil))))
          (pw_or1 (PW.pt (pw_and (pt_cmpR op_gt (pv 1) pe_int (nomark _)) (pw_and1 (pt_cmpR op_le_str (pv 2) (pe_ix ix_tup (pv 0) (pe_op op_sub (pv 1) pe_int) (fun _ _ => rfl)) (nomark _))))))))
          (pss_one (ps_ret (pe_lst (pa_cons (pv 1) pa_nil)))) pss_nil)))
      (pss_one (ps_ret (pe_lst pa_nil)))), ?_⟩
    refine ⟨_, rfl, .type "tuple", true, tyx_tup hN, kit_ty (by decide +kernel), _, rfl, iteF ?_⟩
    refine ⟨_, rfl, pn, _, rfl, .inr hN, _, _, rfl, rfl, _, rfl, ?_⟩
    rw [List.length_map, nms_len]
    refine ite2 (fun _ => ?_) (fun q => absurd (decide_eq_true (show (1 : Int) ≤ (n : Int) by omega)) q)
    refine ⟨_, _, rfl, rfl, _, rfl, ?_⟩
    rw [decide_eq_true (show (n : Int) ≤ 7 by omega)]
    refine iteF ?_
    refine ⟨_, rfl, pn, _, rfl, hN, for_it (walk_enumT (K := K) (a := pn) (xs := (nms n).map V.str)) (fun i σ H' => ∃ v1 v2, σ = [some (.ref pn), v1, v2] ∧ Same H H') ⟨none, none, rfl, Same.refl H⟩
      (fun i σ H' _ ⟨_, _, _, s5⟩ => sameT s5 hN) ?_ ?_⟩
    · rintro i x σ H1 H2 hi ⟨v1, v2, rfl, s5⟩ ⟨Tp, x1, x2, rfl, nT, rfl, e1, e2⟩
      have e1 : V.int (i : Nat) = x1 := Option.some.inj e1
      subst e1
      have hi' : i < n := by rw [List.length_map, nms_len] at hi; exact hi
      have e2 : x2 = .str (letter (97 + i)) := by
        have e2 : ((nms n).map V.str)[i]? = some x2 := e2
        rw [List.getElem?_map, nms_at hi'] at e2
        exact (Option.some.inj e2).symm
      subst e2
      refine ⟨Tp, _, rfl, SqT.of upd_same, rfl, _, _, rfl, _, _, rfl, rfl, ?_⟩
      have s6 := sameU (o := .tup [.int (i : Nat), .str (letter (97 + i))]) s5 nT
      refine ⟨_, rfl, 97 + i, rfl, by omega, by omega, fun H3 s7 => ⟨_, rfl, iteF ?_⟩⟩
      refine ⟨_, rfl, _, _, rfl, rfl, _, rfl, ?_⟩
      have s8 := Same.trans s6 s7
      refine ite2 (fun c => ?_) (fun c => iteF ⟨_, _, rfl, s8⟩)
      have c' : 0 < i := by have := of_decide_eq_true c; omega
      refine ⟨_, rfl, _, rfl, _, rfl, _, _, rfl, rfl, pn, _, _, _, rfl, rfl, sameT s8 hN, at_of (j := i - 1) (by omega) (by rw [List.getElem?_map, nms_at (by omega)]; rfl), ?_⟩
      refine ⟨_, _, rfl, rfl, _, rfl, ?_⟩
      rw [letter_lt (show 97 + (i - 1) < 97 + i by omega)]
      exact iteF ⟨_, _, rfl, s8⟩
    · rintro σ H1 ⟨v1, v2, rfl, s5⟩
      exact ⟨Nat.zero_le _, fun p np => k _ p (sameU s5 np) upd_same⟩
/-! ### facts_fault -/
abbrev sFactsF : Stmt := top 17
def OnF (N : List Str) (F : List Fc) : Prop := ∀ f ∈ F, f.1 ∈ N ∧ f.2.2 ∈ N ∧ f.1 ≠ f.2.2
def spFactsF (K : PySem.W.Frag) : Sp := fun vs H Q _ => ∃ (pn pf : Addr) (fs : List Addr) (N : List Str) (F : List Fc), vs = [.ref pn, .ref pf] ∧ SqT K H pn (N.map V.str) ∧ FactsAt K H pf fs F ∧ F.length ≤ 60 ∧ OnF N F ∧ ∀ H' p, Same H H' → H' p = some (.lst []) → Q (.ref p) H'
theorem scFactsF : FnScope ["names", "facts", "number", "fact"] ["names", "facts"] (defScope sFactsF) := ⟨rfl, rfl, rfl, by decide +kernel, rfl, by decide +kernel, by decide +kernel⟩
theorem df_factsF (T : Txt K mg) (S : Std K mg "facts_fault" sFactsF) (DF : Df P w K mg base CX0 "is_fact" ["names", "thing"] 2 (spFact K)) : Df P w K mg base CX0 "facts_fault" ["names", "facts"] 3 (spFactsF K) := by
  refine S.df (fun _ _ _ _ _ _ us hl => match us, hl with | [_, _], _ => rfl) fun f fd F => F.ok scFactsF (fun vs H Q E h => ?_) (fun cdv A outer s H vs Q E hr h => ?_)
  · obtain ⟨pn, pf, fs, N, F, rfl, _⟩ := h
    rfl
  · obtain ⟨pn, pf, fs, N, F, rfl, hN, hF, hl, hO, k⟩ := h
    obtain ⟨t1, cM⟩ := T.cMF
    have nd := scFactsF.nd
    have hlen : fs.length = F.length := Paired.len hF.each
    refine ⟨_, pss_cons (ps_if (PW.pt (pw_or (pt_not (pt_val (pe_isi (T := "tuple") T.nIsi (pv 1) T.nTuple (by decide +kernel))))
        (pw_or1 (pt_cmpR op_gt (pe_len T.nLen (pv 1)) (pe_glob (v := .int 60) rfl cM ⟨_, rfl⟩) (nomark _)))))
        (pss_one (ps_ret (pe_lst (pa_cons pe_non pa_nil)))) pss_nil)
      (pss_cons (ps_for PassesOwn.never rfl (pi_enumT rfl T.nEnum (pa_cons (pv 1) pa_nil)) (pg_tup rfl (pgs_cons (pg_name (i := 2) nd rfl (.inl rfl)) (pgs_cons (pg_name (i := 3) nd rfl (.inl rfl)) pgs_nil)))
        (pss_one (ps_if (pt_not (pt_val (pe_df DF hr pass0 (pa_cons (pv 0) (pa_cons (pv 3) pa_nil)))))
          (pss_one (ps_ret (pe_lst (pa_cons (pv 2) pa_nil)))) pss_nil)))
      (pss_one (ps_ret (pe_lst pa_nil)))), ?_⟩
    refine ⟨_, rfl, .type "tuple", true, tyx_tup hF.tup, kit_ty (by decide +kernel), _, rfl, iteF ?_⟩
    refine ⟨_, rfl, pf, _, rfl, .inr hF.tup, _, _, rfl, rfl, _, rfl, ?_⟩
    rw [List.length_map, hlen, decide_eq_false (show ¬ (60 : Int) < (F.length : Int) by omega)]
    refine iteF ?_
    refine ⟨_, rfl, pf, _, rfl, hF.tup, for_it (walk_enumT (K := K) (a := pf) (xs := fs.map V.ref)) (fun i σ H' => ∃ v1 v2, σ = [some (.ref pn), some (.ref pf), v1, v2] ∧ Same H H') ⟨none, none, rfl, Same.refl H⟩
      (fun i σ H' _ ⟨_, _, _, s5⟩ => sameT s5 hF.tup) ?_ ?_⟩
    · rintro i x σ H1 H2 hi ⟨v1, v2, rfl, s5⟩ ⟨Tp, x1, x2, rfl, nT, rfl, e1, e2⟩
      have e1 : V.int (i : Nat) = x1 := Option.some.inj e1
      subst e1
      have e2 : (fs.map V.ref)[i]? = some x2 := e2
      rw [List.getElem?_map] at e2
      cases ea : fs[i]? with
      | none => rw [ea] at e2; cases e2
      | some a =>
        rw [ea] at e2
        have e3 : V.ref a = x2 := Option.some.inj e2
        subst e3
        obtain ⟨f, hf, hfa⟩ := Paired.at hF.each ea
        have s6 := sameU (o := .tup [.int (i : Nat), .ref a]) s5 nT
        obtain ⟨o1, o2, o3⟩ := hO f (List.mem_of_getElem? hf)
        refine ⟨Tp, _, rfl, SqT.of upd_same, rfl, _, _, rfl, _, _, rfl, rfl, ?_⟩
        refine ⟨_, rfl, _, rfl, pn, a, N, f, rfl, sameT s6 hN, sameT s6 hfa, o1, o2, o3, fun H3 s7 => ⟨_, rfl, iteF ⟨_, _, rfl, Same.trans s6 s7⟩⟩⟩
    · rintro σ H1 ⟨v1, v2, rfl, s5⟩
      exact ⟨Nat.zero_le _, fun p np => k _ p (sameU s5 np) upd_same⟩
/-! ### need_form -/
abbrev sForm : Stmt := top 18
structure OkFr (n : Nat) (F : List Fc) : Prop where
  n1 : 1 ≤ n
  n7 : n ≤ 7
  len : F.length ≤ 60
  on : OnF (nms n) F
def spForm (K : PySem.W.Frag) : Sp := fun vs H Q _ => ∃ (p : Addr) (n : Nat) (F : List Fc), vs = [.ref p] ∧ FrAt K H p (nms n) F ∧ OkFr n F ∧ ∀ H', Same H H' → Q (.ref p) H'
theorem scForm : FnScope ["thing", "number"] ["thing"] (defScope sForm) := ⟨rfl, rfl, rfl, by decide +kernel, rfl, by decide +kernel, by decide +kernel⟩
theorem df_form (T : Txt K mg) (S : Std K mg "need_form" sForm) (D1 : Df P w K mg base CX0 "names_fault" ["names"] 2 (spNamesF K)) (D2 : Df P w K mg base CX0 "facts_fault" ["names", "facts"] 3 (spFactsF K)) : Df P w K mg base CX0 "need_form" ["thing"] 4 (spForm K) := by
  refine S.df (fun _ _ _ _ _ _ us hl => match us, hl with | [_], _ => rfl) fun f fd F => F.ok scForm (fun vs H Q E h => ?_) (fun cdv A outer s H vs Q E hr h => ?_)
  · obtain ⟨p, n, F, rfl, _⟩ := h
    rfl
  · obtain ⟨p, n, F, rfl, hp, ok, k⟩ := h
    obtain ⟨pn, pf, fs, hp, hN, hF⟩ := hp.ex
    have nd := scForm.nd
    refine ⟨_, pss_cons (ps_if (PW.pt (pw_or (pt_not (pt_val (pe_isi (T := "tuple") T.nIsi (pv 0) T.nTuple (by decide +kernel)))) (pw_or1 (pt_cmpR op_ne (pe_len T.nLen (pv 0)) pe_int (nomark _)))))
        (pss_one ps_never) pss_nil)
      (pss_cons (ps_for PassesOwn.never rfl (pi_list (pe_df D1 (hr.mono (by decide)) pass0 (pa_cons (pe_ix ix_tup (pv 0) pe_int (fun _ _ => rfl)) pa_nil))) (pg_name (i := 1) nd rfl (.inl rfl)) (pss_one ps_never))
      (pss_cons (ps_for PassesOwn.never rfl (pi_list (pe_df D2 hr pass0 (pa_cons (pe_ix ix_tup (pv 0) pe_int (fun _ _ => rfl)) (pa_cons (pe_ix ix_tup (pv 0) pe_int (fun _ _ => rfl)) pa_nil)))) (pg_name (i := 1) nd rfl (.inl rfl)) (pss_one ps_never))
      (pss_one (ps_ret (pv 0))))), ?_⟩
    refine ⟨_, rfl, .type "tuple", true, tyx_tup hp, kit_ty (by decide +kernel), _, rfl, iteF ?_⟩
    refine ⟨_, rfl, p, _, rfl, .inr hp, rfl, _, rfl, iteF ?_⟩
    refine ⟨_, rfl, p, _, _, _, rfl, rfl, hp, rfl, pn, n, rfl, hN, ok.n1, ok.n7, fun H1 l s1 hl => ⟨l, rfl, ⟨_, SqL.of hl⟩, for_list (K := K) (a := l) (xs := []) (fun i σ H' => σ = [some (.ref p), none] ∧ H' = H1) ⟨rfl, rfl⟩ (fun i σ H' _ ⟨_, e⟩ => by rw [e]; exact SqL.of hl) (fun i x σ H' hx => by simp at hx) ?_⟩⟩
    rintro σ H' ⟨rfl, rfl⟩
    refine ⟨_, rfl, p, _, _, _, rfl, rfl, sameT s1 hp, rfl, _, rfl, p, _, _, _, rfl, rfl, sameT s1 hp, rfl, pn, pf, fs, _, F, rfl, sameT s1 hN, hF.same s1, ok.len, ok.on, fun H2 l2 s2 hl2 => ⟨l2, rfl, ⟨_, SqL.of hl2⟩,
      for_list (K := K) (a := l2) (xs := []) (fun i σ H' => σ = [some (.ref p), none] ∧ H' = H2) ⟨rfl, rfl⟩ (fun i σ H' _ ⟨_, e⟩ => by rw [e]; exact SqL.of hl2) (fun i x σ H' hx => by simp at hx) ?_⟩⟩
    rintro σ H' ⟨rfl, rfl⟩
    exact ⟨_, rfl, k _ (Same.trans s1 s2)⟩
end
end NC

set_option Elab.async false
set_option linter.all false
set_option maxRecDepth 100000
set_option maxHeartbeats 4000000
/-! a rule that the layer lacks: {k: v for a in t for b in u}, the keys tuples of texts -/
namespace NC
open PySem L2 PySem.Spec PyProof.Rows
section
variable {kx vx t0 i0 t1 i1 : Expr} {scope : Scope} {pos : Pos} {it : Value} {D : Addr} {env : Env}
abbrev dcx (kx vx t0 i0 t1 i1 : Expr) (scope : Scope) (pos : Pos) : Expr := .DictComp kx vx [⟨t0, i0, [], 0⟩, ⟨t1, i1, [], 0⟩] scope pos
theorem dc2_turn0 : compTurn (dcx kx vx t0 i0 t1 i1 scope pos) 0 it (.ref D) env = (do
    standAt i0.pos
    match ← pyNext it with
    | none => pure (.done .next)
    | some v =>
      letOwnedTupleGo t0 it v
      assign t0 env v
      let mut ok := true
      for c in ([] : List Expr) do
        if ok then ok ← isTrue c env (eval c env)
      if ok then
        let x ← eval i1 env
        standAt i1.pos
        let x ← foldedSetIterable i1 env x
        let _ ← runOwn (.compStart (dcx kx vx t0 i0 t1 i1 scope pos) 1 (← holding [x] (pyIter x)) (.ref D) env) env
      again (.compLoop (dcx kx vx t0 i0 t1 i1 scope pos) 0 it (.ref D) env)) := by rfl
theorem dc2_turn1 : compTurn (dcx kx vx t0 i0 t1 i1 scope pos) 1 it (.ref D) env = (do
    standAt i1.pos
    match ← pyNext it with
    | none => pure (.done .next)
    | some v =>
      letOwnedTupleGo t1 it v
      assign t1 env v
      let mut ok := true
      for c in ([] : List Expr) do
        if ok then ok ← isTrue c env (eval c env)
      if ok then
        (do
          let kv ← eval kx env
          let vv ← holding [kv] (eval vx env)
          standAt { kx.pos with endLine := vx.pos.endLine, endCol := vx.pos.endCol }
          holding [kv, vv] (dictSet D kv vv))
      again (.compLoop (dcx kx vx t0 i0 t1 i1 scope pos) 1 it (.ref D) env)) := by rfl
end
section
variable {P : Program} {w : World} {A : Around} {R : Result → Shared → Prop} {s : Shared} {kx vx t0 i0 t1 i1 : Expr} {scope : Scope} {pos : Pos} {it : Value} {D : Addr} {env : Env}
/-- no exception is wanted inside: what is shown with the wish False serves every wish -/
theorem wF {α : Type} {m : Sem α} {Q Q' : α → Shared → Prop} {M : Model} {E : Value → Shared → Prop} (h : wpAny M A m Q (fun _ _ => False) s) (k : ∀ a s', Q a s' → Q' a s') : wpAny M A m Q' E s := wpAny_mono h k fun _ _ z => z.elim
/-- the inner loop -/
theorem dc2_in (J : Nat → Shared → Prop) (turn : ∀ n s, J n s → wpAny (model P w) A (pyNext it) (fun r s1 => match r with
      | none => R (.ok .next) s1
      | some v => wpAny (model P w) A (letOwnedTupleGo t1 it v) (fun _ s2 => wpAny (model P w) A (assign t1 env v) (fun _ s3 => wpAny (model P w) A (eval kx env) (fun kv s4 => wpAny (model P w) A (eval vx env)
          (fun vv s5 => wpAny (model P w) A (dictSet D kv vv) (fun _ s6 => ∃ m, m < n ∧ J m s6) (fun _ _ => False) s5) (fun _ _ => False) s4) (fun _ _ => False) s3) (fun _ _ => False) s2) (fun _ _ => False) s1) (fun _ _ => False) s)
    (n : Nat) (h : J n s) : codeAny (model P w) A (.compLoop (dcx kx vx t0 i0 t1 i1 scope pos) 1 it (.ref D) env) R s := by
  refine codeAny_loop rfl J (fun n s hJ => ?_) n h
  show wpAny _ A ((compTurn (dcx kx vx t0 i0 t1 i1 scope pos) 1 it (.ref D) env).onRaise (fun x => do noteFrame x env; theTreesLotGoes x)) _ _ s
  refine wpAny_noted ?_
  rw [dc2_turn1]
  refine wpAny_bind (wpAny_standAt (wpAny_bind (wF (turn n s hJ) fun r s1 h1 => ?_)))
  cases r with
  | none => exact wpAny_pure h1
  | some v =>
    refine wpAny_bind (wF h1 fun _ s2 h2 => wpAny_bind (wF h2 fun _ s3 h3 => wpAny_bind (wpAny_tests_nil ?_)))
    refine wpAny_bind (wpAny_bind (wF h3 fun kv s4 h4 => wpAny_bind (wpAny_holding (wF h4 fun vv s5 h5 => wpAny_bind (wpAny_standAt (wpAny_holding (wF h5 fun _ s6 h6 => ?_)))))))
    exact wpAny_pure ⟨rfl, h6⟩
/-- the outer loop -/
theorem dc2_out (fs : ∀ x, foldedSetIterable i1 env x = pure x) (J : Nat → Shared → Prop) (turn : ∀ n s, J n s → wpAny (model P w) A (pyNext it) (fun r s1 => match r with
      | none => R (.ok .next) s1
      | some v => wpAny (model P w) A (letOwnedTupleGo t0 it v) (fun _ s2 => wpAny (model P w) A (assign t0 env v) (fun _ s3 => wpAny (model P w) A (eval i1 env) (fun x s4 => wpAny (model P w) A (pyIter x)
          (fun it1 s5 => codeAny (model P w) A (.compStart (dcx kx vx t0 i0 t1 i1 scope pos) 1 it1 (.ref D) env) (fun r s6 => (∃ f, r = .ok f) ∧ ∃ m, m < n ∧ J m s6) s5) (fun _ _ => False) s4) (fun _ _ => False) s3) (fun _ _ => False) s2) (fun _ _ => False) s1) (fun _ _ => False) s)
    (n : Nat) (h : J n s) : codeAny (model P w) A (.compLoop (dcx kx vx t0 i0 t1 i1 scope pos) 0 it (.ref D) env) R s := by
  refine codeAny_loop rfl J (fun n s hJ => ?_) n h
  show wpAny _ A ((compTurn (dcx kx vx t0 i0 t1 i1 scope pos) 0 it (.ref D) env).onRaise (fun x => do noteFrame x env; theTreesLotGoes x)) _ _ s
  refine wpAny_noted ?_
  rw [dc2_turn0]
  refine wpAny_bind (wpAny_standAt (wpAny_bind (wF (turn n s hJ) fun r s1 h1 => ?_)))
  cases r with
  | none => exact wpAny_pure h1
  | some v =>
    refine wpAny_bind (wF h1 fun _ s2 h2 => wpAny_bind (wF h2 fun _ s3 h3 => wpAny_bind (wpAny_tests_nil ?_)))
    refine wpAny_bind (wF h3 fun x s4 h4 => wpAny_bind (wpAny_standAt (wpAny_bind (wpAny_of_eq (fs x) (wpAny_bind (wpAny_holding (wF h4 fun it1 s5 h5 => ?_)))))))
    refine wpAny_bind (wpAny_runOwn ?_)
    rw [Around.mark_none]
    refine codeAny_mono h5 fun r s6 ⟨⟨f, e⟩, h6⟩ => ?_
    cases e
    first
      | exact wpAny_pure ⟨rfl, h6⟩
      | exact wpAny_bind (wpAny_pure (wpAny_pure ⟨rfl, h6⟩))
/-- the inner loop's start -/
theorem dc2_start (h0 : codeAny (model P w) A (.compLoop (dcx kx vx t0 i0 t1 i1 scope pos) 1 it (.ref D) env) R s)
    (h : wpAny (model P w) A (pyIter it) (fun it' s' => codeAny (model P w) A (.compLoop (dcx kx vx t0 i0 t1 i1 scope pos) 1 it' (.ref D) env) R s') (notedBy (model P w) A env fun x s' => R (.error x) s') s) :
    codeAny (model P w) A (.compStart (dcx kx vx t0 i0 t1 i1 scope pos) 1 it (.ref D) env) R s := by
  refine codeAny_of_tree ?_
  show wpAny _ _ ((compStart (dcx kx vx t0 i0 t1 i1 scope pos) 1 it (.ref D) env).onRaise (fun x => do noteFrame x env; standAt theWindowsPlace)) _ _ s
  refine wpAny_notedAt ?_
  unfold compStart
  refine wpAny_bind (m := ask) (wpAny_askSetting (wpAny_ite ?_))
  split
  · first
      | exact wpAny_pure ⟨rfl, h0⟩
      | exact wpAny_bind (wpAny_pure (wpAny_pure ⟨rfl, h0⟩))
  · refine wpAny_bind (wpAny_rule ?_)
    first
      | exact wpAny_bind (wpAny_standAt (wpAny_bind (wpAny_mono h (fun it' s' q => wpAny_pure ⟨rfl, q⟩) fun _ _ z => z)))
      | (show wpAny _ _ (standAt i1.pos >>= _) _ _ s; exact wpAny_bind (wpAny_standAt (wpAny_bind (wpAny_mono h (fun it' s' q => wpAny_pure ⟨rfl, q⟩) fun _ _ z => z))))
end
/-! ### what it asks -/
/-- the inner clause, over what goes on behind it -/
def tIn (wi1 : TI) (g1 : TG) (tk tv : TE) (vs1 : List Nat) (D : Addr) (σ : L2.St) (H : Hp) (Nx : Hp → Prop) : Prop :=
  wi1 σ H fun J1 H3 => ∃ W1 : Nat → Nat → Hp → Prop, (∃ m, W1 0 m H3) ∧ ∀ j k H, W1 j k H → (J1.stop j H ∧ Nx H) ∨ (J1.go j H ∧ ∃ Nx1 : Hp → Prop, (∀ H', Nx1 H' → ∃ k', k' < k ∧ W1 (j + 1) k' H') ∧
    ∀ y H', J1.yld j H y H' → g1 y (wipe σ vs1) H' fun σ3 H4 => wipe σ3 vs1 = wipe σ vs1 ∧ tk σ3 H4 fun a H5 => tv σ3 H5 fun z H6 =>
      ∃ b kvs k, a = .ref b ∧ H6 b = some (.tup (k.map kV)) ∧ H6 D = some (.dT kvs) ∧ kvs.length < sizeLine ∧ Nx1 (upd H6 D (.dT (putK kvs k z))))
def tDc2 (wi : TI) (g : TG) (wi1 : TI) (g1 : TG) (tk tv : TE) (vs vs1 : List Nat) : TE := fun σ H Q =>
  wi σ H fun J H1 => ∀ D, H1 D = none → ∃ W : Nat → Nat → Hp → Prop, (∃ m, W 0 m (upd H1 D (.dT []))) ∧ ∀ i m H, W i m H → (J.stop i H ∧ Q (.ref D) H) ∨ (J.go i H ∧ ∃ Nx : Hp → Prop, (∀ H', Nx H' → ∃ m', m' < m ∧ W (i + 1) m' H') ∧
    ∀ x H', J.yld i H x H' → g x (wipe σ vs) H' fun σ2 H2 => wipe σ2 vs = wipe σ vs ∧ tIn wi1 g1 tk tv vs1 D σ2 H2 Nx)
section
variable {X : Cx}
/-- d[a] = v by a comprehension, a a tuple of texts -/
theorem d_dictSetT {pins : List (Addr × Obj)} {σ : L2.St} {H : Hp} {s : Shared} {E : Value → Shared → Prop} {D b : Addr} {kvs : List (List Key × V)} {k : List Key} {v : V} {r : Value} {Q : Unit → Shared → Prop} (hu : X.A.units < cLine) (I : Inv X pins σ H s)
    (hb : H b = some (.tup (k.map kV))) (hD : H D = some (.dT kvs)) (hz : kvs.length < sizeLine) (rv : RelV v r) (h : ∀ s', Inv X pins σ (upd H D (.dT (putK kvs k v))) s' → Q () s') : wpAny (model X.prog X.w) X.A (dictSet D (.ref b) r) Q E s := by
  obtain ⟨z, hd, xs, rel, dd⟩ := dt_of I.hok hD
  have hzx : xs.length ≤ sizeLine := by rw [← Paired.length rel]; exact z
  have hl : (putK kvs k v).length ≤ sizeLine := Nat.le_trans (length_putK kvs k v) hz
  refine wpAny_dictSet_heap (hsz := hzx) (show (tupleKind (mixKind X.prog X.w)).room X.A from hu) (key_of I.hok hb) dd fun h' dd' hs => h _ ?_
  obtain ⟨q, es, ep, hq, h2, h3, h4, _, h5⟩ := dd'
  refine d_write I (by rw [hD]; exact True.intro) hs ⟨q, hq⟩ ⟨hl, hd, _, (rel.put k hb rv).keeps fun c ys ec => ?_, q, es, ep, hq, h2, h3, h4, h5⟩
  rwa [upd_ne (ne_of ec hD (fun z => nomatch z))]
/-- the block's contexts serve a word each -/
abbrev Blk (X : Cx) (scope : Scope) (W : Cx → Prop) : Prop := ∀ (s : Shared) (H : Hp) (C : Addr) (cl : List (Str × Addr)) (fp : List Addr), W (X.blk s H scope (compEnvC scope cl C X.env) fp)

variable {kx vx t0 i0 t1 i1 : Expr} {scope : Scope} {own : List (Str × Nat)} {vs1 : List Nat} {wi wi1 : TI} {g g1 : TG} {tk tv : TE}
/-- what the parts of {k: v for t0 in i0 for t1 in i1} owe -/
structure Dc2 (X : Cx) (kx vx t0 i0 t1 i1 : Expr) (scope : Scope) (own : List (Str × Nat)) (vs1 : List Nat) (wi : TI) (g : TG) (wi1 : TI) (g1 : TG) (tk tv : TE) : Prop where
  calm : X.calm = true
  nd : X.N.Nodup
  un : X.A.units < cLine
  it0 : PI X t0 i0 wi
  blk : BlkOk X.N X.env.scope scope own
  vs : ∀ i ∈ vs1, i ∈ own.map (·.2)
  pg0 : Blk X scope fun Y => PG Y t0 g
  it1 : Blk X scope fun Y => PI Y t1 i1 wi1
  pg1 : Blk X scope fun Y => PG Y t1 g1
  pk : Blk X scope fun Y => PE Y kx tk
  pv : Blk X scope fun Y => PE Y vx tv
  f0 : ∀ x, foldedSetIterable i0 X.env x = pure x
  f1 : ∀ env x, foldedSetIterable i1 env x = pure x
theorem Dc2.core {pins : List (Addr × Obj)} {s : Shared} {σ : L2.St} {H : Hp} {Q : VK} {pos pos' : Pos} {use : Option (Value → Sem Unit)} {Qf : Value → Shared → Prop}
    (B : Dc2 X kx vx t0 i0 t1 i1 scope own vs1 wi g wi1 g1 tk tv) (I : Inv X pins σ H s) (h : tDc2 wi g wi1 g1 tk tv (own.map (·.2)) vs1 σ H Q)
    (fin : ∀ D C s' m H', Inv X pins σ H' s' → Q (.ref D) H' → s'.heap.Ns C m → FpOk X pins H' C → compPost (model X.prog X.w) X.A X.xe use Qf (.ref D) C (.ok .next) s') :
    wpAny (model X.prog X.w) X.A (comprehension (dcx kx vx t0 i0 t1 i1 scope pos) scope X.env pos' newDict false (eval i0 X.env) use) Qf X.xe s := by
  have free : ∀ y ∈ scope.names, y.2 = .free → ∃ c, X.env.cells.lookup y.1 = some c := fun y hy e => I.ok.has _ (B.blk.free y hy e)
  refine wpAny_comprehension_free (use := use) rfl B.f0 (closure_ok free) B.blk.kind (fun y hy e => by rw [B.blk.uniq y hy, e])
    (thn (B.it0.run pins s σ H _ I h) fun xv s1 hx => thn hx fun itv s2 h2 => ?_)
  obtain ⟨it, fp, tn, J, H2, rfl, I2, T, st2, f2, q⟩ := h2
  refine wpAny_newObj_type (newEnv_comp ?_)
  -- the new dict, at the heap's end
  obtain ⟨D, hD⟩ : ∃ D, D = s2.heap.objs.size := ⟨_, rfl⟩
  obtain ⟨W, ⟨m0, w0⟩, turn⟩ := q D (I2.hok.fresh (Nat.le_of_eq hD.symm))
  obtain ⟨s3, hs3⟩ : ∃ s3 : Shared, s3 = { s2 with heap := s2.heap.push { cls := .type "dict", data := .dict #[] } } := ⟨_, rfl⟩
  have grow : ∀ b o, s2.heap.get? b = some o → s3.heap.get? b = some o := fun b o e => by rw [hs3]; exact Heap.get?_push_of_some _ e
  have I3 : Inv X pins σ (upd H2 D (.dT [])) s3 := by
    rw [hs3]
    refine I2.laid (t' := s2.toks) (fun b o e => Heap.get?_push_of_some _ e) (Nat.le_of_eq hD.symm) ?_
    rw [hD]
    exact dt_empty s2.heap I2.big
  have f3 : ∀ b ∈ fp, FpOk X pins (upd H2 D (.dT [])) b ∧ b < s3.heap.objs.size := fun b hb => by
    obtain ⟨o, eo, _⟩ := T.obj _ _ st2 b hb
    have lt := Heap.lt_size eo
    exact ⟨⟨by rw [upd_ne (hD ▸ Nat.ne_of_lt lt)]; exact (f2 b hb).1, (f2 b hb).2⟩, Heap.lt_size (grow b o eo)⟩
  have st3 : tn 0 s3.heap := T.keep _ _ _ st2 fun b _ o e => grow b o e
  have I4 := block_start I3 B.blk B.nd f3
  have p0 := B.pg0 s3 (upd H2 D (.dT [])) s3.heap.objs.size (cellsFrom (s3.heap.objs.size + 1) scope.names (cloFrom X.env.cells scope.names [])) fp
  have p1 := B.it1 s3 (upd H2 D (.dT [])) s3.heap.objs.size (cellsFrom (s3.heap.objs.size + 1) scope.names (cloFrom X.env.cells scope.names [])) fp
  have p2 := B.pg1 s3 (upd H2 D (.dT [])) s3.heap.objs.size (cellsFrom (s3.heap.objs.size + 1) scope.names (cloFrom X.env.cells scope.names [])) fp
  have p3 := B.pk s3 (upd H2 D (.dT [])) s3.heap.objs.size (cellsFrom (s3.heap.objs.size + 1) scope.names (cloFrom X.env.cells scope.names [])) fp
  have p4 := B.pv s3 (upd H2 D (.dT [])) s3.heap.objs.size (cellsFrom (s3.heap.objs.size + 1) scope.names (cloFrom X.env.cells scope.names [])) fp
  rw [← hs3, ← hD]
  generalize hce : compEnvC scope (cellsFrom (s3.heap.objs.size + 1) scope.names (cloFrom X.env.cells scope.names [])) s3.heap.objs.size X.env = ce at I4 p0 p1 p2 p3 p4
  have cL : ce.locals = s3.heap.objs.size := by rw [← hce]; rfl
  show codeAny _ _ (.compStart (dcx kx vx t0 i0 t1 i1 scope pos) 0 (.ref it) (.ref D) (compEnvC scope (cellsFrom (s3.heap.objs.size + 1) scope.names (cloFrom X.env.cells scope.names [])) s3.heap.objs.size X.env)) (compPost (model X.prog X.w) X.A X.xe use Qf (.ref D) s3.heap.objs.size) { s3 with heap := pushCells (s3.heap.push { cls := .type "dict", data := .dict #[] }) scope.names }
  rw [hce]
  generalize hH3 : upd H2 D (.dT []) = H3 at I3 I4 p0 p1 p2 p3 p4 w0 f3
  generalize hs4 : ({ s3 with heap := pushCells (s3.heap.push { cls := .type "dict", data := .dict #[] }) scope.names } : Shared) = s4 at I4 ⊢
  have st4 : tn 0 s4.heap := T.keep _ _ _ st3 fun b _ o e => by rw [← hs4]; exact pushCells_keeps _ _ _ _ (Heap.get?_push_of_some _ e)
  -- the iterator's objects stay out of what is tracked
  have stay : ∀ {σ' : L2.St} {H' : Hp} {s' : Shared}, Inv (X.blk s3 H3 scope ce fp) [] σ' H' s' → (∀ b ∈ fp, H' b = none) → ∀ b ∈ fp, FpOk (X.blk s3 H3 scope ce fp) [] H' b := fun {σ' H' s'} I' hn b hb =>
    ⟨hn b hb, (I'.ok.exf b hb).1, I'.ok.exfs b hb, .inl hb, (I'.ok.exf b hb).2, fun p hp => by simp only [List.append_nil] at hp; exact absurd (show p ∈ ([] : List (Addr × Obj)) from hp) List.not_mem_nil⟩
  have loop : codeAny (model X.prog X.w) X.A (.compLoop (dcx kx vx t0 i0 t1 i1 scope pos) 0 (.ref it) (.ref D) ce) (compPost (model X.prog X.w) X.A X.xe use Qf (.ref D) s3.heap.objs.size) s4 := by
    refine dc2_out (B.f1 ce) (fun n s' => ∃ i H', Inv (X.blk s3 H3 scope ce fp) [] (wipe σ (own.map (·.2))) H' s' ∧ tn i s'.heap ∧ (∀ b ∈ fp, H' b = none) ∧ W i n H') ?_ m0 ⟨0, H3, I4, st4, fun b hb => (f3 b hb).1.1, w0⟩
    rintro n s5 ⟨i, H5, I5, st5, n5, w5⟩
    rcases turn i n H5 w5 with ⟨stop, qq⟩ | ⟨go, Nx, hNx, step⟩
    · refine thnF (T.done (X.blk s3 H3 scope ce fp) rfl rfl rfl B.calm i [] s5 _ H5 (fun _ _ => False) I5 (stay I5 n5) st5 stop) fun r s6 ⟨hr, I6⟩ => ?_
      subst hr
      have I7 : Inv X pins σ H5 s6 := I3.call' (ch := fp) I6.os I6.base I6.hok I6.bare fun b hb => ⟨(f3 b hb).1.2.2.2.1, (f3 b hb).1.2.1, (f3 b hb).1.2.2.2.2.1, (f3 b hb).1.2.2.2.2.2⟩
      have nC : H5 s3.heap.objs.size = none := cL ▸ I6.free
      obtain ⟨m, hn, _⟩ := I6.loc
      exact fin D s3.heap.objs.size s6 m H5 I7 qq (cL ▸ hn) (I3.fpOk (Nat.le_refl _) nC)
    · refine thnF (T.item (X.blk s3 H3 scope ce fp) rfl rfl rfl B.calm i [] s5 _ H5 (fun _ _ => False) I5 (stay I5 n5) st5 go) fun r s6 ⟨u, hr, h6⟩ => ?_
      subst hr
      refine thnF h6 fun _ s7 ⟨x, H7, I7, r7, y7, st7, n7⟩ => ?_
      refine thnF (p0.run _ s7 _ H7 x u _ (I7.pinned (stay I7 n7) (T.obj _ _ st7)) r7 (step x H7 y7)) fun _ s8 ⟨σ8, H8, I8, hw8, q8⟩ => ?_
      have back : ∀ {σ9 : L2.St} {s' : Shared} {H' : Hp}, Inv (X.blk s3 H3 scope ce fp) ([] ++ pinsAt fp s7.heap) σ9 H' s' → σ9 = wipe σ8 vs1 → Nx H' →
          ∃ m, m < n ∧ ∃ i H', Inv (X.blk s3 H3 scope ce fp) [] (wipe σ (own.map (·.2))) H' s' ∧ tn i s'.heap ∧ (∀ b ∈ fp, H' b = none) ∧ W i m H' := fun {σ9 s' H'} I' e9 nx => by
        subst e9
        obtain ⟨m', lt, w'⟩ := hNx H' nx
        have still : ∀ b ∈ fp, ∀ o, s7.heap.get? b = some o → s'.heap.get? b = some o ∧ H' b = none := fun b hb o e =>
          let z := I'.pin (b, o) (List.mem_append_right _ (List.mem_append_right _ (mem_pinsAt hb e)))
          ⟨z.1, z.2.1⟩
        refine ⟨m', lt, i + 1, H', (I'.unpinned (pins := [])).weak (by rw [← hw8, wipe_length, wipe_length]) (fun j v e => ?_), T.keep _ _ _ st7 fun b hb o e => (still b hb o e).1, fun b hb => ?_, w'⟩
        · rw [← hw8] at e
          obtain ⟨e1, e2⟩ := wipe_some e
          rw [wipe_out fun z => e2 (B.vs j z)]
          exact e1
        · obtain ⟨o, e, _⟩ := T.obj _ _ st7 b hb
          exact (still b hb o e).2
      refine thnF (p1.run _ s8 σ8 H8 _ I8 q8) fun xv s10 hx => thnF hx fun itv s11 h11 => ?_
      obtain ⟨it1, fp1, tn1, J1, H11, rfl, I11, T1, st11, f11, W1, ⟨m1, w1⟩, turn1⟩ := h11
      have stay1 : ∀ {H' : Hp}, (∀ b ∈ fp1, H' b = none) → ∀ b ∈ fp1, FpOk (X.blk s3 H3 scope ce fp) ([] ++ pinsAt fp s7.heap) H' b := fun hn b hb => ⟨hn b hb, (f11 b hb).2⟩
      have loop1 : codeAny (model X.prog X.w) X.A (.compLoop (dcx kx vx t0 i0 t1 i1 scope pos) 1 (.ref it1) (.ref D) ce)
          (fun r s' => (∃ f, r = .ok f) ∧ ∃ m, m < n ∧ ∃ i H', Inv (X.blk s3 H3 scope ce fp) [] (wipe σ (own.map (·.2))) H' s' ∧ tn i s'.heap ∧ (∀ b ∈ fp, H' b = none) ∧ W i m H') s11 := by
        refine dc2_in (fun k s' => ∃ j H', Inv (X.blk s3 H3 scope ce fp) ([] ++ pinsAt fp s7.heap) (wipe σ8 vs1) H' s' ∧ tn1 j s'.heap ∧ (∀ b ∈ fp1, H' b = none) ∧ W1 j k H') ?_ m1 ⟨0, H11, I11.weak (wipe_length _ _) (fun j v e => (wipe_some e).1), st11, fun b hb => (f11 b hb).1, w1⟩
        rintro k s12 ⟨j, H12, I12, st12, n12, w12⟩
        rcases turn1 j k H12 w12 with ⟨stop1, nx1⟩ | ⟨go1, Nx1, hNx1, step1⟩
        · refine thnF (T1.done (X.blk s3 H3 scope ce fp) rfl rfl rfl B.calm j _ s12 (wipe σ8 vs1) H12 (fun _ _ => False) I12 (stay1 n12) st12 stop1) fun r s13 ⟨hr, I13⟩ => ?_
          subst hr
          exact ⟨⟨_, rfl⟩, back I13 rfl nx1⟩
        · refine thnF (T1.item (X.blk s3 H3 scope ce fp) rfl rfl rfl B.calm j _ s12 (wipe σ8 vs1) H12 (fun _ _ => False) I12 (stay1 n12) st12 go1) fun r s13 ⟨u1, hr, h13⟩ => ?_
          subst hr
          refine thnF h13 fun _ s14 ⟨x1, H14, I14, r14, y14, st14, n14⟩ => ?_
          refine thnF (p2.run _ s14 (wipe σ8 vs1) H14 x1 u1 _ (I14.pinned (stay1 n14) (T1.obj _ _ st14)) r14 (step1 x1 H14 y14)) fun _ s15 ⟨σ15, H15, I15, hw15, q15⟩ => ?_
          refine thnF (p3.run _ s15 σ15 H15 _ I15 q15) fun kv s16 ⟨y16, H16, I16, r16, q16⟩ => thnF (p4.run _ s16 σ15 H16 _ I16 q16) fun vv s17 ⟨y17, H17, I17, r17, q17⟩ => ?_
          obtain ⟨b, kvs, key, rfl, hb, hD17, hz, nx⟩ := q17
          cases (show kv = Value.ref b from r16)
          refine d_dictSetT (X := X.blk s3 H3 scope ce fp) B.un I17 hb hD17 hz r17 fun s18 I18 => ?_
          obtain ⟨m', lt, w'⟩ := hNx1 _ nx
          have still : ∀ c ∈ fp1, ∀ o, s14.heap.get? c = some o → s18.heap.get? c = some o ∧ (upd H17 D (.dT (putK kvs key y17))) c = none := fun c hc o e =>
            let z := I18.pin (c, o) (List.mem_append_right _ (List.mem_append_right _ (mem_pinsAt hc e)))
            ⟨z.1, z.2.1⟩
          refine ⟨m', lt, j + 1, _, I18.unpinned.weak (by rw [← hw15, wipe_length]) (fun j v e => by rw [← hw15] at e; exact (wipe_some e).1), T1.keep _ _ _ st14 fun c hc o e => (still c hc o e).1, fun c hc => ?_, w'⟩
          obtain ⟨o, e, _⟩ := T1.obj _ _ st14 c hc
          exact (still c hc o e).2
      exact dc2_start loop1 (T1.self X.A 0 _ _ _ st11 loop1)
  exact codeAny_compStart_dict loop (T.self X.A 0 _ _ _ st4 loop)

/-- name = {..} on one line, the name a local -/
theorem ps_setDc2 {i : Nat} {y : Str} {py : Pos} {pos spos : Pos} (B : Dc2 X kx vx t0 i0 t1 i1 scope own vs1 wi g wi1 g1 tk tv) (hy : X.N[i]? = some y) (hyl : X.env.scope.names.lookup y = some .local)
    (hsw : swapsWith (dcx kx vx t0 i0 t1 i1 scope pos) (some (.Name y py)) spos.line X.env = pure true) :
    PS X (.Assign [.Name y py] (dcx kx vx t0 i0 t1 i1 scope pos) spos) (tAsg (tDc2 wi g wi1 g1 tk tv (own.map (·.2)) vs1) (gName i)) := by
  refine ⟨fun pins s σ H D I h => ?_⟩
  rw [exec_Assign_Name_used _ _ _ _ hsw]
  refine wpAny_bind (wpAny_standAt (wpAny_bind ?_))
  show wpAny _ X.A (do let _ ← comprehension (dcx kx vx t0 i0 t1 i1 scope pos) scope X.env (firstIterPos [⟨t0, i0, [], 0⟩, ⟨t1, i1, [], 0⟩] pos) newDict false (eval i0 X.env) (some (assign (.Name y py) X.env))) _ _ s
  refine wpAny_bind (thn (Dc2.core (Qf := fun _ s' => SP X pins D .next s') B I (show tDc2 wi g wi1 g1 tk tv (own.map (·.2)) vs1 σ H (fun x H1 => gName i x σ H1 D.nx) from h) fun L C s' m H' I' q hn f => ?_) fun _ s' hq => wpAny_pure (wpAny_pure hq))
  show wpAny _ _ (assign (.Name y py) X.env (.ref L)) _ _ _
  refine wpAny_assign_Name (store_ok2 (v := V.ref L) I' B.nd hy (.inl hyl) rfl (fun s2 I2 ⟨a, sb, ha⟩ => ?_) (.inr hyl))
  have haC : C ≠ a := by
    rcases ha with z | z
    · exact z ▸ f.2.1
    · exact fun e => f.2.2.2.2.1 y a z e.symm
  exact ⟨m, hn.sameBut sb haC, fun h3 sb3 => ⟨_, H', I2.turned (t' := s2.toks) (fun b o hb e => (sb3.2 b hb).trans e) f.1 f.2.1 f.2.2.2.1 f.2.2.2.2.1 f.2.2.2.2.2, q⟩⟩
theorem sw_dict {pos py : Pos} {y : Str} {l : Nat} {env : Env} (hk : env.scope.kind = .function) (hy : env.scope.names.lookup y = some .local) (hl : (py.line == pos.line) = true)
    (ha : (scope.names.any fun (n, k) => n == y && (k == .local || k == .cell)) = false) : swapsWith (dcx kx vx t0 i0 t1 i1 scope pos) (some (.Name y py)) l env = pure true := by
  have k1 : env.kindOf y = some .local := hy
  have k2 : env.blockKind = .function := by unfold Env.blockKind; rw [hk]; rfl
  unfold swapsWith
  simp only [k2, k1, ha, Expr.pos, hl]
  rfl
end
end NC

set_option Elab.async false
set_option linter.all false
set_option maxRecDepth 100000
set_option maxHeartbeats 4000000
/-! a rule that the layer lacks: == of two dicts of the same keys, tuples of texts, the values ints -/
namespace NC
open PySem L2 PySem.Spec PyProof.Rows
section
variable {P : Program} {w : World} {K : Type} [DecidableEq K] {knd : HeapKind P w K} {A : Around} {E : Value → Shared → Prop} {s : Shared}
/-- two tables of the same keys, by the turn: whether their values are alike from there on -/
def AlikeAt (A : Around) (s : Shared) : List (K × Addr × Value) → List (K × Addr × Value) → Bool → Prop := fun xs ys r =>
  ∃ es : List Bool, es.length = xs.length ∧ xs.length = ys.length ∧ r = es.all id ∧ ∀ (i : Nat) (x y : K × Addr × Value) (e : Bool), xs[i]? = some x → ys[i]? = some y → es[i]? = some e → x.1 = y.1 ∧ SeqAt.EqAt A s x.2.2 y.2.2 e
theorem entry_i {es : Array DictEntry} {xs : List (K × Addr × Value)} (he : es.toList = xs.map (entryOfKey knd)) {i : Nat} {x : K × Addr × Value} (h : xs[i]? = some x) : es[i]? = some ⟨knd.hash x.1, .ref x.2.1, x.2.2⟩ := by
  rw [entry_at he i, h]
  rfl
theorem same_tables {nm : String} {a b : Addr} {xs ys : List (K × Addr × Value)} {r : Bool} {Q : Bool → Shared → Prop} (hu : knd.room A) (ha : (a == sysModules) = false) (hb : (b == sysModules) = false)
    (da : s.heap.DictOfH knd a xs) (db : s.heap.DictOfH knd b ys) (al : AlikeAt A s xs ys r) (h : Q r s) : wpAny (model P w) A (Builtin.Dict.samePairs nm a b) Q E s := by
  obtain ⟨oa, es, ep, hoa, _, hda, hea, hia, hna⟩ := da
  obtain ⟨ob, es', ep', hob, _, hdb, heb, hib, hnb⟩ := db
  obtain ⟨bs, l1, l2, hr, each⟩ := al
  have sa : es.size = xs.length := size_of_entries hea
  have sb : es'.size = ys.length := size_of_entries heb
  unfold Builtin.Dict.samePairs Builtin.Dict.showsAll
  rw [if_neg (show ¬ (a == sysModules) = true by rw [ha]; decide), if_neg (show ¬ (b == sysModules) = true by rw [hb]; decide)]
  refine wpAny_bind (wpAny_pure (wpAny_bind (wpAny_pure (wpAny_bind (wpAny_dictEntries hoa hda ?_)))))
  dsimp only
  refine wpAny_bind (wpAny_dictEntries hob hdb ?_)
  rw [if_neg (by rw [sa, sb, l2]; simp)]
  refine wpAny_bind (wpAny_dictEpoch hoa hda (wpAny_bind ?_))
  rw [Std.Legacy.Range.forIn_eq_forIn_range']
  simp only [Std.Legacy.Range.size, Nat.sub_zero, Nat.add_sub_cancel, Nat.div_one]
  refine wpAny_forIn_list _ (fun rest q s' => s' = s ∧ q = (none, ()) ∧ ∃ i, rest = List.range' i (es.size - i) ∧ i ≤ es.size ∧ r = (bs.drop i).all id) _ ?_ ?_ _ _ ⟨rfl, rfl, 0, by simp, Nat.zero_le _, hr⟩
  · rintro x rest q s' ⟨rfl, rfl, i, e0, hi, er⟩
    have lt : i < es.size := by
      refine Nat.lt_of_le_of_ne hi fun z => ?_
      rw [z, Nat.sub_self] at e0
      simp at e0
    have e1 : List.range' i (es.size - i) = i :: List.range' (i + 1) (es.size - (i + 1)) := by
      rw [show es.size - i = (es.size - (i + 1)) + 1 by omega, List.range'_succ]
    rw [e1] at e0
    obtain ⟨rfl, er'⟩ : x = i ∧ rest = List.range' (i + 1) (es.size - (i + 1)) := by injection e0 with p q; exact ⟨p, q⟩
    obtain ⟨p, hp⟩ : ∃ p, xs[x]? = some p := ⟨xs[x]'(by omega), List.getElem?_eq_getElem _⟩
    obtain ⟨q, hq⟩ : ∃ q, ys[x]? = some q := ⟨ys[x]'(by omega), List.getElem?_eq_getElem _⟩
    obtain ⟨e, he⟩ : ∃ e, bs[x]? = some e := ⟨bs[x]'(by omega), List.getElem?_eq_getElem _⟩
    obtain ⟨ek, eq⟩ := each x p q e hp hq he
    have en := entry_i hea hp
    have em := entry_i heb hq
    have kp : knd.is s'.heap q.1 p.2.1 := ek ▸ hia p (List.mem_of_getElem? hp)
    refine wpAny_bind (wpAny_dictEntries hoa hda ?_)
    rw [en]
    show wpAny _ _ (holding [Value.ref p.2.1, p.2.2] _ >>= _) _ _ _
    rw [ek]
    refine wpAny_bind (wpAny_holding (wpAny_bind (wpAny_dictFind_heap (knd := knd) hu kp hob hdb heb hib hnb (fun no => absurd hq (no x q.2)) fun j p' hj => ?_)))
    obtain rfl : j = x := idxH_unique hnb hj hq
    refine wpAny_bind (wpAny_dictEntries hob hdb ?_)
    rw [em]
    have dr : (bs.drop j).all id = (e && (bs.drop (j + 1)).all id) := by
      have lb : j < bs.length := by omega
      have e2 : bs[j] = e := by rw [List.getElem?_eq_getElem lb] at he; exact Option.some.inj he
      rw [List.drop_eq_getElem_cons lb, e2]
      rfl
    refine wpAny_holding (eq P w _ _ ?_)
    cases e with
    | false =>
      show wpAny _ _ (if (!false) = true then _ else _) _ _ _
      rw [if_pos (by decide)]
      rw [dr, Bool.false_and] at er
      subst er
      exact wpAny_pure (wpAny_pure h)
    | true =>
      show wpAny _ _ (if (!true) = true then _ else _) _ _ _
      rw [if_neg (by decide)]
      refine wpAny_bind (wpAny_dictEpoch hoa hda ?_)
      rw [if_neg (by simp)]
      rw [dr, Bool.true_and] at er
      exact wpAny_pure ⟨rfl, rfl, j + 1, er', lt, er⟩
  · rintro q s' ⟨rfl, rfl, i, e0, hi, er⟩
    have e1 : es.size ≤ i := by
      have := congrArg List.length e0
      rw [List.length_range'] at this
      simp at this
      omega
    refine wpAny_pure ?_
    rw [List.drop_of_length_le (by omega)] at er
    subst er
    exact h
theorem eq_tables {a b : Addr} {xs ys : List (K × Addr × Value)} {r : Bool} {Q : Value → Shared → Prop} (hk : knd.room A.in1) (hu : A.units < cLine) (ha : (a == sysModules) = false) (hb : (b == sysModules) = false)
    (da : s.heap.DictOfH knd a xs) (db : s.heap.DictOfH knd b ys) (al : AlikeAt A.in1 s xs ys r) (h : Q (.bool r) s) : wpAny (model P w) A (compareOp .Eq (.ref a) (.ref b)) Q E s := by
  refine wpAny_richCompare_same_room (op := .Eq) da.typeIs db.typeIs PySem.F.slot_dict_eq (wpAny_call_entry PySem.F.slot_dict_eq da.typeIs PySem.F.entry_dict_eq ?_ (PySem.F.args_dict_eq_2 _ _)) hu
  show wpAny _ _ (Builtin.Dict.dictSlotArgs "__eq__" ⟨[.ref a, .ref b], []⟩ >>= _) _ _ s
  unfold Builtin.Dict.dictSlotArgs
  refine wpAny_bind (wpAny_bind (wpAny_notOrdered_dict da.typeIs ?_))
  show wpAny _ _ (pure (Value.ref a, Value.ref b)) _ _ s
  refine wpAny_pure (wpAny_bind (wpAny_isInstance (T := "dict") db.typeIs PySem.F.sub_dict_dict ?_))
  simp only [Bool.not_true, Bool.false_eq_true, if_false]
  refine wpAny_bind (wpAny_pure (wpAny_bind (wpAny_pure (wpAny_bind (same_tables (r := r) hk ha hb da db al (wpAny_pure ⟨_, rfl, (fun z => nomatch z), by simpa using h⟩))))))
end
section
variable {X : Cx} {κ : Type}
/-- the table of a function to ints over keys -/
def tabI (ks : List κ) (key : κ → List Key) (f : κ → Int) : List (List Key × V) := ks.map fun k => (key k, .int (f k))
theorem kt_tab {H : Hp} {key : κ → List Key} {f : κ → Int} {xs : List (List Key × Addr × Value)} {ks : List κ} (r : KT H (tabI ks key f) xs) : xs.length = ks.length ∧ ∀ (i : Nat) (x : List Key × Addr × Value), xs[i]? = some x → ∃ k t, ks[i]? = some k ∧ x.1 = key k ∧ x.2.2 = .int (f k) t := by
  refine ⟨?_, fun i x hx => ?_⟩
  · have := NC.Paired.len r
    unfold tabI at this
    rw [List.length_map] at this
    exact this.symm
  · have lt : i < ks.length := by
      have l1 := NC.Paired.len r
      unfold tabI at l1
      rw [List.length_map] at l1
      have := (List.getElem?_eq_some_iff.mp hx).1
      omega
    obtain ⟨y, hy, e1, _, t, e2⟩ := NC.Paired.at r (i := i) (a := (key ks[i], .int (f ks[i]))) (by unfold tabI; rw [List.getElem?_map, List.getElem?_eq_getElem lt]; rfl)
    have e : y = x := Option.some.inj (hy.symm.trans hx)
    subst e
    exact ⟨ks[i], t, List.getElem?_eq_getElem lt, e1.symm, e2⟩
def rEqT : R2 := fun x y H Q => ∃ (a b : Addr) (κ : Type) (ks : List κ) (key : κ → List Key) (f g : κ → Int), x = .ref a ∧ y = .ref b ∧ H a = some (.dT (tabI ks key f)) ∧ H b = some (.dT (tabI ks key g)) ∧ Q (.bl (ks.all fun k => decide (f k = g k))) H
theorem op_eqT (hu : X.A.units + 1 < cLine) : OpR X (compareOp .Eq) rEqT := by
  rintro pins s σ H x y v u Q I rx ry ⟨a, b, κ, ks, key, f, g, rfl, rfl, ea, eb, q⟩
  obtain rfl : v = Value.ref a := rx
  obtain rfl : u = Value.ref b := ry
  obtain ⟨_, ya, xa, ra, da⟩ := dt_of I.hok ea
  obtain ⟨_, yb, xb, rb, db⟩ := dt_of I.hok eb
  obtain ⟨la, pa⟩ := kt_tab ra
  obtain ⟨lb, pb⟩ := kt_tab rb
  refine eq_tables (tupleKind_room_in1 hu) (by omega) ya yb da db (r := ks.all fun k => decide (f k = g k)) ⟨ks.map fun k => decide (f k = g k), by rw [List.length_map, la], by rw [la, lb], by rw [List.all_map]; rfl, fun i x y e hx hy he => ?_⟩ (fin_bl I q rfl)
  obtain ⟨k, t, hk, e1, e2⟩ := pa i x hx
  obtain ⟨k', t', hk', e1', e2'⟩ := pb i y hy
  obtain rfl : k = k' := Option.some.inj (hk.symm.trans hk')
  rw [List.getElem?_map, hk] at he
  obtain rfl : decide (f k = g k) = e := Option.some.inj he
  refine ⟨e1.trans e1'.symm, ?_⟩
  rw [e2, e2']
  exact SeqAt.EqAt.int_int (f k) t (g k) t'
end
end NC

set_option Elab.async false
set_option linter.all false
set_option maxRecDepth 100000
set_option maxHeartbeats 4000000
namespace NC
open PySem L2
/-! ### walks of a comprehension of two clauses -/
section
variable {J : It} {n : Nat} {G : Hp → Prop} {Y : Nat → Hp → V → Hp → Prop}
theorem dc_out (w : Walk J n G Y) {g : TG} {wi1 : TI} {g1 : TG} {tk tv : TE} {vs vs1 : List Nat} {σ : L2.St} {H1 : Hp} {D : Addr} {Qd : Hp → Prop} (Pv : Nat → Hp → Prop) (h0 : Pv 0 (upd H1 D (.dT []))) (hG : ∀ i H, i ≤ n → Pv i H → G H)
    (hs : ∀ i x H H', i < n → Pv i H → Y i H x H' → g x (wipe σ vs) H' fun σ2 H2 => wipe σ2 vs = wipe σ vs ∧ tIn wi1 g1 tk tv vs1 D σ2 H2 (Pv (i + 1))) (hd : ∀ H, Pv n H → Qd H) :
    ∃ W : Nat → Nat → Hp → Prop, (∃ m, W 0 m (upd H1 D (.dT []))) ∧ ∀ i m H, W i m H → (J.stop i H ∧ Qd H) ∨ (J.go i H ∧ ∃ Nx : Hp → Prop, (∀ H', Nx H' → ∃ m', m' < m ∧ W (i + 1) m' H') ∧
      ∀ x H', J.yld i H x H' → g x (wipe σ vs) H' fun σ2 H2 => wipe σ2 vs = wipe σ vs ∧ tIn wi1 g1 tk tv vs1 D σ2 H2 Nx) := by
  refine ⟨fun i m H => m = n - i ∧ i ≤ n ∧ Pv i H, ⟨n, by simp, Nat.zero_le _, h0⟩, ?_⟩
  rintro i m H ⟨rfl, hi, p⟩
  rcases Nat.lt_or_eq_of_le hi with lt | rfl
  · exact .inr ⟨w.goes i H lt (hG i H hi p), Pv (i + 1), fun H' p' => ⟨n - (i + 1), by omega, rfl, lt, p'⟩, fun x H' y => hs i x H H' lt p (w.yields i H x H' lt (hG i H hi p) y)⟩
  · exact .inl ⟨w.stops H (hG i H hi p), hd H p⟩
theorem dc_in (w : Walk J n G Y) {g1 : TG} {tk tv : TE} {vs1 : List Nat} {σ : L2.St} {H3 : Hp} {D : Addr} {Nx : Hp → Prop} (Pv : Nat → Hp → Prop) (h0 : Pv 0 H3) (hG : ∀ i H, i ≤ n → Pv i H → G H)
    (hs : ∀ i x H H', i < n → Pv i H → Y i H x H' → g1 x (wipe σ vs1) H' fun σ3 H4 => wipe σ3 vs1 = wipe σ vs1 ∧ tk σ3 H4 fun a H5 => tv σ3 H5 fun z H6 =>
      ∃ b kvs k, a = .ref b ∧ H6 b = some (.tup (k.map kV)) ∧ H6 D = some (.dT kvs) ∧ kvs.length < sizeLine ∧ Pv (i + 1) (upd H6 D (.dT (putK kvs k z)))) (hd : ∀ H, Pv n H → Nx H) :
    ∃ W1 : Nat → Nat → Hp → Prop, (∃ m, W1 0 m H3) ∧ ∀ j k H, W1 j k H → (J.stop j H ∧ Nx H) ∨ (J.go j H ∧ ∃ Nx1 : Hp → Prop, (∀ H', Nx1 H' → ∃ k', k' < k ∧ W1 (j + 1) k' H') ∧
      ∀ y H', J.yld j H y H' → g1 y (wipe σ vs1) H' fun σ3 H4 => wipe σ3 vs1 = wipe σ vs1 ∧ tk σ3 H4 fun a H5 => tv σ3 H5 fun z H6 =>
        ∃ b kvs k, a = .ref b ∧ H6 b = some (.tup (k.map kV)) ∧ H6 D = some (.dT kvs) ∧ kvs.length < sizeLine ∧ Nx1 (upd H6 D (.dT (putK kvs k z)))) := by
  refine ⟨fun i m H => m = n - i ∧ i ≤ n ∧ Pv i H, ⟨n, by simp, Nat.zero_le _, h0⟩, ?_⟩
  rintro i m H ⟨rfl, hi, p⟩
  rcases Nat.lt_or_eq_of_le hi with lt | rfl
  · exact .inr ⟨w.goes i H lt (hG i H hi p), Pv (i + 1), fun H' p' => ⟨n - (i + 1), by omega, rfl, lt, p'⟩, fun x H' y => hs i x H H' lt p (w.yields i H x H' lt (hG i H hi p) y)⟩
  · exact .inl ⟨w.stops H (hG i H hi p), hd H p⟩
end
/-! ### tables of levels -/
section
variable {κ : Type} {ks : List κ} {key : κ → List Key} {f : κ → Int}
theorem val_tab (inj : ∀ p q, key p = key q → p = q) : ∀ {ks : List κ} {p : κ}, p ∈ ks → valV (tabI ks key f) (key p) = some (.int (f p))
  | q :: r, p, h => by
    by_cases e : q = p
    · subst e
      exact valV_pos (p := (key q, V.int (f q))) rfl
    · show valV ((key q, V.int (f q)) :: tabI r key f) (key p) = _
      rw [valV_neg (fun z => e (inj _ _ z))]
      exact val_tab inj ((List.mem_cons.mp h).resolve_left fun z => e z.symm)
theorem val_none (inj : ∀ p q, key p = key q → p = q) : ∀ {ks : List κ} {p : κ}, p ∉ ks → valV (tabI ks key f) (key p) = none
  | [], _, _ => rfl
  | q :: r, p, h => by
    show valV ((key q, V.int (f q)) :: tabI r key f) (key p) = _
    rw [valV_neg (fun z => h (List.mem_cons.mpr (.inl (inj _ _ z).symm)))]
    exact val_none inj fun z => h (List.mem_cons_of_mem _ z)
theorem put_new (inj : ∀ p q, key p = key q → p = q) {p : κ} (h : p ∉ ks) : putK (tabI ks key f) (key p) (.int (f p)) = tabI (ks ++ [p]) key f := by
  rw [putK_new _ (val_none inj h)]
  unfold tabI
  rw [List.map_append]
  rfl
theorem put_old [DecidableEq κ] (inj : ∀ p q, key p = key q → p = q) {p : κ} {n : Int} (h : p ∈ ks) : putK (tabI ks key f) (key p) (.int n) = tabI ks key (fun q => if q = p then n else f q) := by
  unfold putK
  rw [valV_any, val_tab inj h, if_pos (show (some (V.int (f p))).isSome = true from rfl)]
  unfold tabI
  rw [List.map_map]
  refine List.map_congr_left fun q _ => ?_
  show (if key q = key p then (key q, V.int n) else (key q, V.int (f q))) = _
  by_cases e : q = p
  · subst e; rw [if_pos rfl]; simp
  · rw [if_neg (fun z => e (inj _ _ z))]; simp [e]
end
def prs (N : List Str) : List (Str × Str) := N.flatMap fun a => N.map fun b => (a, b)
def kP (p : Str × Str) : List Key := [.inr p.1, .inr p.2]
theorem kP_inj (p q : Str × Str) (h : kP p = kP q) : p = q := by
  unfold kP at h
  injection h with h1 h2
  injection h2 with h2 _
  injection h1 with h1
  injection h2 with h2
  exact Prod.ext h1 h2
def encL (N : List Str) (g : Str → Str → Int) : List (List Key × V) := tabI (prs N) kP (fun p => g p.1 p.2)
theorem mem_prs {N : List Str} {a b : Str} : (a, b) ∈ prs N ↔ a ∈ N ∧ b ∈ N := by
  unfold prs
  rw [List.mem_flatMap]
  constructor
  · rintro ⟨x, hx, hb⟩
    obtain ⟨y, hy, e⟩ := List.mem_map.mp hb
    injection e with e1 e2
    subst e1 e2
    exact ⟨hx, hy⟩
  · rintro ⟨ha, hb⟩
    exact ⟨a, ha, List.mem_map.mpr ⟨b, hb, rfl⟩⟩
theorem encL_val {N : List Str} {g : Str → Str → Int} {a b : Str} (ha : a ∈ N) (hb : b ∈ N) : valV (encL N g) [.inr a, .inr b] = some (.int (g a b)) :=
  val_tab (p := (a, b)) kP_inj (mem_prs.mpr ⟨ha, hb⟩)
theorem encL_put {N : List Str} {g : Str → Str → Int} {a b : Str} {n : Int} (ha : a ∈ N) (hb : b ∈ N) : putK (encL N g) [.inr a, .inr b] (.int n) = encL N (K2.upd2 g a b n) := by
  have z := put_old (n := n) (f := fun p : Str × Str => g p.1 p.2) kP_inj (mem_prs.mpr ⟨ha, hb⟩)
  refine Eq.trans (b := _) z ?_
  unfold encL
  congr 1
  funext ⟨x, y⟩
  unfold K2.upd2
  by_cases e : x = a ∧ y = b
  · obtain ⟨rfl, rfl⟩ := e
    simp
  · rw [if_neg e, if_neg (fun z => e (by injection z with z1 z2; exact ⟨z1, z2⟩))]
theorem prs_len (N : List Str) : (prs N).length = N.length * N.length := by
  have key : ∀ L : List Str, (L.flatMap fun a => N.map fun b => (a, b)).length = L.length * N.length := by
    intro L
    induction L with
    | nil => simp
    | cons a r ih => rw [List.flatMap_cons, List.length_append, ih, List.length_map, List.length_cons, Nat.succ_mul, Nat.add_comm]
  exact key N
theorem encL_len {N : List Str} (g : Str → Str → Int) (h : N.length ≤ 7) : (encL N g).length < sizeLine := by
  unfold encL tabI
  rw [List.length_map, prs_len]
  have : N.length * N.length ≤ 7 * 7 := Nat.mul_le_mul h h
  show N.length * N.length < sizeLine
  rw [PySem.sizeLine_eq]
  omega
/-! the pairs of some names with all, and of one with some -/
def pre (N M : List Str) (a : Str) (L : List Str) : List (Str × Str) := (M.flatMap fun a => N.map fun b => (a, b)) ++ L.map fun b => (a, b)
theorem pre_out {N M : List Str} {a b : Str} {L : List Str} (ha : a ∉ M) (hb : b ∉ L) : (a, b) ∉ pre N M a L := by
  unfold pre
  intro h
  rcases List.mem_append.mp h with h | h
  · obtain ⟨x, hx, h⟩ := List.mem_flatMap.mp h
    obtain ⟨y, _, e⟩ := List.mem_map.mp h
    injection e with e1 _
    exact ha (e1 ▸ hx)
  · obtain ⟨y, hy, e⟩ := List.mem_map.mp h
    injection e with _ e2
    exact hb (e2 ▸ hy)
theorem pre_more (N M : List Str) (a b : Str) (L : List Str) : pre N M a L ++ [(a, b)] = pre N M a (L ++ [b]) := by
  unfold pre
  rw [List.map_append, List.append_assoc]
  rfl
theorem pre_full (N M : List Str) (a : Str) : pre N M a N = (M ++ [a]).flatMap fun a => N.map fun b => (a, b) := by
  unfold pre
  rw [List.flatMap_append]
  simp
theorem take_more {N : List Str} {i : Nat} {a : Str} (h : N[i]? = some a) : N.take (i + 1) = N.take i ++ [a] := by
  rw [List.take_add_one, h]
  rfl
theorem not_take : ∀ {N : List Str}, N.Nodup → ∀ {i : Nat} {a : Str}, N[i]? = some a → a ∉ N.take i
  | [], _, _, _, h => by simp at h
  | x :: r, nd, 0, a, h => by simp
  | x :: r, nd, i + 1, a, h => by
    rw [List.nodup_cons] at nd
    have h' : r[i]? = some a := by simpa using h
    rw [List.take_succ_cons, List.mem_cons]
    rintro (z | z)
    · exact nd.1 (z ▸ List.mem_of_getElem? h')
    · exact not_take nd.2 h' z
/-! ### LEVELS.index(word) -/
section
variable {X : Cx}
theorem mt_level : MtR X "tuple.index" (fun x xs H Q => ∃ p b, x = .ref p ∧ xs = [.str (wd b)] ∧ SqT X.K H p [.non, .str "upto", .str "ahead"] ∧ Q (.int (K2.lv b)) H) := by
  rintro pins s σ H x xs v us Q I rx rs ⟨p, b, rfl, rfl, hq, q⟩
  cases rx
  obtain ⟨u, rfl, t, rfl⟩ := vals1 rs
  obtain ⟨its, r, ⟨⟨cls, dd, dt, sl⟩, ho, hc, n, hd⟩, hz⟩ := I.tuple hq
  simp only at hc hd
  subst hc hd
  cases r with
  | @cons _ u1 _ _ r1 r =>
  cases r with
  | @cons _ u2 _ _ r2 r =>
  cases r with
  | @cons _ u3 _ _ r3 r =>
  cases r
  cases (show u1 = .none from r1)
  obtain ⟨t2, rfl⟩ := (show ∃ t, u2 = Value.str "upto" t from r2)
  obtain ⟨t3, rfl⟩ := (show ∃ t, u3 = Value.str "ahead" t from r3)
  cases b with
  | false =>
    refine call_meets PySem.F.slot_tuple_index ⟨_, ho, rfl⟩ PySem.F.entry_tuple_index (PySem.F.args_tuple_index_2 _ _) (TI.tuple_indexAt p #[.none, .str "upto" t2, .str "ahead" t3] n dd sl (.str "upto" t) (eqU (.str "upto")) 1 (show 1 < 3 by decide) ?_ ?_)
      ⟨ho, fun w hw => mem_eqAt (x := .str "upto") (xs := [.non, .str "upto", .str "ahead"]) ⟨t, rfl⟩ rfl (.cons r1 (.cons r2 (.cons r3 .nil))) (by decide +kernel) w (by simpa using hw), ⟨.int 1, H, I.tok _, ⟨_, rfl⟩, q⟩⟩
    · exact beq_self_eq_true (("upto" : Str))
    · intro m hm lt
      have : m = 0 := by omega
      subst this
      rfl
  | true =>
    refine call_meets PySem.F.slot_tuple_index ⟨_, ho, rfl⟩ PySem.F.entry_tuple_index (PySem.F.args_tuple_index_2 _ _) (TI.tuple_indexAt p #[.none, .str "upto" t2, .str "ahead" t3] n dd sl (.str "ahead" t) (eqU (.str "ahead")) 2 (show 2 < 3 by decide) ?_ ?_)
      ⟨ho, fun w hw => mem_eqAt (x := .str "ahead") (xs := [.non, .str "upto", .str "ahead"]) ⟨t, rfl⟩ rfl (.cons r1 (.cons r2 (.cons r3 .nil))) (by decide +kernel) w (by simpa using hw), ⟨.int 2, H, I.tok _, ⟨_, rfl⟩, q⟩⟩
    · exact beq_self_eq_true (("ahead" : Str))
    · intro m hm lt
      rcases (show m = 0 ∨ m = 1 by omega) with rfl | rfl
      · rfl
      · show ((("upto" : Str)) == (("ahead" : Str))) = false
        decide +kernel
end
end NC

set_option Elab.async false
set_option linter.all false
set_option maxRecDepth 100000
set_option maxHeartbeats 4000000
namespace NC
open PySem L2
/-! ### levels_of -/
abbrev sLevels : Stmt := top 19
theorem scLevels : FnScope ["frame", "names", "facts", "one", "other", "found", "word", "middle", "level"] ["frame"] (defScope sLevels) := ⟨rfl, rfl, rfl, by decide +kernel, rfl, by decide +kernel, by decide +kernel⟩
section
variable {P : Program} {w : World} {K : PySem.W.Frag} {mg : Str → Option Value} {base : Heap}
def spLevels (K : PySem.W.Frag) : Sp := fun vs H Q _ => ∃ (p : Addr) (N : List Str) (F : List Fc), vs = [.ref p] ∧ FrAt K H p N F ∧ N.Nodup ∧ N.length ≤ 7 ∧ K2.On N F ∧
  ∀ H' D, Same H H' → H D = none → H' D = some (.dT (encL N (K2.lev N F))) → Q (.ref D) H'
theorem sameD {H H1 : Hp} {D : Addr} {o : HO} (s : Same H H1) (n : H D = none) : Same H (upd H1 D o) := fun b u e => by
  rw [upd_ne (ne_of_none e n)]; exact s b u e
theorem foldl_take {α β : Type} (f : β → α → β) (b : β) {l : List α} {i : Nat} {a : α} (h : l[i]? = some a) : (l.take (i + 1)).foldl f b = f ((l.take i).foldl f b) a := by
  rw [List.take_add_one, h, List.foldl_append]
  rfl
theorem foldl_all {α β : Type} (f : β → α → β) (b : β) (l : List α) : (l.take l.length).foldl f b = l.foldl f b := by rw [List.take_length]
theorem strs_at {N : List Str} {i : Nat} {x : V} (h : (N.map V.str)[i]? = some x) : ∃ a, x = .str a ∧ N[i]? = some a := by
  rw [List.getElem?_map] at h
  cases e : N[i]? with
  | none => rw [e] at h; cases h
  | some a => rw [e] at h; exact ⟨a, (Option.some.inj h).symm, rfl⟩
abbrev idx (a b : Str) : List V := [.str a, .str b]
theorem key_idx {H : Hp} {p : Addr} {a b : Str} (h : H p = some (.tup (idx a b))) : H p = some (.tup ((kP (a, b)).map kV)) := h
theorem get_lev {H : Hp} {D p : Addr} {N : List Str} {g : Str → Str → Int} {a b : Str} (hD : H D = some (.dT (encL N g))) (hp : H p = some (.tup (idx a b))) (ha : a ∈ N) (hb : b ∈ N) : DGet H D (.ref p) (some (.int (g a b))) := by
  have z := DGet.t hD (key_idx hp)
  rwa [show valV (encL N g) (kP (a, b)) = some (.int (g a b)) from encL_val ha hb] at z
theorem put_lev {H : Hp} {D p : Addr} {N : List Str} {g : Str → Str → Int} {a b : Str} {n : Int} (hD : H D = some (.dT (encL N g))) (hp : H p = some (.tup (idx a b))) (ha : a ∈ N) (hb : b ∈ N) (h7 : N.length ≤ 7) :
    DPut H D (.ref p) (.int n) (upd H D (.dT (encL N (K2.upd2 g a b n)))) := by
  have z := DPut.t (v := .int n) hD (key_idx hp) (encL_len g h7)
  rwa [show putK (encL N g) (kP (a, b)) (.int n) = encL N (K2.upd2 g a b n) from encL_put ha hb] at z
theorem pre_small {N : List Str} (nd : N.Nodup) (h7 : N.length ≤ 7) {i j : Nat} {a b : Str} (ha : N[i]? = some a) (hb : N[j]? = some b) {f : Str × Str → Int} : (tabI (pre N (N.take i) a (N.take j)) kP f).length < sizeLine := by
  have hi := (List.getElem?_eq_some_iff.mp ha).1
  have hj := (List.getElem?_eq_some_iff.mp hb).1
  have key : ∀ L : List Str, (L.flatMap fun a => N.map fun b => (a, b)).length = L.length * N.length := by
    intro L
    induction L with
    | nil => simp
    | cons a r ih => rw [List.flatMap_cons, List.length_append, ih, List.length_map, List.length_cons, Nat.succ_mul, Nat.add_comm]
  unfold tabI pre
  rw [List.length_map, List.length_append, key, List.length_map, List.length_take, List.length_take]
  have : min i N.length * N.length ≤ 7 * 7 := Nat.mul_le_mul (by omega) h7
  rw [PySem.sizeLine_eq]
  omega
theorem df_levels (T : Txt K mg) (S : Std K mg "levels_of" sLevels) : Df P w K mg base CX0 "levels_of" ["frame"] 1 (spLevels K) := by
  refine S.df (fun _ _ _ _ _ _ us hl => match us, hl with | [_], _ => rfl) fun f fd F => F.ok scLevels (fun vs H Q E h => ?_) (fun cdv A outer s H vs Q E hr h => ?_)
  · obtain ⟨p, N, F, rfl, _⟩ := h
    rfl
  · obtain ⟨p, N, F, rfl, hF, nd', h7, hO, k⟩ := h
    have nd := scLevels.nd
    have hu := rm1 hr
    obtain ⟨tL, cL, hL, oL, oL1, oL2, oL3⟩ := T.cLEV
    refine ⟨_, pss_cons (ps_asg (pv 0) (pg_tup rfl (pgs_cons (pg_name (i := 1) nd rfl (.inr rfl)) (pgs_cons (pg_name (i := 2) nd rfl (.inl rfl)) pgs_nil))))
      (pss_cons (ps_setDc2 (i := 5) (own := [("one", 3), ("other", 4)]) (vs1 := [4]) ⟨rfl, nd, rm0 hr, pi_tup (pv 1), blkOk_by (N := ["frame", "names", "facts", "one", "other", "found", "word", "middle", "level"]) (sc := defScope sLevels) (by decide +kernel), by decide,
          fun _ _ _ _ _ => pg_name (i := 3) nd rfl (.inl rfl), fun _ _ _ _ _ => (show PI _ _ _ (iTup K _) from pi_tup (pv 1)), fun _ _ _ _ _ => pg_name (i := 4) nd rfl (.inl rfl),
          fun _ _ _ _ _ => pe_tup (pa_cons (pv 3) (pa_cons (pv 4) pa_nil)),
          fun _ _ _ _ _ => pe_callTy call_int1 rfl T.nInt (by decide +kernel) (pa_cons (pe_cmpR op_eq (pv 3) (pv 4) (nomark _)) pa_nil),
          fun _ => rfl, fun _ _ => rfl⟩ rfl rfl (sw_dict rfl rfl rfl (by decide +kernel)))
      (pss_cons (ps_for PassesOwn.never rfl (pi_tup (pv 2)) (pg_tup rfl (pgs_cons (pg_name (i := 3) nd rfl (.inl rfl)) (pgs_cons (pg_name (i := 6) nd rfl (.inl rfl)) (pgs_cons (pg_name (i := 4) nd rfl (.inl rfl)) pgs_nil))))
        (pss_one (ps_dput hu (pv 5) (pe_tup (pa_cons (pv 3) (pa_cons (pv 4) pa_nil))) (pe_callB (call_max2 rfl) rfl T.nMax (by decide +kernel) (pa_cons (pe_dget hu (pv 5) (pe_tup (pa_cons (pv 3) (pa_cons (pv 4) pa_nil))) (fun _ _ => rfl))
          (pa_cons (pe_bm PySem.F.plainAttrs_tuple PySem.F.slot_tuple_index PySem.F.type_tuple_index mt_level (pe_glob (v := .ref tL) rfl cL rfl) (pa_cons (pv 6) pa_nil)) pa_nil))) rfl)))
      (pss_cons (ps_for PassesOwn.never rfl (pi_tup (pv 1)) (pg_name (i := 7) nd rfl (.inl rfl))
        (pss_one (ps_for PassesOwn.never rfl (pi_tup (pv 1)) (pg_name (i := 3) nd rfl (.inl rfl))
          (pss_one (ps_for PassesOwn.never rfl (pi_tup (pv 1)) (pg_name (i := 4) nd rfl (.inl rfl))
            (pss_one (ps_if (PW.pt (pw_and (pt_cmpR op_gt (pe_dget hu (pv 5) (pe_tup (pa_cons (pv 3) (pa_cons (pv 7) pa_nil))) (fun _ _ => rfl)) pe_int (nomark _))
                (pw_and1 (pt_cmpR op_gt (pe_dget hu (pv 5) (pe_tup (pa_cons (pv 7) (pa_cons (pv 4) pa_nil))) (fun _ _ => rfl)) pe_int (nomark _)))))
              (pss_cons (ps_set (i := 8) nd rfl (.inl rfl) (pe_callB (call_max2 rfl) rfl T.nMax (by decide +kernel) (pa_cons (pe_dget hu (pv 5) (pe_tup (pa_cons (pv 3) (pa_cons (pv 7) pa_nil))) (fun _ _ => rfl)) (pa_cons (pe_dget hu (pv 5) (pe_tup (pa_cons (pv 7) (pa_cons (pv 4) pa_nil))) (fun _ _ => rfl)) pa_nil))))
              (pss_one (ps_dput hu (pv 5) (pe_tup (pa_cons (pv 3) (pa_cons (pv 4) pa_nil))) (pe_callB (call_max2 rfl) rfl T.nMax (by decide +kernel) (pa_cons (pe_dget hu (pv 5) (pe_tup (pa_cons (pv 3) (pa_cons (pv 4) pa_nil))) (fun _ _ => rfl)) (pa_cons (pv 8) pa_nil))) rfl))) pss_nil)))))))
      (pss_one (ps_ret (pv 5)))))), ?_⟩
    obtain ⟨pn, pf, fs, h1, h2, h3⟩ := hF.ex
    refine ⟨_, rfl, p, _, rfl, h1, rfl, _, _, rfl, _, _, rfl, rfl, ?_⟩
    refine ⟨_, rfl, pn, rfl, ⟨_, h2⟩, fun D nD => dc_out walk_tup (fun i H' => Same H H' ∧ H' D = some (.dT (tabI ((N.take i).flatMap fun a => N.map fun b => (a, b)) kP (fun p => K2.g0 p.1 p.2)))) ⟨sameN nD, upd_same⟩ (fun i H' _ q => sameT q.1 h2) ?_ ?_⟩
    · rintro i x H1 H2 hi ⟨s1, d1⟩ ⟨rfl, hx⟩
      obtain ⟨a, rfl, ha⟩ := strs_at hx
      refine ⟨rfl, ?_⟩
      refine ⟨_, rfl, pn, rfl, ⟨_, sameT s1 h2⟩, dc_in walk_tup (fun j H' => Same H H' ∧ H' D = some (.dT (tabI (pre N (N.take i) a (N.take j)) kP (fun p => K2.g0 p.1 p.2)))) ⟨s1, by rw [d1]; unfold pre; simp⟩ (fun j H' _ q => sameT q.1 h2) ?_ ?_⟩
      · rintro j y H3 H4 hj ⟨s3, d3⟩ ⟨rfl, hy⟩
        obtain ⟨b, rfl, hb⟩ := strs_at hy
        refine ⟨rfl, ?_⟩
        refine ⟨_, rfl, _, rfl, (by show 2 ≤ sizeLine; decide), fun q nq => ?_⟩
        refine ⟨_, rfl, _, rfl, rfl, .inr ⟨_, rfl, q, _, kP (a, b), rfl, upd_same, by rw [upd_ne (ne_of_none d3 nq)]; exact d3, ?_, sameD (sameU s3 nq) nD, ?_⟩⟩
        · exact pre_small nd' h7 ha hb
        · rw [upd_same]
          have e0 : (if decide (V.str a = V.str b) = true then (1 : Int) else 0) = (fun p : Str × Str => K2.g0 p.1 p.2) (a, b) := by
            show _ = K2.g0 a b
            unfold K2.g0
            by_cases e : a = b
            · rw [if_pos e, if_pos (decide_eq_true (by rw [e]))]
            · rw [if_neg e, if_neg (by rw [decide_eq_false fun z => e (by injection z)]; decide)]
          rw [e0, put_new kP_inj (pre_out (not_take nd' ha) (not_take nd' hb)), pre_more, ← take_more hb]
      · rintro H3 ⟨s3, d3⟩
        refine ⟨s3, ?_⟩
        rw [List.length_map, List.take_length, pre_full, ← take_more ha] at d3
        exact d3
    · rintro H1 ⟨s1, d1⟩
      rw [List.length_map, List.take_length] at d1
      refine ⟨_, rfl, pf, rfl, ⟨_, sameT s1 h3.tup⟩, for_it walk_tup (fun i σ H' => ∃ a b c, σ = [some (.ref p), some (.ref pn), some (.ref pf), a, b, some (.ref D), c, none, none] ∧ Same H H' ∧ H' D = some (.dT (encL N ((F.take i).foldl K2.stepF K2.g0))))
        ⟨none, none, none, rfl, s1, d1⟩ (fun i σ H' _ ⟨_, _, _, _, q, _⟩ => sameT q h3.tup) ?_ ?_⟩
      · rintro i x σ H2 H3 hi ⟨a, b, c, rfl, s2, d2⟩ ⟨rfl, hx⟩
        rw [List.getElem?_map] at hx
        obtain ⟨q, hq, rfl⟩ := Option.map_eq_some_iff.mp hx
        obtain ⟨fc, hf, ht⟩ := NC.Paired.at h3.each hq
        obtain ⟨on1, on2⟩ := hO fc (List.mem_of_getElem? hf)
        refine ⟨q, _, rfl, sameT s2 ht, rfl, _, _, rfl, _, _, rfl, _, _, rfl, rfl, ?_⟩
        refine ⟨_, rfl, _, rfl, _, rfl, (by show 2 ≤ sizeLine; decide), fun k1 n1 => ⟨D, _, rfl, get_lev (by rw [upd_ne (ne_of_none d2 n1)]; exact d2) upd_same on1 on2, ?_⟩⟩
        refine ⟨.inr (.inl ⟨rfl, oL, oL1, oL2, oL3⟩), _, rfl, _, fc.2.1, rfl, rfl, hL _, _, _, rfl, ?_⟩
        refine ⟨_, rfl, _, rfl, _, rfl, (by show 2 ≤ sizeLine; decide), fun k2 n2 => ⟨D, _, rfl, put_lev (g := (F.take i).foldl K2.stepF K2.g0) (by rw [upd_ne (ne_of_none (H := upd _ k1 _) (by rw [upd_ne (ne_of_none d2 n1)]; exact d2) n2), upd_ne (ne_of_none d2 n1)]; exact d2) upd_same on1 on2 h7, ?_⟩⟩
        refine ⟨_, _, _, rfl, sameD (sameU (sameU s2 n1) n2) nD, ?_⟩
        rw [upd_same, foldl_take _ _ hf]
        rfl
      · rintro σ H2 ⟨a, b, c, rfl, s2, d2⟩
        have e : (F.take (fs.map V.ref).length).foldl K2.stepF K2.g0 = K2.gFacts F := by
          rw [List.length_map, NC.Paired.len h3.each, List.take_length]
          rfl
        rw [e] at d2
        refine ⟨_, rfl, pn, rfl, ⟨_, sameT s2 h2⟩, for_it walk_tup (fun i σ H' => ∃ a b c m l, σ = [some (.ref p), some (.ref pn), some (.ref pf), a, b, some (.ref D), c, m, l] ∧ Same H H' ∧ H' D = some (.dT (encL N ((N.take i).foldl (K2.step1 N) (K2.gFacts F)))))
          ⟨a, b, c, none, none, rfl, s2, d2⟩ (fun i σ H' _ ⟨_, _, _, _, _, _, q, _⟩ => sameT q h2) ?_ ?_⟩
        · clear d2 s2 e
          rintro i x σ H2 H3 hi ⟨a, b, c, m, l, rfl, s2, d2⟩ ⟨rfl, hx⟩
          obtain ⟨m, rfl, hm⟩ := strs_at hx
          have mN := List.mem_of_getElem? hm
          refine ⟨_, rfl, pn, rfl, ⟨_, sameT s2 h2⟩, for_it walk_tup (fun j σ H' => ∃ a b c l, σ = [some (.ref p), some (.ref pn), some (.ref pf), a, b, some (.ref D), c, some (.str m), l] ∧ Same H H' ∧ H' D = some (.dT (encL N ((N.take j).foldl (K2.step2 N m) ((N.take i).foldl (K2.step1 N) (K2.gFacts F))))))
            ⟨a, b, c, l, rfl, s2, d2⟩ (fun j σ H' _ ⟨_, _, _, _, _, q, _⟩ => sameT q h2) ?_ ?_⟩
          · generalize (N.take i).foldl (K2.step1 N) (K2.gFacts F) = g1
            clear d2 s2
            rintro j x σ H2 H3 hj ⟨a, b, c, l, rfl, s2, d2⟩ ⟨rfl, hx⟩
            obtain ⟨one, rfl, h1'⟩ := strs_at hx
            have oN := List.mem_of_getElem? h1'
            refine ⟨_, rfl, pn, rfl, ⟨_, sameT s2 h2⟩, for_it walk_tup (fun k σ H' => ∃ b c l, σ = [some (.ref p), some (.ref pn), some (.ref pf), some (.str one), b, some (.ref D), c, some (.str m), l] ∧ Same H H' ∧ H' D = some (.dT (encL N ((N.take k).foldl (K2.step3 m one) ((N.take j).foldl (K2.step2 N m) g1)))))
              ⟨b, c, l, rfl, s2, d2⟩ (fun j σ H' _ ⟨_, _, _, _, q, _⟩ => sameT q h2) ?_ ?_⟩
            · generalize (N.take j).foldl (K2.step2 N m) g1 = g2
              clear d2 s2
              rintro k x σ H2 H3 hk ⟨b, c, l, rfl, s2, d2⟩ ⟨rfl, hx⟩
              obtain ⟨other, rfl, h2'⟩ := strs_at hx
              have pN := List.mem_of_getElem? h2'
              rw [foldl_take _ _ h2']
              generalize (N.take k).foldl (K2.step3 m one) g2 = g3 at d2 ⊢
              refine ⟨_, rfl, _, rfl, _, rfl, (by show 2 ≤ sizeLine; decide), fun k1 n1 => ?_⟩
              have d3 : upd H3 k1 (.tup (idx one m)) D = some (.dT (encL N g3)) := by rw [upd_ne (ne_of_none d2 n1)]; exact d2
              have s3 := sameU (o := .tup (idx one m)) s2 n1
              refine ⟨D, _, rfl, get_lev d3 upd_same oN mN, _, _, rfl, rfl, _, rfl, ?_⟩
              refine ite2 (fun c1 => ?_) (fun c1 => ?_)
              · refine ⟨_, rfl, _, rfl, _, rfl, (by show 2 ≤ sizeLine; decide), fun k2 n2 => ?_⟩
                have d4 : upd (upd H3 k1 (.tup (idx one m))) k2 (.tup (idx m other)) D = some (.dT (encL N g3)) := by rw [upd_ne (ne_of_none d3 n2)]; exact d3
                have s4 := sameU (o := .tup (idx m other)) s3 n2
                refine ⟨D, _, rfl, get_lev d4 upd_same mN pN, _, _, rfl, rfl, _, rfl, ?_⟩
                refine ite2 (fun c2 => ?_) (fun c2 => ?_)
                · have e : K2.step3 m one g3 other = K2.upd2 g3 one other (K2.mx (g3 one other) (K2.mx (g3 one m) (g3 m other))) := if_pos ⟨of_decide_eq_true c1, of_decide_eq_true c2⟩
                  rw [e]
                  generalize upd (upd H3 k1 (.tup (idx one m))) k2 (.tup (idx m other)) = H4 at d4 s4
                  refine ⟨_, rfl, _, rfl, _, rfl, (by show 2 ≤ sizeLine; decide), fun k3 n3 => ?_⟩
                  have d5 : upd H4 k3 (.tup (idx one m)) D = some (.dT (encL N g3)) := by rw [upd_ne (ne_of_none d4 n3)]; exact d4
                  have s5 := sameU (o := .tup (idx one m)) s4 n3
                  refine ⟨D, _, rfl, get_lev d5 upd_same oN mN, _, rfl, _, rfl, _, rfl, (by show 2 ≤ sizeLine; decide), fun k4 n4 => ?_⟩
                  have d6 : upd (upd H4 k3 (.tup (idx one m))) k4 (.tup (idx m other)) D = some (.dT (encL N g3)) := by rw [upd_ne (ne_of_none d5 n4)]; exact d5
                  have s6 := sameU (o := .tup (idx m other)) s5 n4
                  refine ⟨D, _, rfl, get_lev d6 upd_same mN pN, _, _, rfl, ?_⟩
                  generalize upd (upd H4 k3 (.tup (idx one m))) k4 (.tup (idx m other)) = H5 at d6 s6
                  refine ⟨_, rfl, _, rfl, _, rfl, (by show 2 ≤ sizeLine; decide), fun k5 n5 => ?_⟩
                  have d7 : upd H5 k5 (.tup (idx one other)) D = some (.dT (encL N g3)) := by rw [upd_ne (ne_of_none d6 n5)]; exact d6
                  have s7 := sameU (o := .tup (idx one other)) s6 n5
                  refine ⟨D, _, rfl, get_lev d7 upd_same oN pN, _, rfl, _, _, rfl, ?_⟩
                  refine ⟨_, rfl, _, rfl, _, rfl, (by show 2 ≤ sizeLine; decide), fun k6 n6 => ?_⟩
                  have d8 : upd (upd H5 k5 (.tup (idx one other))) k6 (.tup (idx one other)) D = some (.dT (encL N g3)) := by rw [upd_ne (ne_of_none d7 n6)]; exact d7
                  have s8 := sameU (o := .tup (idx one other)) s7 n6
                  exact ⟨D, _, rfl, put_lev d8 upd_same oN pN h7, _, _, _, rfl, sameD s8 nD, upd_same⟩
                · have e : K2.step3 m one g3 other = g3 := if_neg fun z => c2 (decide_eq_true z.2)
                  rw [e]
                  exact ⟨_, _, _, rfl, s4, d4⟩
              · have e : K2.step3 m one g3 other = g3 := if_neg fun z => c1 (decide_eq_true z.1)
                rw [e]
                exact iteF ⟨_, _, _, rfl, s3, d3⟩
            · rintro σ H2 ⟨b, c, l, rfl, s2, d2⟩
              rw [List.length_map, List.take_length] at d2
              refine ⟨_, _, _, _, rfl, s2, ?_⟩
              rw [foldl_take _ _ h1']
              exact d2
          · rintro σ H2 ⟨a, b, c, l, rfl, s2, d2⟩
            rw [List.length_map, List.take_length] at d2
            refine ⟨_, _, _, _, _, rfl, s2, ?_⟩
            rw [foldl_take _ _ hm]
            exact d2
        · rintro σ H2 ⟨a, b, c, m, l, rfl, s2, d2⟩
          rw [List.length_map, List.take_length] at d2
          exact ⟨_, rfl, k _ D s2 nD d2⟩
end
end NC

set_option Elab.async false
set_option linter.all false
set_option maxRecDepth 100000
set_option maxHeartbeats 4000000
/-! rules that the layer lacks: a caught exception that is kept behind its suite -/
namespace NC
open PySem L2 PySem.Spec PyProof.Rows
/-- at a: an exception of the class cls with the dict d, caught and kept -/
def exv (a : Addr) (cls : Value) (d : Option Addr) : HO := .ext fun h => ∃ oe, h.get? a = some oe ∧ Zc cls d oe ∧ ∃ vs, oe.data = .fields vs
theorem exv_ok {P : Program} {w : World} {H : Hp} {h : Heap} {a : Addr} {cls : Value} {d : Option Addr} {oe : Obj} {vs : Array Value} (e : h.get? a = some oe) (z : Zc cls d oe) (f : oe.data = .fields vs) : ObjOk P w H h a (exv a cls d) :=
  ⟨⟨oe, e, z, vs, f⟩, ⟨oe, e⟩, fun _ _ ⟨o, q, r⟩ k => ⟨o, k o q, r⟩⟩
section
variable {X : Cx} {pins : List (Addr × Obj)} {σ : L2.St} {H : Hp} {s : Shared} {a : Addr}
/-- a pinned object that the entry did not know may be tracked from here on -/
theorem hold_pin {oe : Obj} {u : HO} (I : Inv X ((a, oe) :: pins) σ H s) (nw : X.s_0.heap.get? a = none) (np : ∀ p ∈ X.pn ++ pins, p.1 ≠ a) (ok : ObjOk X.prog X.w (upd H a u) s.heap a u) : Inv X pins σ (upd H a u) s := by
  obtain ⟨ea, na, nL, nF, nC⟩ := I.pin (a, oe) (List.mem_append_right _ List.mem_cons_self)
  have apart : ∀ {b : Addr} {v : HO}, H b = some v → b ≠ a := fun {b v} e z => by rw [z, na] at e; cases e
  have cell : ∀ x c, X.env.cells.lookup x = some c → c ≠ a := fun x c e z => by
    obtain ⟨v, o, ho, hd⟩ := I.cell x c e
    rw [z, ea] at ho
    cases ho
    exact nC v hd
  refine ⟨I.ok, I.os, I.bare, ⟨fun b o e n h1 h2 => I.base.keep b o e n h1 h2, fun b o e n h1 h2 => I.base.slot b o e n h1 h2, fun b o e n h1 => ?_, fun b o e h1 => I.base.there b o e h1, fun b xs e => ?_, fun b o v e => ?_, fun b ps e => ?_⟩, I.loc, I.cell, ?_, fun x c e => ?_, fun p hp => ?_, fun b v e => ?_, I.len⟩
  · have : b ≠ a := fun z => by rw [z, nw] at e; cases e
    rw [upd_ne this]
    exact I.base.free b o e n h1
  · have z := I.base.tups b xs e
    rw [upd_ne (apart z)]
    exact z
  · have z := I.base.frzs b o v e
    rw [upd_ne (apart z)]
    exact z
  · obtain ⟨m, z⟩ := I.base.tbls b ps e
    exact ⟨m, by rw [upd_ne (apart z)]; exact z⟩
  · rw [upd_ne (Ne.symm nL)]
    exact I.free
  · rw [upd_ne (cell x c e)]
    exact I.freeC x c e
  · obtain ⟨e, n, r⟩ := I.pin p ((List.mem_append.mp hp).elim (List.mem_append_left _) fun z => List.mem_append_right _ (List.mem_cons_of_mem _ z))
    exact ⟨e, by rw [upd_ne (np p hp)]; exact n, r⟩
  · by_cases hb : b = a
    · subst hb
      rw [upd_same] at e
      cases e
      exact ok
    · rw [upd_ne hb] at e
      exact (I.hok b v e).stay (fun c v' _ z => z) (fun c z => by rw [upd_ne (apart z)]; exact z) fun c xs z => by rw [upd_ne (apart z)]; exact z
end
/-- what 'except x as n: suite' wishes, where the exception is kept behind the suite: slot i is n's -/
def wKeep (K : PySem.W.Frag) (c : Value) (i : Nat) (ts : Addr → Value → Option Addr → TS) (Wout : WX) (D : Ends) : WX := fun cls d σ H =>
  ∃ b, PySem.W.exmOne K cls c = some b ∧ (b = true → ∀ a, H a = none → ts a cls d { nx := fun σ' H' => H' a = none ∧ D.nx (σ'.set i none) (upd H' a (exv a cls d)), rt := fun _ _ => False, bk := fun _ _ => False, ct := fun _ _ => False } (σ.set i (some (.ref a))) H) ∧
    (b = false → Wout cls d σ H)
section
variable {X : Cx} {x n : Str} {c : Value} {i : Nat} {body suite : List Stmt} {b₀ : Stmt} {np pos pos' : Pos} {tb : WX → TS} {ts : Addr → Value → Option Addr → TS} {Wout : WX}
theorem ps_try_keep (hs : X.stack = X.env :: X.outer) (hf : X.env.frame = some X.env.locals) (hex : X.ex = []) (hN : X.N.Nodup) (hi : X.N[i]? = some n) (hln : X.env.kindOf n = some .local) (hc : Names X x c) (tk : Takes X Wout)
    (hb : ∀ (W : WX) (pn : List (Addr × Obj)) (xe : Value → Shared → Prop), Takes (X.tr pn xe) W → PassesOwn (model X.prog X.w) X.A X.env xe → PSs (X.tr pn xe) body (tb W))
    (hsu : ∀ (a : Addr) (oe : Obj) (cls : Value) (d : Option Addr) (pn : List (Addr × Obj)), Zc cls d oe → (∃ vs, oe.data = .fields vs) → PSs (X.suite a ((a, oe) :: pn)) (b₀ :: suite) (ts a cls d)) :
    PS X (.Try body [.ExceptHandler (some (.Name x np)) (some n) (b₀ :: suite) pos'] [] [] pos) (fun D σ H => tb (wKeep X.K c i ts Wout D) D σ H) := by
  refine ⟨fun pins s σ H D I h => ?_⟩
  have ok := I.ok
  have frames : X.A.frames = some (X.env :: X.outer) := by rw [ok.frames, hs]
  refine wpAny_Try_except ?_
  refine wpAny_mono ((hb (wKeep X.K c i ts Wout D) (X.pn ++ pins) (fun e s₁ => wpAny (model X.prog X.w) X.A (noteFrame e X.env) (fun _ s₂ => wpAny (model X.prog X.w) X.A (setFlight e none) (fun _ s₃ =>
    wpAny (model X.prog X.w) X.A (handleBy e X.env [.ExceptHandler (some (.Name x np)) (some n) (b₀ :: suite) pos']) (SP X pins D) X.xe s₃) X.xe s₂) X.xe s₁) (fun u s' air => ?_) PassesOwn.looking).run [] s σ H D (I.toTry _) h) (fun f s1 q => ?_) (fun e s1 z => z)
  · obtain ⟨a, B, sI, pins', σ', H', cls, d, rfl, J', nb, up, sky, na, os, ag, b, hb1, hyes, hno⟩ := air
    have J : Inv X pins σ' H' sI := J'.ofTry ok
    rw [show (X.tr (X.pn ++ pins) _).stack = X.env :: X.outer from hs] at sky
    show wpAny (model X.prog X.w) X.A (noteFrame (.ref a) X.env) _ _ _
    refine Sky.land Zc.steady frames hf sky fun h3 fl3 up3 => ?_
    have J3 : Inv X pins σ' H' { s' with heap := h3 } := J.landed nb fl3.1 (up.trans up3) os ag
    obtain ⟨oe3, vs3, e3, z3, d3⟩ := fl3.there
    have nfr : a ∉ frs (X.env :: X.outer) := fun hm => by
      obtain ⟨_, o', e', no⟩ := fl3.2.2.1.mem hm
      rw [e3] at e'
      cases e'
      exact no _ d3
    have nL : a ≠ X.env.locals := fun z => nfr (List.mem_filterMap.mpr ⟨X.env, List.mem_cons_self, by rw [hf, z]⟩)
    have nF : a ∉ X.fs := fun hm => by
      obtain ⟨e, he, q⟩ := List.mem_filterMap.mp hm
      exact nfr (List.mem_filterMap.mpr ⟨e, List.mem_cons_of_mem _ he, q⟩)
    -- the object is new
    have nI : sI.heap.get? a = none := by
      cases q : sI.heap.get? a with
      | none => rfl
      | some o =>
        have z := nb a o q (by rw [show (X.tr (X.pn ++ pins) _).stack = X.env :: X.outer from hs]; exact nfr)
        rw [fl3.2.1] at z
        cases z
    have n0 : X.s_0.heap.get? a = none := by
      cases q : X.s_0.heap.get? a with
      | none => rfl
      | some o =>
        obtain ⟨o', z⟩ := J.base.there a o q (by rw [hex]; exact List.not_mem_nil)
        rw [nI] at z
        cases z
    have np' : ∀ p ∈ X.pn ++ pins, p.1 ≠ a := fun p hp z => by
      have e := (J.pin p hp).1
      rw [z, nI] at e
      cases e
    have S3 := J3.suite e3 d3 na nL nF
    refine wpAny_handleBy_cons (codeAny_handlers_test ?_) (fun q => by cases q)
    have ty : PySem.W.Looks (model X.prog X.w) h3 (typeOf (.ref a)) cls := fun A Q E s k q => wpAny_typeOf_ref (k _ _ e3) (by rw [z3.1]; exact q)
    have named : ∀ {Q : Value → Shared → Prop} {E : Value → Shared → Prop}, Q c { s' with heap := h3 } → wpAny (model X.prog X.w) (X.A.mark (some (.ref a))) (eval (.Name x np) X.env) Q E { s' with heap := h3 } := fun {Q E} q => by
      obtain ⟨g1, g2, g3 | ⟨g3, g4, g5⟩⟩ := hc
      · exact ld_glob (X := X.suite a ((a, oe3) :: (X.pn ++ pins))) S3 g1 g3 q g2
      · exact ld_blt (X := X.suite a ((a, oe3) :: (X.pn ++ pins))) S3 g1 g3 g4 q g5 g2
    refine named ((PySem.W.exm_one (M := model X.prog X.w) J3.kIn ty hb1).here ?_)
    cases b with
    | true =>
      refine codeAny_handlers_suite_as (HandSPX.lands_againZ fl3 fun h4 fl4 up4 => ?_)
      have J4 : Inv X pins σ' H' { s' with heap := h4 } := J.landed nb fl4.1 ((up.trans up3).trans up4) os ag
      obtain ⟨oe4, vs4, e4, z4, d4⟩ := fl4.there
      refine store_ok (X := X.suite a ((a, oe4) :: (X.pn ++ pins))) (v := .ref a) (J4.suite e4 d4 na nL nF) hN hi (.inl hln) rfl (fun s5 S5 => ?_) (.inr hln)
      refine wpAny_mono ((hsu a oe4 cls d (X.pn ++ pins) z4 ⟨_, d4⟩).run [] s5 _ H' _ S5 (hyes rfl a na)) (fun f s6 q6 => ?_) (fun _ _ z => False.elim z)
      cases f with
      | next =>
        obtain ⟨σ6, H6, S6, n6, q6⟩ := q6
        have J6 : Inv X ((a, oe4) :: pins) σ6 H6 s6 := ⟨ok, S6.os, S6.bare, S6.base, S6.loc, S6.cell, S6.free, S6.freeC, fun p hp => S6.pin p (by
          rcases List.mem_append.mp hp with z | z
          · exact List.mem_append_left _ (List.mem_cons_of_mem _ (List.mem_append_left _ z))
          · rcases List.mem_cons.mp z with z | z
            · exact List.mem_append_left _ (z ▸ List.mem_cons_self)
            · exact List.mem_append_left _ (List.mem_cons_of_mem _ (List.mem_append_right _ z))), S6.hok, S6.len⟩
        refine gone_ok J6 hN hi hln fun s7 J7 => ⟨_, _, hold_pin J7 n0 np' (exv_ok (J7.pin (a, oe4) (List.mem_append_right _ List.mem_cons_self)).1 z4 d4), q6⟩
      | brk =>
        obtain ⟨_, _, _, z⟩ := q6
        exact z.elim
      | cont =>
        obtain ⟨_, _, _, z⟩ := q6
        exact z.elim
      | ret u =>
        obtain ⟨_, _, _, _, _, z⟩ := q6
        exact z.elim
    | false =>
      show wpAny _ X.A (handleBy (.ref a) X.env []) _ _ _
      refine wpAny_handleBy_nil ?_
      obtain ⟨k1, k2, k3, oe, vs, T, oT, ts', he, hz, hd, h1, hr⟩ := id fl3
      unfold PySem.passOn
      refine wpAny_bind (wpAny_field he hd h1 ?_)
      rw [if_neg (show ¬ ((Value.ref T == Value.none) = true) from by simp)]
      have out : wpAny (model X.prog X.w) X.A (setFlight (.ref a) X.env.frame) (fun _ s4 => wpAny (model X.prog X.w) X.A (throw (.ref a) : Sem Flow) (SP X pins D) X.xe s4) X.xe { s' with heap := h3 } := by
        rw [hf]
        refine HandSPX.setFlight_upZ fl3 fun h4 hh4 up4 => wpAny_throw (tk _ _ ?_)
        exact ⟨a, B, sI, pins, σ', H', cls, d, rfl, J, nb, (up.trans up3).trans up4, .inr (.inr (by rw [hs]; exact hh4)), na, os, ag, hno rfl⟩
      first
        | exact wpAny_bind (wpAny_pure (wpAny_bind out))
        | exact wpAny_bind out
  · cases f with
    | next => exact let ⟨σ', H', J', r⟩ := q; wpAny_execs_nil ⟨σ', H', J'.ofTry ok, r⟩
    | brk => exact let ⟨σ', H', J', r⟩ := q; ⟨σ', H', J'.ofTry ok, r⟩
    | cont => exact let ⟨σ', H', J', r⟩ := q; ⟨σ', H', J'.ofTry ok, r⟩
    | ret u => exact let ⟨v, σ', H', J', r, q⟩ := q; ⟨v, σ', H', J'.ofTry ok, r, q⟩
end
section
open PySem.W PySem.Calls
variable {prog : Program} {w : World} {A : Around} {E : Value → Shared → Prop} {s : Shared} {K : Frag} {x D : Addr} {ox : Obj} {od : Option Obj}
/-- e.__class__ as isinstance asks it, e of a class of ours that is an exception, with a dict or without -/
theorem asks_class (C : ExcC K D) {Q : Option Value → Shared → Prop} (X : K.In s.heap) (I : InstAt s.heap x ox D od) (h : Q (some (.ref D)) { s with toks := s.toks + 1 }) : wpAny (model prog w) A (getAttr? (.ref x) "__class__") Q E s := by
  have hf : findObj K D od "__class__" = some (.bind (.builtin "getset_descriptor.__get__") (.builtin "object.__class__")) := by
    obtain ⟨cd, hc, _⟩ := any_some C.hd
    unfold findObj
    rw [hc, Option.bind_some, C.ha, Option.bind_some]
    simp [C.hn, C.ht]
  obtain ⟨hp, g, d, t, os⟩ := s
  have ty := I.type (M := model prog w)
  have exc : Looks (model prog w) hp (isInstance (.ref x) (.type "BaseException")) true := ty.andThen (looks_subIn X C.hs)
  have no : (Value.builtin "BaseException.__getattribute__" == Value.builtin "object.__getattribute__") = false := by decide +kernel
  unfold getAttr? getAttrBy? getAttrBy
  refine wpAny_bind (wpAny_mkText (wpAny_bind (wpAny_attempt (wpAny_holding (wpAny_bind (ty.at (wpAny_bind ((looks_findIn (M := model prog w) X C.hg).at ?_))))))))
  show wpAny _ _ (if (onTheHeap (Value.ref D) && Value.builtin "BaseException.__getattribute__" == Value.builtin "object.__getattribute__") = true then _ else _) _ _ _
  rw [no, Bool.and_false, if_neg Bool.false_ne_true]
  unfold getAttrByItsOwn hookBefore
  refine wpAny_bind ?_
  rw [if_pos (show onTheHeap (Value.ref D) = true from rfl)]
  refine (looks_findIn (M := model prog w) X C.hk).at (wpAny_bind (wpAny_attempt (wpAny_holding ?_)))
  unfold callGetattribute
  rw [show (false && onTheHeap (Value.builtin "BaseException.__getattribute__")) = false from rfl, if_neg Bool.false_ne_true]
  unfold boundAndCalled
  rw [PySem.F.excAttr_ValueError.ga.bind (.ref x)]
  refine wpAny_bind (wpAny_pure ?_)
  show wpAny _ _ (call (.builtin "BaseException.__getattribute__") [.ref x, .str "__class__" t]) _ _ _
  refine wpAny_call (codeAny_call_builtin PySem.F.excAttr_ValueError.ga.plain PySem.F.entry_bexc_ga ?_)
  refine @check_slot (model prog w) _ _ ⟨hp, g, d, t + 1, os⟩ "BaseException.__getattribute__" "BaseException" "__getattribute__" (.ref x) [.str "__class__" t] [] _ (by decide +kernel) (by decide +kernel) exc (PySem.F.args_bexc_ga (.ref x) (.str "__class__" t)) ?_
  unfold Builtin.«object.__getattribute__»
  refine wpAny_bind (wpAny_of_eq (a := ((Value.ref x : Value), [Value.str "__class__" t])) (by first | rfl | (simp only [slotArgs]; rfl)) ?_)
  refine wpAny_bind (wpAny_pure (wpAny_bind (ty.at (wpAny_bind ((looks_find (M := model prog w) X I hf).at ?_)))))
  show wpAny _ _ (holding [Value.builtin "object.__class__"] (call (.builtin "getset_descriptor.__get__") [.builtin "object.__class__", .ref x, .ref D]) >>= ret) _ _ _
  refine wpAny_bind (wpAny_holding (wpAny_call (class_get (s := ⟨hp, g, d, t + 1, os⟩) (ox := ox) (od := od) X I C.hm (wpAny_pure ?_))))
  show wpAny _ _ (handedOut (.ref D)) _ _ _
  rw [handedOut_of (v := .ref D) rfl]
  first
    | exact wpAny_pure (wpAny_pure h)
    | exact wpAny_pure h
theorem isx (C : ExcC K D) : KitX K (.ref x) (.ref D) (fun h => ∃ ox od, InstAt h x ox D od) where
  ty := fun _ _ _ ⟨_, _, I⟩ => I.type
  it := fun _ _ X _ => by
    obtain ⟨cd, hc, _⟩ := any_some C.hd
    unfold clsIn at hc
    split at hc
    · next ho =>
      intro A' Q' E' s' k q
      unfold isType loadHead
      exact wpAny_bind (wpAny_loadPart (k _ _ (X _ _ ho)) (wpAny_pure q))
    · cases hc
  ne := fun h tp dd its n sl X htp => by
    obtain ⟨cd, hc, _⟩ := any_some C.hd
    refine Bool.eq_false_iff.mpr fun q => ?_
    obtain rfl : D = tp := Value.ref.inj (beq_iff_eq.mp q)
    unfold clsIn at hc
    split at hc
    · next ho =>
      have z := (X _ _ ho).symm.trans htp
      cases z
    · cases hc
  ca := fun X ⟨_, _, I⟩ k => asks_class C X I k
end
section
variable {X : Cx}
/-- isinstance(e, c), e kept -/
def rIsV (K : PySem.W.Frag) : List V → Hp → VK → Prop := fun xs H Q => ∃ (a D : Addr) (d : Option Addr) (c : V) (cv : Value) (b : Bool), xs = [.ref a, c] ∧ H a = some (exv a (.ref D) d) ∧ (∀ dd, d = some dd → ∃ fs, H dd = some (.xd fs)) ∧ ExcC K D ∧ (∀ u, RelV c u → u = cv) ∧ PySem.W.kitOne K (.ref D) cv = some b ∧ Q (.bl b) H
theorem exv_at {P : Program} {w : World} {H : Hp} {h : Heap} {a : Addr} {cls : Value} {d : Option Addr} (ok : HOk P w H h) (e : H a = some (exv a cls d)) : ∃ oe, h.get? a = some oe ∧ Zc cls d oe ∧ ∃ vs, oe.data = .fields vs := by
  have x : ObjOk P w H h a (.ext fun h => ∃ oe, h.get? a = some oe ∧ Zc cls d oe ∧ ∃ vs, oe.data = .fields vs) := ok a _ e
  exact x.1
theorem call_isV : CallR X (.builtin "isinstance") (rIsV X.K) := by
  rintro pins s σ H xs us Q I r ⟨a, D, d, c, cv, b, rfl, ea, hd, C, hcv, e, q⟩
  cases r with
  | cons rx rr =>
    cases rr with
    | cons rt rr =>
      cases rr
      cases rx
      cases hcv _ rt
      obtain ⟨oe, hget, z, vs, hv⟩ := exv_at I.hok ea
      have hdd : ∀ dd, d = some dd → ∃ od, s.heap.get? dd = some od := fun dd e => by
        obtain ⟨fs, ed⟩ := hd dd e
        obtain ⟨mA, ⟨o, _, _, ho, _⟩, _⟩ := (show ObjOk X.prog X.w H s.heap dd (.xd fs) from I.hok dd _ ed)
        exact ⟨o, ho⟩
      have J : ∃ ox od, PySem.W.InstAt s.heap a ox D od := by
        cases d with
        | none => exact ⟨oe, none, hget, z.1, by unfold PySem.W.notCls; rw [hv] <;> rfl, by rw [z.2] <;> trivial⟩
        | some dd =>
          obtain ⟨od, ho⟩ := hdd dd rfl
          exact ⟨oe, some od, hget, z.1, by unfold PySem.W.notCls; rw [hv] <;> rfl, by rw [z.2]; exact ho⟩
      exact PySem.W.kia_one (isx C) I.kIn J e (fun z => nomatch z) fun tk => ⟨.bl b, H, I.kept (t' := tk) fun _ _ z => z, rfl, q⟩
/-- e.f, e kept -/
def tXv (K : PySem.W.Frag) (f : Str) (te : TE) : TE := fun σ H Q => te σ H fun x H1 => ∃ (a C dd : Addr) (fs : List (Str × V)) (v : V), x = .ref a ∧ H1 a = some (exv a (.ref C) (some dd)) ∧ XfC K C ∧ PySem.W.findIn K (.ref C) f = some none ∧ H1 dd = some (.xd fs) ∧ fs.lookup f = some v ∧ Q v H1
theorem pe_xv {e : Expr} {te : TE} {pos : Pos} {f : Str} (he : PE X e te) (hb : attributeBase e f X.env (eval e X.env) = eval e X.env := by rfl) : PE X (.Attribute e f pos) (tXv X.K f te) := by
  refine ⟨fun pins s σ H Q I h => attr_of hb (thn (he.run pins s σ H _ I h) fun u s1 ⟨x, H1, I1, rx, a, C, dd, fs, v, ex, ea, T, hno, ed, l, q⟩ => ?_)⟩
  subst ex
  obtain rfl : u = Value.ref a := rx
  obtain ⟨oe, ha, z, vs, hd⟩ := exv_at I1.hok ea
  obtain ⟨mA, hns, hr⟩ := (show ObjOk X.prog X.w H1 s1.heap dd (.xd fs) from I1.hok dd _ ed)
  obtain ⟨od, ho, hl⟩ := lookIn_ns hns
  obtain ⟨u, hu, ru⟩ := RelO.some_of (v := v) (o := mA f) (by rw [← l]; exact hr f)
  have J : PySem.W.InstAt s1.heap a oe C (some od) := ⟨ha, z.1, by unfold PySem.W.notCls; rw [hd] <;> rfl, by rw [z.2]; exact ho⟩
  exact HandSPX.exc_get I1.kIn J T.ga T.gg T.exC (PySem.W.findObj_own T.hdC hno rfl (by rw [hl, hu])) (handed_of ru) ⟨v, H1, I1.tok _, ru, q⟩
/-- B.__init__(self, ..), B a class of ours that takes ValueError's -/
structure BaseI (K : PySem.W.Frag) (mg : Str → Option Value) (x : Str) (B : Addr) : Prop where
  gB : mg x = some (.ref B)
  sp : PySem.W.specialIn K (.ref B) "__getattribute__" = some (some (.builtin "type.__getattribute__"))
  ty : PySem.W.typeIn K (.ref B) = some (.type "type")
  rd : PySem.W.readsIn K B (.type "type") = true
  fc : PySem.W.findCls K (.ref B) (.type "type") "__init__" = some (.val (.builtin "ValueError.__init__"))
theorem pe_baseinit {B : Addr} {x : Str} {e : Expr} {es : List Expr} {ta : TA} {p1 p2 pos : Pos} {pl : Sem Bool} (T : BaseI X.K X.mg x B) (hg : Gl X x) (ha : PA X (e :: es) ta) (hdb : (x == ("__debug__" : Str)) = false := by decide)
    (hc : eval (.Call (.Attribute (.Name x p1) "__init__" p2) (e :: es) [] pos) X.env = (do
      let ov ← eval (.Name x p1) X.env
      standAt p2.atName
      let (f, first) ← holding [ov] (getMethod ov "__init__" pl)
      callWith pos f first (backTo pos (starEach (e :: es) X.env)) (backToKw pos (keywordEach [] X.env))) := by rfl)
    (he : starEach (e :: es) X.env = (false, eval e X.env) :: starEach es X.env := by rfl) (hpl : (backTo pos (starEach es X.env)).any (·.1) = false := by rfl) :
    PE X (.Call (.Attribute (.Name x p1) "__init__" p2) (e :: es) [] pos) (tVeI X.K ta) := by
  refine ⟨fun pins s σ H Q I h => PySem.W.methodCall_KW (ld_glob I hg T.gB ?_ hdb) hc⟩
  obtain ⟨m, fr⟩ := I.fr
  refine PySem.W.method_of_cls fr I.ok.mod.kin T.sp (PySem.W.cls_val fr I.ok.mod.kin T.ty T.rd T.fc (by decide +kernel) ?_)
  show wpAny _ _ (callWith pos (Value.builtin "ValueError.__init__") [] (backTo pos (starEach (e :: es) X.env)) []) _ _ _
  refine PyProof.Rows.callWith_method1 (thn (ha.run pos pins _ σ H _ (I.tok _) h) fun us s1 ⟨vs, H1, I1, r1, a, C, ws, ev, hl, T, ea, q⟩ => ?_) he hpl
  subst ev
  cases r1 with
  | @cons _ u0 _ ur ra rw' =>
    obtain rfl : u0 = Value.ref a := ra
    exact oinit_ok T I1 ea (by rw [← NC.Paired.len rw', sizeLine_eq]; omega) fun s' J => ⟨.non, H1, J, rfl, q⟩
end
end NC

set_option Elab.async false
set_option linter.all false
set_option maxRecDepth 100000
set_option maxHeartbeats 4000000
namespace NC
open PySem L2
/-! ### what a good frame is -/
structure Fit (n : Nat) (F : List Fc) : Prop where
  ok : OkFr n F
  sat : ∃ v : Str → Int, K2.Sat v F
theorem Fit.On {n : Nat} {F : List Fc} (h : Fit n F) : K2.On (nms n) F := fun f hf => ⟨(h.ok.on f hf).1, (h.ok.on f hf).2.1⟩
theorem Fit.refl {n : Nat} {F : List Fc} (h : Fit n F) (N : List Str) (x : Str) : K2.lev N F x x < 2 := by
  obtain ⟨v, hv⟩ := h.sat
  refine Int.not_le.mp fun z => ?_
  have w := (K2.Borne.lev N F).two x x (by omega)
  have := (w.sat hv).2 rfl
  omega
section
variable {P : Program} {w : World} {K : PySem.W.Frag} {mg : Str → Option Value} {base : Heap}
/-! ### is_sound -/
abbrev sSound : Stmt := top 20
def spSound (K : PySem.W.Frag) : Sp := fun vs H Q _ => ∃ (p : Addr) (n : Nat) (F : List Fc), vs = [.ref p] ∧ FrAt K H p (nms n) F ∧ Fit n F ∧ ∀ H', Same H H' → Q (.bl true) H'
theorem scSound : FnScope ["frame", "levels", "name"] ["frame"] (defScope sSound) := ⟨rfl, rfl, rfl, by decide +kernel, rfl, by decide +kernel, by decide +kernel⟩
theorem all_true (n : Nat) : (List.replicate n true).all id = true := by
  induction n with
  | zero => rfl
  | succ n ih => rw [List.replicate_succ, List.all_cons, ih]; rfl
theorem df_sound (T : Txt K mg) (S : Std K mg "is_sound" sSound) (DL : Df P w K mg base CX0 "levels_of" ["frame"] 1 (spLevels K)) : Df P w K mg base CX0 "is_sound" ["frame"] 2 (spSound K) := by
  refine S.df (fun _ _ _ _ _ _ us hl => match us, hl with | [_], _ => rfl) fun f fd F => F.ok scSound (fun vs H Q E h => ?_) (fun cdv A outer s H vs Q E hr h => ?_)
  · obtain ⟨p, n, F, rfl, _⟩ := h
    rfl
  · obtain ⟨p, n, F, rfl, hF, fit, k⟩ := h
    have nd := scSound.nd
    have hu := rm1 hr
    refine ⟨_, pss_cons (ps_set (i := 1) nd rfl (.inr rfl) (pe_df DL hr pass0 (pa_cons (pv 0) pa_nil)))
      (pss_one (ps_ret (pe_callB (cr_all rfl) (by rfl) T.nAll (by decide +kernel) (pa_cons (pe_lc (own := [("name", 2)]) (g := gName 2) (tt := tYes) rfl nd (pi_tup (pe_ix ix_tup (pv 0) pe_int (fun _ _ => rfl))) (blkOk_by (N := ["frame", "levels", "name"]) (sc := defScope sSound) (by decide +kernel))
        (fun _ _ _ _ _ => pg_name (i := 2) nd rfl (Or.inl rfl)) (fun _ _ _ _ _ => pts_nil) (fun _ _ _ _ _ => pe_cmpR op_lt (pe_dget hu (pv 1) (pe_tup (pa_cons (pv 2) (pa_cons (pv 2) pa_nil))) (fun _ _ => rfl)) pe_int (nomark _))) pa_nil)))), ?_⟩
    obtain ⟨pn, pf, fs, h1, h2, h3⟩ := hF.ex
    refine ⟨_, rfl, p, nms n, F, rfl, hF, nms_nodup n, by rw [nms_len]; exact fit.ok.n7, fit.On, fun H1 D s1 nD d1 => ?_⟩
    refine ⟨_, rfl, p, _, _, _, rfl, rfl, sameT s1 h1, rfl, pn, rfl, ⟨_, sameT s1 h2⟩, fun L nL => lc_it walk_tup (fun i H' => Same H H' ∧ H' D = some (.dT (encL (nms n) (K2.lev (nms n) F))) ∧ H L = none ∧ H' L = some (.lst ((List.replicate i true).map V.bl)))
      ⟨sameU s1 nL, by rw [upd_ne (ne_of_none d1 nL)]; exact d1, s1.free nL, upd_same⟩ (fun i H' _ q => sameT q.1 h2) ?_ ?_⟩
    · rintro i x H2 H3 hi ⟨s2, d2, nL0, l2⟩ ⟨rfl, hx⟩
      obtain ⟨a, rfl, ha⟩ := strs_at hx
      have aN := List.mem_of_getElem? ha
      refine ⟨rfl, ?_⟩
      refine ⟨_, rfl, _, rfl, _, rfl, (by show 2 ≤ sizeLine; decide), fun q nq => ?_⟩
      have d3 : upd H3 q (.tup (idx a a)) D = some (.dT (encL (nms n) (K2.lev (nms n) F))) := by rw [upd_ne (ne_of_none d2 nq)]; exact d2
      have l3 : upd H3 q (.tup (idx a a)) L = some (.lst ((List.replicate i true).map V.bl)) := by rw [upd_ne (ne_of_none l2 nq)]; exact l2
      have nDL : D ≠ L := ne_of d2 l2 (fun z => nomatch z)
      refine ⟨D, _, rfl, get_lev d3 upd_same aN aN, _, _, rfl, rfl, ?_⟩
      refine ⟨_, l3, ?_, sameD (sameU s2 nq) nL0, by rw [upd_ne nDL]; exact d3, nL0, ?_⟩
      · have hi' : i < n := by rw [List.length_map, nms_len] at hi; exact hi
        have := fit.ok.n7
        rw [List.length_map, List.length_replicate, PySem.sizeLine_eq]
        omega
      · rw [upd_same, List.replicate_succ', List.map_append]
        show some (HO.lst (_ ++ [V.bl (decide (K2.lev (nms n) F a a < 2))])) = _
        rw [decide_eq_true (fit.refl (nms n) a)]
        rfl
    · rintro H2 ⟨s2, d2, _, l2⟩
      refine ⟨L, _, rfl, SqL.of l2, ?_⟩
      rw [all_true]
      exact k _ s2
/-! ### need_frame -/
abbrev sNeedF : Stmt := top 21
def spNeedF (K : PySem.W.Frag) : Sp := fun vs H Q _ => ∃ (p : Addr) (n : Nat) (F : List Fc), vs = [.ref p] ∧ FrAt K H p (nms n) F ∧ Fit n F ∧ ∀ H', Same H H' → Q (.ref p) H'
theorem scNeedF : FnScope ["thing"] ["thing"] (defScope sNeedF) := ⟨rfl, rfl, rfl, by decide +kernel, rfl, by decide +kernel, by decide +kernel⟩
theorem df_needF (T : Txt K mg) (S : Std K mg "need_frame" sNeedF) (DF : Df P w K mg base CX0 "need_form" ["thing"] 4 (spForm K)) (DS : Df P w K mg base CX0 "is_sound" ["frame"] 2 (spSound K)) : Df P w K mg base CX0 "need_frame" ["thing"] 5 (spNeedF K) := by
  refine S.df (fun _ _ _ _ _ _ us hl => match us, hl with | [_], _ => rfl) fun f fd F => F.ok scNeedF (fun vs H Q E h => ?_) (fun cdv A outer s H vs Q E hr h => ?_)
  · obtain ⟨p, n, F, rfl, _⟩ := h
    rfl
  · obtain ⟨p, n, F, rfl, hF, fit, k⟩ := h
    refine ⟨_, pss_cons (ps_expr (pe_df DF hr pass0 (pa_cons (pv 0) pa_nil)))
      (pss_cons (ps_if (pt_not (pt_val (pe_df DS (hr.mono (by decide)) pass0 (pa_cons (pv 0) pa_nil)))) (pss_one ps_never) pss_nil)
      (pss_one (ps_ret (pv 0)))), ?_⟩
    refine ⟨_, rfl, p, n, F, rfl, hF, fit.ok, fun H1 s1 => ?_⟩
    refine ⟨_, rfl, p, n, F, rfl, hF.same s1, fit, fun H2 s2 => ⟨_, rfl, iteF ?_⟩⟩
    exact ⟨_, rfl, k _ (Same.trans s1 s2)⟩
/-! ### BadName(thing) -/
def clsBody : Stmt → List Stmt
  | .ClassDef _ _ _ b _ _ _ _ _ _ _ => b
  | _ => []
abbrev sNmInit : Stmt := (clsBody (top 4)).getD 0 (.Pass ⟨0, 0, 0, 0⟩)
def spNmInit (C : Addr) : Sp := fun vs H Q _ => ∃ (a : Addr) (v : V), vs = [.ref a, v] ∧ H a = some (exo a C none) ∧ ∀ dx, H dx = none → dx ≠ a → Q .non (upd (upd H dx (exd dx [("given", v)])) a (exo a C (some dx)))
theorem scNmInit : FnScope ["self", "given"] ["self", "given"] (defScope sNmInit) := ⟨rfl, rfl, rfl, by decide +kernel, rfl, by decide +kernel, by decide +kernel⟩
/-- what the top has written of the classes: B CutError, C BadName, fI its __init__ -/
structure TxtN (K : PySem.W.Frag) (mg : Str → Option Value) (B C fI : Addr) : Prop where
  base : BaseI K mg "CutError" B
  oex : OexC K C
  gC : mg "BadName" = some (.ref C)
  noG : PySem.W.findIn K (.ref C) "given" = some none
  iC : PySem.W.findIn K (.ref C) "__init__" = some (some (.ref fI))
  tI : PySem.W.typeIn K (.ref fI) = some (.type "function")
  fn : ∃ fd, Fun K "__init__" "BadName.__init__" sNmInit fI fd
theorem ok_nmInit {B C fI : Addr} {fd : FuncData} (T : TxtN K mg B C fI) (F : Fun K "__init__" "BadName.__init__" sNmInit fI fd) : FnOk P w K mg base CX0 1 fI fd ["self", "given"] (spNmInit C) := by
  refine F.ok scNmInit (fun vs H Q E h => ?_) (fun cdv A outer s H vs Q E hr h => ?_)
  · obtain ⟨a, v, rfl, _⟩ := h
    rfl
  · obtain ⟨a, v, rfl, h1, k⟩ := h
    refine ⟨_, pss_cons (ps_expr (pe_baseinit T.base rfl (pa_cons (pv 0) (pa_cons pe_str pa_nil)))) (pss_one (ps_ost (pv 0) (pv 1))), ?_⟩
    refine ⟨_, rfl, a, C, _, rfl, (by show 1 ≤ 1000; decide), T.oex, h1, ?_⟩
    exact ⟨_, rfl, _, rfl, a, C, rfl, T.oex, T.noG, .inl ⟨h1, fun dx n1 n2 => k dx n1 n2⟩⟩
/-! ### need_name -/
abbrev sNeedN : Stmt := top 22
def spNeedN (K : PySem.W.Frag) (C : Addr) : Sp := fun vs H Q E => ∃ (p : Addr) (N : List Str) (F : List Fc) (v : V), vs = [.ref p, v] ∧ FrAt K H p N F ∧ Odd K H v ∧ (isNm N v = true → Q v H) ∧ (isNm N v = false → ∀ d H', Same H H' → H d = none → H' d = some (.xd [("given", v)]) → E (.ref C) (some d) H')
theorem scNeedN : FnScope ["frame", "thing"] ["frame", "thing"] (defScope sNeedN) := ⟨rfl, rfl, rfl, by decide +kernel, rfl, by decide +kernel, by decide +kernel⟩
theorem passX {X : Cx} {E : XK} {E₁ : Value → Shared → Prop} (hs : X.stack = X.env :: X.outer) (hf : X.env.frame = some X.env.locals) (hex : X.ex = [])
    (hx : X.xe = fun e s' => wpAny (model X.prog X.w) X.A (leaving X.env e) (fun _ s'' => L2.CX X.prog X.w X.outer X.H_0 X.s_0 E e s'') E₁ s') : Passes (L2.CX X.prog X.w) X E :=
  passes_call (takes_of hs hf hex hx) fun _ _ _ _ z => z
theorem df_needN {B C fI : Addr} (T : Txt K mg) (TN : TxtN K mg B C fI) (S : Std K mg "need_name" sNeedN) (DN : Df P w K mg base CX0 "is_name" ["names", "thing"] 1 (spName K)) : Df P w K mg base (L2.CX P w) "need_name" ["frame", "thing"] 4 (spNeedN K C) := by
  refine S.df (fun _ _ _ _ _ _ us hl => match us, hl with | [_, _], _ => rfl) fun f fd F => F.okX scNeedN (fun vs H Q E h => ?_) (fun cdv A outer s H vs Q E hr h => ?_)
  · obtain ⟨p, N, F, v, rfl, _⟩ := h
    rfl
  · obtain ⟨p, N, F, v, rfl, hF, ho, k1, k2⟩ := h
    obtain ⟨pn, pf, fs, h1, h2, h3⟩ := hF.ex
    obtain ⟨fdI, FI⟩ := TN.fn
    refine ⟨_, pss_cons (ps_if (pt_not (pt_val (pe_df DN (hr.mono (by decide)) pass0 (pa_cons (pe_ix ix_tup (pv 0) pe_int (fun _ _ => rfl)) (pa_cons (pv 1) pa_nil)))))
        (pss_one (ps_raise rfl (takes_of rfl rfl rfl rfl) (pmk_oex TN.oex TN.iC TN.tI (ok_nmInit TN FI) (hr.mono (by decide)) (FI.binds (ps := ["self", "given"]) fun _ _ _ _ _ _ us hl => match us, hl with | [_, _], _ => rfl) .nil pass0 rfl TN.gC (pa_cons (pv 1) pa_nil)))) pss_nil)
      (pss_one (ps_ret (pv 1))), ?_⟩
    refine ⟨_, rfl, p, _, _, _, rfl, rfl, h1, rfl, _, rfl, pn, N, v, rfl, h2, ho, _, rfl, ?_⟩
    cases e : isNm N v with
    | true => exact iteF ⟨_, rfl, k1 e⟩
    | false =>
      refine iteT ?_
      refine ⟨_, rfl, by show 1 ≤ 1000; decide, fun a na => ?_⟩
      refine ⟨a, v, rfl, upd_same, fun dx n1 n2 => ⟨rfl, dx, _, upd_same, by rw [upd_ne n2, upd_same], by rw [upd_ne n2] at n1; exact n1, ?_⟩⟩
      rw [upd_ne n2] at n1
      refine k2 e dx _ (fun b u eb => ?_) n1 upd_same
      have nb : b ≠ dx := ne_of_none eb n1
      have nba : b ≠ a := ne_of_none eb na
      rw [upd_ne nb, del_ne nba, upd_ne nba, upd_ne nb, upd_ne nba]
      exact eb
end
end NC

set_option Elab.async false
set_option linter.all false
set_option maxRecDepth 100000
set_option maxHeartbeats 4000000
namespace NC
open PySem L2
theorem Odd.same {K : PySem.W.Frag} {H H' : Hp} {v : V} (s : Same H H') (h : Odd K H v) : Odd K H' v := by
  rcases h with h | ⟨h1, t, h2, h3⟩
  · exact .inl h
  · refine .inr ⟨h1, t, ?_, h3⟩
    cases h2 with
    | base b =>
      cases b with
      | non => exact .base .non
      | bl x => exact .base (.bl x)
      | int i => exact .base (.int i)
      | str x => exact .base (.str x)
      | flt x => exact .base (.flt x)
      | lst e => exact .base (.lst (s _ _ e))
      | frz e => exact .base (.frz (s _ _ e))
      | tup e => exact .base (.tup (s _ _ e))
      | dK e => exact .base (.dK (s _ _ e))
      | dT e => exact .base (.dT (s _ _ e))
      | ins e a b c d f => exact .base (.ins (s _ _ e) a b c d f)
    | byt b => exact .byt b
    | set e => exact .set (s _ _ e)
    | kList e c => exact .kList e c
    | kTuple e c => exact .kTuple e c
    | kDict e c => exact .kDict e c
    | fTuple e => exact .fTuple (s _ _ e)
    | fDict e => exact .fDict (s _ _ e)
theorem isNm_str {N : List Str} {v : V} (h : isNm N v = true) : ∃ x, v = .str x ∧ x ∈ N := by
  cases v <;> first | exact ⟨_, rfl, of_decide_eq_true h⟩ | exact absurd (show false = true from h) (by decide)
/-- what a level is told as -/
def lvV (i : Int) : V := if i = 2 then .str "ahead" else if i = 1 then .str "upto" else .non
theorem lv_at {i : Int} (h0 : 0 ≤ i) (h2 : i ≤ 2) : atI [V.non, .str "upto", .str "ahead"] i = some (lvV i) := by
  rcases (show i = 0 ∨ i = 1 ∨ i = 2 by omega) with rfl | rfl | rfl <;> rfl
/-- an exception of the class at C that tells the value v was given -/
def NmE (C : Addr) (E : XK) (H : Hp) (v : V) : Prop := ∀ d H', Same H H' → H d = none → H' d = some (.xd [("given", v)]) → E (.ref C) (some d) H'
theorem NmE.same {C : Addr} {E : XK} {H H1 : Hp} {v : V} (s : Same H H1) (h : NmE C E H v) : NmE C E H1 v := fun d H' s' n e => h d H' (Same.trans s s') (s.free n) e
section
variable {P : Program} {w : World} {K : PySem.W.Frag} {mg : Str → Option Value} {base : Heap}
/-! ### told -/
abbrev sTold : Stmt := top 23
/-- two names asked for of a frame: odd ones are refused, the first one first -/
def spAsk (K : PySem.W.Frag) (C : Addr) (r : Nat → List Fc → Str → Str → Hp → VK → Prop) : Sp := fun vs H Q E => ∃ (p : Addr) (n : Nat) (F : List Fc) (a b : V), vs = [.ref p, a, b] ∧ FrAt K H p (nms n) F ∧ Fit n F ∧ Odd K H a ∧ Odd K H b ∧
  (isNm (nms n) a = false → NmE C E H a) ∧ (isNm (nms n) a = true → isNm (nms n) b = false → NmE C E H b) ∧ (∀ x y, a = .str x → b = .str y → x ∈ nms n → y ∈ nms n → r n F x y H Q)
def rTold (n : Nat) (F : List Fc) (x y : Str) (H : Hp) (Q : VK) : Prop := ∀ H', Same H H' → Q (lvV (K2.lev (nms n) F x y)) H'
theorem scTold : FnScope ["frame", "a", "b"] ["frame", "a", "b"] (defScope sTold) := ⟨rfl, rfl, rfl, by decide +kernel, rfl, by decide +kernel, by decide +kernel⟩
theorem df_told {B C fI : Addr} (T : Txt K mg) (S : Std K mg "told" sTold) (DL : Df P w K mg base CX0 "levels_of" ["frame"] 1 (spLevels K)) (DF : Df P w K mg base CX0 "need_frame" ["thing"] 5 (spNeedF K)) (DN : Df P w K mg base (L2.CX P w) "need_name" ["frame", "thing"] 4 (spNeedN K C)) :
    Df P w K mg base (L2.CX P w) "told" ["frame", "a", "b"] 6 (spAsk K C rTold) := by
  refine S.df (fun _ _ _ _ _ _ us hl => match us, hl with | [_, _, _], _ => rfl) fun f fd F => F.okX scTold (fun vs H Q E h => ?_) (fun cdv A outer s H vs Q E hr h => ?_)
  · obtain ⟨p, n, F, a, b, rfl, _⟩ := h
    rfl
  · obtain ⟨p, n, F, a, b, rfl, hF, fit, oa, ob, ea, eb, k⟩ := h
    obtain ⟨tL, cL, hL, oL, oL1, oL2, oL3⟩ := T.cLEV
    have hu := rm1 hr
    have px := passX (X := cxOf (L2.CX P w) P w K mg base ["frame", "a", "b"] "told" (defScope sTold) f cdv A outer s H E) (E := E) rfl rfl rfl rfl
    refine ⟨_, pss_cons (ps_expr (pe_df DF (hr.mono (by decide)) pass0 (pa_cons (pv 0) pa_nil)))
      (pss_cons (ps_expr (pe_df DN (hr.mono (by decide)) px (pa_cons (pv 0) (pa_cons (pv 1) pa_nil))))
      (pss_cons (ps_expr (pe_df DN (hr.mono (by decide)) px (pa_cons (pv 0) (pa_cons (pv 2) pa_nil))))
      (pss_one (ps_ret (pe_ix ix_tup (pe_glob (v := .ref tL) rfl cL rfl) (pe_dget hu (pe_df DL (hr.mono (by decide)) pass0 (pa_cons (pv 0) pa_nil)) (pe_tup (pa_cons (pv 1) (pa_cons (pv 2) pa_nil))) (fun _ _ => rfl)) (fun _ _ => rfl)))))), ?_⟩
    refine ⟨_, rfl, p, n, F, rfl, hF, fit, fun H1 s1 => ?_⟩
    refine ⟨_, rfl, _, rfl, p, nms n, F, a, rfl, hF.same s1, oa.same s1, fun na => ?_, fun na => (ea na).same s1⟩
    refine ⟨_, rfl, _, rfl, p, nms n, F, b, rfl, hF.same s1, ob.same s1, fun nb => ?_, fun nb => (eb na nb).same s1⟩
    obtain ⟨x, rfl, hx⟩ := isNm_str na
    obtain ⟨y, rfl, hy⟩ := isNm_str nb
    refine ⟨_, rfl, p, nms n, F, rfl, hF.same s1, nms_nodup n, by rw [nms_len]; exact fit.ok.n7, fit.On, fun H2 D s2 nD d2 => ?_⟩
    refine ⟨_, rfl, _, rfl, (by show 2 ≤ sizeLine; decide), fun q nq => ?_⟩
    have d3 : upd H2 q (.tup (idx x y)) D = some (.dT (encL (nms n) (K2.lev (nms n) F))) := by rw [upd_ne (ne_of_none d2 nq)]; exact d2
    have B := K2.Borne.lev (nms n) F
    exact ⟨D, _, rfl, get_lev d3 upd_same hx hy, tL, _, _, _, rfl, rfl, hL _, lv_at (B.lo x y) (B.hi x y), k x y rfl rfl hx hy _ (sameU (Same.trans s1 s2) nq)⟩
end
end NC

set_option Elab.async false
set_option linter.all false
set_option maxRecDepth 100000
set_option maxHeartbeats 4000000
/-! tuples of texts, of ints, lists of these: == of them -/
namespace NC
open PySem L2
theorem eqvAll_map {α : Type} [DecidableEq α] (f : α → PyData) (h : ∀ x y, PyData.eqv (f x) (f y) = decide (x = y)) : ∀ (l m : List α), PyData.eqvAll (l.map f) (m.map f) = decide (l = m)
  | [], [] => rfl
  | [], _ :: _ => rfl
  | _ :: _, [] => rfl
  | x :: l, y :: m => by
    show (PyData.eqv (f x) (f y) && PyData.eqvAll (l.map f) (m.map f)) = _
    rw [h, eqvAll_map f h l m]
    rw [← Bool.decide_and]
    exact decide_eq_decide.mpr (by rw [List.cons.injEq])
def sD (N : List Str) : PyData := .tuple (N.map .str)
def iD (r : List Int) : PyData := .tuple (r.map .int)
def wD (W : List (List Int)) : PyData := .list (W.map iD)
theorem beq_dec {α : Type} [DecidableEq α] (x y : α) : (x == y) = decide (x = y) := rfl
theorem eqv_s (N M : List Str) : PyData.eqv (sD N) (sD M) = decide (N = M) := eqvAll_map _ (fun x y => by
  show (x == y) = _
  by_cases e : x = y
  · subst e; simp
  · rw [decide_eq_false e]; simpa using e) N M
theorem eqv_i (N M : List Int) : PyData.eqv (iD N) (iD M) = decide (N = M) := eqvAll_map _ (fun x y => by
  show (x == y) = _
  by_cases e : x = y
  · subst e; simp
  · rw [decide_eq_false e]; simpa using e) N M
theorem eqv_w (V W : List (List Int)) : PyData.eqv (wD V) (wD W) = decide (V = W) := eqvAll_map iD eqv_i V W
theorem lay_map {α : Type} (f : α → PyData) : ∀ (l : List α), (∀ x ∈ l, (f x).canLay0 = true) → PyData.canLayAll0 (l.map f) = true
  | [], _ => rfl
  | x :: l, h => by
    show ((f x).canLay0 && PyData.canLayAll0 (l.map f)) = true
    rw [h x List.mem_cons_self, lay_map f l fun y hy => h y (List.mem_cons_of_mem _ hy)]
    rfl
theorem depth_map {α : Type} (f : α → PyData) (d : Nat) : ∀ (l : List α), (∀ x ∈ l, (f x).depth ≤ d) → PyData.depthAll (l.map f) ≤ d
  | [], _ => Nat.zero_le _
  | x :: l, h => Nat.max_le.mpr ⟨h x List.mem_cons_self, depth_map f d l fun y hy => h y (List.mem_cons_of_mem _ hy)⟩
theorem shaped_of {d : PyData} (h : d.canLay0 = true) (h2 : d.depth ≤ 64) : SeqAt.shaped d = true := by
  unfold SeqAt.shaped
  rw [h, decide_eq_true h2]
  rfl
theorem shaped_i (r : List Int) : SeqAt.shaped (iD r) = true := shaped_of (lay_map _ r fun _ _ => rfl) (by
  show PyData.depthAll (r.map .int) + 1 ≤ 64
  have := depth_map PyData.int 0 r fun _ _ => Nat.le_refl _
  omega)
theorem shaped_w (W : List (List Int)) : SeqAt.shaped (wD W) = true := shaped_of (lay_map _ W fun r _ => lay_map _ r fun _ _ => rfl) (by
  show PyData.depthAll (W.map iD) + 1 ≤ 64
  have := depth_map iD 1 W fun r _ => Nat.succ_le_succ (depth_map PyData.int 0 r fun _ _ => Nat.le_refl _)
  omega)
theorem shaped_s {N : List Str} (h : ∀ x ∈ N, PyData.strOk x = true) : SeqAt.shaped (sD N) = true := shaped_of (lay_map _ N h) (by
  show PyData.depthAll (N.map .str) + 1 ≤ 64
  have := depth_map PyData.str 0 N fun _ _ => Nat.le_refl _
  omega)
theorem nms_ok {n : Nat} (h : n ≤ 7) : ∀ x ∈ nms n, PyData.strOk x = true := by
  intro x hx
  obtain ⟨i, hi, rfl, _⟩ := mem_nms hx
  have key : ∀ i : Fin 7, PyData.strOk (letter (97 + i.val)) = true := by decide +kernel
  exact key ⟨i, by omega⟩
theorem nms_inj {n m : Nat} (h : nms n = nms m) : n = m := by
  have := congrArg List.length h
  rwa [nms_len, nms_len] at this
section
variable {K : PySem.W.Frag} {H : Hp}
theorem dp_strs : ∀ (N : List Str), DpAll K H (N.map V.str) (N.map .str)
  | [] => .nil
  | x :: N => .cons (.str x) (dp_strs N)
theorem dp_ints : ∀ (N : List Int), DpAll K H (N.map V.int) (N.map .int)
  | [] => .nil
  | x :: N => .cons (.int x) (dp_ints N)
theorem dp_s {a : Addr} {N : List Str} (h : SqT K H a (N.map V.str)) : Dp K H (.ref a) (sD N) := .tup h (dp_strs N)
theorem dp_i {a : Addr} {N : List Int} (h : SqT K H a (N.map V.int)) : Dp K H (.ref a) (iD N) := .tup h (dp_ints N)
end
end NC

set_option Elab.async false
set_option linter.all false
set_option maxRecDepth 100000
set_option maxHeartbeats 4000000
namespace NC
open PySem L2
/-- what the top has written of BadQuestion, at C -/
structure TxtQ (K : PySem.W.Frag) (mg : Str → Option Value) (C : Addr) : Prop where
  x : PySem.W.excIn K C [.type "ValueError", .type "Exception", .type "BaseException", .type "object"] "ValueError.__new__" = true
  g : mg "BadQuestion" = some (.ref C)
  k : PySem.W.keepIn K (.ref C) = true
  b : PySem.W.subIn K (.ref C) (.type "BaseException") = some true
  t : PySem.W.typeIn K (.ref C) = some (.type "type")
def sameLev (n : Nat) (F G : List Fc) : Bool := (prs (nms n)).all fun p => decide (K2.lev (nms n) F p.1 p.2 = K2.lev (nms n) G p.1 p.2)
theorem sameLev_iff {n : Nat} {F G : List Fc} : sameLev n F G = true ↔ ∀ x ∈ nms n, ∀ y ∈ nms n, K2.lev (nms n) F x y = K2.lev (nms n) G x y := by
  unfold sameLev
  rw [List.all_eq_true]
  constructor
  · intro h x hx y hy
    exact of_decide_eq_true (h (x, y) (mem_prs.mpr ⟨hx, hy⟩))
  · rintro h ⟨x, y⟩ hp
    obtain ⟨hx, hy⟩ := mem_prs.mp hp
    exact decide_eq_true (h x hx y hy)
section
variable {P : Program} {w : World} {K : PySem.W.Frag} {mg : Str → Option Value} {base : Heap}
/-! ### same_worlds -/
abbrev sSame : Stmt := top 26
def spSame (K : PySem.W.Frag) (CQ : Addr) : Sp := fun vs H Q E => ∃ (p q : Addr) (n m : Nat) (F G : List Fc), vs = [.ref p, .ref q] ∧ FrAt K H p (nms n) F ∧ Fit n F ∧ FrAt K H q (nms m) G ∧ Fit m G ∧
  (n ≠ m → ∀ H', Same H H' → E (.ref CQ) none H') ∧ (n = m → ∀ H', Same H H' → Q (.bl (sameLev n F G)) H')
theorem scSame : FnScope ["one", "other"] ["one", "other"] (defScope sSame) := ⟨rfl, rfl, rfl, by decide +kernel, rfl, by decide +kernel, by decide +kernel⟩
theorem df_same {CQ : Addr} (T : Txt K mg) (TQ : TxtQ K mg CQ) (S : Std K mg "same_worlds" sSame) (DL : Df P w K mg base CX0 "levels_of" ["frame"] 1 (spLevels K)) (DF : Df P w K mg base CX0 "need_frame" ["thing"] 5 (spNeedF K)) :
    Df P w K mg base (L2.CX P w) "same_worlds" ["one", "other"] 6 (spSame K CQ) := by
  refine S.df (fun _ _ _ _ _ _ us hl => match us, hl with | [_, _], _ => rfl) fun f fd F => F.okX scSame (fun vs H Q E h => ?_) (fun cdv A outer s H vs Q E hr h => ?_)
  · obtain ⟨p, q, n, m, F, G, rfl, _⟩ := h
    rfl
  · obtain ⟨p, q, n, m, F, G, rfl, hF, fF, hG, fG, k1, k2⟩ := h
    refine ⟨_, pss_cons (ps_expr (pe_df DF hr pass0 (pa_cons (pv 0) pa_nil)))
      (pss_cons (ps_expr (pe_df DF hr pass0 (pa_cons (pv 1) pa_nil)))
      (pss_cons (ps_if (pt_cmpR (op_neD (rm64 hr)) (pe_ix ix_tup (pv 0) pe_int (fun _ _ => rfl)) (pe_ix ix_tup (pv 1) pe_int (fun _ _ => rfl)) (nomark _))
        (pss_one (ps_raise rfl (takes_of rfl rfl rfl rfl) (pmk_own PySem.F.excBase_ValueError TQ.x TQ.g TQ.k (raises_own TQ.b TQ.t) rfl))) pss_nil)
      (pss_one (ps_ret (pe_cmpR (op_eqT (rm1 hr)) (pe_df DL (hr.mono (by decide)) pass0 (pa_cons (pv 0) pa_nil)) (pe_df DL (hr.mono (by decide)) pass0 (pa_cons (pv 1) pa_nil)) (nomark _)))))), ?_⟩
    refine ⟨_, rfl, p, n, F, rfl, hF, fF, fun H1 s1 => ?_⟩
    refine ⟨_, rfl, q, m, G, rfl, hG.same s1, fG, fun H2 s2 => ?_⟩
    have s3 := Same.trans s1 s2
    obtain ⟨pn, pf, fs, h1, h2, h3⟩ := hF.ex
    obtain ⟨qn, qf, gs, g1, g2, g3⟩ := hG.ex
    refine ⟨_, rfl, p, _, _, _, rfl, rfl, sameT s3 h1, rfl, _, rfl, q, _, _, _, rfl, rfl, sameT s3 g1, rfl, sD (nms n), sD (nms m), dp_s (sameT s3 h2), dp_s (sameT s3 g2), shaped_s (nms_ok fF.ok.n7), shaped_s (nms_ok fG.ok.n7), _, rfl, ?_⟩
    rw [eqv_s]
    by_cases e : n = m
    · subst e
      rw [decide_eq_true rfl]
      refine iteF ?_
      refine ⟨_, rfl, p, nms n, F, rfl, hF.same s3, nms_nodup n, by rw [nms_len]; exact fF.ok.n7, fF.On, fun H3 D1 s4 n1 d1 => ?_⟩
      refine ⟨_, rfl, q, nms n, G, rfl, (hG.same s3).same s4, nms_nodup n, by rw [nms_len]; exact fF.ok.n7, fG.On, fun H4 D2 s5 n2 d2 => ?_⟩
      exact ⟨D1, D2, _, prs (nms n), kP, _, _, rfl, rfl, s5 _ _ d1, d2, k2 rfl _ (Same.trans (Same.trans s3 s4) s5)⟩
    · rw [decide_eq_false fun z => e (nms_inj z)]
      exact iteT (k1 e _ s3)
end
end NC

set_option Elab.async false
set_option linter.all false
set_option maxRecDepth 100000
set_option maxHeartbeats 4000000
namespace NC
open PySem L2
/-! ### tuples cut and joined -/
theorem P_take {α β : Type} {R : α → β → Prop} : ∀ {l : List α} {m : List β} (i : Nat), Paired R l m → Paired R (l.take i) (m.take i)
  | _, _, 0, _ => .nil
  | _, _, _ + 1, .nil => .nil
  | _, _, i + 1, .cons r t => .cons r (P_take i t)
theorem P_drop {α β : Type} {R : α → β → Prop} : ∀ {l : List α} {m : List β} (i : Nat), Paired R l m → Paired R (l.drop i) (m.drop i)
  | _, _, 0, h => h
  | _, _, _ + 1, .nil => .nil
  | _, _, i + 1, .cons _ t => P_drop i t
theorem P_app {α β : Type} {R : α → β → Prop} : ∀ {l l' : List α} {m m' : List β}, Paired R l m → Paired R l' m' → Paired R (l ++ l') (m ++ m')
  | _, _, _, _, .nil, h => h
  | _, _, _, _, .cons r t, h => .cons r (P_app t h)
section
variable {K : PySem.W.Frag} {H : Hp} {a b : Addr} {xs ys : List V} {Q : VK}
theorem cut_of {lo hi : Option Int} (h : SqT K H a xs) (k : ∀ p H', Same H H' → SqT K H' p (cutV xs lo hi) → Q (.ref p) H') : rSlA K (.ref a) lo hi H Q := by
  refine ⟨a, xs, rfl, h, fun ⟨z1, z2⟩ => k a H (Same.refl H) ?_, fun _ p np => k p _ (sameN np) (SqT.of upd_same)⟩
  unfold cutV
  rw [z1, z2]
  simpa using h
theorem cut_to {i : Nat} (hi : i ≤ xs.length) : cutV xs none (some (i : Int)) = xs.take i := by
  unfold cutV
  rw [HT.sIx_none, HT.sIx_nat, Nat.sub_zero, List.drop_zero, Nat.min_eq_left hi]
theorem cut_from {i : Nat} (hi : i ≤ xs.length) : cutV xs (some (i : Int)) none = xs.drop i := by
  unfold cutV
  rw [HT.sIx_none, HT.sIx_nat, Nat.min_eq_left hi, List.take_of_length_le (by rw [List.length_drop]; omega)]
theorem cat_of (ha : SqT K H a xs) (hb : SqT K H b ys) (hz : xs.length + ys.length ≤ sizeLine) (k : ∀ p H', Same H H' → SqT K H' p (xs ++ ys) → Q (.ref p) H') : rCatA K (.ref a) (.ref b) H Q := by
  refine ⟨a, b, xs, ys, rfl, rfl, ha, hb, hz, fun e => ?_, fun _ e => ?_, fun _ _ p np => k p _ (sameN np) (SqT.of upd_same)⟩
  · subst e
    exact k b H (Same.refl H) hb
  · subst e
    exact k a H (Same.refl H) (by rw [List.append_nil]; exact ha)
end
/-- the facts without the i-th -/
def but (F : List Fc) (i : Nat) : List Fc := F.take i ++ F.drop (i + 1)
section
variable {P : Program} {w : World} {K : PySem.W.Frag} {mg : Str → Option Value} {base : Heap}
/-! ### without_fact -/
abbrev sBut : Stmt := top 27
def spBut (K : PySem.W.Frag) : Sp := fun vs H Q _ => ∃ (p : Addr) (N : List Str) (F : List Fc) (i : Nat), vs = [.ref p, .int (i : Int)] ∧ FrAt K H p N F ∧ i < F.length ∧ F.length ≤ 60 ∧ ∀ H' q, Same H H' → FrAt K H' q N (but F i) → Q (.ref q) H'
theorem scBut : FnScope ["frame", "number"] ["frame", "number"] (defScope sBut) := ⟨rfl, rfl, rfl, by decide +kernel, rfl, by decide +kernel, by decide +kernel⟩
theorem df_but (T : Txt K mg) (S : Std K mg "without_fact" sBut) : Df P w K mg base CX0 "without_fact" ["frame", "number"] 1 (spBut K) := by
  refine S.df (fun _ _ _ _ _ _ us hl => match us, hl with | [_, _], _ => rfl) fun f fd F => F.ok scBut (fun vs H Q E h => ?_) (fun cdv A outer s H vs Q E hr h => ?_)
  · obtain ⟨p, N, F, i, rfl, _⟩ := h
    rfl
  · obtain ⟨p, N, F, i, rfl, hF, hi, hl, k⟩ := h
    obtain ⟨pn, pf, fs, h1, h2, h3⟩ := hF.ex
    refine ⟨_, pss_one (ps_ret (pe_tup (pa_cons (pe_ix ix_tup (pv 0) pe_int (fun _ _ => rfl)) (pa_cons (pe_op op_catA (pe_slice sl_tupA (pe_ix ix_tup (pv 0) pe_int (fun _ _ => rfl)) po_none (po_some (pv 1)))
      (pe_slice sl_tupA (pe_ix ix_tup (pv 0) pe_int (fun _ _ => rfl)) (po_some (pe_op op_add (pv 1) pe_int)) po_none)) pa_nil)))), ?_⟩
    have hfl : fs.length = F.length := NC.Paired.len h3.each
    refine ⟨_, rfl, p, _, _, _, rfl, rfl, h1, rfl, _, rfl, p, _, _, _, rfl, rfl, h1, rfl, _, rfl, _, rfl, ?_⟩
    refine cut_of h3.tup fun c1 H1 s1 t1 => ?_
    refine ⟨_, rfl, p, _, _, _, rfl, rfl, sameT s1 h1, rfl, _, rfl, _, _, rfl, rfl, _, rfl, ?_⟩
    dsimp only [tNoPart]
    refine cut_of (sameT s1 h3.tup) fun c2 H2 s2 t2 => ?_
    rw [cut_to (by rw [List.length_map]; omega)] at t1
    rw [show ((i : Int) + 1) = ((i + 1 : Nat) : Int) from rfl, cut_from (by rw [List.length_map]; omega)] at t2
    show rCatA K (.ref c1) (.ref c2) H2 _
    refine cat_of (sameT s2 t1) t2 (by rw [List.length_take, List.length_drop, List.length_map, PySem.sizeLine_eq]; omega) fun c3 H3 s3 t3 => ?_
    refine ⟨by show 2 ≤ sizeLine; decide, fun q nq => k _ q ?_ ⟨pn, c3, fs.take i ++ fs.drop (i + 1), SqT.of upd_same, ?_, ?_, ?_⟩⟩
    · exact sameU (Same.trans (Same.trans s1 s2) s3) nq
    · exact sameT (sameU (Same.trans (Same.trans s1 s2) s3) nq) h2
    · rw [List.map_append, List.map_take, List.map_drop]
      exact sameT (sameN nq) t3
    · have e := sameU (o := .tup [.ref pn, .ref c3]) (Same.trans (Same.trans s1 s2) s3) nq
      exact Paired.imp (fun _ _ z => sameT e z) (P_app (P_take i h3.each) (P_drop (i + 1) h3.each))
end
end NC

set_option Elab.async false
set_option linter.all false
set_option maxRecDepth 100000
set_option maxHeartbeats 4000000
namespace NC
open PySem L2
theorem but_sub {F : List Fc} {i : Nat} : ∀ f ∈ but F i, f ∈ F := fun f hf => by
  rcases List.mem_append.mp hf with h | h
  · exact List.mem_of_mem_take h
  · exact List.mem_of_mem_drop h
/-- the needless facts by levels -/
def idle (n : Nat) (F : List Fc) (i : Nat) : Bool := sameLev n (but F i) F
def idles (n : Nat) (F : List Fc) : List Nat := (List.range F.length).filter (idle n F)
theorem filter_more (p : Nat → Bool) (i : Nat) : (List.range (i + 1)).filter p = (List.range i).filter p ++ if p i then [i] else [] := by
  rw [List.range_succ, List.filter_append]
  by_cases h : p i = true
  · rw [if_pos h, List.filter_cons_of_pos h]; rfl
  · rw [if_neg h, List.filter_cons_of_neg h]; rfl
def natV (l : List Nat) : List V := l.map fun (i : Nat) => V.int (i : Int)
theorem walk_rg {n : Nat} : Walk (Itr 0 n) n (fun _ => True) (YFn fun i => .int (i : Int)) :=
  walk_range.mono (fun _ h => h) fun i H x H' _ _ ⟨e, h⟩ => ⟨e, h.trans (congrArg V.int (Int.zero_add _))⟩
section
variable {P : Program} {w : World} {K : PySem.W.Frag} {mg : Str → Option Value} {base : Heap}
/-! ### needless_facts -/
abbrev sIdle : Stmt := top 28
def spIdle (K : PySem.W.Frag) : Sp := fun vs H Q _ => ∃ (p : Addr) (n : Nat) (F : List Fc), vs = [.ref p] ∧ FrAt K H p (nms n) F ∧ Fit n F ∧ ∀ H' q, Same H H' → H' q = some (.tup (natV (idles n F))) → Q (.ref q) H'
theorem scIdle : FnScope ["frame", "levels", "number"] ["frame"] (defScope sIdle) := ⟨rfl, rfl, rfl, by decide +kernel, rfl, by decide +kernel, by decide +kernel⟩
theorem df_idle (T : Txt K mg) (S : Std K mg "needless_facts" sIdle) (DL : Df P w K mg base CX0 "levels_of" ["frame"] 1 (spLevels K)) (DF : Df P w K mg base CX0 "need_frame" ["thing"] 5 (spNeedF K)) (DB : Df P w K mg base CX0 "without_fact" ["frame", "number"] 1 (spBut K)) :
    Df P w K mg base CX0 "needless_facts" ["frame"] 6 (spIdle K) := by
  refine S.df (fun _ _ _ _ _ _ us hl => match us, hl with | [_], _ => rfl) fun f fd F => F.ok scIdle (fun vs H Q E h => ?_) (fun cdv A outer s H vs Q E hr h => ?_)
  · obtain ⟨p, n, F, rfl, _⟩ := h
    rfl
  · obtain ⟨p, n, F, rfl, hF, fit, k⟩ := h
    have nd := scIdle.nd
    have hr1 : Room 1 _ := hr.mono (by decide)
    obtain ⟨pn, pf, fs, h1, h2, h3⟩ := hF.ex
    have hfl : fs.length = F.length := NC.Paired.len h3.each
    have hl60 := fit.ok.len
    refine ⟨_, pss_cons (ps_set (i := 1) nd rfl (.inr rfl) (pe_df DL hr1 pass0 (pa_cons (pe_df DF hr pass0 (pa_cons (pv 0) pa_nil)) pa_nil)))
      (pss_one (ps_ret (pe_tupleOf rfl T.nTuple (pe_lc (own := [("number", 2)]) (g := gName 2) rfl nd (pi_range1 rfl T.nRange (pa_cons (pe_len T.nLen (pe_ix ix_tup (pv 0) pe_int (fun _ _ => rfl))) pa_nil)) (blkOk_by (N := ["frame", "levels", "number"]) (sc := defScope sIdle) (by decide +kernel))
        (fun _ _ _ _ _ => pg_name (i := 2) nd rfl (Or.inl rfl)) (fun _ _ _ _ _ => pts_one (pt_cmpR (op_eqT (rm1 hr)) (pe_df DL hr1 pass0 (pa_cons (pe_df DB hr1 pass0 (pa_cons (pv 0) (pa_cons (pv 2) pa_nil))) pa_nil)) (pv 1) (nomark _))) (fun _ _ _ _ _ => pv 2))))), ?_⟩
    refine ⟨_, rfl, p, n, F, rfl, hF, fit, fun H1 s1 => ⟨p, nms n, F, rfl, hF.same s1, nms_nodup n, by rw [nms_len]; exact fit.ok.n7, fit.On, fun H2 D s2 nD d2 => ?_⟩⟩
    have s3 := Same.trans s1 s2
    refine ⟨_, rfl, p, _, _, _, rfl, rfl, sameT s3 h1, rfl, pf, _, rfl, .inr (sameT s3 h3.tup), _, rfl, ?_, ?_, ?_⟩
    · rw [List.length_map, hfl]; omega
    · rw [List.length_map, hfl]; omega
    rw [List.length_map, hfl, Int.toNat_natCast]
    refine fun L nL => lc_it walk_rg (fun i H' => Same H H' ∧ H' D = some (.dT (encL (nms n) (K2.lev (nms n) F))) ∧ H2 L = none ∧ H' L = some (.lst (natV ((List.range i).filter (idle n F)))))
      ⟨sameU s3 nL, by rw [upd_ne (ne_of_none d2 nL)]; exact d2, nL, by rw [upd_same]; rfl⟩ (fun i H' _ q => trivial) ?_ ?_
    · rintro i x H3 H4 hi ⟨s4, d4, nL0, l4⟩ ⟨rfl, rfl⟩
      refine ⟨rfl, ?_⟩
      refine ⟨_, rfl, _, rfl, p, nms n, F, i, rfl, hF.same s4, hi, hl60, fun H5 q s5 hq => ?_⟩
      refine ⟨q, nms n, but F i, rfl, hq, nms_nodup n, by rw [nms_len]; exact fit.ok.n7, fun f hf => fit.On f (but_sub f hf), fun H6 D2 s6 n6 d6 => ?_⟩
      have s7 := Same.trans s5 s6
      refine ⟨_, rfl, D2, D, _, prs (nms n), kP, _, _, rfl, rfl, d6, s7 _ _ d4, _, rfl, ?_⟩
      have len := List.length_filter_le (idle n F) (List.range i)
      rw [List.length_range] at len
      refine ite2 (fun c => ?_) (fun c => ?_)
      · refine ⟨_, rfl, _, s7 _ _ l4, ?_, ?_, ?_, nL0, ?_⟩
        · unfold natV
          rw [List.length_map, PySem.sizeLine_eq]
          omega
        · exact sameD (Same.trans s4 s7) (s3.free nL0)
        · rw [upd_ne (ne_of (s7 _ _ d4) (s7 _ _ l4) (fun z => nomatch z))]
          exact s7 _ _ d4
        · have c' : idle n F i = true := c
          rw [upd_same, filter_more, if_pos c']
          unfold natV
          rw [List.map_append]
          rfl
      · have c' : ¬ idle n F i = true := c
        refine ⟨Same.trans s4 s7, s7 _ _ d4, nL0, ?_⟩
        rw [filter_more, if_neg c', List.append_nil]
        exact s7 _ _ l4
    · rintro H3 ⟨s4, d4, _, l4⟩
      exact .inl ⟨L, _, rfl, SqL.of l4, fun q nq => k _ q (sameU s4 nq) upd_same⟩
end
end NC

set_option Elab.async false
set_option linter.all false
set_option maxRecDepth 100000
set_option maxHeartbeats 4000000
/-! rules that the layer lacks: a dict whose keys are pairs of a text and a truth, all its values True -/
namespace NC
open PySem L2 PySem.Spec PyProof.Rows
/-- a key: a text and a truth -/
abbrev MK := Str × Bool
def kM (k : MK) : List Leaf := [.text k.1, .num (if k.2 then 1 else 0)]
theorem kM_inj {a b : MK} (h : kM a = kM b) : a = b := by
  obtain ⟨x, p⟩ := a
  obtain ⟨y, q⟩ := b
  unfold kM at h
  injection h with h1 h2
  injection h2 with h2 _
  injection h1 with h1
  injection h2 with h2
  have h1 : x = y := h1
  subst h1
  cases p <;> cases q <;> first | rfl | (exact absurd h2 (by simp))
theorem lf_text {P : Program} {w : World} (x : Str) (t : Tok) : (leafKind P w).is (.text x) (.str x t) = true := by show (x == x) = true; simp
theorem lf_bool {P : Program} {w : World} (b : Bool) : (leafKind P w).is (.num (if b then 1 else 0)) (.bool b) = true := by cases b <;> rfl
abbrev kd (P : Program) (w : World) : HeapKind P w (List Leaf) := tupleKind (leafKind P w)
/-- the raw entries -/
def rawM (ks : List (MK × Addr)) : List (List Leaf × Addr × Value) := ks.map fun k => (kM k.1, k.2, Value.bool true)
/-- at D: a dict with the keys ks, by the addresses of their tuples -/
def metO (P : Program) (w : World) (D : Addr) (ks : List (MK × Addr)) : HO := .ext fun h => (D == sysModules) = false ∧ ∃ o es ep, h.get? D = some o ∧ o.ExactDict ∧ o.data = .dict es ep ∧ es.toList = (rawM ks).map (entryOfKey (kd P w))
/-- .. and the tuples stand, no key twice -/
structure MetAt (P : Program) (w : World) (H : Hp) (D : Addr) (ks : List (MK × Addr)) : Prop where
  at_ : H D = some (metO P w D ks)
  tup : ∀ k ∈ ks, H k.2 = some (.tup [.str k.1.1, .bl k.1.2])
  nd : (ks.map (·.1)).Nodup
section
variable {P : Program} {w : World} {H : Hp} {h : Heap}
theorem met_ok {D : Addr} {ks : List (MK × Addr)} (hd : (D == sysModules) = false) (m : h.DictOfH (kd P w) D (rawM ks)) : ObjOk P w H h D (metO P w D ks) := by
  obtain ⟨o, es, ep, h1, h2, h3, h4, _, _⟩ := m
  exact ⟨⟨hd, o, es, ep, h1, h2, h3, h4⟩, ⟨o, h1⟩, fun _ _ ⟨hd, o, es, ep, q1, q⟩ k => ⟨hd, o, es, ep, k o q1, q⟩⟩
theorem key_is {k : MK} {b : Addr} (ok : HOk P w H h) (e : H b = some (.tup [.str k.1, .bl k.2])) : (kd P w).is h (kM k) b := by
  obtain ⟨_, its, r, o, h1, h2, n, h3⟩ := (show ObjOk P w H h b (.tup [.str k.1, .bl k.2]) from ok b _ e)
  cases r with
  | @cons _ u1 _ _ r1 r =>
  cases r with
  | @cons _ u2 _ _ r2 r =>
  cases r
  obtain ⟨t, rfl⟩ := (show ∃ t, u1 = Value.str k.1 t from r1)
  obtain rfl := (show u2 = Value.bool k.2 from r2)
  refine ⟨o, _, n, h1, h2, h3, .cons (lf_text k.1 t) (.cons (lf_bool k.2) .nil)⟩
theorem met_at {D : Addr} {ks : List (MK × Addr)} (ok : HOk P w H h) (m : MetAt P w H D ks) : (D == sysModules) = false ∧ h.DictOfH (kd P w) D (rawM ks) := by
  have x : ObjOk P w H h D (.ext fun h => (D == sysModules) = false ∧ ∃ o es ep, h.get? D = some o ∧ o.ExactDict ∧ o.data = .dict es ep ∧ es.toList = (rawM ks).map (entryOfKey (kd P w))) := ok D _ m.at_
  obtain ⟨⟨hd, o, es, ep, h1, h2, h3, h4⟩, _⟩ := x
  refine ⟨hd, o, es, ep, h1, h2, h3, h4, fun y hy => ?_, ?_⟩
  · obtain ⟨k, hk, rfl⟩ := List.mem_map.mp hy
    exact key_is ok (m.tup k hk)
  · unfold rawM
    rw [List.map_map]
    have e : ((fun x : List Leaf × Addr × Value => x.1) ∘ fun k : MK × Addr => (kM k.1, k.2, Value.bool true)) = kM ∘ (fun k : MK × Addr => k.1) := rfl
    rw [e, ← List.map_map]
    exact K2.nodup_map_of _ _ m.nd fun a _ b _ e => kM_inj e
theorem atM (ks : List (MK × Addr)) (k : MK) : (atKey (rawM ks) (kM k)).isSome = decide (k ∈ ks.map (·.1)) := by
  unfold atKey rawM
  induction ks with
  | nil => rfl
  | cons x ks ih =>
    rw [List.map_cons, List.find?_cons]
    by_cases e : x.1 = k
    · subst e
      simp
    · have e' : decide (kM x.1 = kM k) = false := decide_eq_false fun z => e (kM_inj z)
      simp only [e']
      rw [ih]
      simp [Ne.symm e]
theorem storedM {ks : List (MK × Addr)} {k : MK} (h : k ∉ ks.map (·.1)) (b : Addr) : storedH (rawM ks) (kM k) b (.bool true) = rawM (ks ++ [(k, b)]) := by
  have z := atM ks k
  rw [decide_eq_false h] at z
  rw [storedH_new (Option.not_isSome_iff_eq_none.mp (by rw [z]; decide))]
  unfold rawM
  rw [List.map_append]
  rfl
end
section
variable {X : Cx}
/-- {k: True} -/
def tMDisp (P : Program) (w : World) (tk tv : TE) : TE := fun σ H Q => ∀ p, H p = none → tk σ (upd H p (metO P w p [])) fun x H1 => tv σ H1 fun y H2 => H2 p = some (metO P w p []) ∧ y = .bl true ∧
  ∃ b k, x = .ref b ∧ H2 b = some (.tup [.str k.1, .bl k.2]) ∧ Q (.ref p) (upd H2 p (metO P w p [(k, b)]))
def qM (P : Program) (w : World) (p : Addr) (Q : VK) : List (V × V) → Hp → Prop
  | [(x, y)], H2 => H2 p = some (metO P w p []) ∧ y = .bl true ∧ ∃ b k, x = .ref b ∧ H2 b = some (.tup [.str k.1, .bl k.2]) ∧ Q (.ref p) (upd H2 p (metO P w p [(k, b)]))
  | _, _ => False
theorem pe_mdisp {k v : Expr} {tk tv : TE} {pos : Pos} (hu : X.A.units < cLine) (hk : PE X k tk) (hv : PE X v tv) : PE X (.Dict [some k] [v] pos) (tMDisp X.prog X.w tk tv) := by
  refine ⟨fun pins s σ H Q I h => ?_⟩
  have hn := I.hok.fresh (Nat.le_refl s.heap.objs.size)
  have hm : (s.heap.objs.size == sysModules) = false := beq_eq_false_iff_ne.mpr (Nat.ne_of_gt I.big)
  have new : (s.heap.push { cls := .type "dict", data := .dict #[] }).DictOfH (kd X.prog X.w) s.heap.objs.size (rawM []) := Heap.DictOfH.new s.heap
  have I1 := I.laid (a := s.heap.objs.size) (o := metO X.prog X.w s.heap.objs.size []) (h' := s.heap.push { cls := .type "dict", data := .dict #[] }) (t' := s.toks) (fun _ _ q => Heap.get?_push_of_some _ q) (Nat.le_refl _) (met_ok hm new)
  have hs := zip_pairTrees [some k] [v] X.env pos rfl rfl
  rw [arm_eval_Dict, hs, dictDisplay_pairs (pairTrees [some k] [v] X.env pos) (fun z => by have := pairTrees_length [some k] [v] X.env pos rfl rfl; rw [z] at this; cases this) (by rw [pairTrees_length [some k] [v] X.env pos rfl rfl]; show 1 < 17; decide)]
  refine wpAny_bind (wpAny_standAt (wpAny_bind (wpAny_subDictH (knd := kd X.prog X.w) (show (kd X.prog X.w).room X.A from hu) (by rw [pairTrees_length [some k] [v] X.env pos rfl rfl]; show 1 ≤ 15; decide) ?_)))
  refine thn ((pps_cons hk hv pps_nil).run pins _ σ _ (qM X.prog X.w s.heap.objs.size Q) I1 (h s.heap.objs.size hn)) fun ws s2 ⟨ps, H2, I2, rel, q⟩ => ?_
  match ps, rel, q with
  | [(x, y)], rel, q =>
    obtain ⟨e1, e2, b, kk, ex, eb, q9⟩ := (show H2 s.heap.objs.size = some (metO X.prog X.w s.heap.objs.size []) ∧ y = .bl true ∧ ∃ b k, x = .ref b ∧ H2 b = some (.tup [.str k.1, .bl k.2]) ∧ Q (.ref s.heap.objs.size) (upd H2 s.heap.objs.size (metO X.prog X.w s.heap.objs.size [(k, b)])) from q)
    subst ex e2
    cases rel with
    | @cons _ pr _ _ r1 r2 =>
    cases r2
    obtain ⟨u, v'⟩ := pr
    obtain rfl : u = Value.ref b := r1.1
    obtain rfl : v' = Value.bool true := r1.2
    obtain ⟨hd, dd⟩ := met_at (P := X.prog) (w := X.w) I2.hok ⟨e1, fun k hk => absurd hk List.not_mem_nil, List.nodup_nil⟩
    refine ⟨[(kM kk, b, .bool true)], ⟨rfl, rfl, key_is I2.hok eb, trivial⟩, dd, fun h' tk dd' hs' => wpAny_pure ?_⟩
    have he : ∃ q, h'.get? s.heap.objs.size = some q := let ⟨q, _, _, hq, _⟩ := dd'; ⟨q, hq⟩
    exact ⟨.ref s.heap.objs.size, _, d_write I2 (by rw [e1]; exact True.intro) hs' he (met_ok hd (show h'.DictOfH (kd X.prog X.w) _ (rawM [(kk, b)]) from dd')), rfl, q9⟩
/-- k not in d -/
def rNotInM (P : Program) (w : World) : R2 := fun x y H Q => ∃ b D k ks, x = .ref b ∧ y = .ref D ∧ H b = some (.tup [.str k.1, .bl k.2]) ∧ MetAt P w H D ks ∧ Q (.bl (!decide (k ∈ ks.map (·.1)))) H
theorem op_notInM (hu : X.A.units + 1 < cLine) : OpR X (compareOp .NotIn) (rNotInM X.prog X.w) := by
  rintro pins s σ H x y v u Q I rx ry ⟨b, D, k, ks, rfl, rfl, eb, m, q⟩
  obtain rfl : v = Value.ref b := rx
  obtain rfl : u = Value.ref D := ry
  obtain ⟨hd, dd⟩ := met_at I.hok m
  refine wpAny_notIn_heap (tupleKind_room_in1 hu) (key_is I.hok eb) hd dd ?_
  rw [atM]
  exact ⟨.bl (!decide (k ∈ ks.map (fun x : MK × Addr => x.1))), H, I.tok _, rfl, q⟩
/-- d[k] = True, k not in d -/
def sMPut (P : Program) (w : World) (td ty tv : TE) : TS := fun E σ H => tv σ H fun v H1 => td σ H1 fun x H2 => ty σ H2 fun y H3 => ∃ b D k ks, v = .bl true ∧ x = .ref D ∧ y = .ref b ∧ H3 b = some (.tup [.str k.1, .bl k.2]) ∧ MetAt P w H3 D ks ∧ k ∉ ks.map (·.1) ∧ ks.length ≤ 1000 ∧ E.nx σ (upd H3 D (metO P w D (ks ++ [(k, b)])))
theorem ps_mput {o i value : Expr} {pos pos' : Pos} {td ty tv : TE} (hu : X.A.units + 1 < cLine) (ho : PE X o td) (hi : PE X i ty) (hv : PE X value tv) (hs : swapsWith value (some (.Subscript o i pos')) pos.line X.env = pure false) :
    PS X (.Assign [.Subscript o i pos'] value pos) (sMPut X.prog X.w td ty tv) := by
  refine ⟨fun pins s σ H E I h => ?_⟩
  refine wpAny_Assign_Subscript (thn (hv.run pins s σ H _ I h) fun r s1 ⟨v, H1, I1, rv, q1⟩ => thn (ho.run pins s1 σ H1 _ I1 q1) fun u s2 ⟨x, H2, I2, rx, q2⟩ => thn (hi.run pins s2 σ H2 _ I2 q2) fun iv s3 ⟨y, H3, I3, ry, b, D, k, ks, ev, ex, ey, eb, m, nk, lk, q3⟩ => ?_) hs
  subst ev ex ey
  obtain rfl : u = Value.ref D := rx
  obtain rfl : iv = Value.ref b := ry
  obtain rfl : r = Value.bool true := rv
  obtain ⟨hd, dd⟩ := met_at I3.hok m
  refine wpAny_setItem_heap (hsz := by unfold rawM; rw [List.length_map, sizeLine_eq]; omega) (tupleKind_room_in1 hu) (key_is I3.hok eb) dd fun h' dd' hs' => ?_
  rw [storedM nk] at dd'
  have he : ∃ q, h'.get? D = some q := let ⟨q, _, _, hq, _⟩ := dd'; ⟨q, hq⟩
  exact ⟨σ, _, d_write I3 (by rw [m.at_]; exact True.intro) hs' he (met_ok hd dd'), q3⟩
end
theorem met_more {P : Program} {w : World} {H : Hp} {D b : Addr} {k : MK} {ks : List (MK × Addr)} (m : MetAt P w H D ks) (eb : H b = some (.tup [.str k.1, .bl k.2])) (nk : k ∉ ks.map (·.1)) : MetAt P w (upd H D (metO P w D (ks ++ [(k, b)]))) D (ks ++ [(k, b)]) := by
  have ne : ∀ {c : Addr} {xs : List V}, H c = some (.tup xs) → c ≠ D := fun {c xs} e z => by
    rw [z, m.at_] at e
    have e' : HO.ext _ = HO.tup xs := Option.some.inj e
    cases e'
  refine ⟨upd_same, fun x hx => ?_, ?_⟩
  · rcases List.mem_append.mp hx with hx | hx
    · rw [upd_ne (ne (m.tup x hx))]
      exact m.tup x hx
    · obtain rfl := List.mem_singleton.mp hx
      rw [upd_ne (ne eb)]
      exact eb
  · rw [List.map_append, List.nodup_append]
    refine ⟨m.nd, by simp, fun a ha b' hb e => ?_⟩
    rw [List.mem_singleton.mp hb] at e
    have e : a = k := e
    subst e
    exact nk ha
end NC

set_option Elab.async false
set_option linter.all false
set_option maxRecDepth 100000
set_option maxHeartbeats 4000000
/-! the shortest way, as the program seeks it: layer by layer -/
namespace K2
variable {α : Type} [DecidableEq α]
/-- a way so far, its mark -/
abbrev Pt (α : Type) := List α × Bool
/-- what a turn holds: a way that was found, or what is met and the next layer -/
inductive Tn (α : Type) where
  | hit (p : List α)
  | on (met : List (α × Bool)) (later : List (Pt α))
def goal (last : α) (strict : Bool) (v : α) (m : Bool) : Bool := decide (v = last) && (m || !strict)
/-- one fact at the end of one way -/
def tFact (last : α) (strict : Bool) (pt : Pt α) (s : Tn α) (f : Fact α) : Tn α := match s with
  | .hit p => .hit p
  | .on met later =>
    if some f.1 = pt.1.getLast? then
      if goal last strict f.2.2 (pt.2 || f.2.1) = true then .hit (pt.1 ++ [f.2.2])
      else if (f.2.2, pt.2 || f.2.1) ∈ met then .on met later
      else .on (met ++ [(f.2.2, pt.2 || f.2.1)]) (later ++ [(pt.1 ++ [f.2.2], pt.2 || f.2.1)])
    else .on met later
def tPt (F : List (Fact α)) (last : α) (strict : Bool) (s : Tn α) (pt : Pt α) : Tn α := F.foldl (tFact last strict pt) s
def tLayer (F : List (Fact α)) (last : α) (strict : Bool) (layer : List (Pt α)) (met : List (α × Bool)) : Tn α := layer.foldl (tPt F last strict) (.on met [])
def bfs (F : List (Fact α)) (last : α) (strict : Bool) : Nat → List (Pt α) → List (α × Bool) → Option (List α)
  | 0, _, _ => none
  | n + 1, layer, met => if layer = [] then none else match tLayer F last strict layer met with
    | .hit p => some p
    | .on met' later => bfs F last strict n later met'
/-- way_in, not long -/
def wayIn (n : Nat) (F : List (Fact α)) (first last : α) (strict : Bool) : Option (List α) :=
  if first = last ∧ strict = false then some [first] else bfs F last strict (2 * n + 1) [([first], false)] [(first, false)]
def wayM (n : Nat) (F : List (Fact α)) (a b : α) : Option (List α) := match wayIn n F a b true with
  | some p => some p
  | none => wayIn n F a b false
theorem tFact_hit (last : α) (strict : Bool) (pt : Pt α) (p : List α) (f : Fact α) : tFact last strict pt (.hit p) f = .hit p := rfl
theorem tPt_hit (F : List (Fact α)) (last : α) (strict : Bool) (p : List α) (pt : Pt α) : tPt F last strict (.hit p) pt = .hit p := by
  unfold tPt
  induction F with
  | nil => rfl
  | cons f F ih => exact ih

/-! ### ways over facts -/
/-- the pairs of neighbours of p are facts; m: whether one that was taken is ahead -/
inductive Ch (F : List (Fact α)) : α → List α → Bool → Prop
  | one (x : α) : Ch F x [x] false
  | more {x y z : α} {p : List α} {m w : Bool} (c : Ch F x p m) (e : p.getLast? = some y) (h : (y, w, z) ∈ F) : Ch F x (p ++ [z]) (m || w)
theorem Ch.ne {F : List (Fact α)} {x : α} {p : List α} {m : Bool} (c : Ch F x p m) : p ≠ [] := by
  cases c with
  | one => simp
  | more => simp
theorem Ch.head {F : List (Fact α)} {x : α} {p : List α} {m : Bool} (c : Ch F x p m) : p.head? = some x := by
  induction c with
  | one => rfl
  | @more y z p m w c e h ih =>
    cases p with
    | nil => exact absurd rfl c.ne
    | cons a p => simpa using ih
theorem Ch.step {F : List (Fact α)} {x : α} {p : List α} {m : Bool} (c : Ch F x p m) : ∀ i a b, p[i]? = some a → p[i + 1]? = some b → ∃ w, (a, w, b) ∈ F := by
  induction c with
  | one => intro i a b _ h; simp at h
  | @more y z p m w c e h ih =>
    intro i a b h1 h2
    have li : i + 1 < (p ++ [z]).length := (List.getElem?_eq_some_iff.mp h2).1
    rw [List.length_append, List.length_singleton] at li
    by_cases lt : i + 1 < p.length
    · rw [List.getElem?_append_left (by omega)] at h1
      rw [List.getElem?_append_left lt] at h2
      exact ih i a b h1 h2
    · have e1 : i + 1 = p.length := by omega
      rw [List.getElem?_append_left (by omega)] at h1
      rw [List.getElem?_append_right (by omega), e1, Nat.sub_self] at h2
      have e2 : z = b := by simpa using h2
      rw [List.getLast?_eq_getElem?, ← e1, Nat.add_sub_cancel] at e
      have e3 : a = y := Option.some.inj (h1.symm.trans e)
      subst e2 e3
      exact ⟨w, h⟩
/-- a marked way has an ahead step -/
theorem Ch.strict {F : List (Fact α)} {x : α} {p : List α} {m : Bool} (c : Ch F x p m) (hm : m = true) : ∃ i a b, p[i]? = some a ∧ p[i + 1]? = some b ∧ (a, true, b) ∈ F := by
  induction c with
  | one => cases hm
  | @more y z p m w c e h ih =>
    cases m with
    | true =>
      obtain ⟨i, a, b, h1, h2, h3⟩ := ih rfl
      have l2 := (List.getElem?_eq_some_iff.mp h2).1
      exact ⟨i, a, b, by rw [List.getElem?_append_left (by omega)]; exact h1, by rw [List.getElem?_append_left l2]; exact h2, h3⟩
    | false =>
      have hw : w = true := hm
      subst hw
      have l0 : 0 < p.length := List.length_pos_iff.mpr c.ne
      rw [List.getLast?_eq_getElem?] at e
      exact ⟨p.length - 1, y, z, by rw [List.getElem?_append_left (by omega)]; exact e, by rw [List.getElem?_append_right (by omega)]; simp [show p.length - 1 + 1 - p.length = 0 by omega], h⟩
theorem Ch.wk {F : List (Fact α)} {x : α} {p : List α} {m : Bool} (c : Ch F x p m) : ∀ y, p.getLast? = some y → Wk F x m y := by
  induction c with
  | one => intro y h; obtain rfl := Option.some.inj h; exact Wk.nil _
  | @more y z p m w c e h ih =>
    intro y' h'
    rw [List.getLast?_append] at h'
    have e' : z = y' := by simpa using h'
    subst e'
    exact (ih y e).trans (Wk.one h)
theorem Ch.last {F : List (Fact α)} {x : α} {p : List α} {m : Bool} (c : Ch F x p m) : ∃ y, p.getLast? = some y := by
  cases h : p.getLast? with
  | none => exact absurd (List.getLast?_eq_none_iff.mp h) c.ne
  | some y => exact ⟨y, rfl⟩
/-! ### the turn's invariant -/
section
variable {N : List α} {F : List (Fact α)} {first last : α} {strict : Bool} {met0 : List (α × Bool)}
def GoodT (N : List α) (F : List (Fact α)) (first last : α) (strict : Bool) (met0 : List (α × Bool)) : Tn α → Prop
  | .hit p => ∃ m, Ch F first p m ∧ p.getLast? = some last ∧ (m || !strict) = true
  | .on met later => met.Nodup ∧ (∀ k ∈ met, k.1 ∈ N) ∧ (∀ k ∈ met0, k ∈ met) ∧ (∀ k ∈ met, k ∈ met0 ∨ ∃ pt ∈ later, pt.1.getLast? = some k.1 ∧ pt.2 = k.2) ∧ (∀ pt ∈ later, Ch F first pt.1 pt.2) ∧ met.length = met0.length + later.length
theorem good_fact (hO : On N F) {pt : Pt α} (hc : Ch F first pt.1 pt.2) {f : Fact α} (hf : f ∈ F) {s : Tn α} (g : GoodT N F first last strict met0 s) : GoodT N F first last strict met0 (tFact last strict pt s f) := by
  cases s with
  | hit p => exact g
  | on met later =>
    unfold tFact
    by_cases h1 : some f.1 = pt.1.getLast?
    · simp only [if_pos h1]
      have c2 : Ch F first (pt.1 ++ [f.2.2]) (pt.2 || f.2.1) := Ch.more hc h1.symm hf
      have l2 : (pt.1 ++ [f.2.2]).getLast? = some f.2.2 := by simp
      by_cases h2 : goal last strict f.2.2 (pt.2 || f.2.1) = true
      · simp only [if_pos h2]
        unfold goal at h2
        obtain ⟨e1, e2⟩ := Bool.and_eq_true_iff.mp h2
        exact ⟨_, c2, by rw [l2, of_decide_eq_true e1], e2⟩
      · simp only [if_neg h2]
        by_cases h3 : (f.2.2, pt.2 || f.2.1) ∈ met
        · simp only [if_pos h3]
          exact g
        · simp only [if_neg h3]
          obtain ⟨g1, g2, g3, g4, g5, g6⟩ := g
          refine ⟨?_, fun k hk => ?_, fun k hk => List.mem_append_left _ (g3 k hk), fun k hk => ?_, fun q hq => ?_, ?_⟩
          · rw [List.nodup_append]
            refine ⟨g1, by simp, fun a ha b hb e => ?_⟩
            rw [List.mem_singleton.mp hb] at e
            exact h3 (e ▸ ha)
          · rcases List.mem_append.mp hk with z | z
            · exact g2 k z
            · rw [List.mem_singleton.mp z]; exact (hO f hf).2
          · rcases List.mem_append.mp hk with z | z
            · rcases g4 k z with y | ⟨q, y1, y2⟩
              · exact .inl y
              · exact .inr ⟨q, List.mem_append_left _ y1, y2⟩
            · rw [List.mem_singleton.mp z]
              exact .inr ⟨_, List.mem_append_right _ (List.mem_singleton.mpr rfl), l2, rfl⟩
          · rcases List.mem_append.mp hq with z | z
            · exact g5 q z
            · rw [List.mem_singleton.mp z]; exact c2
          · rw [List.length_append, List.length_append, List.length_singleton, List.length_singleton, g6]; omega
    · simp only [if_neg h1]
      exact g
theorem good_pt (hO : On N F) {pt : Pt α} (hc : Ch F first pt.1 pt.2) : ∀ (G : List (Fact α)), (∀ f ∈ G, f ∈ F) → ∀ {s : Tn α}, GoodT N F first last strict met0 s → GoodT N F first last strict met0 (G.foldl (tFact last strict pt) s)
  | [], _, _, g => g
  | f :: G, h, _, g => good_pt hO hc G (fun x hx => h x (List.mem_cons_of_mem _ hx)) (good_fact hO hc (h f List.mem_cons_self) g)
theorem good_layer (hO : On N F) : ∀ (L : List (Pt α)), (∀ pt ∈ L, Ch F first pt.1 pt.2) → ∀ {s : Tn α}, GoodT N F first last strict met0 s → GoodT N F first last strict met0 (L.foldl (tPt F last strict) s)
  | [], _, _, g => g
  | pt :: L, h, _, g => good_layer hO L (fun x hx => h x (List.mem_cons_of_mem _ hx)) (good_pt hO (h pt List.mem_cons_self) F (fun _ z => z) g)
/-! what is met only grows; what was looked at is closed -/
def Sub : Tn α → Tn α → Prop
  | .on m _, .on m' _ => ∀ k ∈ m, k ∈ m'
  | .hit _, .on _ _ => False
  | _, .hit _ => True
theorem Sub.refl (s : Tn α) : Sub s s := by cases s <;> first | trivial | exact fun _ z => z
theorem Sub.trans {a b c : Tn α} (h : Sub a b) (k : Sub b c) : Sub a c := by
  cases a <;> cases b <;> cases c <;> first | trivial | exact False.elim h | exact False.elim k | exact fun x z => k x (h x z)
theorem sub_fact (pt : Pt α) (s : Tn α) (f : Fact α) : Sub s (tFact last strict pt s f) := by
  cases s with
  | hit p => trivial
  | on met later =>
    unfold tFact
    dsimp only
    split
    · split
      · trivial
      · split
        · exact fun _ z => z
        · exact fun _ z => List.mem_append_left _ z
    · exact fun _ z => z
theorem sub_pt (pt : Pt α) : ∀ (G : List (Fact α)) (s : Tn α), Sub s (G.foldl (tFact last strict pt) s)
  | [], s => Sub.refl s
  | f :: G, s => (sub_fact pt s f).trans (sub_pt pt G _)
theorem sub_layer : ∀ (L : List (Pt α)) (s : Tn α), Sub s (L.foldl (tPt F last strict) s)
  | [], s => Sub.refl s
  | pt :: L, s => (sub_pt pt F s).trans (sub_layer L _)
/-- what a look at (u, m) leaves -/
def ExpT (F : List (Fact α)) (last : α) (strict : Bool) (u : α) (m : Bool) (G : List (Fact α)) : Tn α → Prop
  | .hit _ => True
  | .on met _ => ∀ w v, (u, w, v) ∈ G → goal last strict v (m || w) = false ∧ (v, m || w) ∈ met
theorem exp_sub {u : α} {m : Bool} {G : List (Fact α)} {a b : Tn α} (h : Sub a b) (e : ExpT F last strict u m G a) : ExpT F last strict u m G b := by
  cases a <;> cases b <;> first | trivial | exact False.elim h | exact fun w v z => ⟨(e w v z).1, h _ (e w v z).2⟩
theorem exp_one {pt : Pt α} {u : α} (hu : pt.1.getLast? = some u) (s : Tn α) (f : Fact α) : ExpT F last strict u pt.2 [f] (tFact last strict pt s f) := by
  cases s with
  | hit p => trivial
  | on met later =>
    obtain ⟨x, w, v⟩ := f
    unfold tFact
    dsimp only
    by_cases h1 : some x = pt.1.getLast?
    · rw [if_pos h1]
      by_cases h2 : goal last strict v (pt.2 || w) = true
      · rw [if_pos h2]; trivial
      · rw [if_neg h2]
        by_cases h3 : (v, pt.2 || w) ∈ met
        · rw [if_pos h3]
          intro w' v' hm
          have e := List.mem_singleton.mp hm
          injection e with e1 e2
          injection e2 with e2 e3
          subst e2 e3
          exact ⟨Bool.eq_false_iff.mpr h2, h3⟩
        · rw [if_neg h3]
          intro w' v' hm
          have e := List.mem_singleton.mp hm
          injection e with e1 e2
          injection e2 with e2 e3
          subst e2 e3
          exact ⟨Bool.eq_false_iff.mpr h2, List.mem_append_right _ (List.mem_singleton.mpr rfl)⟩
    · rw [if_neg h1]
      intro w' v' hm
      have e := List.mem_singleton.mp hm
      injection e with e1 e2
      exact absurd (by rw [hu, e1]) h1
theorem exp_pt {pt : Pt α} {u : α} (hu : pt.1.getLast? = some u) : ∀ (G : List (Fact α)) (s : Tn α), ExpT F last strict u pt.2 G (G.foldl (tFact last strict pt) s)
  | [], s => by
    show ExpT F last strict u pt.2 [] s
    cases s with
    | hit p => trivial
    | on met later => exact fun w v z => absurd z List.not_mem_nil
  | f :: G, s => by
    have h1 : ExpT F last strict u pt.2 [f] ((f :: G).foldl (tFact last strict pt) s) := exp_sub (sub_pt pt G _) (exp_one (F := F) hu s f)
    have h2 : ExpT F last strict u pt.2 G ((f :: G).foldl (tFact last strict pt) s) := exp_pt hu G (tFact last strict pt s f)
    revert h1 h2
    generalize (f :: G).foldl (tFact last strict pt) s = r
    intro h1 h2
    cases r with
    | hit p => trivial
    | on met later =>
      intro w v z
      rcases List.mem_cons.mp z with z | z
      · exact h1 w v (by rw [z]; exact List.mem_singleton.mpr rfl)
      · exact h2 w v z
theorem exp_layer : ∀ (L : List (Pt α)) (s : Tn α), ∀ pt ∈ L, ∀ u, pt.1.getLast? = some u → ExpT F last strict u pt.2 F (L.foldl (tPt F last strict) s)
  | q :: L, s, pt, hp, u, hu => by
    rcases List.mem_cons.mp hp with rfl | hp
    · exact exp_sub (sub_layer L _) (exp_pt (F := F) hu F s)
    · exact exp_layer L (tPt F last strict s q) pt hp u hu
end
section
variable {N : List α} {F : List (Fact α)} {first last : α} {strict : Bool}
/-- where the search stands -/
structure At (N : List α) (F : List (Fact α)) (first last : α) (strict : Bool) (layer : List (Pt α)) (met : List (α × Bool)) : Prop where
  nd : met.Nodup
  inN : ∀ k ∈ met, k.1 ∈ N
  ch : ∀ pt ∈ layer, Ch F first pt.1 pt.2
  start : (first, false) ∈ met
  look : ∀ k ∈ met, ExpT F last strict k.1 k.2 F (.on met []) ∨ ∃ pt ∈ layer, pt.1.getLast? = some k.1 ∧ pt.2 = k.2
theorem At.few {layer : List (Pt α)} {met : List (α × Bool)} (h : At N F first last strict layer met) : met.length ≤ 2 * N.length := by
  have z := len_of_sub met (N.flatMap fun x => [(x, false), (x, true)]) h.nd fun k hk => List.mem_flatMap.mpr ⟨k.1, h.inN k hk, by
    obtain ⟨x, b⟩ := k
    cases b <;> simp⟩
  have e : ∀ L : List α, (L.flatMap fun x => [(x, false), (x, true)]).length = 2 * L.length := by
    intro L
    induction L with
    | nil => rfl
    | cons x L ih => rw [List.flatMap_cons, List.length_append, ih, List.length_cons]; simp; omega
  rw [e] at z
  exact z
theorem At.good {layer : List (Pt α)} {met : List (α × Bool)} (hO : On N F) (h : At N F first last strict layer met) : GoodT N F first last strict met (tLayer F last strict layer met) :=
  good_layer hO layer h.ch (s := .on met []) ⟨h.nd, h.inN, fun _ z => z, fun k hk => .inl hk, fun pt hp => absurd hp List.not_mem_nil, rfl⟩
theorem At.next {layer later : List (Pt α)} {met met' : List (α × Bool)} (hO : On N F) (h : At N F first last strict layer met) (e : tLayer F last strict layer met = .on met' later) : At N F first last strict later met' ∧ met'.length = met.length + later.length := by
  have g := h.good hO
  have sb := sub_layer (F := F) (last := last) (strict := strict) layer (.on met [])
  have ex := exp_layer (F := F) (last := last) (strict := strict) layer (.on met [])
  have e' : layer.foldl (tPt F last strict) (.on met []) = .on met' later := e
  rw [e] at g
  rw [e'] at sb ex
  obtain ⟨g1, g2, g3, g4, g5, g6⟩ := g
  refine ⟨⟨g1, g2, g5, g3 _ h.start, fun k hk => ?_⟩, g6⟩
  rcases g4 k hk with z | z
  · left
    rcases h.look k z with y | ⟨pt, y1, y2, y3⟩
    · exact fun w v q => ⟨(y w v q).1, g3 _ (y w v q).2⟩
    · have q := ex pt y1 k.1 y2
      rw [y3] at q
      exact q
  · exact .inr z
theorem bfs_some (hO : On N F) : ∀ (n : Nat) {layer : List (Pt α)} {met : List (α × Bool)} {p : List α}, At N F first last strict layer met → bfs F last strict n layer met = some p → ∃ m, Ch F first p m ∧ p.getLast? = some last ∧ (m || !strict) = true
  | 0, _, _, _, _, e => by cases e
  | n + 1, layer, met, p, h, e => by
    unfold bfs at e
    split at e
    · cases e
    · have g := h.good hO
      cases q : tLayer F last strict layer met with
      | hit p' =>
        rw [q] at e g
        cases e
        exact g
      | on met' later =>
        rw [q] at e
        exact bfs_some hO n (h.next hO q).1 e
/-- closed under the facts, the goal nowhere -/
def Closed (F : List (Fact α)) (last : α) (strict : Bool) (M : List (α × Bool)) : Prop := ∀ k ∈ M, ExpT F last strict k.1 k.2 F (.on M [])
theorem bfs_nil (n : Nat) (met : List (α × Bool)) : bfs F last strict n [] met = none := by
  cases n with
  | zero => rfl
  | succ n => unfold bfs; rw [if_pos rfl]
theorem bfs_none (hO : On N F) : ∀ (n : Nat) {layer : List (Pt α)} {met : List (α × Bool)}, At N F first last strict layer met → (layer ≠ [] → 2 * N.length + 1 ≤ n + met.length) → bfs F last strict n layer met = none → ∃ M, (first, false) ∈ M ∧ Closed F last strict M
  | n, [], met, h, _, _ => ⟨met, h.start, fun k hk => (h.look k hk).resolve_right fun ⟨_, z, _⟩ => absurd z List.not_mem_nil⟩
  | 0, pt :: layer, met, h, c, _ => by
    have := h.few
    have := c (by simp)
    omega
  | n + 1, pt :: layer, met, h, c, e => by
    unfold bfs at e
    rw [if_neg (by simp)] at e
    have c := c (by simp)
    cases q : tLayer F last strict (pt :: layer) met with
    | hit p' => rw [q] at e; cases e
    | on met' later =>
      rw [q] at e
      obtain ⟨h', l'⟩ := h.next hO q
      refine bfs_none hO n h' (fun ne => ?_) e
      have := List.length_pos_iff.mpr ne
      omega
theorem closed_wk {M : List (α × Bool)} (hC : Closed F last strict M) {u y : α} {k : Bool} (w : Wk F u k y) : ∀ m, (u, m) ∈ M → (y, m || k) ∈ M ∧ (goal last strict y (m || k) = true → k = false ∧ u = y) := by
  induction w with
  | nil x => intro m h; exact ⟨by rwa [Bool.or_false], fun _ => ⟨rfl, rfl⟩⟩
  | @cons x y z w k e t ih =>
    intro m h
    have q := hC _ h w y e
    obtain ⟨i1, i2⟩ := ih (m || w) q.2
    rw [Bool.or_assoc] at i1 i2
    refine ⟨i1, fun g => ?_⟩
    obtain ⟨z1, z2⟩ := i2 g
    subst z1 z2
    rw [Bool.or_false] at g
    exact absurd g (by rw [q.1]; decide)
theorem at_start (hf : first ∈ N) : At N F first last strict [([first], false)] [(first, false)] where
  nd := by simp
  inN := fun k hk => by rw [List.mem_singleton.mp hk]; exact hf
  ch := fun pt hp => by rw [List.mem_singleton.mp hp]; exact Ch.one first
  start := List.mem_singleton.mpr rfl
  look := fun k hk => by
    rw [List.mem_singleton.mp hk]
    exact .inr ⟨_, List.mem_singleton.mpr rfl, rfl, rfl⟩
theorem wayIn_some (hO : On N F) (hf : first ∈ N) {p : List α} (e : wayIn N.length F first last strict = some p) : ∃ m, Ch F first p m ∧ p.getLast? = some last ∧ (m || !strict) = true := by
  unfold wayIn at e
  split at e
  · next h =>
    cases e
    exact ⟨false, Ch.one first, by rw [h.1]; rfl, by rw [h.2]; rfl⟩
  · exact bfs_some hO _ (at_start hf) e
theorem wayIn_none (hO : On N F) (hf : first ∈ N) (e : wayIn N.length F first last strict = none) {m : Bool} (w : Wk F first m last) : (m || !strict) = false := by
  refine Bool.eq_false_iff.mpr fun g => ?_
  unfold wayIn at e
  split at e
  · cases e
  · next h =>
    obtain ⟨M, h1, h2⟩ := bfs_none hO _ (at_start hf) (fun _ => by simp) e
    obtain ⟨_, i2⟩ := closed_wk h2 w false h1
    rw [Bool.false_or] at i2
    obtain ⟨rfl, rfl⟩ := i2 (by unfold goal; rw [decide_eq_true rfl, g]; rfl)
    rw [Bool.false_or] at g
    exact h ⟨rfl, by simpa using g⟩
end
section
variable {N : List α} {F : List (Fact α)} {w0 : α → Int} (hO : On N F) (hw : Sat w0 F) {x y : α} (hx : x ∈ N) (hy : y ∈ N)
include hO hw hx hy
theorem wk_lev {m : Bool} (k : Wk F x m y) : 0 < lev N F x y ∧ (m = true → 1 < lev N F x y) := by
  refine ⟨Classical.byContradiction fun h => ?_, fun hm => Classical.byContradiction fun h => ?_⟩
  · obtain ⟨v, hv, lt⟩ := miss_le hO hw hx hy h
    have := (k.sat hv).1
    omega
  · obtain ⟨v, hv, le⟩ := miss_lt hO hw hx hy h
    have := (k.sat hv).2 hm
    omega
/-- what way gives -/
theorem wayM_spec : (lev N F x y = 0 → wayM N.length F x y = none) ∧ (0 < lev N F x y → ∃ p m, wayM N.length F x y = some p ∧ Ch F x p m ∧ p.getLast? = some y ∧ (m = true ↔ lev N F x y = 2)) := by
  have B := Borne.lev N F
  have b2 := B.hi x y
  refine ⟨fun h0 => ?_, fun h0 => ?_⟩
  · have none_of : ∀ s, wayIn N.length F x y s = none := fun s => by
      cases e : wayIn N.length F x y s with
      | none => rfl
      | some p =>
        obtain ⟨m, c, l, _⟩ := wayIn_some hO hx e
        have := (wk_lev hO hw hx hy (c.wk y l)).1
        omega
    unfold wayM
    rw [none_of, none_of]
  · unfold wayM
    cases e : wayIn N.length F x y true with
    | some p =>
      obtain ⟨m, c, l, g⟩ := wayIn_some hO hx e
      have hm : m = true := by simpa using g
      have := (wk_lev hO hw hx hy (c.wk y l)).2 hm
      exact ⟨p, m, rfl, c, l, fun _ => by omega, fun _ => hm⟩
    | none =>
      have no2 : ¬ 1 < lev N F x y := fun h => by
        have z := wayIn_none hO hx e (B.two x y h)
        cases z
      cases e2 : wayIn N.length F x y false with
      | none =>
        obtain ⟨m, k⟩ := B.one x y h0
        have z := wayIn_none hO hx e2 k
        simp at z
      | some p =>
        obtain ⟨m, c, l, _⟩ := wayIn_some hO hx e2
        refine ⟨p, m, rfl, c, l, fun hm => ?_, fun h2 => by omega⟩
        exact absurd ((wk_lev hO hw hx hy (c.wk y l)).2 hm) no2
end
end K2

set_option Elab.async false
set_option linter.all false
set_option maxRecDepth 100000
set_option maxHeartbeats 4000000
namespace NC
open PySem L2
/-! ### way_in -/
abbrev sWayIn : Stmt := top 24
/-- what a way that is sought leaves -/
def wayR (K : PySem.W.Frag) (H : Hp) (Q : VK) : Option (List Str) → Prop
  | none => ∀ H', Same H H' → Q .non H'
  | some p => ∀ H' q, Same H H' → SqT K H' q (p.map V.str) → Q (.ref q) H'
def spWayIn (K : PySem.W.Frag) : Sp := fun vs H Q _ => ∃ (p : Addr) (n : Nat) (F : List Fc) (x y : Str) (s : Bool), vs = [.ref p, .str x, .str y, .bl s, .bl false] ∧ FrAt K H p (nms n) F ∧ n ≤ 7 ∧ K2.On (nms n) F ∧ x ∈ nms n ∧ y ∈ nms n ∧
  wayR K H Q (K2.wayIn n F x y s)
theorem scWayIn : FnScope ["frame", "first", "last", "is_strict", "is_long", "layer", "met", "later", "way_so_far", "was_strict", "one", "word", "other", "mark"] ["frame", "first", "last", "is_strict", "is_long"] (defScope sWayIn) := ⟨rfl, rfl, rfl, by decide +kernel, rfl, by decide +kernel, by decide +kernel⟩
/-! the layers in the heap -/
def PtAt (K : PySem.W.Frag) (H : Hp) (a : Addr) (pt : K2.Pt Str) : Prop := ∃ q, SqT K H a [.ref q, .bl pt.2] ∧ SqT K H q (pt.1.map V.str)
structure LayerAt (K : PySem.W.Frag) (H : Hp) (L : Addr) (layer : List (K2.Pt Str)) : Prop where
  ex : ∃ as : List Addr, H L = some (.lst (as.map V.ref)) ∧ Paired (PtAt K H) as layer
def NT (o : HO) : Prop := (∀ ys, o ≠ .tup ys) ∧ ∀ ob u, o ≠ .frz ob u
theorem sqT_at {K : PySem.W.Frag} {H : Hp} {D a : Addr} {o o' : HO} {xs : List V} (h : SqT K H a xs) (e : H D = some o') (nt : NT o') : SqT K (upd H D o) a xs := by
  rcases h with (h | ⟨ob, h⟩) | h
  · refine .inl (.inl ?_)
    rw [upd_ne fun z => by rw [z, e] at h; exact nt.1 _ (Option.some.inj h)]
    exact h
  · refine .inl (.inr ⟨ob, ?_⟩)
    rw [upd_ne fun z => by rw [z, e] at h; exact nt.2 _ _ (Option.some.inj h)]
    exact h
  · exact .inr h
theorem nt_met {P : Program} {w : World} {D : Addr} {ks : List (MK × Addr)} : NT (metO P w D ks) := by
  constructor
  · intro ys z
    have z' : HO.ext _ = HO.tup ys := z
    cases z'
  · intro ob u z
    have z' : HO.ext _ = HO.frz ob u := z
    cases z'
theorem nt_lst {xs : List V} : NT (.lst xs) := by
  constructor
  · intro ys z
    cases z
  · intro ob u z
    cases z
theorem LayerAt.kept {K : PySem.W.Frag} {H H' : Hp} {L : Addr} {layer : List (K2.Pt Str)} (h : LayerAt K H L layer) (k : ∀ a xs, SqT K H a xs → SqT K H' a xs) (e : H' L = H L) : LayerAt K H' L layer := by
  obtain ⟨as, h1, h2⟩ := h.ex
  exact ⟨as, e.trans h1, Paired.imp (fun a pt ⟨q, z1, z2⟩ => ⟨q, k _ _ z1, k _ _ z2⟩) h2⟩
theorem MetAt.new {P : Program} {w : World} {H : Hp} {D q : Addr} {ks : List (MK × Addr)} {o : HO} (m : MetAt P w H D ks) (n : H q = none) : MetAt P w (upd H q o) D ks :=
  ⟨by rw [upd_ne (ne_of_none m.at_ n)]; exact m.at_, fun k hk => by rw [upd_ne (ne_of_none (m.tup k hk) n)]; exact m.tup k hk, m.nd⟩
theorem MetAt.other {P : Program} {w : World} {H : Hp} {D L : Addr} {ks : List (MK × Addr)} {o : HO} {xs : List V} (m : MetAt P w H D ks) (e : H L = some (.lst xs)) : MetAt P w (upd H L o) D ks := by
  have n1 : D ≠ L := fun z => by
    have h := m.at_
    rw [z, e] at h
    have h' : HO.lst xs = HO.ext _ := Option.some.inj h
    cases h'
  exact ⟨by rw [upd_ne n1]; exact m.at_, fun k hk => by rw [upd_ne (ne_of (m.tup k hk) e (fun z => nomatch z))]; exact m.tup k hk, m.nd⟩
structure LA (K : PySem.W.Frag) (H : Hp) (L : Addr) (as : List Addr) (layer : List (K2.Pt Str)) : Prop where
  at_ : H L = some (.lst (as.map V.ref))
  each : Paired (PtAt K H) as layer
theorem LA.kept {K : PySem.W.Frag} {H H' : Hp} {L : Addr} {as : List Addr} {layer : List (K2.Pt Str)} (h : LA K H L as layer) (k : ∀ a xs, SqT K H a xs → SqT K H' a xs) (e : H' L = H L) : LA K H' L as layer :=
  ⟨e.trans h.at_, Paired.imp (fun a pt ⟨q, z1, z2⟩ => ⟨q, k _ _ z1, k _ _ z2⟩) h.each⟩
structure WS (P : Program) (w : World) (K : PySem.W.Frag) (H0 H : Hp) (L D M : Addr) (as bs : List Addr) (layer later : List (K2.Pt Str)) (ks : List (MK × Addr)) : Prop where
  same : Same H0 H
  nD : H0 D = none
  nM : H0 M = none
  ne : L ≠ M
  la : LA K H L as layer
  lb : LA K H M bs later
  mt : MetAt P w H D ks
section
variable {P : Program} {w : World} {K : PySem.W.Frag} {H0 H : Hp} {L D M q b a : Addr} {as bs : List Addr} {layer later : List (K2.Pt Str)} {ks : List (MK × Addr)} {o : HO}
theorem WS.new (W : WS P w K H0 H L D M as bs layer later ks) (n : H q = none) : WS P w K H0 (upd H q o) L D M as bs layer later ks :=
  ⟨sameU W.same n, W.nD, W.nM, W.ne, W.la.kept (fun a xs z => sameT (sameN n) z) (upd_ne (ne_of_none W.la.at_ n)), W.lb.kept (fun a xs z => sameT (sameN n) z) (upd_ne (ne_of_none W.lb.at_ n)), W.mt.new n⟩
theorem WS.put {k : MK} (W : WS P w K H0 H L D M as bs layer later ks) (eb : H b = some (.tup [.str k.1, .bl k.2])) (nk : k ∉ ks.map (·.1)) : WS P w K H0 (upd H D (metO P w D (ks ++ [(k, b)]))) L D M as bs layer later (ks ++ [(k, b)]) := by
  have ne : ∀ {c : Addr} {xs : List V}, H c = some (.lst xs) → c ≠ D := fun {c xs} e z => by
    rw [z, W.mt.at_] at e
    have e' : HO.ext _ = HO.lst xs := Option.some.inj e
    cases e'
  exact ⟨sameD W.same W.nD, W.nD, W.nM, W.ne, W.la.kept (fun a xs z => sqT_at z W.mt.at_ nt_met) (upd_ne (ne W.la.at_)), W.lb.kept (fun a xs z => sqT_at z W.mt.at_ nt_met) (upd_ne (ne W.lb.at_)), met_more W.mt eb nk⟩
theorem WS.app {pt : K2.Pt Str} (W : WS P w K H0 H L D M as bs layer later ks) (hp : PtAt K H a pt) : WS P w K H0 (upd H M (.lst (bs.map V.ref ++ [.ref a]))) L D M as (bs ++ [a]) layer (later ++ [pt]) ks := by
  have k : ∀ c xs, SqT K H c xs → SqT K (upd H M (.lst (bs.map V.ref ++ [.ref a]))) c xs := fun c xs z => sqT_at z W.lb.at_ nt_lst
  refine ⟨sameD W.same W.nM, W.nD, W.nM, W.ne, W.la.kept k (upd_ne W.ne), ⟨?_, ?_⟩, W.mt.other W.lb.at_⟩
  · rw [upd_same, List.map_append]
    rfl
  · exact P_app (Paired.imp (fun c x ⟨q, z1, z2⟩ => ⟨q, k _ _ z1, k _ _ z2⟩) W.lb.each) (.cons (let ⟨q, z1, z2⟩ := hp; ⟨q, k _ _ z1, k _ _ z2⟩) .nil)
end
section
variable {P : Program} {w : World} {K : PySem.W.Frag} {mg : Str → Option Value} {base : Heap}
theorem last_at {p : List Str} {u : Str} (h : p.getLast? = some u) : atI (p.map V.str) (-1) = some (.str u) := by
  obtain ⟨q, rfl⟩ := List.getLast?_eq_some_iff.mp h
  rw [List.map_append]
  exact atI_last _ _
theorem pick {c s : Bool} {A B C : Prop} (hC : (if (!s) = true then A else B) → C) (ha : c = true → s = false → A) (hb : (c = true → s = true) → B) : if c = true then C else (if false = true then A else B) := by
  cases c with
  | true =>
    cases s with
    | false => exact hC (ha rfl rfl)
    | true => exact hC (hb fun _ => rfl)
  | false => exact hb fun z => by cases z
theorem dec_str (a b : Str) : decide (V.str a = V.str b) = decide (a = b) := decide_eq_decide.mpr ⟨fun z => by injection z, fun z => by rw [z]⟩
theorem dec_wd (b : Bool) : decide (V.str (wd b) = V.str "ahead") = b := by cases b <;> decide +kernel
theorem fold_hit {F : List Fc} {y : Str} {st : Bool} {pt : K2.Pt Str} {S : K2.Tn Str} {p : List Str} (j : Nat) (h : (F.take j).foldl (K2.tFact y st pt) S = .hit p) : F.foldl (K2.tFact y st pt) S = .hit p := by
  rw [← List.take_append_drop j F, List.foldl_append, h]
  exact K2.tPt_hit (F.drop j) y st p pt
theorem lay_hit {F : List Fc} {y : Str} {st : Bool} {layer : List (K2.Pt Str)} {pt : K2.Pt Str} {S : K2.Tn Str} {p : List Str} {i : Nat} (e : layer[i]? = some pt) (h : K2.tPt F y st ((layer.take i).foldl (K2.tPt F y st) S) pt = .hit p) : layer.foldl (K2.tPt F y st) S = .hit p := by
  have key : ∀ l : List (K2.Pt Str), l.foldl (K2.tPt F y st) (.hit p) = .hit p := by
    intro l
    induction l with
    | nil => rfl
    | cons a l ih => rw [List.foldl_cons, K2.tPt_hit]; exact ih
  rw [← List.take_append_drop (i + 1) layer, List.foldl_append, foldl_take _ _ e, h]
  exact key _
theorem good_few {N : List Str} {F : List Fc} {x y : Str} {st : Bool} {met0 met : List MK} {later : List (K2.Pt Str)} (g : K2.GoodT N F x y st met0 (.on met later)) : met.length ≤ 2 * N.length := by
  have z := K2.len_of_sub met (N.flatMap fun x => [(x, false), (x, true)]) g.1 fun k hk => List.mem_flatMap.mpr ⟨k.1, g.2.1 k hk, by
    obtain ⟨x, b⟩ := k
    cases b <;> simp⟩
  have e : ∀ L : List Str, (L.flatMap fun x => [(x, false), (x, true)]).length = 2 * L.length := by
    intro L
    induction L with
    | nil => rfl
    | cons x L ih => rw [List.flatMap_cons, List.length_append, ih, List.length_cons]; simp; omega
  rw [e] at z
  exact z
theorem ch_in {N : List Str} {F : List Fc} (hO : K2.On N F) {x : Str} (hx : x ∈ N) {p : List Str} {m : Bool} (c : K2.Ch F x p m) : ∀ z ∈ p, z ∈ N := by
  induction c with
  | one => intro z hz; rw [List.mem_singleton.mp hz]; exact hx
  | @more y z p m w c e h ih =>
    intro u hu
    rcases List.mem_append.mp hu with hu | hu
    · exact ih u hu
    · rw [List.mem_singleton.mp hu]; exact (hO _ h).2
/-! a layer as data -/
def pD (pt : K2.Pt Str) : PyData := .tuple [sD pt.1, .bool pt.2]
theorem dp_pt {K : PySem.W.Frag} {H : Hp} : ∀ {as : List Addr} {layer : List (K2.Pt Str)}, Paired (PtAt K H) as layer → DpAll K H (as.map V.ref) (layer.map pD)
  | _, _, .nil => .nil
  | _, _, .cons ⟨q, z1, z2⟩ t => .cons (.tup z1 (.cons (dp_s z2) (.cons (.bl _) .nil))) (dp_pt t)
theorem shaped_l {layer : List (K2.Pt Str)} (h : ∀ pt ∈ layer, ∀ x ∈ pt.1, PyData.strOk x = true) : SeqAt.shaped (.list (layer.map pD)) = true := shaped_of (lay_map pD layer fun pt hp => by
    show (PyData.canLayAll0 (pt.1.map .str) && (true && true)) = true
    rw [lay_map PyData.str pt.1 fun x hx => h pt hp x hx]
    rfl) (by
  show PyData.depthAll (layer.map pD) + 1 ≤ 64
  have := depth_map pD 2 layer fun pt hp => by
    show max (PyData.depthAll (pt.1.map .str) + 1) (max 0 0) + 1 ≤ 2
    have := depth_map PyData.str 0 pt.1 fun _ _ => Nat.le_refl _
    omega
  omega)
theorem eqv_lnil (layer : List (K2.Pt Str)) : PyData.eqv (.list (layer.map pD)) (.list []) = decide (layer = []) := by
  cases layer <;> rfl
theorem df_wayIn (T : Txt K mg) (S : Std K mg "way_in" sWayIn) : Df P w K mg base CX0 "way_in" ["frame", "first", "last", "is_strict", "is_long"] 1 (spWayIn K) := by
  refine S.df (fun _ _ _ _ _ _ us hl => match us, hl with | [_, _, _, _, _], _ => rfl) fun f fd F => F.ok scWayIn (fun vs H Q E h => ?_) (fun cdv A outer s H vs Q E hr h => ?_)
  · obtain ⟨p, n, F, x, y, s, rfl, _⟩ := h
    rfl
  · obtain ⟨p, n, F, x, y, st, rfl, hF, h7, hO, hx, hy, k⟩ := h
    have nd := scWayIn.nd
    have hu := rm1 hr
    have hu0 := rm0 hr
    obtain ⟨tA, cA⟩ := T.cAH
    obtain ⟨pn, pf, fs, h1, h2, h3⟩ := hF.ex
    refine ⟨_, pss_cons (ps_set (i := 5) nd rfl (.inl rfl) (pe_lst (pa_cons (pe_tup (pa_cons (pe_tup (pa_cons (pv 1) pa_nil)) (pa_cons pe_bl pa_nil))) pa_nil)))
      (pss_cons (ps_set (i := 6) nd rfl (.inl rfl) (pe_ifExp (pt_not (pt_val (pv 4))) (pe_mdisp hu0 (pe_tup (pa_cons (pv 1) (pa_cons pe_bl pa_nil))) pe_bl) pe_dnewT))
      (pss_cons (ps_if (PW.pt (pw_and (pt_not (pt_val (pv 4))) (pw_and (pt_cmpR op_eq (pv 1) (pv 2) (nomark _)) (pw_and1 (pt_not (pt_val (pv 3))))))) (pss_one (ps_ret (pe_tup (pa_cons (pv 1) pa_nil)))) pss_nil)
      (pss_cons (ps_while PassesOwn.never (pt_cmpR (op_neD (rm64 hr)) (pv 5) (pe_lst pa_nil) (nomark _))
        (pss_cons (ps_set (i := 7) nd rfl (.inl rfl) (pe_lst pa_nil))
        (pss_cons (ps_for PassesOwn.never rfl (pi_list (pv 5)) (pg_tup rfl (pgs_cons (pg_name (i := 8) nd rfl (.inl rfl)) (pgs_cons (pg_name (i := 9) nd rfl (.inl rfl)) pgs_nil)))
          (pss_one (ps_for PassesOwn.never rfl (pi_tup (pe_ix ix_tup (pv 0) pe_int (fun _ _ => rfl))) (pg_tup rfl (pgs_cons (pg_name (i := 10) nd rfl (.inl rfl)) (pgs_cons (pg_name (i := 11) nd rfl (.inl rfl)) (pgs_cons (pg_name (i := 12) nd rfl (.inl rfl)) pgs_nil))))
            (pss_one (ps_if (pt_cmpR op_eq (pv 10) (pe_ix ix_tup (pv 8) (pe_un un_neg pe_int) (fun _ _ => rfl)) (nomark _))
              (pss_cons (ps_set (i := 13) nd rfl (.inl rfl) (pe_pure (pe_or (pv 9) (pe_one (pe_cmpR op_eq (pv 11) (pe_glob (v := .str "ahead") rfl cA ⟨_, rfl⟩) (nomark _))))))
              (pss_cons (ps_if (pt_pure (PW.pt (pw_and (pt_cmpR op_eq (pv 12) (pv 2) (nomark _)) (pw_and1 (PW.pt (pw_or (pt_val (pv 13)) (pw_or1 (pt_not (pt_val (pv 3))))))))))
                (pss_one (ps_ret (pe_tup (StX.pa_star (pv 8) (pa_cons (pv 12) pa_nil))))) pss_nil)
              (pss_one (ps_if (pt_cmpR (op_notInM hu) (pe_tup (pa_cons (pv 12) (pa_cons (pv 13) pa_nil))) (pv 6) rfl)
                (pss_cons (ps_mput hu (pv 6) (pe_tup (pa_cons (pv 12) (pa_cons (pv 13) pa_nil))) pe_bl rfl)
                (pss_one (ps_expr (pe_bm PySem.F.plainAttrs_list PySem.F.slot_list_append PySem.F.type_list_append mt_append (pv 7) (pa_cons (pe_tup (pa_cons (pe_tup (StX.pa_star (pv 8) (pa_cons (pv 12) pa_nil))) (pa_cons (pv 13) pa_nil))) pa_nil))))) pss_nil))))
              pss_nil)))))
        (pss_one (ps_set (i := 5) nd rfl (.inl rfl) (pv 7))))))
      (pss_one (ps_ret pe_non))))), ?_⟩
    refine ⟨_, rfl, (by show 1 ≤ sizeLine; decide), fun t1 m1 => ⟨(by show 2 ≤ sizeLine; decide), fun t2 m2 => ⟨(by show 1 ≤ sizeLine; decide), fun L mL => ?_⟩⟩⟩
    have sL := sameU (o := .lst [.ref t2]) (sameU (o := .tup [.ref t1, .bl false]) (sameN (o := .tup [.str x]) m1) m2) mL
    have la : LayerAt K (upd (upd (upd H t1 (.tup [.str x])) t2 (.tup [.ref t1, .bl false])) L (.lst [.ref t2])) L [([x], false)] :=
      ⟨[t2], upd_same, .cons ⟨t1, SqT.of (by rw [upd_ne (ne_of_none upd_same mL), upd_same]), SqT.of (by
        have e : upd (upd H t1 (.tup [.str x])) t2 (.tup [.ref t1, .bl false]) t1 = some (.tup [.str x]) := by rw [upd_ne (ne_of_none upd_same m2), upd_same]
        rw [upd_ne (ne_of_none e mL)]
        exact e)⟩ .nil⟩
    generalize upd (upd (upd H t1 (.tup [.str x])) t2 (.tup [.ref t1, .bl false])) L (.lst [.ref t2]) = H1 at sL la
    refine ⟨_, rfl, _, rfl, iteT ?_⟩
    intro D nD
    refine ⟨_, rfl, by show 2 ≤ sizeLine; decide, fun b nb => ⟨by rw [upd_ne (ne_of_none upd_same nb), upd_same], rfl, b, (x, false), rfl, upd_same, ?_⟩⟩
    have m0 : MetAt P w (upd H1 D (metO P w D [])) D [] := ⟨upd_same, fun k hk => absurd hk List.not_mem_nil, List.nodup_nil⟩
    have mt := met_more (k := (x, false)) (b := b) (m0.new (o := .tup [.str x, .bl false]) nb) upd_same (by simp)
    have nD0 := sL.free nD
    have s2 : Same H (upd (upd (upd H1 D (metO P w D [])) b (.tup [.str x, .bl false])) D (metO P w D ([] ++ [((x, false), b)]))) := sameD (sameU (sameD sL nD0) nb) nD0
    have l2 : LayerAt K (upd (upd (upd H1 D (metO P w D [])) b (.tup [.str x, .bl false])) D (metO P w D ([] ++ [((x, false), b)]))) L [([x], false)] := by
      obtain ⟨as, e1, _⟩ := id la.ex
      have n1 := ne_of_none e1 nD
      have e2 : upd H1 D (metO P w D []) L = some (.lst (as.map V.ref)) := by rw [upd_ne n1]; exact e1
      have n2 := ne_of_none e2 nb
      exact la.kept (fun a xs z => sqT_at (sameT (sameN nb) (sameT (sameN nD) z)) (m0.new (o := .tup [.str x, .bl false]) nb).at_ nt_met) (by rw [upd_ne n1, upd_ne n2, upd_ne n1])
    change MetAt P w (upd (upd (upd H1 D (metO P w D [])) b (.tup [.str x, .bl false])) D (metO P w D ([] ++ [((x, false), b)]))) D ([] ++ [((x, false), b)]) at mt
    show tSeq _ _ _ _ (upd (upd (upd H1 D (metO P w D [])) b (.tup [.str x, .bl false])) D (metO P w D ([] ++ [((x, false), b)])))
    generalize upd (upd (upd H1 D (metO P w D [])) b (.tup [.str x, .bl false])) D (metO P w D ([] ++ [((x, false), b)])) = H2 at s2 l2 mt ⊢
    refine ⟨_, rfl, _, rfl, iteT ?_⟩
    refine ⟨_, rfl, _, rfl, rfl, _, rfl, ?_⟩
    have hn : (nms n).length = n := nms_len n
    have atS : K2.At (nms n) F x y st [([x], false)] [(x, false)] := K2.at_start hx
    have go : ¬ (x = y ∧ st = false) → wayR K H Q (K2.bfs F y st (2 * n + 1) [([x], false)] [(x, false)]) := fun z => by
      unfold K2.wayIn at k
      rw [if_neg z] at k
      exact k
    generalize hR : K2.bfs F y st (2 * n + 1) [([x], false)] [(x, false)] = R at go
    refine pick (fun z => ⟨_, rfl, _, rfl, z⟩) (fun e1 e2 => ?_) (fun ne => ?_)
    · have e1 : x = y := by have := of_decide_eq_true e1; injection this
      unfold K2.wayIn at k
      rw [if_pos ⟨e1, e2⟩] at k
      exact ⟨_, rfl, by show 1 ≤ sizeLine; decide, fun q nq => k _ q (sameU s2 nq) (SqT.of upd_same)⟩
    have go := go fun z => by
      have := ne (decide_eq_true (by rw [z.1]))
      rw [z.2] at this
      cases this
    refine ⟨fun m σ H' => ∃ L D layer ks a7 a8 a9 a10 a11 a12 a13, σ = [some (.ref p), some (.str x), some (.str y), some (.bl st), some (.bl false), some (.ref L), some (.ref D), a7, a8, a9, a10, a11, a12, a13] ∧ Same H H' ∧ H D = none ∧ LayerAt K H' L layer ∧ MetAt P w H' D ks ∧
      K2.At (nms n) F x y st layer (ks.map (·.1)) ∧ (layer ≠ [] → 2 * n + 1 ≤ m + ks.length) ∧ (∀ pt ∈ layer, pt.1.length + m ≤ 2 * n + 2) ∧ K2.bfs F y st m layer (ks.map (·.1)) = R, ⟨2 * n + 1, L, D, _, _, none, none, none, none, none, none, none, rfl, s2, nD0, l2, mt, atS, fun _ => by simp, fun pt hp => by rw [List.mem_singleton.mp hp, List.length_singleton]; omega, hR⟩, ?_⟩
    clear hR atS mt l2 s2 nD0 nb mL la sL m0 nD m1 m2
    rintro m σ H3 ⟨L, D, layer, ks, a7, a8, a9, a10, a11, a12, a13, rfl, s3, nD, l3, m3, at3, cap, short, hR⟩
    obtain ⟨as, e1, p1⟩ := l3.ex
    have okS : ∀ pt ∈ layer, ∀ z ∈ pt.1, PyData.strOk z = true := fun pt hp z hz => nms_ok h7 z (ch_in hO hx (at3.ch pt hp) z hz)
    refine ⟨_, rfl, by show 0 ≤ sizeLine; decide, fun t nt => ⟨.list (layer.map pD), .list [], .lst (SqL.of (by rw [upd_ne (ne_of_none e1 nt)]; exact e1)) (dp_pt (Paired.imp (fun a pt ⟨q, z1, z2⟩ => ⟨q, sameT (sameN nt) z1, sameT (sameN nt) z2⟩) p1)), .lst (SqL.of upd_same) .nil, shaped_l okS, rfl, _, rfl, ?_⟩⟩
    rw [eqv_lnil]
    by_cases hl : layer = []
    · subst hl
      rw [decide_eq_true rfl]
      refine iteF ?_
      rw [K2.bfs_nil] at hR
      subst hR
      exact go _ (sameU s3 nt)
    · rw [decide_eq_false hl]
      refine iteT ?_
      have cap := cap hl
      have few := at3.few
      rw [hn, List.length_map] at few
      obtain ⟨m', rfl⟩ : ∃ m', m = m' + 1 := ⟨m - 1, by omega⟩
      refine ⟨_, fun σ' H' z => ⟨m', Nat.lt_succ_self _, z⟩, ?_⟩
      refine ⟨by show 0 ≤ sizeLine; decide, fun M nM => ?_⟩
      have e2 : upd H3 t (.lst []) L = some (.lst (as.map V.ref)) := by rw [upd_ne (ne_of_none e1 nt)]; exact e1
      have W0 : WS P w K H (upd (upd H3 t (.lst [])) M (.lst [])) L D M as [] layer [] ks := by
        have s4 := sameU (o := .lst []) s3 nt
        refine ⟨sameU s4 nM, nD, s4.free nM, ne_of_none e2 nM, ⟨by rw [upd_ne (ne_of_none e2 nM)]; exact e2, Paired.imp (fun a pt ⟨q, z1, z2⟩ => ⟨q, sameT (sameN nM) (sameT (sameN nt) z1), sameT (sameN nM) (sameT (sameN nt) z2)⟩) p1⟩, ⟨upd_same, .nil⟩, (m3.new nt).new nM⟩
      generalize upd (upd H3 t (.lst [])) M (.lst []) = H4 at W0 ⊢
      clear nM e2 nt e1 p1 m3 l3 s3
      refine ⟨_, rfl, L, rfl, ⟨_, SqL.of W0.la.at_⟩, for_it walk_list (fun i σ H' => ∃ bs later ks2 a8 a9 a10 a11 a12 a13, σ = [some (.ref p), some (.str x), some (.str y), some (.bl st), some (.bl false), some (.ref L), some (.ref D), some (.ref M), a8, a9, a10, a11, a12, a13] ∧
        WS P w K H H' L D M as bs layer later ks2 ∧ (layer.take i).foldl (K2.tPt F y st) (.on (ks.map (·.1)) []) = .on (ks2.map (·.1)) later ∧ ∀ pt ∈ later, pt.1.length + m' ≤ 2 * n + 2)
        ⟨[], [], ks, a8, a9, a10, a11, a12, a13, rfl, W0, rfl, fun pt hp => absurd hp List.not_mem_nil⟩ (fun i σ H' _ ⟨_, _, _, _, _, _, _, _, _, _, q, _⟩ => SqL.of q.la.at_) ?_ ?_⟩
      · rintro i v σ H5 H6 hi ⟨bs, later, ks2, a8, a9, a10, a11, a12, a13, rfl, W1, eS, sh⟩ ⟨rfl, hv⟩
        rw [List.getElem?_map] at hv
        obtain ⟨a, ha, rfl⟩ := Option.map_eq_some_iff.mp hv
        obtain ⟨pt, hpt, q, z1, z2⟩ := NC.Paired.at W1.la.each ha
        have cpt := at3.ch pt (List.mem_of_getElem? hpt)
        obtain ⟨u, hu'⟩ := cpt.last
        have gS := K2.good_layer (first := x) (last := y) (strict := st) (met0 := ks.map (·.1)) hO (layer.take i) (fun c hc => at3.ch c (List.mem_of_mem_take hc)) (s := .on (ks.map (·.1)) []) ⟨at3.nd, at3.inN, fun _ z => z, fun k hk => .inl hk, fun pt hp => absurd hp List.not_mem_nil, rfl⟩
        refine ⟨a, _, rfl, z1, rfl, _, _, rfl, _, _, rfl, rfl, ?_⟩
        refine ⟨_, rfl, p, _, _, _, rfl, rfl, sameT W1.same h1, rfl, pf, rfl, ⟨_, sameT W1.same h3.tup⟩, for_it walk_tup (fun j σ H' => ∃ bs later ks2 a10 a11 a12 a13, σ = [some (.ref p), some (.str x), some (.str y), some (.bl st), some (.bl false), some (.ref L), some (.ref D), some (.ref M), some (.ref q), some (.bl pt.2), a10, a11, a12, a13] ∧
          WS P w K H H' L D M as bs layer later ks2 ∧ SqT K H' q (pt.1.map V.str) ∧ (F.take j).foldl (K2.tFact y st pt) ((layer.take i).foldl (K2.tPt F y st) (.on (ks.map (·.1)) [])) = .on (ks2.map (·.1)) later ∧ ∀ pt ∈ later, pt.1.length + m' ≤ 2 * n + 2)
          ⟨bs, later, ks2, a10, a11, a12, a13, rfl, W1, z2, eS, sh⟩ (fun j σ H' _ ⟨_, _, _, _, _, _, _, _, z, _⟩ => sameT z.same h3.tup) ?_ ?_⟩
        · clear W1 z1 z2 eS ha sh
          rintro j v σ H5 H6 hj ⟨bs, later, ks2, a10, a11, a12, a13, rfl, W1, z2, eS, sh⟩ ⟨rfl, hv⟩
          rw [List.getElem?_map] at hv
          obtain ⟨fa, hfa, rfl⟩ := Option.map_eq_some_iff.mp hv
          obtain ⟨fc, hf, ht⟩ := NC.Paired.at h3.each hfa
          have gT := K2.good_pt hO cpt (F.take j) (fun c hc => List.mem_of_mem_take hc) gS
          rw [eS] at gT
          have few2 := good_few gT
          rw [hn, List.length_map] at few2
          have full : ∀ r, K2.tFact y st pt (.on (ks2.map (·.1)) later) fc = .hit r → R = some r := fun r e => by
            have e1 := fold_hit (F := F) (j + 1) (by rw [foldl_take _ _ hf, eS]; exact e)
            have e2 := lay_hit hpt (show K2.tPt F y st _ pt = .hit r from e1)
            rw [← hR]
            unfold K2.bfs
            rw [if_neg hl, show K2.tLayer F y st layer (ks.map (·.1)) = .hit r from e2]
          rw [foldl_take _ _ hf, eS]
          refine ⟨fa, _, rfl, sameT W1.same ht, rfl, _, _, rfl, _, _, rfl, _, _, rfl, rfl, ?_⟩
          refine ⟨_, rfl, _, rfl, _, rfl, q, _, _, _, rfl, rfl, z2, last_at hu', rfl, _, rfl, ?_⟩
          rw [dec_str]
          by_cases c1 : fc.1 = u
          · rw [decide_eq_true c1]
            refine iteT ?_
            refine ⟨.bl (pt.2 || fc.2.1), ⟨_, rfl, pt.2, rfl, ?_⟩, ?_⟩
            · cases h0 : pt.2 with
              | true => exact iteT ⟨rfl, rfl⟩
              | false => exact iteF ⟨_, rfl, rfl, congrArg V.bl (dec_wd _), rfl⟩
            have c1' : some fc.1 = pt.1.getLast? := by rw [hu', c1]
            refine ⟨K2.goal y st fc.2.2 (pt.2 || fc.2.1), ⟨_, rfl, _, rfl, rfl, _, rfl, ?_⟩, ?_⟩
            · unfold K2.goal
              rw [dec_str]
              by_cases c2 : fc.2.2 = y
              · rw [decide_eq_true c2]
                refine iteT ⟨_, rfl, _, rfl, ?_⟩
                cases h0 : (pt.2 || fc.2.1) with
                | true => exact iteT ⟨rfl, rfl⟩
                | false => exact iteF ⟨_, rfl, _, rfl, rfl, rfl⟩
              · rw [decide_eq_false c2]
                exact iteF ⟨rfl, rfl⟩
            by_cases c2 : K2.goal y st fc.2.2 (pt.2 || fc.2.1) = true
            · rw [c2]
              refine iteT ?_
              have e := full (pt.1 ++ [fc.2.2]) (by unfold K2.tFact; dsimp only; rw [if_pos c1', if_pos c2])
              subst e
              refine ⟨_, rfl, q, _, rfl, .inl z2, _, rfl, ?_, fun r nr => go _ r (sameU W1.same nr) ?_⟩
              · have := short pt (List.mem_of_getElem? hpt)
                rw [List.length_append, List.length_map, List.length_singleton, PySem.sizeLine_eq]
                omega
              · rw [List.map_append]
                exact SqT.of upd_same
            · rw [Bool.eq_false_iff.mpr c2]
              refine iteF ?_
              have lpt := short pt (List.mem_of_getElem? hpt)
              refine ⟨_, rfl, _, rfl, by show 2 ≤ sizeLine; decide, fun b nb => ⟨_, rfl, b, D, (fc.2.2, pt.2 || fc.2.1), ks2, rfl, rfl, upd_same, (W1.new nb).mt, _, rfl, ?_⟩⟩
              have W2 := W1.new (o := .tup [.str fc.2.2, .bl (pt.2 || fc.2.1)]) nb
              have y2 : SqT K _ q (pt.1.map V.str) := sameT (sameN (o := .tup [.str fc.2.2, .bl (pt.2 || fc.2.1)]) nb) z2
              by_cases c3 : (fc.2.2, pt.2 || fc.2.1) ∈ ks2.map (·.1)
              · rw [decide_eq_true c3]
                refine iteF ?_
                refine ⟨_, _, _, _, _, _, _, rfl, W2, y2, ?_, sh⟩
                unfold K2.tFact
                dsimp only
                rw [if_pos c1', if_neg c2, if_pos c3]
              · rw [decide_eq_false c3]
                refine iteT ?_
                refine ⟨_, rfl, _, rfl, _, rfl, by show 2 ≤ sizeLine; decide, fun b2 nb2 => ?_⟩
                have W3 := W2.new (o := .tup [.str fc.2.2, .bl (pt.2 || fc.2.1)]) nb2
                have y3 := sameT (sameN (o := .tup [.str fc.2.2, .bl (pt.2 || fc.2.1)]) nb2) y2
                refine ⟨b2, D, (fc.2.2, pt.2 || fc.2.1), ks2, rfl, rfl, rfl, upd_same, W3.mt, c3, by omega, ?_⟩
                have W4 := W3.put (k := (fc.2.2, pt.2 || fc.2.1)) upd_same c3
                have y4 := sqT_at (o := metO P w D (ks2 ++ [((fc.2.2, pt.2 || fc.2.1), b2)])) y3 W3.mt.at_ nt_met
                refine ⟨_, rfl, .inl ⟨rfl, _, SqL.of W4.lb.at_⟩, _, rfl, q, _, rfl, .inl y4, _, rfl, ?_, fun c nc => ⟨_, rfl, by show 2 ≤ sizeLine; decide, fun e ne => ?_⟩⟩
                · rw [List.length_append, List.length_map, List.length_singleton, PySem.sizeLine_eq]
                  omega
                · have W5 := (W4.new (o := .tup (pt.1.map V.str ++ [V.str fc.2.2])) nc).new (o := .tup [V.ref c, V.bl (pt.2 || fc.2.1)]) ne
                  have y5 := sameT (sameN (o := .tup [V.ref c, V.bl (pt.2 || fc.2.1)]) ne) (sameT (sameN (o := .tup (pt.1.map V.str ++ [V.str fc.2.2])) nc) y4)
                  have hp : PtAt K _ e (pt.1 ++ [fc.2.2], pt.2 || fc.2.1) := ⟨c, SqT.of upd_same, sameT (sameN (o := .tup [V.ref c, V.bl (pt.2 || fc.2.1)]) ne) (by rw [List.map_append]; exact SqT.of upd_same)⟩
                  have lb := NC.Paired.len W1.lb.each
                  refine ⟨M, _, _, rfl, rfl, W5.lb.at_, ?_, ?_⟩
                  · have l6 := gT.2.2.2.2.2
                    rw [List.length_map, List.length_map] at l6
                    rw [List.length_map, PySem.sizeLine_eq]
                    omega
                  · refine ⟨_, _, _, _, _, _, _, rfl, W5.app hp, sqT_at y5 W5.lb.at_ nt_lst, ?_, fun pt' hp' => ?_⟩
                    · unfold K2.tFact
                      dsimp only
                      rw [if_pos c1', if_neg c2, if_neg c3, List.map_append]
                      rfl
                    · rcases List.mem_append.mp hp' with z | z
                      · exact sh pt' z
                      · rw [List.mem_singleton.mp z]
                        show (pt.1 ++ [fc.2.2]).length + m' ≤ _
                        rw [List.length_append, List.length_singleton]
                        omega
          · rw [decide_eq_false c1]
            refine iteF ?_
            refine ⟨_, _, _, _, _, _, _, rfl, W1, z2, ?_, sh⟩
            unfold K2.tFact
            dsimp only
            rw [if_neg (by rw [hu']; exact fun z => c1 (Option.some.inj z))]
        · rintro σ H5 ⟨bs, later, ks2, a10, a11, a12, a13, rfl, W1, z2, eS, sh⟩
          refine ⟨_, _, _, _, _, _, _, _, _, rfl, W1, ?_, sh⟩
          rw [foldl_take _ _ hpt]
          rw [List.length_map, NC.Paired.len h3.each, List.take_length] at eS
          exact eS
      · rintro σ H5 ⟨bs, later, ks2, a8, a9, a10, a11, a12, a13, rfl, W1, eS, sh⟩
        rw [List.length_map, NC.Paired.len W1.la.each, List.take_length] at eS
        obtain ⟨at4, len4⟩ := at3.next hO (show K2.tLayer F y st layer (ks.map (·.1)) = .on (ks2.map (·.1)) later from eS)
        refine ⟨_, rfl, M, D, later, ks2, _, _, _, _, _, _, _, rfl, W1.same, nD, ⟨bs, W1.lb.at_, W1.lb.each⟩, W1.mt, at4, fun ne => ?_, sh, ?_⟩
        · have := List.length_pos_iff.mpr ne
          rw [List.length_map, List.length_map] at len4
          omega
        · rw [← hR]
          conv => rhs; unfold K2.bfs
          rw [if_neg hl, show K2.tLayer F y st layer (ks.map (·.1)) = .on (ks2.map (·.1)) later from eS]
end
end NC

set_option Elab.async false
set_option linter.all false
set_option maxRecDepth 100000
set_option maxHeartbeats 4000000
namespace NC
open PySem L2
section
variable {P : Program} {w : World} {K : PySem.W.Frag} {mg : Str → Option Value} {base : Heap}
/-! ### way -/
abbrev sWay : Stmt := top 25
def rWay (K : PySem.W.Frag) (n : Nat) (F : List Fc) (x y : Str) (H : Hp) (Q : VK) : Prop := wayR K H Q (K2.wayM n F x y)
theorem wayR.same {H H1 : Hp} {Q : VK} {o : Option (List Str)} (s : Same H H1) (h : wayR K H Q o) : wayR K H1 Q o := by
  cases o with
  | none => exact fun H' s' => h H' (Same.trans s s')
  | some p => exact fun H' q s' t => h H' q (Same.trans s s') t
theorem scWay : FnScope ["frame", "a", "b", "found"] ["frame", "a", "b"] (defScope sWay) := ⟨rfl, rfl, rfl, by decide +kernel, rfl, by decide +kernel, by decide +kernel⟩
theorem df_way {C : Addr} (T : Txt K mg) (S : Std K mg "way" sWay) (DW : Df P w K mg base CX0 "way_in" ["frame", "first", "last", "is_strict", "is_long"] 1 (spWayIn K)) (DF : Df P w K mg base CX0 "need_frame" ["thing"] 5 (spNeedF K)) (DN : Df P w K mg base (L2.CX P w) "need_name" ["frame", "thing"] 4 (spNeedN K C)) :
    Df P w K mg base (L2.CX P w) "way" ["frame", "a", "b"] 6 (spAsk K C (rWay K)) := by
  refine S.df (fun _ _ _ _ _ _ us hl => match us, hl with | [_, _, _], _ => rfl) fun f fd F => F.okX scWay (fun vs H Q E h => ?_) (fun cdv A outer s H vs Q E hr h => ?_)
  · obtain ⟨p, n, F, a, b, rfl, _⟩ := h
    rfl
  · obtain ⟨p, n, F, a, b, rfl, hF, fit, oa, ob, ea, eb, k⟩ := h
    have nd := scWay.nd
    have px := passX (X := cxOf (L2.CX P w) P w K mg base ["frame", "a", "b", "found"] "way" (defScope sWay) f cdv A outer s H E) (E := E) rfl rfl rfl rfl
    refine ⟨_, pss_cons (ps_expr (pe_df DF (hr.mono (by decide)) pass0 (pa_cons (pv 0) pa_nil)))
      (pss_cons (ps_expr (pe_df DN (hr.mono (by decide)) px (pa_cons (pv 0) (pa_cons (pv 1) pa_nil))))
      (pss_cons (ps_expr (pe_df DN (hr.mono (by decide)) px (pa_cons (pv 0) (pa_cons (pv 2) pa_nil))))
      (pss_cons (ps_set (i := 3) nd rfl (.inl rfl) (pe_df DW (hr.mono (by decide)) pass0 (pa_cons (pv 0) (pa_cons (pv 1) (pa_cons (pv 2) (pa_cons pe_bl (pa_cons pe_bl pa_nil)))))))
      (pss_one (ps_ret (pe_ifExp (pt_cmp (pc_notN (pv 3))) (pv 3) (pe_df DW (hr.mono (by decide)) pass0 (pa_cons (pv 0) (pa_cons (pv 1) (pa_cons (pv 2) (pa_cons pe_bl (pa_cons pe_bl pa_nil)))))))))))), ?_⟩
    refine ⟨_, rfl, p, n, F, rfl, hF, fit, fun H1 s1 => ?_⟩
    refine ⟨_, rfl, _, rfl, p, nms n, F, a, rfl, hF.same s1, oa.same s1, fun na => ?_, fun na => (ea na).same s1⟩
    refine ⟨_, rfl, _, rfl, p, nms n, F, b, rfl, hF.same s1, ob.same s1, fun nb => ?_, fun nb => (eb na nb).same s1⟩
    obtain ⟨x, rfl, hx⟩ := isNm_str na
    obtain ⟨y, rfl, hy⟩ := isNm_str nb
    have kk := (k x y rfl rfl hx hy : wayR K H Q (K2.wayM n F x y)).same s1
    refine ⟨_, rfl, _, rfl, _, rfl, p, n, F, x, y, true, rfl, hF.same s1, fit.ok.n7, fit.On, hx, hy, ?_⟩
    unfold K2.wayM at kk
    cases e : K2.wayIn n F x y true with
    | some r =>
      rw [e] at kk
      intro H2 q s2 hq
      refine ⟨_, rfl, _, rfl, iteT ?_⟩
      exact ⟨_, rfl, kk _ q s2 hq⟩
    | none =>
      rw [e] at kk
      intro H2 s2
      refine ⟨_, rfl, _, rfl, iteF ?_⟩
      exact ⟨_, rfl, _, rfl, _, rfl, p, n, F, x, y, false, rfl, (hF.same s1).same s2, fit.ok.n7, fit.On, hx, hy, wayR.same s2 kk⟩
end
end NC

set_option Elab.async false
set_option linter.all false
set_option maxRecDepth 100000
set_option maxHeartbeats 4000000
namespace NC
open PySem L2
/-! ### the state from which the law draws -/
def stK (c l : Addr) (i : Int) : List (Key × V) := [(.inr "cells", .ref c), (.inr "lefts", .ref l), (.inr "at", .int i), (.inr "room", .int 0)]
/-- at t the state, its cells at c, its lefts at l; i: how many were drawn -/
structure StAt (K : PySem.W.Frag) (H : Hp) (t c l : Addr) (m i : Nat) : Prop where
  st : H t = some (.dK (stK c l i))
  cells : ∃ ns : List Int, H c = some (.lst (ns.map V.int)) ∧ ns.length = m
  lefts : ∃ ns : List Int, H l = some (.lst (ns.map V.int)) ∧ ns.length = m
  ne : c ≠ l
  ne2 : c ≠ t
  pos : 0 < m
  fit : m ≤ 1000
theorem sqL_ne {K : PySem.W.Frag} {H : Hp} {D a : Addr} {o : HO} {xs : List V} (h : SqL K H a xs) (n : a ≠ D) : SqL K (upd H D o) a xs := by
  rcases h with (h | ⟨ob, h⟩) | h
  · exact .inl (.inl (by rw [upd_ne n]; exact h))
  · exact .inl (.inr ⟨ob, by rw [upd_ne n]; exact h⟩)
  · exact .inr h
/-- all but the state and its lefts stands -/
def Kp (t l : Addr) (H H' : Hp) : Prop := ∀ b u, b ≠ t → b ≠ l → H b = some u → H' b = some u
theorem Kp.of {t l : Addr} {H H' : Hp} (s : Same H H') : Kp t l H H' := fun b u _ _ e => s b u e
theorem Kp.trans {t l : Addr} {H H1 H2 : Hp} (a : Kp t l H H1) (b : Kp t l H1 H2) : Kp t l H H2 := fun x u n1 n2 e => b x u n1 n2 (a x u n1 n2 e)
theorem nt_dK {kvs : List (Key × V)} : NT (.dK kvs) := by
  constructor
  · intro ys z
    cases z
  · intro ob u z
    cases z
theorem Kp.tup {K : PySem.W.Frag} {t l a : Addr} {H H' : Hp} {o1 o2 : HO} {xs : List V} (k : Kp t l H H') (e1 : H t = some o1) (n1 : NT o1) (e2 : H l = some o2) (n2 : NT o2) (h : SqT K H a xs) : SqT K H' a xs := by
  rcases h with (h | ⟨ob, h⟩) | h
  · exact .inl (.inl (k a _ (fun z => by rw [z, e1] at h; exact n1.1 _ (Option.some.inj h)) (fun z => by rw [z, e2] at h; exact n2.1 _ (Option.some.inj h)) h))
  · exact .inl (.inr ⟨ob, k a _ (fun z => by rw [z, e1] at h; exact n1.2 _ _ (Option.some.inj h)) (fun z => by rw [z, e2] at h; exact n2.2 _ _ (Option.some.inj h)) h⟩)
  · exact .inr h
theorem StAt.same {K : PySem.W.Frag} {H H' : Hp} {t c l : Addr} {m i : Nat} (s : Same H H') (h : StAt K H t c l m i) : StAt K H' t c l m i := by
  obtain ⟨ns, h1, h2⟩ := h.cells
  obtain ⟨ms, h3, h4⟩ := h.lefts
  exact ⟨s _ _ h.st, ⟨ns, s _ _ h1, h2⟩, ⟨ms, s _ _ h3, h4⟩, h.ne, h.ne2, h.pos, h.fit⟩
section
variable {P : Program} {w : World} {K : PySem.W.Frag} {mg : Str → Option Value} {base : Heap}
/-! ### _law_mixed -/
abbrev sMixed : Stmt := top 30
def spMixed : Sp := fun vs H Q _ => ∃ (c k : Int), vs = [.int c, .int k] ∧ 0 ≤ k ∧ k < 2 ^ 31 ∧ ∀ r, 0 ≤ r → r < 2 ^ 31 → Q (.int r) H
theorem scMixed : FnScope ["_law_cell", "_law_k"] ["_law_cell", "_law_k"] (defScope sMixed) := ⟨rfl, rfl, rfl, by decide +kernel, rfl, by decide +kernel, by decide +kernel⟩
theorem df_mixed (T : Txt K mg) (S : Std K mg "_law_mixed" sMixed) : Df P w K mg base CX0 "_law_mixed" ["_law_cell", "_law_k"] 1 spMixed := by
  refine S.df (fun _ _ _ _ _ _ us hl => match us, hl with | [_, _], _ => rfl) fun f fd F => F.ok scMixed (fun vs H Q E h => ?_) (fun cdv A outer s H vs Q E hr h => ?_)
  · obtain ⟨c, k, rfl, _⟩ := h
    rfl
  · obtain ⟨c, k, rfl, k0, k1, q⟩ := h
    have nd := scMixed.nd
    refine ⟨_, pss_cons (ps_set (i := 0) nd rfl (.inl rfl) (pe_op op_mod (pe_callTy call_int1 rfl T.nInt (by decide +kernel) (pa_cons (pv 0) pa_nil)) pe_int))
      (pss_one (ps_ret (pe_op op_mod (pe_op op_mul (pe_op op_mod (pe_op op_add (pe_op op_add (pe_op op_mul (pv 0) (pe_op op_add pe_int (pe_op op_mul (pe_op op_mul pe_int (pv 1)) (pv 1)))) (pe_op op_mul pe_int (pv 1))) pe_int) pe_int) pe_int) pe_int))), ?_⟩
    refine ⟨_, rfl, .inl ⟨_, rfl, _, _, rfl, rfl, (by show (0 : Int) < 2147483647; decide), ?_⟩⟩
    have m0 := Int.emod_nonneg c (show (2147483647 : Int) ≠ 0 by decide)
    have m1 := Int.emod_lt_of_pos c (show (0 : Int) < 2147483647 by decide)
    refine ⟨_, rfl, _, rfl, _, _, rfl, rfl, .inl ⟨by show -(2 ^ 64 : Int) < 2; decide, by show (2 : Int) < 2 ^ 64; decide⟩, _, rfl, _, _, rfl, rfl, .inr ⟨?_, ?_⟩, _, _, rfl, rfl, _, _, rfl, rfl, .inl ⟨?_, ?_⟩,
      _, rfl, _, _, rfl, rfl, .inl ⟨by show -(2 ^ 64 : Int) < 69621; decide, by show (69621 : Int) < 2 ^ 64; decide⟩, _, _, rfl, rfl, _, _, rfl, rfl, _, _, rfl, rfl, (by show (0 : Int) < 2147483647; decide), _, _, rfl, rfl, .inr ⟨by show -(2 ^ 64 : Int) < 69621; decide, by show (69621 : Int) < 2 ^ 64; decide⟩, _, _, rfl, rfl, (by show (0 : Int) < 2147483629; decide), q _ (Int.emod_nonneg _ (by decide)) ?_⟩
    · omega
    · omega
    · omega
    · omega
    · exact Int.lt_trans (Int.emod_lt_of_pos _ (by decide)) (by decide)
/-! ### _law_draw -/
abbrev sDraw : Stmt := top 32
def spDraw (K : PySem.W.Frag) : Sp := fun vs H Q _ => ∃ (t c l : Addr) (m i n : Nat), vs = [.ref t, .int (n : Int)] ∧ StAt K H t c l m i ∧ i < 10 ^ 6 ∧ 0 < n ∧ n ≤ 1000 ∧ ∀ H' (r : Nat), Kp t l H H' → StAt K H' t c l m (i + 1) → r < n → Q (.int (r : Int)) H'
theorem scDraw : FnScope ["_law_state", "_law_many", "_law_at", "_law_place", "_law_left", "_law_number"] ["_law_state", "_law_many"] (defScope sDraw) := ⟨rfl, rfl, rfl, by decide +kernel, rfl, by decide +kernel, by decide +kernel⟩
theorem df_draw (T : Txt K mg) (S : Std K mg "_law_draw" sDraw) (DM : Df P w K mg base CX0 "_law_mixed" ["_law_cell", "_law_k"] 1 spMixed) : Df P w K mg base CX0 "_law_draw" ["_law_state", "_law_many"] 2 (spDraw K) := by
  refine S.df (fun _ _ _ _ _ _ us hl => match us, hl with | [_, _], _ => rfl) fun f fd F => F.ok scDraw (fun vs H Q E h => ?_) (fun cdv A outer s H vs Q E hr h => ?_)
  · obtain ⟨t, c, l, m, i, n, rfl, _⟩ := h
    rfl
  · obtain ⟨t, c, l, m, i, n, rfl, hS, hi, n0, n1, k⟩ := h
    have nd := scDraw.nd
    have hu := rm1 hr
    refine ⟨_, pss_cons (ps_set (i := 2) nd rfl (.inl rfl) (pe_dget hu (pv 0) pe_str (fun _ _ => rfl)))
      (pss_cons (ps_dput hu (pv 0) pe_str (pe_op op_add (pv 2) pe_int) rfl)
      (pss_cons (ps_set (i := 3) nd rfl (.inl rfl) (pe_op op_mod (pe_callTy call_int1 rfl T.nInt (by decide +kernel) (pa_cons (pv 2) pa_nil)) (pe_len T.nLen (pe_dget hu (pv 0) pe_str (fun _ _ => rfl)))))
      (pss_cons (ps_set (i := 4) nd rfl (.inl rfl) (pe_ix ix_list (pe_dget hu (pv 0) pe_str (fun _ _ => rfl)) (pv 3) (fun _ _ => rfl)))
      (pss_cons (ps_if (pt_cmpR op_gt (pv 4) pe_int (nomark _))
        (pss_cons (ps_asg (pe_op op_fdiv (pv 4) (pv 1)) (pg_sub (pe_dget hu (pv 0) pe_str (fun _ _ => rfl)) (pv 3) set_list))
        (pss_one (ps_ret (pe_op op_mod (pe_callTy call_int1 rfl T.nInt (by decide +kernel) (pa_cons (pv 4) pa_nil)) (pv 1))))) pss_nil)
      (pss_cons (ps_set (i := 5) nd rfl (.inl rfl) (pe_df DM hr pass0 (pa_cons (pe_df DM hr pass0 (pa_cons (pe_ix ix_list (pe_dget hu (pv 0) pe_str (fun _ _ => rfl)) (pv 3) (fun _ _ => rfl)) (pa_cons (pv 2) pa_nil))) (pa_cons (pe_op op_add pe_int (pv 2)) pa_nil))))
      (pss_one (ps_ret (pe_op op_mod (pe_op op_fdiv (pe_callTy call_int1 rfl T.nInt (by decide +kernel) (pa_cons (pe_op op_add (pe_op op_mul (pv 5) pe_int) (pe_df DM hr pass0 (pa_cons (pv 5) (pa_cons (pe_op op_add pe_int (pv 2)) pa_nil)))) pa_nil)) pe_int) (pv 1))))))))), ?_⟩
    obtain ⟨ns, hc, hcl⟩ := hS.cells
    obtain ⟨ls, hL, hll⟩ := hS.lefts
    have ntl : t ≠ l := ne_of hS.st hL (fun z => nomatch z)
    have mp := hS.pos
    have mf := hS.fit
    refine ⟨_, rfl, t, .int (i : Int), rfl, DGet.k (k := .inr "at") hS.st, ?_⟩
    refine ⟨_, rfl, _, _, rfl, rfl, _, rfl, t, _, rfl, DPut.k (k := .inr "at") hS.st (by show 4 < sizeLine; decide), ?_⟩
    change tSeq _ _ _ _ (upd H t (.dK (stK c l ((i : Int) + 1))))
    have s1 : (upd H t (.dK (stK c l ((i : Int) + 1)))) t = some (.dK (stK c l ((i : Int) + 1))) := upd_same
    have c1 : (upd H t (.dK (stK c l ((i : Int) + 1)))) c = some (.lst (ns.map V.int)) := by rw [upd_ne hS.ne2]; exact hc
    have l1 : (upd H t (.dK (stK c l ((i : Int) + 1)))) l = some (.lst (ls.map V.int)) := by rw [upd_ne ntl.symm]; exact hL
    have k1 : Kp t l H (upd H t (.dK (stK c l ((i : Int) + 1)))) := fun b u n1 _ e => by rw [upd_ne n1]; exact e
    generalize upd H t (.dK (stK c l ((i : Int) + 1))) = H1 at s1 c1 l1 k1 ⊢
    refine ⟨_, rfl, .inl ⟨_, rfl, _, rfl, t, .ref c, rfl, DGet.k (k := .inr "cells") s1, c, _, rfl, .inl (SqL.of c1), ?_⟩⟩
    refine ⟨_, _, rfl, rfl, by rw [List.length_map, hcl]; show (0 : Int) < (m : Int); omega, ?_⟩
    rw [List.length_map, hcl]
    change gName 3 (.int ((i % m : Nat) : Int)) _ _ _
    have lj : i % m < m := Nat.mod_lt _ mp
    generalize i % m = j at lj ⊢
    obtain ⟨cv, ecv⟩ : ∃ cv, ns[j]? = some cv := ⟨ns[j]'(by omega), List.getElem?_eq_getElem _⟩
    obtain ⟨lv, elv⟩ : ∃ lv, ls[j]? = some lv := ⟨ls[j]'(by omega), List.getElem?_eq_getElem _⟩
    refine ⟨_, rfl, t, .ref l, rfl, DGet.k (k := .inr "lefts") s1, _, rfl, l, _, _, _, rfl, rfl, SqL.of l1, at_of (j := j) rfl (by rw [List.getElem?_map, elv]; rfl), ?_⟩
    refine ⟨_, rfl, _, _, rfl, rfl, _, rfl, ?_⟩
    refine ite2 (fun c0 => ?_) (fun c0 => ?_)
    · refine ⟨_, rfl, _, rfl, _, _, rfl, rfl, ⟨by show (0 : Int) < n; omega, by show (n : Int) < 1073741824; omega⟩, ?_⟩
      refine ⟨_, rfl, t, .ref l, rfl, DGet.k (k := .inr "lefts") s1, _, rfl, l, _, _, j, rfl, rfl, l1, ?_, ?_⟩
      · unfold ixN
        rw [if_pos (by omega), List.length_map, if_pos (by omega)]
        rfl
      · refine ⟨_, rfl, .inl ⟨_, rfl, _, rfl, _, _, rfl, rfl, by show (0 : Int) < n; omega, ?_⟩⟩
        change Q (.int (lv % (n : Int))) _
        have e0 := Int.emod_nonneg lv (show (n : Int) ≠ 0 by omega)
        have e1 := Int.emod_lt_of_pos lv (show (0 : Int) < n by omega)
        rw [show lv % (n : Int) = (((lv % (n : Int)).toNat : Nat) : Int) by omega]
        refine k _ _ (k1.trans fun b u _ n2 e => by rw [upd_ne n2]; exact e) ⟨by rw [upd_ne ntl]; exact s1, ⟨ns, by rw [upd_ne hS.ne]; exact c1, hcl⟩, ⟨ls.set j (lv / (n : Int)), ?_, by rw [List.length_set]; exact hll⟩, hS.ne, hS.ne2, mp, mf⟩ (by omega)
        rw [upd_same, List.map_set]
    · have I0 : (0 : Int) ≤ (i : Int) := by omega
      refine ⟨_, rfl, t, .ref c, rfl, DGet.k (k := .inr "cells") s1, _, rfl, c, _, _, _, rfl, rfl, SqL.of c1, at_of (j := j) rfl (by rw [List.getElem?_map, ecv]; rfl), _, rfl, cv, _, rfl, I0, by omega, fun r1 r1a r1b => ?_⟩
      refine ⟨_, rfl, _, _, rfl, rfl, r1, _, rfl, by show (0 : Int) ≤ 40 + (i : Int); omega, by show 40 + (i : Int) < 2 ^ 31; omega, fun r2 r2a r2b => ?_⟩
      refine ⟨_, rfl, _, _, rfl, rfl, .inr ⟨by show -(2 ^ 64 : Int) < 2147483647; decide, by show (2147483647 : Int) < 2 ^ 64; decide⟩, _, rfl, _, rfl, _, _, rfl, rfl, r2, _, rfl, by show (0 : Int) ≤ 7 + (i : Int); omega, by show 7 + (i : Int) < 2 ^ 31; omega, fun r3 r3a r3b => ?_⟩
      refine ⟨_, _, rfl, rfl, .inl ⟨_, rfl, _, _, rfl, rfl, ⟨by show (0 : Int) < 64; decide, by show (64 : Int) < 1073741824; decide⟩, _, rfl, _, _, rfl, rfl, by show (0 : Int) < n; omega, ?_⟩⟩
      have e0 := Int.emod_nonneg ((r2 * 2147483647 + r3) / 64) (show (n : Int) ≠ 0 by omega)
      have e1 := Int.emod_lt_of_pos ((r2 * 2147483647 + r3) / 64) (show (0 : Int) < n by omega)
      change Q (.int ((r2 * 2147483647 + r3) / 64 % (n : Int))) H1
      rw [show (r2 * 2147483647 + r3) / 64 % (n : Int) = ((((r2 * 2147483647 + r3) / 64 % (n : Int)).toNat : Nat) : Int) by omega]
      exact k _ _ k1 ⟨s1, ⟨ns, c1, hcl⟩, ⟨ls, l1, hll⟩, hS.ne, hS.ne2, mp, mf⟩ (by omega)
end
end NC

set_option Elab.async false
set_option linter.all false
set_option maxRecDepth 100000
set_option maxHeartbeats 4000000
namespace NC
open PySem L2
theorem eqv_inil (ns : List Int) : PyData.eqv (.list (ns.map .int)) (.list []) = decide (ns = []) := by cases ns <;> rfl
theorem shaped_il (r : List Int) : SeqAt.shaped (.list (r.map .int)) = true := shaped_of (lay_map _ r fun _ _ => rfl) (by
  show PyData.depthAll (r.map .int) + 1 ≤ 64
  have := depth_map PyData.int 0 r fun _ _ => Nat.le_refl _
  omega)
section
variable {P : Program} {w : World} {K : PySem.W.Frag} {mg : Str → Option Value} {base : Heap}
/-! ### _law_begin -/
abbrev sBegin : Stmt := top 31
def spBegin (K : PySem.W.Frag) : Sp := fun vs H Q _ => ∃ (a : Addr) (ns : List Int), vs = [.ref a] ∧ SqL K H a (ns.map V.int) ∧ ns.length ≤ 63 ∧ ∀ H' t c l m, Same H H' → H t = none → H l = none → StAt K H' t c l m 0 → Q (.ref t) H'
theorem scBegin : FnScope ["_law_script", "_law_cells", "_law_cell"] ["_law_script"] (defScope sBegin) := ⟨rfl, rfl, rfl, by decide +kernel, rfl, by decide +kernel, by decide +kernel⟩
def tCells (K : PySem.W.Frag) : TE := fun σ H Q => ∃ (a : Addr) (ns : List Int), σ[0]? = some (some (.ref a)) ∧ SqL K H a (ns.map V.int) ∧ ns.length ≤ 63 ∧ ∀ H1 c (ms : List Int), Same H H1 → H c = none → H1 c = some (.lst (ms.map V.int)) → 0 < ms.length → ms.length ≤ 63 → Q (.ref c) H1
theorem df_begin (T : Txt K mg) (S : Std K mg "_law_begin" sBegin) : Df P w K mg base CX0 "_law_begin" ["_law_script"] 1 (spBegin K) := by
  refine S.df (fun _ _ _ _ _ _ us hl => match us, hl with | [_], _ => rfl) fun f fd F => F.ok scBegin (fun vs H Q E h => ?_) (fun cdv A outer s H vs Q E hr h => ?_)
  · obtain ⟨a, ns, rfl, _⟩ := h
    rfl
  · obtain ⟨a, ns, rfl, hA, hl, k⟩ := h
    have nd := scBegin.nd
    refine ⟨_, pss_cons (ps_set (i := 1) nd rfl (.inl rfl) (pe_imp (u := tCells K) (pe_ifExp (pt_cmpR (op_neD (rm64 hr)) (pv 0) (pe_lst pa_nil) (nomark _)) (pe_callTy call_list_of rfl T.nList (by decide +kernel) (pa_cons (pv 0) pa_nil)) (pe_lst (pa_cons pe_int pa_nil))) ?cells))
      (pss_one (ps_ret (pe_disp (pps_cons pe_str (pv 1) (pps_cons pe_str (pe_lc (own := [("_law_cell", 2)]) (g := gName 2) (tt := tYes) rfl nd (pi_list (pv 1)) (blkOk_by (N := ["_law_script", "_law_cells", "_law_cell"]) (sc := defScope sBegin) (by decide +kernel))
        (fun _ _ _ _ _ => pg_name (i := 2) nd rfl (Or.inl rfl)) (fun _ _ _ _ _ => pts_nil) (fun _ _ _ _ _ => pe_ifExp (pt_cmpR op_ge (pv 2) (pe_op op_pow pe_int pe_int) (nomark _)) (pv 2) pe_int)) (pps_cons pe_str pe_int (pps_cons pe_str pe_int pps_nil)))) rfl rfl (by decide) (by decide)))), ?_⟩
    case cells =>
      rintro σ H Q ⟨a, ns, e0, hA, hl, k⟩
      refine ⟨_, e0, by show 0 ≤ sizeLine; decide, fun t nt => ⟨.list (ns.map .int), .list [], .lst ((sameN nt).seq hA) (dp_ints ns), .lst (SqL.of upd_same) .nil, shaped_il ns, rfl, _, rfl, ?_⟩⟩
      rw [eqv_inil]
      by_cases hn : ns = []
      · rw [decide_eq_true hn]
        refine iteF ⟨by show 1 ≤ sizeLine; decide, fun c nc => k _ c [0] (sameU (sameN nt) nc) ((sameN nt).free nc) upd_same (by decide) (by decide)⟩
      · rw [decide_eq_false hn]
        have := List.length_pos_iff.mpr hn
        exact iteT ⟨_, e0, a, _, rfl, .inl ((sameN nt).seq hA), fun c nc => k _ c ns (sameU (sameN nt) nc) ((sameN nt).free nc) upd_same this hl⟩
    refine ⟨a, ns, rfl, hA, hl, fun H1 c ms s1 nc e1 m0 m1 => ?_⟩
    refine fun t nt => ⟨_, rfl, ?_⟩
    have e2 : upd H1 t (.dK []) c = some (.lst (ms.map V.int)) := by rw [upd_ne (ne_of_none e1 nt)]; exact e1
    have s2 := sameU (o := .dK []) s1 nt
    refine ⟨_, rfl, c, rfl, ⟨_, SqL.of e2⟩, fun L nL => lc_it walk_list (fun i H' => H' t = some (.dK []) ∧ H' c = some (.lst (ms.map V.int)) ∧ Same H H' ∧ H L = none ∧ ∃ ls : List Int, H' L = some (.lst (ls.map V.int)) ∧ ls.length = i)
      ⟨by rw [upd_ne (ne_of_none upd_same nL)]; exact upd_same, by rw [upd_ne (ne_of_none e2 nL)]; exact e2, sameU s2 nL, s2.free nL, [], upd_same, rfl⟩ (fun i H' _ q => SqL.of q.2.1) ?_ ?_⟩
    · rintro i x H3 H4 hi ⟨q1, q2, q3, q4, ls, q5, q6⟩ ⟨rfl, hx⟩
      rw [List.getElem?_map] at hx
      obtain ⟨z, hz, rfl⟩ := Option.map_eq_some_iff.mp hx
      have hi : i < ms.length := by rwa [List.length_map] at hi
      have ntL : t ≠ L := fun z => by rw [z, q5] at q1; cases q1
      have ncL : c ≠ L := ne_of_none e2 nL
      refine ⟨rfl, ?_⟩
      have fin : ∀ y : Int, ∃ acc, H4 L = some (.lst acc) ∧ acc.length < sizeLine ∧ (upd H4 L (.lst (acc ++ [V.int y]))) t = some (.dK []) ∧ (upd H4 L (.lst (acc ++ [V.int y]))) c = some (.lst (ms.map V.int)) ∧ Same H (upd H4 L (.lst (acc ++ [V.int y]))) ∧ H L = none ∧ ∃ ls : List Int, (upd H4 L (.lst (acc ++ [V.int y]))) L = some (.lst (ls.map V.int)) ∧ ls.length = i + 1 := fun y =>
        ⟨_, q5, by rw [List.length_map, q6, PySem.sizeLine_eq]; omega, by rw [upd_ne ntL]; exact q1, by rw [upd_ne ncL]; exact q2, sameD q3 q4, q4, ls ++ [y], by rw [upd_same, List.map_append]; rfl, by rw [List.length_append, q6]; rfl⟩
      refine ⟨_, rfl, _, _, rfl, rfl, ⟨by decide, by decide, by decide⟩, _, _, rfl, rfl, _, rfl, ?_⟩
      refine ite2 (fun _ => ⟨_, rfl, ?_⟩) (fun _ => ?_)
      · exact fin z
      · exact fin 0
    · rintro H3 ⟨q1, q2, q3, q4, ls, q5, q6⟩
      have ntL : t ≠ L := fun z => by rw [z, q5] at q1; cases q1
      have ncL : c ≠ L := ne_of_none e2 nL
      have nct : c ≠ t := ne_of_none e1 nt
      rw [List.length_map] at q6
      refine ⟨q1, stK c L 0, rfl, by show 4 ≤ 15; decide, ?_⟩
      refine k _ t c L ms.length (sameD q3 (s1.free nt)) (s1.free nt) q4 ⟨?_, ⟨ms, by rw [upd_ne nct]; exact q2, rfl⟩, ⟨ls, by rw [upd_ne ntL.symm]; exact q5, q6⟩, ncL, nct, m0, by omega⟩
      rw [upd_same]
      rfl
end
end NC

set_option Elab.async false
set_option linter.all false
set_option maxRecDepth 100000
set_option maxHeartbeats 4000000
/-! a rule that the layer lacks: dict(zip(t, u)), t and u tuples -/
namespace NC
open PySem PySem.Sem
section
variable {prog : Program} {w : World} {A : Around} {E : Value → Shared → Prop} {s : Shared} {z TI TO T i1 i2 l1 l2 : Addr} {f : Bool} {oT : Obj} {k1 k2 : Nat} {xs ys : Array Value} {x y : Value}
/-- the pair that was given out before still stands: a new one is made -/
theorem held_next {Q : Option Value → Shared → Prop} (D : ZipApart z TI TO i1 i2 l1 l2) (hz : IsZipHeld s.heap z TI TO T f) (hT : s.heap.get? T = some oT) (hTI : IsPair s.heap TI (.ref i1) (.ref i2))
    (h1 : s.heap.IsTupleIter i1 l1 k1) (h2 : s.heap.IsTupleIter i2 l2 k2) (hl1 : s.heap.IsTuple l1 xs) (hl2 : s.heap.IsTuple l2 ys) (hx : xs[k1]? = some x) (hy : ys[k2]? = some y)
    (hQ : ∀ h', IsZipHeld h' z TI TO T true → h'.IsTupleIter i1 l1 (k1 + 1) → h'.IsTupleIter i2 l2 (k2 + 1) → IsPair h' s.heap.objs.size x y →
      (∀ c o, c ≠ z → c ≠ i1 → c ≠ i2 → s.heap.get? c = some o → h'.get? c = some o) → Q (some (.ref s.heap.objs.size)) { s with heap := h' }) : wpAny (model prog w) A (pyNext (.ref z)) Q E s := by
  have ty : s.TypeIs (.ref z) "zip" := ⟨_, hz, rfl⟩
  unfold pyNext
  refine wpAny_bind (wpAny_attempt (wpAny_callSpecial?_slot (name := Str.ofString "__next__") ty F.slot_zip_next (wpAny_call_entry F.slot_zip_next ty F.entry_zip_next ?_ (F.args_zip_next_1 _))))
  show wpAny _ _ (field (.ref z) 2 >>= _) _ _ _
  refine wpAny_bind (wpAny_field hz rfl (x := .bool false) rfl ?_)
  show wpAny _ _ (field (.ref z) 3 >>= _) _ _ _
  refine wpAny_bind (wpAny_field hz rfl (x := .ref TI) rfl (wpAny_bind (wpAny_seqItems hTI rfl ?_)))
  show wpAny _ _ (Builtin.SmallTypes.ownedTupleIsFree (.ref z) >>= _) _ _ _
  refine wpAny_bind (wpAny_tupleHeld_zip hz hT fun ha za sa => ?_)
  simp only [Bool.false_eq_true, if_false]
  refine wpAny_bind ?_
  rw [← Array.forIn_toList]
  simp only [List.forIn_cons, List.forIn_nil]
  refine wpAny_bind (wpAny_bind (wpAny_holding ?_))
  show wpAny _ _ (Builtin.SmallTypes.nextOf (.ref i1) >>= _) _ _ _
  refine wpAny_bind (RZ.nextOf_tuple_item (s := { s with heap := ha }) (h1.extBut sa.extBut D.i1z) (hl1.extBut sa.extBut D.l1z) hx fun hb ib sb => wpAny_pure (wpAny_pure ?_))
  refine wpAny_bind (wpAny_bind (wpAny_holding ?_))
  show wpAny _ _ (Builtin.SmallTypes.nextOf (.ref i2) >>= _) _ _ _
  refine wpAny_bind (RZ.nextOf_tuple_item (s := { s with heap := hb }) ((h2.extBut sa.extBut D.i2z).extBut sb.extBut D.i12.symm) ((hl2.extBut sa.extBut D.l2z).extBut sb.extBut D.l2i1) hy fun hc ic sc => wpAny_pure (wpAny_pure (wpAny_pure ?_)))
  show wpAny _ _ (newTuple [x, y] >>= _) _ _ _
  refine wpAny_bind (wpAny_newTuple (wpAny_pure ?_))
  have size : hc.objs.size = s.heap.objs.size := by rw [sc.1, sb.1, sa.1]
  have keep : ∀ c o, c ≠ z → c ≠ i1 → c ≠ i2 → s.heap.get? c = some o → hc.get? c = some o := fun c o c1 c2 c3 e => sc.extBut _ _ c3 (sb.extBut _ _ c2 (sa.extBut _ _ c1 e))
  have up : ∀ c o, hc.get? c = some o → (hc.push { cls := .type "tuple", data := .seq #[x, y] }).get? c = some o := fun c o e => Heap.get?_push_of_some _ e
  have zc : IsZipHeld hc z TI TO T true := sc.extBut _ _ D.i2z.symm (sb.extBut _ _ D.i1z.symm za)
  have new : IsPair (hc.push { cls := .type "tuple", data := .seq #[x, y] }) hc.objs.size x y := Heap.get?_push_size _ rfl
  refine ⟨_, rfl, wpAny_pure ?_⟩
  show Q (some (.ref hc.objs.size)) _
  rw [size] at new ⊢
  exact hQ _ (up _ _ zc) ((ib.extBut sc.extBut D.i12).at fun o e => up _ o e) (ic.at fun o e => up _ o e) new fun c o c1 c2 c3 e => up c o (keep c o c1 c2 c3 e)
theorem held_end {Q : Option Value → Shared → Prop} (hh : A.handled = none) (D : ZipApart z TI TO i1 i2 l1 l2) (hz : IsZipHeld s.heap z TI TO T f) (hT : s.heap.get? T = some oT) (hTI : IsPair s.heap TI (.ref i1) (.ref i2))
    (h1 : s.heap.IsTupleIter i1 l1 k1) (hl1 : s.heap.IsTuple l1 xs) (hend : xs[k1]? = none)
    (hQ : ∀ h', (∀ c o, c ≠ z → c ≠ i1 → c ≠ i2 → s.heap.get? c = some o → h'.get? c = some o) → Q none { s with heap := h' }) : wpAny (model prog w) A (pyNext (.ref z)) Q E s := by
  have ty : s.TypeIs (.ref z) "zip" := ⟨_, hz, rfl⟩
  unfold pyNext
  refine wpAny_bind (wpAny_attempt (wpAny_callSpecial?_slot (name := Str.ofString "__next__") ty F.slot_zip_next (wpAny_call_entry F.slot_zip_next ty F.entry_zip_next ?_ (F.args_zip_next_1 _))))
  show wpAny _ _ (field (.ref z) 2 >>= _) _ _ _
  refine wpAny_bind (wpAny_field hz rfl (x := .bool false) rfl ?_)
  show wpAny _ _ (field (.ref z) 3 >>= _) _ _ _
  refine wpAny_bind (wpAny_field hz rfl (x := .ref TI) rfl (wpAny_bind (wpAny_seqItems hTI rfl ?_)))
  show wpAny _ _ (Builtin.SmallTypes.ownedTupleIsFree (.ref z) >>= _) _ _ _
  refine wpAny_bind (wpAny_tupleHeld_zip hz hT fun ha za sa => ?_)
  simp only [Bool.false_eq_true, if_false]
  refine wpAny_bind ?_
  rw [← Array.forIn_toList]
  simp only [List.forIn_cons, List.forIn_nil]
  refine wpAny_bind (wpAny_bind (wpAny_holding ?_))
  show wpAny _ _ (Builtin.SmallTypes.nextOf (.ref i1) >>= _) _ _ _
  refine wpAny_bind (RZ.nextOf_tuple_end (s := { s with heap := ha }) hh (h1.extBut sa.extBut D.i1z) (hl1.extBut sa.extBut D.l1z) hend fun hb e kb ⟨o, ho, hc⟩ => ?_)
  refine wpAny_bind (wpAny_isInstance (T := "StopIteration") (b := true) ⟨o, ho, hc⟩ isSubtype_stop (wpAny_pure ?_))
  exact hQ _ fun c o c1 c2 _ x => kb _ _ c2 (sa.extBut _ _ c1 x)
end
section
variable {prog : Program} {w : World}
/-- how far a zip of two tuples of one length is -/
def ZSt (z TI TO i1 i2 l1 l2 d : Addr) (xs ys : Array Value) (i : Nat) (h : Heap) : Prop := IsPair h TI (.ref i1) (.ref i2) ∧ h.IsTupleIter i1 l1 i ∧ h.IsTupleIter i2 l2 i ∧ h.IsTuple l1 xs ∧ h.IsTuple l2 ys ∧
  ((IsZip h z TI TO .none ∧ ∃ a b, IsPair h TO a b) ∨ ∃ T f oT, IsZipHeld h z TI TO T f ∧ h.get? T = some oT ∧ T ≠ z ∧ T ≠ i1 ∧ T ≠ i2 ∧ T ≠ d)
theorem zipTArg {z TI TO i1 i2 l1 l2 : Addr} (D : ZipApart z TI TO i1 i2 l1 l2) {xs ys : Array Value} (hl : xs.size = ys.size) :
    PairArg prog w "zip" z [z, TI, TO, i1, i2, l1, l2] [z, TO, i1, i2] xs.size (fun i k v => xs[i]? = some k ∧ ys[i]? = some v)
      (fun h => IsZip h z TI TO .none ∧ IsPair h TI (.ref i1) (.ref i2) ∧ (∃ a b, IsPair h TO a b) ∧ h.IsTupleIter i1 l1 0 ∧ h.IsTupleIter i2 l2 0 ∧ h.IsTuple l1 xs ∧ h.IsTuple l2 ys) where
  type := fun s ok => ⟨_, ok.1, rfl⟩
  notDict := by decide
  keep := fun h h' ⟨e1, e2, ⟨a, b, e3⟩, e4, e5, e6, e7⟩ k => ⟨k _ _ e1, k _ _ e2, ⟨a, b, k _ _ e3⟩, e4.at fun o e => k _ o e, e5.at fun o e => k _ o e, e6.at fun o e => k _ o e, e7.at fun o e => k _ o e⟩
  there := by
    rintro h ⟨e1, e2, ⟨a, c, e3⟩, ⟨o1, e4, _⟩, ⟨o2, e5, _⟩, ⟨o3, e6, _⟩, ⟨o4, e7, _⟩⟩ b hb
    rcases List.mem_cons.mp hb with rfl | hb
    · exact ⟨_, e1⟩
    rcases List.mem_cons.mp hb with rfl | hb
    · exact ⟨_, e2⟩
    rcases List.mem_cons.mp hb with rfl | hb
    · exact ⟨_, e3⟩
    rcases List.mem_cons.mp hb with rfl | hb
    · exact ⟨_, e4⟩
    rcases List.mem_cons.mp hb with rfl | hb
    · exact ⟨_, e5⟩
    rcases List.mem_cons.mp hb with rfl | hb
    · exact ⟨_, e6⟩
    · exact ⟨_, List.mem_singleton.mp hb ▸ e7⟩
  sub := fun b hb => by
    simp only [List.mem_cons, List.not_mem_nil, or_false] at hb ⊢
    rcases hb with h | h | h | h <;> simp [h]
  noKeys := fun A s Q E hA ok h => getAttrOr_miss_zip ok.1 rfl rfl rfl zip_no_keys (by decide +kernel) hA h
  iter := by
    intro A s d Q E hA ok dl dn h
    obtain ⟨e1, e2, ⟨a, b, e3⟩, e4, e5, e6, e7⟩ := ok
    simp only [List.mem_cons, List.not_mem_nil, or_false, not_or] at dn
    obtain ⟨dz, dTI, dTO, di1, di2, dl1, dl2⟩ := dn
    refine wpAny_pyIter_zip e1 (h z [z, TO, i1, i2] (ZSt z TI TO i1 i2 l1 l2 d xs ys) s.heap s.toks ?_ ⟨e2, e4, e5, e6, e7, .inl ⟨e1, a, b, e3⟩⟩ (fun _ _ e => e) fun b hb => .inl hb)
    refine { off := ?_, frame := ?_, item := ?_, done := ?_ }
    · intro hm
      simp only [List.mem_cons, List.not_mem_nil, or_false] at hm
      exact hm.elim dz fun hm => hm.elim dTO fun hm => hm.elim di1 di2
    · rintro i h1 h2 ⟨q1, q2, q3, q4, q5, q6⟩ k
      refine ⟨k _ _ (Ne.symm dTI) q1, q2.at fun o e => k _ o (Ne.symm di1) e, q3.at fun o e => k _ o (Ne.symm di2) e, q4.at fun o e => k _ o (Ne.symm dl1) e, q5.at fun o e => k _ o (Ne.symm dl2) e, ?_⟩
      rcases q6 with ⟨q, a, b, q'⟩ | ⟨T, f, oT, q, q', r⟩
      · exact .inl ⟨k _ _ (Ne.symm dz) q, a, b, k _ _ (Ne.symm dTO) q'⟩
      · exact .inr ⟨T, f, oT, k _ _ (Ne.symm dz) q, k _ _ r.2.2.2 q', r⟩
    · rintro i s1 Q1 E1 lt ⟨q1, q2, q3, q4, q5, q6⟩ ds hQ
      have ex := Array.getElem?_eq_getElem lt
      have ey := Array.getElem?_eq_getElem (show i < ys.size by omega)
      have far : ∀ {c o}, s1.heap.get? c = some o → s1.heap.objs.size ≠ c := fun e => Nat.ne_of_gt (Heap.lt_size e)
      have n1 : s1.heap.objs.size ≠ i1 := let ⟨_, e, _⟩ := q2; far e
      have n2 : s1.heap.objs.size ≠ i2 := let ⟨_, e, _⟩ := q3; far e
      have off : ∀ {c : Addr}, c ∉ [z, TO, i1, i2] → c ≠ z ∧ c ≠ TO ∧ c ≠ i1 ∧ c ≠ i2 := fun {c} hc => by simpa [not_or] using hc
      rcases q6 with ⟨q, a, b, q'⟩ | ⟨T, f, oT, q, q', r1, r2, r3, r4⟩
      · refine RZ.pyNext_zipT_item D q q1 q' q2 q3 q4 q5 ex ey fun h' a1 a2 a3 a4 a5 a6 k => hQ s1.heap.objs.size _ _ h' s1.toks ⟨ex, ey⟩ (.inl ⟨_, a5, rfl, _, rfl⟩)
          ⟨k _ _ D.TIz D.TITO D.TIi1 D.TIi2 q1, a3, a4, q4.at fun o e => k _ o D.l1z D.l1TO D.l1i1 D.l1i2 e, q5.at fun o e => k _ o D.l2z D.l2TO D.l2i1 D.l2i2 e, .inr ⟨_, false, _, a1, a5, far q, n1, n2, Nat.ne_of_gt ds⟩⟩ fun c o hc e => ?_
        obtain ⟨c1, c2, c3, c4⟩ := off hc
        exact k c o c1 c2 c3 c4 e
      · refine held_next D q q' q1 q2 q3 q4 q5 ex ey fun h' a1 a3 a4 a5 k => hQ s1.heap.objs.size _ _ h' s1.toks ⟨ex, ey⟩ (.inl ⟨_, a5, rfl, _, rfl⟩)
          ⟨k _ _ D.TIz D.TIi1 D.TIi2 q1, a3, a4, q4.at fun o e => k _ o D.l1z D.l1i1 D.l1i2 e, q5.at fun o e => k _ o D.l2z D.l2i1 D.l2i2 e, .inr ⟨T, true, oT, a1, k _ _ r1 r2 r3 q', r1, r2, r3, r4⟩⟩ fun c o hc e => ?_
        obtain ⟨c1, _, c3, c4⟩ := off hc
        exact k c o c1 c3 c4 e
    · rintro s1 Q1 E1 ⟨q1, q2, q3, q4, q5, q6⟩ hQ
      have hend : xs[xs.size]? = none := Array.getElem?_eq_none (Nat.le_refl _)
      have off : ∀ {c : Addr}, c ∉ [z, TO, i1, i2] → c ≠ z ∧ c ≠ TO ∧ c ≠ i1 ∧ c ≠ i2 := fun {c} hc => by simpa [not_or] using hc
      rcases q6 with ⟨q, a, b, q'⟩ | ⟨T, f, oT, q, q', r1, r2, r3, r4⟩
      · refine RZ.pyNext_zipT_end hA D q q1 q' q2 q3 q4 q5 (.inl hend) fun h' k => hQ h' s1.toks fun c o hc e => ?_
        obtain ⟨c1, c2, c3, c4⟩ := off hc
        exact k c o c1 c2 c3 c4 e
      · refine held_end hA D q q' q1 q2 q4 hend fun h' k => hQ h' s1.toks fun c o hc e => ?_
        obtain ⟨c1, _, c3, c4⟩ := off hc
        exact k c o c1 c3 c4 e
end
open L2 PySem.Spec PyProof.Rows
section
variable {X : Cx}
theorem kv_zip : ∀ {ks : List Key} {us : List Value} {xs : List V} {vs : List Value}, Vals (ks.map kV) us → Vals xs vs → ks.length = xs.length → ∃ prs : List (Key × Value), KV (ks.zip xs) prs ∧ prs.length = us.length ∧ ∀ (i : Nat) (k v : Value), us[i]? = some k → vs[i]? = some v → ∃ k', prs[i]? = some (k', v) ∧ (mixKind X.prog X.w).is k' k = true
  | [], _, [], _, .nil, .nil, _ => ⟨[], .nil, rfl, fun i k v e => by simp at e⟩
  | k :: ks, _, x :: xs, _, .cons (b := u) r1 r2, .cons (b := v) q1 q2, hl => by
    obtain ⟨prs, p1, p2, p3⟩ := kv_zip r2 q2 (by simpa using hl)
    refine ⟨(k, v) :: prs, .cons ⟨rfl, q1⟩ p1, by rw [List.length_cons, List.length_cons, p2], fun i k' v' e1 e2 => ?_⟩
    cases i with
    | zero =>
      have e1 : u = k' := Option.some.inj e1
      have e2 : v = v' := Option.some.inj e2
      subst e1 e2
      exact ⟨k, rfl, kV_is (P := X.prog) (w := X.w) r1⟩
    | succ i => exact p3 i k' v' (by simpa using e1) (by simpa using e2)
  | [], _, _ :: _, _, _, _, hl => by simp at hl
  | _ :: _, _, [], _, _, _, hl => by simp at hl
/-- dict(zip(t, u)), t a tuple of texts -/
def tDZip (K : PySem.W.Frag) (t : TA) : TE := fun σ H Q => t σ H fun vs H1 => ∃ (a b : Addr) (ks : List Key) (xs : List V), vs = [.ref a, .ref b] ∧ SqT K H1 a (ks.map kV) ∧ SqT K H1 b xs ∧ ks.length = xs.length ∧ ∀ p, H1 p = none → Q (.ref p) (upd H1 p (.dK (mergeK [] (ks.zip xs))))
theorem pe_dzip {e e2 : Expr} {t : TA} {p1 p2 q1 q2 : Pos} (hc : X.calm = true) (hg : Gl X "dict") (hm : X.mg "dict" = none) (hg2 : Gl X "zip") (hm2 : X.mg "zip" = none) (ha : PA X [e, e2] t)
    (hs : starEach [e, e2] X.env = (false, eval e X.env) :: starEach [e2] X.env := by rfl) (hpl : (backTo q2 (starEach [e2] X.env)).any (·.1) = false := by rfl)
    (hs2 : starEach [.Call (.Name "zip" p2) [e, e2] [] q2] X.env = (false, eval (.Call (.Name "zip" p2) [e, e2] [] q2) X.env) :: starEach [] X.env := by rfl) :
    PE X (.Call (.Name "dict" p1) [.Call (.Name "zip" p2) [e, e2] [] q2] [] q1) (tDZip X.K t) := by
  refine ⟨fun pins s σ H Q I h => ?_⟩
  refine Call_ (ld_blt I hg hm PyProof.Rows.Boot.«dict» (PyProof.Rows.callWith_type1 (args_cons (Call_ (ld_blt I hg2 hm2 PyProof.Rows.boot_zip (PyProof.Rows.callWith_type1 (thn (ha.run q2 pins _ σ H _ (I.tok _) h) fun us s1 ⟨vs, H1, I1, r1, q⟩ => ?_) hs hpl))) hs2) hs2 rfl))
  obtain ⟨a, b, ks, xs, ex, hqx, hqy, hlen, q⟩ := q
  subst ex
  cases r1 with
  | cons r rr =>
    cases rr with
    | cons r' rr =>
      cases rr
      cases r
      cases r'
      obtain ⟨its, rv, p1, z1⟩ := I1.tuple hqx
      obtain ⟨its2, rv2, p2, z2⟩ := I1.tuple hqy
      obtain ⟨o1, ho1, _⟩ := id p1
      obtain ⟨o2, ho2, _⟩ := id p2
      refine RZ.call_zipT (show s1.heap.IsTuple a its.toArray from p1) (show s1.heap.IsTuple b its2.toArray from p2) fun h' hz hTI hTO h1 h2 hsz hk => args_nil ?_
      have D := PySem.W.ktu_apart s1.heap.objs.size a b (Heap.lt_size ho1) (Heap.lt_size ho2)
      obtain ⟨prs, rel, pl, pk⟩ := kv_zip (X := X) rv rv2 hlen
      have sz : its.toArray.size = its2.toArray.size := by
        rw [List.size_toArray, List.size_toArray, ← NC.Paired.len rv, ← NC.Paired.len rv2, List.length_map]
        exact hlen
      have small : its.toArray.size ≤ sizeLine := by
        have e1 := NC.Paired.len rv
        rw [List.size_toArray, ← e1]
        exact z1
      refine PySem.call_dict_pairs (s := { s1 with heap := h' }) (knd := mixKind X.prog X.w) (kvs := prs) (zipTArg D sz) (I1.ok.hd hc) ⟨hz, hTI, ⟨_, _, hTO⟩, h1, h2, (show s1.heap.IsTuple a its.toArray from p1).at fun o e => hk _ o e, (show s1.heap.IsTuple b its2.toArray from p2).at fun o e => hk _ o e⟩ ⟨by rw [pl, List.size_toArray], fun i k v hkv => ?_⟩ small fun h3 tk dd keep => ?_
      · obtain ⟨k', e1, e2⟩ := pk i k v (by simpa using hkv.1) (by simpa using hkv.2)
        exact ⟨k', e1, e2⟩
      · have old : ∀ c o, s1.heap.get? c = some o → h3.get? c = some o := fun c o e => by
          have lt := Heap.lt_size e
          refine keep c o (fun hm => ?_) (hk c o e)
          simp only [List.mem_cons, List.not_mem_nil, or_false] at hm
          rcases hm with z | z | z | z
          · exact absurd lt (Nat.not_lt.mpr (z ▸ Nat.le_add_right _ _))
          · exact absurd lt (Nat.not_lt.mpr (z ▸ Nat.le_add_right _ _))
          · exact absurd lt (Nat.not_lt.mpr (z ▸ Nat.le_refl _))
          · exact absurd lt (Nat.not_lt.mpr (z ▸ Nat.le_add_right _ _))
        have ge : s1.heap.objs.size ≤ h'.objs.size := by rw [hsz]; exact Nat.le_add_right _ _
        have hm : (h'.objs.size == sysModules) = false := beq_eq_false_iff_ne.mpr (Nat.ne_of_gt (Nat.lt_of_lt_of_le I1.big ge))
        have hl3 : (mergeK [] (ks.zip xs)).length ≤ sizeLine := by
          refine Nat.le_trans (length_mergeK (ks.zip xs) []) ?_
          have e3 : (ks.zip xs).length = xs.length := by rw [List.length_zip, hlen, Nat.min_self]
          rw [e3, List.length_nil, Nat.zero_add]
          exact z2
        exact ⟨.ref h'.objs.size, upd H1 h'.objs.size (.dK (mergeK [] (ks.zip xs))), I1.laid (t' := tk) old ge (dk_new hl3 hm (KV.merge rel .nil) dd), rfl, q _ (I1.hok.fresh ge)⟩
end
end NC

set_option Elab.async false
set_option linter.all false
set_option maxRecDepth 100000
set_option maxHeartbeats 4000000
namespace NC
open PySem L2
/-! ### plain: dicts of a row -/
section
variable {κ : Type} [DecidableEq κ]
end
theorem merge_none : ∀ (more kvs : List (Key × V)) (k : Key), (∀ p ∈ more, p.1 ≠ k) → valV (mergeK kvs more) k = valV kvs k
  | [], kvs, k, _ => rfl
  | p :: r, kvs, k, h => by
    show valV (mergeK (putK kvs p.1 p.2) r) k = _
    rw [merge_none r _ k fun q hq => h q (List.mem_cons_of_mem _ hq), valV_put, if_neg (fun z => h p List.mem_cons_self z.symm)]
theorem merge_look : ∀ (N : List Str) (r : List Int) (kvs : List (Key × V)) (x : Str), N.Nodup → N.length = r.length → x ∈ N → valV (mergeK kvs ((N.map Sum.inr).zip (r.map V.int))) (.inr x) = some (.int (K2.byM N r x))
  | [], _, _, _, _, _, h => absurd h List.not_mem_nil
  | a :: N, [], _, _, _, h, _ => by cases h
  | a :: N, e :: r, kvs, x, nd, hl, hx => by
    rw [List.nodup_cons] at nd
    show valV (mergeK (putK kvs (.inr a) (.int e)) ((N.map Sum.inr).zip (r.map V.int))) (.inr x) = _
    unfold K2.byM
    by_cases hxa : x = a
    · subst hxa
      rw [merge_none, valV_put, if_pos rfl]
      · simp
      · intro p hp e
        have := (List.of_mem_zip hp).1
        rw [e] at this
        obtain ⟨y, hy, ey⟩ := List.mem_map.mp this
        injection ey with ey
        exact nd.1 (ey ▸ hy)
    · rw [merge_look N r _ x nd.2 (by simpa using hl) ((List.mem_cons.mp hx).resolve_left hxa)]
      unfold K2.byM
      rw [List.zip_cons_cons, List.lookup_cons]
      have : (x == a) = false := by simpa using hxa
      rw [this]
theorem merge_keys : ∀ (r : List Int) (acc : List Int) (kvs : List (Key × V)), kvs.map (·.1) = acc.map Sum.inl → (mergeK kvs (r.map fun i => (Sum.inl i, V.int 0))).map (·.1) = (r.foldl K2.ddStep acc).map Sum.inl
  | [], acc, kvs, h => h
  | i :: r, acc, kvs, h => by
    show (mergeK (putK kvs (.inl i) (.int 0)) (r.map fun i => (Sum.inl i, V.int 0))).map (·.1) = (r.foldl K2.ddStep (K2.ddStep acc i)).map Sum.inl
    refine merge_keys r (K2.ddStep acc i) _ ?_
    have mem : (kvs.any fun kv => decide (kv.1 = Sum.inl i)) = decide (i ∈ acc) := by
      have e : (kvs.any fun kv => decide (kv.1 = Sum.inl i)) = (kvs.map (·.1)).any fun k => decide (k = Sum.inl i) := by rw [List.any_map]; rfl
      rw [e, h, List.any_map]
      by_cases hi : i ∈ acc
      · rw [decide_eq_true hi]
        exact List.any_eq_true.mpr ⟨i, hi, by simp⟩
      · rw [decide_eq_false hi]
        refine Bool.eq_false_iff.mpr fun q => ?_
        obtain ⟨j, hj, e⟩ := List.any_eq_true.mp q
        have e' : j = i := by simpa using e
        exact hi (e' ▸ hj)
    unfold putK K2.ddStep
    rw [mem]
    by_cases hi : i ∈ acc
    · rw [decide_eq_true hi, if_pos rfl, if_pos hi, List.map_map, ← h]
      refine List.map_congr_left fun p _ => ?_
      show (if p.1 = Sum.inl i then (p.1, V.int 0) else p).1 = p.1
      split <;> rfl
    · rw [decide_eq_false hi, if_neg (by decide), if_neg hi, List.map_append, h, List.map_append]
      rfl
/-- the distinct ranks sorted are 0, 2, 4, .. exactly if the row is one of the law's -/
theorem ranks_sorted {row ys : List Int} (hp : ys.Perm (K2.dd row)) (hs : ys.Pairwise (· ≤ ·)) : decide (ys = (List.range (K2.dd row).length).map fun (j : Nat) => 2 * (j : Int)) = K2.rankOk row := by
  have nd := K2.nodup_dd row
  have sorted2 : ((List.range (K2.dd row).length).map fun (j : Nat) => 2 * (j : Int)).Pairwise (· ≤ ·) := by
    rw [List.pairwise_map]
    exact List.Pairwise.imp (fun {a b} h => by omega) List.pairwise_lt_range
  have nd2 : ((List.range (K2.dd row).length).map fun (j : Nat) => 2 * (j : Int)).Nodup := K2.nodup_map_of _ _ List.nodup_range fun a _ b _ e => by omega
  unfold K2.rankOk
  by_cases h : ∀ j < (K2.dd row).length, (2 * (j : Int)) ∈ row
  · rw [show ((List.range (K2.dd row).length).all fun j => decide ((2 * (j : Int)) ∈ row)) = true from List.all_eq_true.mpr fun j hj => decide_eq_true (h j (List.mem_range.mp hj))]
    refine decide_eq_true ?_
    refine List.Perm.eq_of_pairwise (fun a b _ _ h1 h2 => by omega) hs sorted2 (hp.trans ?_)
    have sub : ∀ x ∈ (List.range (K2.dd row).length).map fun (j : Nat) => 2 * (j : Int), x ∈ K2.dd row := fun x hx => by
      obtain ⟨j, hj, rfl⟩ := List.mem_map.mp hx
      exact K2.mem_dd.mpr (h j (List.mem_range.mp hj))
    refine (List.perm_ext_iff_of_nodup nd nd2).mpr fun a => ⟨fun ha => ?_, sub a⟩
    refine Classical.byContradiction fun na => ?_
    have := K2.len_of_sub (a :: (List.range (K2.dd row).length).map fun (j : Nat) => 2 * (j : Int)) (K2.dd row) (List.nodup_cons.mpr ⟨na, nd2⟩) fun x hx => (List.mem_cons.mp hx).elim (fun e => e ▸ ha) (sub x)
    rw [List.length_cons, List.length_map, List.length_range] at this
    omega
  · rw [show ((List.range (K2.dd row).length).all fun j => decide ((2 * (j : Int)) ∈ row)) = false from Bool.eq_false_iff.mpr fun q => h fun j hj => of_decide_eq_true (List.all_eq_true.mp q j (List.mem_range.mpr hj))]
    refine decide_eq_false fun e => h fun j hj => K2.mem_dd.mp (hp.mem_iff.mp ?_)
    rw [e]
    exact List.mem_map.mpr ⟨j, List.mem_range.mpr hj, rfl⟩
end NC

set_option Elab.async false
set_option linter.all false
set_option maxRecDepth 100000
set_option maxHeartbeats 4000000
namespace NC
open PySem L2
/-! ### lists of rows -/
structure RowsAt (K : PySem.W.Frag) (H : Hp) (L : Addr) (as : List Addr) (W : List (List Int)) : Prop where
  at_ : H L = some (.lst (as.map V.ref))
  each : Paired (fun a r => SqT K H a (r.map V.int)) as W
theorem RowsAt.kept {K : PySem.W.Frag} {H H' : Hp} {L : Addr} {as : List Addr} {W : List (List Int)} (h : RowsAt K H L as W) (k : ∀ a xs, SqT K H a xs → SqT K H' a xs) (e : H' L = H L) : RowsAt K H' L as W :=
  ⟨e.trans h.at_, Paired.imp (fun _ _ z => k _ _ z) h.each⟩
theorem RowsAt.same {K : PySem.W.Frag} {H H' : Hp} {L : Addr} {as : List Addr} {W : List (List Int)} (s : Same H H') (h : RowsAt K H L as W) : RowsAt K H' L as W :=
  ⟨s _ _ h.at_, Paired.imp (fun _ _ z => sameT s z) h.each⟩
theorem RowsAt.app {K : PySem.W.Frag} {H : Hp} {L a : Addr} {as : List Addr} {W : List (List Int)} {r : List Int} (h : RowsAt K H L as W) (ha : SqT K H a (r.map V.int)) : RowsAt K (upd H L (.lst (as.map V.ref ++ [.ref a]))) L (as ++ [a]) (W ++ [r]) := by
  refine ⟨by rw [upd_same, List.map_append]; rfl, P_app (Paired.imp (fun _ _ z => sqT_at z h.at_ nt_lst) h.each) (.cons (sqT_at ha h.at_ nt_lst) .nil)⟩
theorem RowsAt.ext {K : PySem.W.Frag} {H : Hp} {L : Addr} {as bs : List Addr} {W U : List (List Int)} (h : RowsAt K H L as W) (hb : Paired (fun a r => SqT K H a (r.map V.int)) bs U) : RowsAt K (upd H L (.lst (as.map V.ref ++ bs.map V.ref))) L (as ++ bs) (W ++ U) :=
  ⟨by rw [upd_same, List.map_append], P_app (Paired.imp (fun _ _ z => sqT_at z h.at_ nt_lst) h.each) (Paired.imp (fun _ _ z => sqT_at z h.at_ nt_lst) hb)⟩
theorem RowsAt.other {K : PySem.W.Frag} {H : Hp} {L M : Addr} {as : List Addr} {W : List (List Int)} {xs : List V} {o : HO} (h : RowsAt K H L as W) (e : H M = some (.lst xs)) (ne : L ≠ M) : RowsAt K (upd H M o) L as W :=
  h.kept (fun _ _ z => sqT_at z e nt_lst) (upd_ne ne)
theorem flat_len (n : Nat) (L : List (List Int)) : (L.flatMap fun row => (List.range n).map fun (r : Nat) => row ++ [2 * (r : Int)]).length = L.length * n := by
  induction L with
  | nil => simp
  | cons a L ih => rw [List.flatMap_cons, List.length_append, ih, List.length_map, List.length_range, List.length_cons, Nat.succ_mul, Nat.add_comm]
theorem rowsM_len (n : Nat) : ∀ k, (K2.rowsM n k).length = n ^ k
  | 0 => rfl
  | k + 1 => by
    unfold K2.rowsM
    rw [flat_len, rowsM_len n k, Nat.pow_succ]
theorem rowsM_small {n k : Nat} (hn : n ≤ 4) (hk : k ≤ 4) : (K2.rowsM n k).length ≤ 256 := by
  rw [rowsM_len]
  have h1 : n ^ k ≤ 4 ^ k := Nat.pow_le_pow_left hn k
  have h2 : (4 : Nat) ^ k ≤ 4 ^ 4 := Nat.pow_le_pow_right (by decide) hk
  omega
section
variable {v : Str → Int} {f : Fc}
theorem sat_gt (h : v f.2.2 < v f.1) : (!decide (K2.SatF v f)) = true := by
  rw [decide_eq_false (fun z => by unfold K2.SatF at z; split at z <;> omega)]; rfl
theorem sat_eq (h : ¬ v f.2.2 < v f.1) (hw : f.2.1 = true) : (!decide (K2.SatF v f)) = decide (V.int (v f.1) = V.int (v f.2.2)) := by
  by_cases e : v f.1 = v f.2.2
  · rw [decide_eq_false (fun z => by unfold K2.SatF at z; rw [if_pos hw] at z; omega), decide_eq_true (by rw [e])]; rfl
  · rw [decide_eq_true (show K2.SatF v f by unfold K2.SatF; rw [if_pos hw]; omega), decide_eq_false (fun z => e (by injection z))]; rfl
theorem sat_up (h : ¬ v f.2.2 < v f.1) (hw : ¬ f.2.1 = true) : (!decide (K2.SatF v f)) = false := by
  rw [decide_eq_true (show K2.SatF v f by unfold K2.SatF; rw [if_neg hw]; omega)]; rfl
end
theorem eqv_il (V W : List Int) : PyData.eqv (.list (V.map .int)) (.list (W.map .int)) = decide (V = W) := eqv_i V W
theorem call_len_dK {X : Cx} : CallR X (.builtin "len") (fun xs H Q => ∃ (a : Addr) (kvs : List (Key × V)), xs = [.ref a] ∧ Rd H a (.dK kvs) ∧ Q (.int kvs.length) H) := by
  rintro pins s σ H xs us Q I r ⟨a, kvs, rfl, e, q⟩
  obtain ⟨u, rfl, rx⟩ := vals1 r
  cases rx
  exact d_len I e fun t s' I' => ⟨.int kvs.length, H, I', ⟨t, rfl⟩, q⟩
section
variable {P : Program} {w : World} {K : PySem.W.Frag} {mg : Str → Option Value} {base : Heap}
/-! ### _law_worlds -/
abbrev sWorlds : Stmt := top 34
abbrev nWorlds : List Str := ["_law_frame_here", "_law_names", "_law_facts", "_law_rows", "_law_name", "_law_longer", "_law_row", "_law_found", "_law_by", "_law_wrong", "_law_ranks", "_law_rank", "_law_a", "_law_word", "_law_b", "_law_k"]
def spWorlds (K : PySem.W.Frag) : Sp := fun vs H Q _ => ∃ (p : Addr) (N : List Str) (F : List Fc), vs = [.ref p] ∧ FrAt K H p N F ∧ N.Nodup ∧ 0 < N.length ∧ N.length ≤ 4 ∧ K2.On N F ∧ F.length ≤ 60 ∧
  ∀ H' L as, Same H H' → H L = none → RowsAt K H' L as (K2.worldsM N F) → Q (.ref L) H'
theorem scWorlds : FnScope nWorlds ["_law_frame_here"] (defScope sWorlds) := ⟨rfl, rfl, rfl, by decide +kernel, rfl, by decide +kernel, by decide +kernel⟩
theorem df_worlds (T : Txt K mg) (S : Std K mg "_law_worlds" sWorlds) : Df P w K mg base CX0 "_law_worlds" ["_law_frame_here"] 1 (spWorlds K) := by
  refine S.df (fun _ _ _ _ _ _ us hl => match us, hl with | [_], _ => rfl) fun f fd F => F.ok scWorlds (fun vs H Q E h => ?_) (fun cdv A outer s H vs Q E hr h => ?_)
  · obtain ⟨p, N, F, rfl, _⟩ := h
    rfl
  · obtain ⟨p, N, F, rfl, hF, hnd, hn0, hn4, hO, hl60, k⟩ := h
    have nd := scWorlds.nd
    have hu := rm1 hr
    have h64 := rm64 hr
    refine ⟨_, pss_cons (ps_asg (pv 0) (pg_tup rfl (pgs_cons (pg_name (i := 1) nd rfl (.inl rfl)) (pgs_cons (pg_name (i := 2) nd rfl (.inl rfl)) pgs_nil))))
      (pss_cons (ps_set (i := 3) nd rfl (.inl rfl) (pe_lst (pa_cons (pe_tup pa_nil) pa_nil)))
      (pss_cons (ps_for PassesOwn.never rfl (pi_tup (pv 1)) (pg_name (i := 4) nd rfl (.inl rfl))
        (pss_cons (ps_set (i := 5) nd rfl (.inl rfl) (pe_lst pa_nil))
        (pss_cons (ps_for PassesOwn.never rfl (pi_list (pv 3)) (pg_name (i := 6) nd rfl (.inr rfl))
          (pss_one (ps_expr (pe_bm PySem.F.plainAttrs_list PySem.F.slot_list_extend PySem.F.type_list_extend mt_extend (pv 5) (pa_cons (pe_lc (own := [("_law_rank", 11)]) (g := gName 11) (tt := tYes) rfl nd (pi_range1 rfl T.nRange (pa_cons (pe_len T.nLen (pv 1)) pa_nil)) (blkOk_by (N := nWorlds) (sc := defScope sWorlds) (by decide +kernel))
            (fun _ _ _ _ _ => pg_name (i := 11) nd rfl (Or.inl rfl)) (fun _ _ _ _ _ => pts_nil) (fun _ _ _ _ _ => pe_op (show OpR _ (binaryOp .Add) (rCatA K) from op_catA) (pv 6) (pe_tup (pa_cons (pe_op op_mul pe_int (pv 11)) pa_nil)))) pa_nil)))))
        (pss_one (ps_set (i := 3) nd rfl (.inl rfl) (pv 5))))))
      (pss_cons (ps_set (i := 7) nd rfl (.inl rfl) (pe_lst pa_nil))
      (pss_cons (ps_for PassesOwn.never rfl (pi_list (pv 3)) (pg_name (i := 6) nd rfl (.inr rfl))
        (pss_cons (ps_set (i := 8) nd rfl (.inr rfl) (pe_dzip rfl rfl T.nDict rfl T.nZip (pa_cons (pv 1) (pa_cons (pv 6) pa_nil))))
        (pss_cons (ps_setLc (i := 9) (own := [("_law_a", 12), ("_law_word", 13), ("_law_b", 14)]) rfl nd rfl rfl (sw_true rfl rfl rfl (by decide +kernel)) (pi_tup (pv 2)) (blkOk_by (N := nWorlds) (sc := defScope sWorlds) (by decide +kernel))
          (fun _ _ _ _ _ => (show PG _ _ (gTup K 3 _) from pg_tup rfl (pgs_cons (pg_name (i := 12) nd rfl (Or.inl rfl)) (pgs_cons (pg_name (i := 13) nd rfl (Or.inl rfl)) (pgs_cons (pg_name (i := 14) nd rfl (Or.inl rfl)) pgs_nil)))))
          (fun _ _ _ _ _ => pts_one (pt_pure (PW.pt (pw_or (pt_cmpR op_gt (pe_dget hu (pv 8) (pv 12) (fun _ _ => rfl)) (pe_dget hu (pv 8) (pv 14) (fun _ _ => rfl)) (nomark _))
            (pw_or1 (PW.pt (pw_and (pt_cmpR op_eq (pv 13) pe_str (nomark _)) (pw_and1 (pt_cmpR op_eq (pe_dget hu (pv 8) (pv 12) (fun _ _ => rfl)) (pe_dget hu (pv 8) (pv 14) (fun _ _ => rfl)) (nomark _)))))))))) (fun _ _ _ _ _ => pe_int))
        (pss_cons (ps_set (i := 10) nd rfl (.inl rfl) (pe_callTy (call_dictP rfl) rfl T.nDict (by decide +kernel) (pa_cons (pe_lc (own := [("_law_rank", 11)]) (g := gName 11) (tt := tYes) rfl nd (pi_tup (pv 6)) (blkOk_by (N := nWorlds) (sc := defScope sWorlds) (by decide +kernel))
          (fun _ _ _ _ _ => pg_name (i := 11) nd rfl (Or.inl rfl)) (fun _ _ _ _ _ => pts_nil) (fun _ _ _ _ _ => pe_tup (pa_cons (pv 11) (pa_cons pe_int pa_nil)))) pa_nil)))
        (pss_one (ps_if (PW.pt (pw_and (pt_cmpR (op_eqD h64) (pv 9) (pe_lst pa_nil) (nomark _)) (pw_and1 (pt_cmpR (op_eqD h64) (pe_callB (call_sortedDI rfl) rfl T.nSorted (by decide +kernel) (pa_cons (pv 10) pa_nil))
            (pe_lc (own := [("_law_k", 15)]) (g := gName 15) (tt := tYes) rfl nd (pi_range1 rfl T.nRange (pa_cons (pe_callB call_len_dK rfl T.nLen PySem.boot_len (pa_cons (pv 10) pa_nil)) pa_nil)) (blkOk_by (N := nWorlds) (sc := defScope sWorlds) (by decide +kernel))
              (fun _ _ _ _ _ => pg_name (i := 15) nd rfl (Or.inl rfl)) (fun _ _ _ _ _ => pts_nil) (fun _ _ _ _ _ => pe_op op_mul pe_int (pv 15))) (nomark _)))))
          (pss_one (ps_expr (pe_bm PySem.F.plainAttrs_list PySem.F.slot_list_append PySem.F.type_list_append mt_append (pv 7) (pa_cons (pv 6) pa_nil)))) pss_nil))))))
      (pss_one (ps_ret (pv 7))))))), ?_⟩
    obtain ⟨pn, pf, fs, h1, h2, h3⟩ := hF.ex
    refine ⟨_, rfl, p, _, rfl, h1, rfl, _, _, rfl, _, _, rfl, rfl, ?_⟩
    refine ⟨by show 0 ≤ sizeLine; decide, fun e ne => ⟨by show 1 ≤ sizeLine; decide, fun A nA => ?_⟩⟩
    have s1 := sameU (o := .lst [.ref e]) (sameN (o := .tup []) ne) nA
    have R1 : RowsAt K (upd (upd H e (.tup [])) A (.lst [.ref e])) A [e] (K2.rowsM N.length 0) := ⟨upd_same, .cons (SqT.of (by rw [upd_ne (ne_of_none upd_same nA)]; exact upd_same)) .nil⟩
    generalize upd (upd H e (.tup [])) A (.lst [.ref e]) = H1 at s1 R1 ⊢
    refine ⟨_, rfl, pn, rfl, ⟨_, sameT s1 h2⟩, for_it walk_tup (fun i σ H' => ∃ A as a4 a5 a6, σ = [some (.ref p), some (.ref pn), some (.ref pf), some (.ref A), a4, a5, a6, none, none, none, none, none, none, none, none, none] ∧ Same H H' ∧ RowsAt K H' A as (K2.rowsM N.length i))
      ⟨A, [e], none, none, none, rfl, s1, R1⟩ (fun i σ H' _ ⟨_, _, _, _, _, _, q, _⟩ => sameT q h2) ?_ ?_⟩
    · clear R1 s1 nA ne
      rintro i x σ H2 H3 hi ⟨A, as, a4, a5, a6, rfl, s2, R2⟩ ⟨rfl, hx⟩
      have hi4 : i < N.length := by rwa [List.length_map] at hi
      have small := rowsM_small hn4 (show i ≤ 4 by omega)
      refine ⟨by show 0 ≤ sizeLine; decide, fun B nB => ?_⟩
      have nAB : A ≠ B := ne_of_none R2.at_ nB
      refine ⟨_, rfl, A, rfl, ⟨_, SqL.of (R2.same (sameN nB)).at_⟩, for_it walk_list (fun j σ H' => ∃ bs a6, σ = [some (.ref p), some (.ref pn), some (.ref pf), some (.ref A), some x, some (.ref B), a6, none, none, none, none, none, none, none, none, none] ∧ Same H H' ∧ RowsAt K H' A as (K2.rowsM N.length i) ∧
        RowsAt K H' B bs (((K2.rowsM N.length i).take j).flatMap fun row => (List.range N.length).map fun (r : Nat) => row ++ [2 * (r : Int)]))
        ⟨[], a6, rfl, sameU s2 nB, R2.same (sameN nB), upd_same, .nil⟩ (fun j σ H' _ ⟨_, _, _, _, q, _⟩ => SqL.of q.at_) ?_ ?_⟩
      · rintro j y σ H4 H5 hj ⟨bs, a6, rfl, s4, RA, RB⟩ ⟨rfl, hy⟩
        rw [List.getElem?_map] at hy
        obtain ⟨a, ha, rfl⟩ := Option.map_eq_some_iff.mp hy
        obtain ⟨row, hrow, ta⟩ := NC.Paired.at RA.each ha
        have lr := (K2.mem_rowsM.mp (List.mem_of_getElem? hrow)).1
        refine ⟨_, rfl, .inl ⟨rfl, _, SqL.of RB.at_⟩, _, rfl, pn, _, rfl, .inr (sameT s4 h2), _, rfl, ?_, ?_, ?_⟩
        · rw [List.length_map]; omega
        · rw [List.length_map]; omega
        rw [List.length_map, Int.toNat_natCast]
        refine fun D nD => lc_it walk_rg (fun i2 H' => Same H5 H' ∧ ∃ ds, RowsAt K H' D ds ((List.range i2).map fun (r : Nat) => row ++ [2 * (r : Int)])) ⟨sameN nD, [], upd_same, .nil⟩ (fun _ _ _ _ => trivial) ?_ ?_
        · rintro i2 z H6 H7 hi2 ⟨s6, ds, RD⟩ ⟨rfl, rfl⟩
          refine ⟨rfl, ?_⟩
          refine ⟨_, rfl, _, rfl, _, _, rfl, rfl, .inl ⟨by show -(2 ^ 64 : Int) < 2; decide, by show (2 : Int) < 2 ^ 64; decide⟩, by show 1 ≤ sizeLine; decide, fun t nt => ?_⟩
          have s7 := Same.trans s6 (sameN (o := .tup [.int (2 * (i2 : Int))]) nt)
          refine cat_of (K := K) (xs := row.map V.int) (ys := [.int (2 * (i2 : Int))]) (sameT s7 ta) (SqT.of upd_same) (by rw [List.length_map, lr, PySem.sizeLine_eq]; show i + 1 ≤ _; omega) fun c H8 s8 tc => ?_
          have RD8 := (RD.same (sameN (o := .tup [.int (2 * (i2 : Int))]) nt)).same s8
          refine ⟨_, RD8.at_, ?_, sameD (Same.trans s7 s8) nD, ds ++ [c], ?_⟩
          · have := NC.Paired.len RD.each
            rw [List.length_map, List.length_range] at this
            rw [List.length_map, PySem.sizeLine_eq]
            omega
          · have z := RD8.app (r := row ++ [2 * (i2 : Int)]) (a := c) (by rw [List.map_append]; exact tc)
            rw [List.range_succ, List.map_append]
            exact z
        · rintro H6 ⟨s6, ds, RD⟩
          have RB6 := RB.same s6
          have RA6 := RA.same s6
          refine ⟨B, D, _, _, rfl, rfl, RB6.at_, RD.at_, ?_, ?_⟩
          · have l1 := NC.Paired.len RB.each
            have l2 := NC.Paired.len RD.each
            rw [flat_len, List.length_take] at l1
            rw [List.length_map, List.length_range] at l2
            rw [List.length_map, List.length_map, l1, l2, PySem.sizeLine_eq]
            have : min j (K2.rowsM N.length i).length * N.length ≤ 256 * 4 := Nat.mul_le_mul (by omega) hn4
            omega
          · refine ⟨bs ++ ds, _, rfl, ?_, RA6.other RB6.at_ nAB, ?_⟩
            · exact sameD (Same.trans s4 s6) (s2.free nB)
            · rw [List.take_add_one, hrow, List.flatMap_append]
              have z := RB6.ext RD.each
              simpa using z
      · rintro σ H4 ⟨bs, a6, rfl, s4, RA, RB⟩
        rw [List.length_map, NC.Paired.len RA.each, List.take_length] at RB
        exact ⟨_, rfl, B, bs, _, _, _, rfl, s4, RB⟩
    · clear R1 s1 nA ne
      rintro σ H2 ⟨A, as, a4, a5, a6, rfl, s2, R2⟩
      rw [List.length_map] at R2
      have small := rowsM_small hn4 hn4
      refine ⟨by show 0 ≤ sizeLine; decide, fun L nL => ?_⟩
      have nL0 := s2.free nL
      have nAL : A ≠ L := ne_of_none R2.at_ nL
      refine ⟨_, rfl, A, rfl, ⟨_, SqL.of (R2.same (sameN nL)).at_⟩, for_it walk_list (fun j σ H' => ∃ bs a6 a8 a9 a10, σ = [some (.ref p), some (.ref pn), some (.ref pf), some (.ref A), a4, a5, a6, some (.ref L), a8, a9, a10, none, none, none, none, none] ∧ Same H H' ∧ RowsAt K H' A as (K2.rowsM N.length N.length) ∧
        RowsAt K H' L bs (((K2.rowsM N.length N.length).take j).filter (K2.goodRow N F)))
        ⟨[], a6, none, none, none, rfl, sameU s2 nL, R2.same (sameN nL), upd_same, .nil⟩ (fun j σ H' _ ⟨_, _, _, _, _, _, _, q, _⟩ => SqL.of q.at_) ?_ ?_⟩
      · rintro j y σ H4 H5 hj ⟨bs, a6, a8, a9, a10, rfl, s4, RA, RL⟩ ⟨rfl, hy⟩
        rw [List.getElem?_map] at hy
        obtain ⟨a, ha, rfl⟩ := Option.map_eq_some_iff.mp hy
        obtain ⟨row, hrow, ta⟩ := NC.Paired.at RA.each ha
        have lr := (K2.mem_rowsM.mp (List.mem_of_getElem? hrow)).1
        refine ⟨_, rfl, _, rfl, pn, a, N.map Sum.inr, row.map V.int, rfl, ?_, ta, by rw [List.length_map, List.length_map, lr], fun D nD => ?_⟩
        · have e : (N.map Sum.inr).map kV = N.map V.str := by rw [List.map_map]; rfl
          rw [e]
          exact sameT s4 h2
        have look : ∀ x ∈ N, valV (mergeK [] ((N.map Sum.inr).zip (row.map V.int))) (.inr x) = some (.int (K2.byM N row x)) := fun x hx => merge_look N row [] x hnd (by rw [lr]) hx
        have d5 : upd H5 D (.dK (mergeK [] ((N.map Sum.inr).zip (row.map V.int)))) D = some (.dK (mergeK [] ((N.map Sum.inr).zip (row.map V.int)))) := upd_same
        have s5 := sameN (o := .dK (mergeK [] ((N.map Sum.inr).zip (row.map V.int)))) nD
        generalize upd H5 D (.dK (mergeK [] ((N.map Sum.inr).zip (row.map V.int)))) = H6 at d5 s5 ⊢
        generalize mergeK [] ((N.map Sum.inr).zip (row.map V.int)) = by_ at d5 look
        have get : ∀ {H' : Hp} {x : Str}, Same H6 H' → x ∈ N → DGet H' D (.str x) (some (.int (K2.byM N row x))) := fun {H' x} s hx => by
          have z := DGet.k (k := .inr x) (s _ _ d5)
          rwa [look x hx] at z
        -- the facts that the row does not keep
        refine ⟨_, rfl, pf, rfl, ⟨_, sameT (Same.trans s4 s5) h3.tup⟩, fun M nM => lc_it (walk_tup (K := K) (a := pf) (xs := fs.map V.ref)) (fun i H' => Same H6 H' ∧ ∃ ws : List Int, H' M = some (.lst (ws.map V.int)) ∧ ws.length ≤ i ∧ (ws = [] ↔ ∀ f ∈ F.take i, K2.SatF (K2.byM N row) f))
          ⟨sameN nM, [], upd_same, Nat.le_refl _, fun _ f hf => absurd hf (by simp), fun _ => rfl⟩ (fun i H' _ q => sameT (Same.trans (Same.trans s4 s5) q.1) h3.tup) ?_ ?_⟩
        · rintro i x H7 H8 hi ⟨s7, ws, e7, l7, k7⟩ ⟨rfl, hx⟩
          rw [List.getElem?_map] at hx
          obtain ⟨q, hq, rfl⟩ := Option.map_eq_some_iff.mp hx
          obtain ⟨fc, hf, ht⟩ := NC.Paired.at h3.each hq
          obtain ⟨on1, on2⟩ := hO fc (List.mem_of_getElem? hf)
          refine ⟨q, _, rfl, sameT (Same.trans (Same.trans s4 s5) s7) ht, rfl, _, _, rfl, _, _, rfl, _, _, rfl, rfl, rfl, ?_⟩
          have tk : ∀ f, f ∈ F.take (i + 1) ↔ f ∈ F.take i ∨ f = fc := fun f => by rw [List.take_add_one, hf]; simp
          refine ⟨!decide (K2.SatF (K2.byM N row) fc), ?_, ?_⟩
          · refine ⟨_, rfl, _, rfl, D, _, rfl, get s7 on1, _, rfl, _, rfl, D, _, rfl, get s7 on2, _, _, rfl, rfl, _, rfl, ?_⟩
            refine ite2 (fun c => ⟨(sat_gt (of_decide_eq_true c)).symm, rfl⟩) (fun c => ?_)
            have c' : ¬ K2.byM N row fc.2.2 < K2.byM N row fc.1 := fun z => c (decide_eq_true z)
            refine ⟨_, rfl, rfl, _, rfl, ?_⟩
            rw [dec_wd]
            refine ite2 (fun hw => ?_) (fun hw => ⟨(sat_up c' hw).symm, rfl⟩)
            exact ⟨_, rfl, _, rfl, D, _, rfl, get s7 on1, _, rfl, _, rfl, D, _, rfl, get s7 on2, rfl, _, rfl, (sat_eq c' hw).symm, rfl⟩
          · refine ite2 (fun c => ?_) (fun c => ?_)
            · refine ⟨_, e7, ?_, sameD s7 nM, ws ++ [1], ?_, by rw [List.length_append, List.length_singleton]; omega, fun z => absurd z (by simp), fun z => ?_⟩
              · have hi' : i < fs.length := by rwa [List.length_map] at hi
                have hfl := NC.Paired.len h3.each
                rw [List.length_map, PySem.sizeLine_eq]
                omega
              · rw [upd_same, List.map_append]; rfl
              · have z1 := z fc ((tk fc).mpr (.inr rfl))
                rw [decide_eq_true z1] at c
                cases c
            · have c' : K2.SatF (K2.byM N row) fc := Classical.byContradiction fun z => c (by rw [decide_eq_false z]; rfl)
              refine ⟨s7, ws, e7, by omega, fun z f hf' => ?_, fun z => k7.mpr fun f hf' => z f ((tk f).mpr (.inl hf'))⟩
              rcases (tk f).mp hf' with y | y
              · exact k7.mp z f y
              · rw [y]; exact c'
        · rintro H7 ⟨s7, ws, e7, l7, k7⟩
          rw [List.length_map, NC.Paired.len h3.each, List.take_length] at k7
          have s47 := Same.trans s5 s7
          -- the ranks
          refine ⟨_, rfl, a, rfl, ⟨_, sameT s47 ta⟩, fun E nE => lc_it (walk_tup (K := K) (a := a) (xs := row.map V.int)) (fun i H' => Same H7 H' ∧ ∃ ps : List Addr, H' E = some (.lst (ps.map V.ref)) ∧ Paired (fun p (kv : Key × V) => SqT K H' p [kV kv.1, kv.2]) ps ((row.take i).map fun r => (Sum.inl r, V.int 0)))
            ⟨sameN nE, [], upd_same, .nil⟩ (fun i H' _ q => sameT (Same.trans s47 q.1) ta) ?_ ?_⟩
          · rintro i x H8 H9 hi ⟨s8, ps, e8, p8⟩ ⟨rfl, hx⟩
            rw [List.getElem?_map] at hx
            obtain ⟨r, hr', rfl⟩ := Option.map_eq_some_iff.mp hx
            refine ⟨rfl, _, rfl, by show 2 ≤ sizeLine; decide, fun q nq => ⟨_, by rw [upd_ne (ne_of_none e8 nq)]; exact e8, ?_, ?_, ps ++ [q], ?_, ?_⟩⟩
            · have := NC.Paired.len p8
              rw [List.length_map, List.length_take] at this
              rw [List.length_map, PySem.sizeLine_eq]
              omega
            · exact sameD (sameU s8 nq) nE
            · rw [upd_same, List.map_append]; rfl
            · have e9 : upd H9 q (.tup [.int r, .int 0]) E = some (.lst (ps.map V.ref)) := by rw [upd_ne (ne_of_none e8 nq)]; exact e8
              rw [List.take_add_one, hr', List.map_append]
              exact P_app (Paired.imp (fun _ _ z => sqT_at (sameT (sameN nq) z) e9 nt_lst) p8) (.cons (sqT_at (SqT.of upd_same) e9 nt_lst) .nil)
          · rintro H8 ⟨s8, ps, e8, p8⟩
            rw [List.length_map, List.take_length] at p8
            refine ⟨E, ps, _, rfl, SqL.of e8, p8, fun G nG => ?_⟩
            have keys : (mergeK [] (row.map fun r => (Sum.inl r, V.int 0))).map (·.1) = (K2.dd row).map Sum.inl := merge_keys row [] [] rfl
            have klen := congrArg List.length keys
            rw [List.length_map, List.length_map] at klen
            have ddl := K2.dd_len row
            have g9 : upd H8 G (.dK (mergeK [] (row.map fun r => (Sum.inl r, V.int 0)))) G = some (.dK (mergeK [] (row.map fun r => (Sum.inl r, V.int 0)))) := upd_same
            have s9 := Same.trans s8 (sameN (o := .dK (mergeK [] (row.map fun r => (Sum.inl r, V.int 0)))) nG)
            generalize upd H8 G (.dK (mergeK [] (row.map fun r => (Sum.inl r, V.int 0)))) = H9 at g9 s9 ⊢
            generalize mergeK [] (row.map fun r => (Sum.inl r, V.int 0)) = rk at g9 keys klen
            have s59 := Same.trans s47 s9
            have good : K2.goodRow N F row = (decide (ws = []) && K2.rankOk row) := by
              unfold K2.goodRow
              rw [show decide (K2.Sat (K2.byM N row) F) = decide (ws = []) from decide_eq_decide.mpr k7.symm]
            have stay : ∀ H', Same H9 H' → K2.goodRow N F row = false → ∃ bs' : List Addr, RowsAt K H' L bs' (((K2.rowsM N.length N.length).take (j + 1)).filter (K2.goodRow N F)) := fun H' s z => by
              refine ⟨bs, ?_⟩
              rw [List.take_add_one, hrow, List.filter_append]
              have e0 : ([row] : List (List Int)).filter (K2.goodRow N F) = [] := List.filter_cons_of_neg (by rw [z]; decide)
              show RowsAt K H' L bs (_ ++ ([row] : List (List Int)).filter (K2.goodRow N F))
              rw [e0, List.append_nil]
              exact (RL.same s59).same s
            refine ⟨_, rfl, by show 0 ≤ sizeLine; decide, fun t nt => ⟨.list (ws.map .int), .list [], .lst (SqL.of ((sameN nt) _ _ (s9 _ _ e7))) (dp_ints ws), .lst (SqL.of upd_same) .nil, shaped_il ws, rfl, _, rfl, ?_⟩⟩
            rw [eqv_inil]
            by_cases hw : ws = []
            · rw [decide_eq_true hw] at good ⊢
              refine iteT ?_
              refine ⟨_, rfl, G, rk, K2.dd row, rfl, .inl ((sameN nt) _ _ g9), keys, by omega, fun ys Y perm srt nY => ?_⟩
              have s10 := Same.trans (sameN (o := .lst []) nt) (sameN (o := .lst (ys.map V.int)) nY)
              have y10 : upd (upd H9 t (.lst [])) Y (.lst (ys.map V.int)) Y = some (.lst (ys.map V.int)) := upd_same
              generalize upd (upd H9 t (.lst [])) Y (.lst (ys.map V.int)) = H10 at s10 y10 ⊢
              refine ⟨_, rfl, G, rk, rfl, .inl (s10 _ _ g9), _, rfl, by omega, by omega, ?_⟩
              rw [klen, Int.toNat_natCast]
              refine fun Z nZ => lc_it walk_rg (fun i H' => Same H10 H' ∧ H' Z = some (.lst (((List.range i).map fun (r : Nat) => 2 * (r : Int)).map V.int))) ⟨sameN nZ, upd_same⟩ (fun _ _ _ _ => trivial) ?_ ?_
              · rintro i x H11 H12 hi ⟨s11, e11⟩ ⟨rfl, rfl⟩
                refine ⟨rfl, _, rfl, _, _, rfl, rfl, .inl ⟨by show -(2 ^ 64 : Int) < 2; decide, by show (2 : Int) < 2 ^ 64; decide⟩, _, e11, ?_, sameD s11 nZ, ?_⟩
                · rw [List.length_map, List.length_map, List.length_range, PySem.sizeLine_eq]
                  omega
                · rw [upd_same, List.range_succ, List.map_append, List.map_append]
                  rfl
              · rintro H11 ⟨s11, e11⟩
                refine ⟨.list (ys.map .int), .list (((List.range (K2.dd row).length).map fun (r : Nat) => 2 * (r : Int)).map .int), .lst (SqL.of (s11 _ _ y10)) (dp_ints ys), .lst (SqL.of e11) (dp_ints _), shaped_il ys, shaped_il _, _, rfl, ?_⟩
                rw [eqv_il, ranks_sorted perm srt]
                have s12 := Same.trans s10 s11
                refine ite2 (fun c => ?_) (fun c => ?_)
                · have L12 := (RL.same s59).same s12
                  refine ⟨_, rfl, .inl ⟨rfl, _, SqL.of L12.at_⟩, _, rfl, L, _, _, rfl, rfl, L12.at_, ?_, ?_⟩
                  · have := NC.Paired.len RL.each
                    have lf := List.length_filter_le (K2.goodRow N F) ((K2.rowsM N.length N.length).take j)
                    rw [List.length_take] at lf
                    rw [List.length_map, PySem.sizeLine_eq]
                    omega
                  · refine ⟨bs ++ [a], _, _, _, _, rfl, sameD (Same.trans (Same.trans s4 s59) s12) nL0, ((RA.same s59).same s12).other L12.at_ nAL, ?_⟩
                    rw [List.take_add_one, hrow, List.filter_append]
                    have e0 : ([row] : List (List Int)).filter (K2.goodRow N F) = [row] := List.filter_cons_of_pos (by rw [good, c]; rfl)
                    show RowsAt K _ L (bs ++ [a]) (_ ++ ([row] : List (List Int)).filter (K2.goodRow N F))
                    rw [e0]
                    exact L12.app (sameT (Same.trans s59 s12) ta)
                · obtain ⟨bs', R'⟩ := stay _ s12 (by rw [good, Bool.eq_false_iff.mpr c]; rfl)
                  exact ⟨bs', _, _, _, _, rfl, Same.trans (Same.trans s4 s59) s12, (RA.same s59).same s12, R'⟩
            · rw [decide_eq_false hw] at good ⊢
              refine iteF ?_
              obtain ⟨bs', R'⟩ := stay _ (sameN nt) good
              exact ⟨bs', _, _, _, _, rfl, Same.trans (Same.trans s4 s59) (sameN nt), (RA.same s59).same (sameN nt), R'⟩
      · rintro σ H4 ⟨bs, a6, a8, a9, a10, rfl, s4, RA, RL⟩
        rw [List.length_map, NC.Paired.len RA.each, List.take_length] at RL
        exact ⟨_, rfl, k _ L bs s4 nL0 RL⟩
end
end NC

set_option Elab.async false
set_option linter.all false
set_option maxRecDepth 100000
set_option maxHeartbeats 4000000
namespace NC
open PySem L2
/-! ### a tuple of texts that is known to its object -/
def TupN (H : Hp) (a : Addr) (N : List Str) : Prop := ∃ o : Obj, H a = some (.frz o (.tup (N.map V.str))) ∧ o.cls = .type "tuple" ∧ o.dict = none
theorem TupN.sq {K : PySem.W.Frag} {H : Hp} {a : Addr} {N : List Str} (h : TupN H a N) : SqT K H a (N.map V.str) := let ⟨o, e, _⟩ := h; .inl (.inr ⟨o, e⟩)
structure FrN (K : PySem.W.Frag) (H : Hp) (p : Addr) (N : List Str) (F : List Fc) : Prop where
  ex : ∃ pn pf fs, SqT K H p [.ref pn, .ref pf] ∧ TupN H pn N ∧ FactsAt K H pf fs F
theorem FrN.fr {K : PySem.W.Frag} {H : Hp} {p : Addr} {N : List Str} {F : List Fc} (h : FrN K H p N F) : FrAt K H p N F := by
  obtain ⟨pn, pf, fs, h1, h2, h3⟩ := h.ex
  exact ⟨pn, pf, fs, h1, h2.sq, h3⟩
theorem FrN.same {K : PySem.W.Frag} {H H' : Hp} {p : Addr} {N : List Str} {F : List Fc} (s : Same H H') (h : FrN K H p N F) : FrN K H' p N F := by
  obtain ⟨pn, pf, fs, h1, ⟨o, e, r⟩, h3⟩ := h.ex
  exact ⟨pn, pf, fs, sameT s h1, ⟨o, s _ _ e, r⟩, h3.same s⟩
/-- what draws leave -/
structure KT (K : PySem.W.Frag) (t l : Addr) (H H' : Hp) : Prop where
  k : Kp t l H H'
  n1 : ∃ kvs, H t = some (.dK kvs)
  n2 : ∃ xs, H l = some (.lst xs)
theorem KT.tup {K : PySem.W.Frag} {t l a : Addr} {H H' : Hp} {xs : List V} (k : KT K t l H H') (h : SqT K H a xs) : SqT K H' a xs := by
  obtain ⟨kvs, e1⟩ := k.n1
  obtain ⟨ys, e2⟩ := k.n2
  exact k.k.tup e1 nt_dK e2 nt_lst h
theorem KT.frz {K : PySem.W.Frag} {t l a : Addr} {H H' : Hp} {o : Obj} {u : HO} (k : KT K t l H H') (h : H a = some (.frz o u)) : H' a = some (.frz o u) := by
  obtain ⟨kvs, e1⟩ := k.n1
  obtain ⟨ys, e2⟩ := k.n2
  exact k.k a _ (fun z => by rw [z, e1] at h; cases h) (fun z => by rw [z, e2] at h; cases h) h
theorem KT.facts {K : PySem.W.Frag} {t l p : Addr} {H H' : Hp} {fs : List Addr} {F : List Fc} (k : KT K t l H H') (h : FactsAt K H p fs F) : FactsAt K H' p fs F := ⟨k.tup h.tup, Paired.imp (fun _ _ z => k.tup z) h.each⟩
theorem KT.fr {K : PySem.W.Frag} {t l p : Addr} {H H' : Hp} {N : List Str} {F : List Fc} (k : KT K t l H H') (h : FrN K H p N F) : FrN K H' p N F := by
  obtain ⟨pn, pf, fs, h1, ⟨o, e, r⟩, h3⟩ := h.ex
  exact ⟨pn, pf, fs, k.tup h1, ⟨o, k.frz e, r⟩, k.facts h3⟩
theorem StAt.kt {K : PySem.W.Frag} {H H' : Hp} {t c l : Addr} {m i : Nat} (h : StAt K H t c l m i) (k : Kp t l H H') : KT K t l H H' := ⟨k, ⟨_, h.st⟩, let ⟨_, e, _⟩ := h.lefts; ⟨_, e⟩⟩
/-! ### t[:i], the new tuple known to its object -/
def rSlF (K : PySem.W.Frag) : V → Option Int → Option Int → Hp → VK → Prop := fun x lo hi H Q => ∃ a xs, x = .ref a ∧ SqT K H a xs ∧ ¬ (HT.sIx xs.length 0 lo = 0 ∧ HT.sIx xs.length xs.length hi = xs.length) ∧
  ∀ p (o : Obj), H p = none → o.cls = .type "tuple" → o.dict = none → Q (.ref p) (upd H p (.frz o (.tup (cutV xs lo hi))))
theorem sl_tupF {X : Cx} : SlR X (rSlF X.K) := by
  rintro pins s σ H x v vl vu lo hi sl Q I rx hs pl pu ⟨a, xs, rfl, hx, hw, q⟩
  cases rx
  obtain ⟨its, r, ht, hz⟩ := I.tuple hx
  have len : its.toArray.size = xs.length := by rw [List.size_toArray]; exact (NC.Paired.len r).symm
  refine ⟨"tuple", _, PyProof.Rows.slot_tuple_getitem.lookup, ht.typeIs, HT.getItem_tuple_cut ht hs pl pu (by rw [len]; exact hw) ?_ (by rw [len]; exact hz)⟩
  rw [len]
  refine ⟨.ref s.heap.objs.size, _, I.laid (t' := s.toks) (o := .frz _ (.tup (cutV xs lo hi))) (fun b ob q => Heap.get?_push_of_some _ q) (Nat.le_refl _) ⟨Heap.get?_push_size _ rfl, ?_⟩, rfl, q _ _ (I.hok.fresh (Nat.le_refl _)) rfl rfl⟩
  exact ⟨Nat.le_trans (cutV_length xs lo hi) hz, _, P_take _ (P_drop _ r), PyProof.Rows.IsTup.new _ _⟩
section
variable {P : Program} {w : World} {K : PySem.W.Frag} {mg : Str → Option Value} {base : Heap}
/-! ### _law_of -/
abbrev sOf : Stmt := top 33
def spOf (K : PySem.W.Frag) : Sp := fun vs H Q _ => ∃ (t c l a : Addr) (m i : Nat) (xs : List V), vs = [.ref t, .ref a] ∧ StAt K H t c l m i ∧ i < 10 ^ 6 ∧ (SqT K H a xs ∨ (H a = some (.lst xs) ∧ a ≠ t ∧ a ≠ l)) ∧ 0 < xs.length ∧ xs.length ≤ 1000 ∧
  ∀ H' (j : Nat) x, Kp t l H H' → StAt K H' t c l m (i + 1) → xs[j]? = some x → Q x H'
theorem scOf : FnScope ["_law_state", "_law_some"] ["_law_state", "_law_some"] (defScope sOf) := ⟨rfl, rfl, rfl, by decide +kernel, rfl, by decide +kernel, by decide +kernel⟩
theorem df_of (T : Txt K mg) (S : Std K mg "_law_of" sOf) (DD : Df P w K mg base CX0 "_law_draw" ["_law_state", "_law_many"] 2 (spDraw K)) : Df P w K mg base CX0 "_law_of" ["_law_state", "_law_some"] 3 (spOf K) := by
  refine S.df (fun _ _ _ _ _ _ us hl => match us, hl with | [_, _], _ => rfl) fun f fd F => F.ok scOf (fun vs H Q E h => ?_) (fun cdv A outer s H vs Q E hr h => ?_)
  · obtain ⟨t, c, l, a, m, i, xs, rfl, _⟩ := h
    rfl
  · obtain ⟨t, c, l, a, m, i, xs, rfl, hS, hi, hx, x0, x1, k⟩ := h
    refine ⟨_, pss_one (ps_ret (pe_ix ix_seq (pv 1) (pe_df DD hr pass0 (pa_cons (pv 0) (pa_cons (pe_len T.nLen (pv 1)) pa_nil))) (fun _ _ => rfl))), ?_⟩
    refine ⟨_, rfl, _, rfl, _, rfl, a, xs, rfl, ?_, t, c, l, m, i, xs.length, rfl, hS, hi, x0, x1, fun H' r kp hS' lt => ?_⟩
    · rcases hx with h | ⟨h, _⟩
      · exact .inr h
      · exact .inl (SqL.of h)
    · have kt := hS.kt kp
      obtain ⟨x, hxr⟩ : ∃ x, xs[r]? = some x := ⟨xs[r], List.getElem?_eq_getElem lt⟩
      rcases hx with h | ⟨h, n1, n2⟩
      · exact .inr (.inl ⟨a, xs, _, x, rfl, rfl, kt.tup h, at_of rfl hxr, k H' r x kp hS' hxr⟩)
      · exact .inl ⟨a, xs, _, x, rfl, rfl, SqL.of (kp a _ n1 n2 h), at_of rfl hxr, k H' r x kp hS' hxr⟩
end
end NC

set_option Elab.async false
set_option linter.all false
set_option maxRecDepth 100000
set_option maxHeartbeats 4000000
namespace NC
open PySem L2
theorem KpU {t l q : Addr} {H H1 : Hp} {o : HO} (k : Kp t l H H1) (n : H1 q = none) : Kp t l H (upd H1 q o) := fun b u n1 n2 e => by
  have := k b u n1 n2 e
  rw [upd_ne (ne_of_none this n)]
  exact this
theorem KpD {t l B : Addr} {H H1 : Hp} {o : HO} (k : Kp t l H H1) (n : H B = none) : Kp t l H (upd H1 B o) := fun b u n1 n2 e => by
  rw [upd_ne (ne_of_none e n)]
  exact k b u n1 n2 e
/-- new since H, whatever was drawn -/
theorem Kp.free {t l B : Addr} {H H1 : Hp} (k : Kp t l H H1) (h1 : H1 B = none) (n1 : B ≠ t) (n2 : B ≠ l) : H B = none := by
  cases e : H B with
  | none => rfl
  | some u =>
    have := k B u n1 n2 e
    rw [h1] at this
    cases this
theorem StAt.ne_new {K : PySem.W.Frag} {H : Hp} {t c l B : Addr} {m i : Nat} (h : StAt K H t c l m i) (n : H B = none) : t ≠ B ∧ c ≠ B ∧ l ≠ B := by
  obtain ⟨_, e1, _⟩ := h.cells
  obtain ⟨_, e2, _⟩ := h.lefts
  exact ⟨ne_of_none h.st n, ne_of_none e1 n, ne_of_none e2 n⟩
theorem StAt.put {K : PySem.W.Frag} {H0 H : Hp} {t c l B : Addr} {m i j : Nat} {o : HO} (h0 : StAt K H0 t c l m j) (n : H0 B = none) (h : StAt K H t c l m i) : StAt K (upd H B o) t c l m i := by
  obtain ⟨n1, n2, n3⟩ := h0.ne_new n
  obtain ⟨ns, e1, l1⟩ := h.cells
  obtain ⟨ms, e2, l2⟩ := h.lefts
  exact ⟨by rw [upd_ne n1]; exact h.st, ⟨ns, by rw [upd_ne n2]; exact e1, l1⟩, ⟨ms, by rw [upd_ne n3]; exact e2, l2⟩, h.ne, h.ne2, h.pos, h.fit⟩
/-! ### frames that the law draws -/
structure Fr4 (n : Nat) (F : List Fc) : Prop where
  n1 : 1 ≤ n
  n4 : n ≤ 4
  len : F.length ≤ 20
  on : OnF (nms n) F
  wd : K2.worldsM (nms n) F ≠ []
theorem Fr4.fit {n : Nat} {F : List Fc} (h : Fr4 n F) : Fit n F := by
  refine ⟨⟨h.n1, Nat.le_trans h.n4 (by decide), Nat.le_trans h.len (by decide), h.on⟩, ?_⟩
  obtain ⟨row, hr⟩ := List.exists_mem_of_ne_nil _ h.wd
  exact ⟨_, (K2.mem_worldsM.mp hr).2.1⟩
theorem Fr4.On {n : Nat} {F : List Fc} (h : Fr4 n F) : K2.On (nms n) F := h.fit.On
theorem abc : ([.str "a", .str "b", .str "c", .str "d", .str "e"] : List V) = (nms 5).map V.str := by
  have e : (["a", "b", "c", "d", "e"] : List Str) = nms 5 := by decide +kernel
  rw [← e]
  rfl
theorem nms_take {n k : Nat} (h : k ≤ n) : (nms n).take k = nms k := by
  unfold nms
  rw [← List.map_take, List.take_range, Nat.min_eq_left h]
theorem eqv_wnil (W : List (List Int)) : PyData.eqv (wD W) (.list []) = decide (W = []) := by cases W <;> rfl
theorem dp_rows {K : PySem.W.Frag} {H : Hp} : ∀ {as : List Addr} {W : List (List Int)}, Paired (fun a r => SqT K H a (r.map V.int)) as W → DpAll K H (as.map V.ref) (W.map iD)
  | _, _, .nil => .nil
  | _, _, .cons r t => .cons (dp_i r) (dp_rows t)
theorem dp_w {K : PySem.W.Frag} {H : Hp} {L : Addr} {as : List Addr} {W : List (List Int)} (h : RowsAt K H L as W) : Dp K H (.ref L) (wD W) := .lst (SqL.of h.at_) (dp_rows h.each)
section
variable {P : Program} {w : World} {K : PySem.W.Frag} {mg : Str → Option Value} {base : Heap}
/-! ### _law_frame -/
abbrev sFrame : Stmt := top 35
def spFrame (K : PySem.W.Frag) : Sp := fun vs H Q _ => ∃ (t c l : Addr) (m i : Nat), vs = [.ref t, .int 4] ∧ StAt K H t c l m i ∧ i < 10 ^ 5 ∧ ∀ H' p n F i', Kp t l H H' → StAt K H' t c l m i' → i' ≤ i + 20 → FrN K H' p (nms n) F → Fr4 n F → F.length ≤ 3 → Q (.ref p) H'
theorem scFrame : FnScope ["_law_state", "_law_most", "_law_names", "_law_facts", "_law_k", "_law_one", "_law_other", "_law_fact"] ["_law_state", "_law_most"] (defScope sFrame) := ⟨rfl, rfl, rfl, by decide +kernel, rfl, by decide +kernel, by decide +kernel⟩
/-- no facts: all rows whose ranks are right -/
theorem worlds_none {n : Nat} (h : 1 ≤ n) : K2.worldsM (nms n) ([] : List Fc) ≠ [] := by
  intro z
  have m : (List.replicate n (0 : Int)) ∈ K2.worldsM (nms n) ([] : List Fc) := by
    refine K2.mem_worldsM.mpr ⟨K2.mem_rowsM.mpr ⟨by rw [List.length_replicate, nms_len], fun e he => ⟨0, by rw [nms_len]; omega, (List.mem_replicate.mp he).2⟩⟩, fun f hf => absurd hf List.not_mem_nil, ?_⟩
    have hd : K2.dd (List.replicate n (0 : Int)) = [0] := by
      have key : ∀ k, (List.replicate k (0 : Int)).foldl K2.ddStep [0] = [0] := by
        intro k
        induction k with
        | zero => rfl
        | succ k ih => rw [List.replicate_succ, List.foldl_cons]; exact ih
      obtain ⟨k, rfl⟩ : ∃ k, n = k + 1 := ⟨n - 1, by omega⟩
      unfold K2.dd
      rw [List.replicate_succ, List.foldl_cons]
      exact key k
    unfold K2.rankOk
    rw [hd]
    refine List.all_eq_true.mpr fun j hj => decide_eq_true ?_
    have : j = 0 := by have := List.mem_range.mp hj; simp at this; exact this
    subst this
    exact List.mem_replicate.mpr ⟨by omega, rfl⟩
  rw [z] at m
  exact List.not_mem_nil m
def tCount (K : PySem.W.Frag) : TE := fun σ H Q => ∃ (t c l pn : Addr) (m i n : Nat), σ[0]? = some (some (.ref t)) ∧ σ[2]? = some (some (.ref pn)) ∧ StAt K H t c l m i ∧ i < 10 ^ 6 ∧ SqT K H pn ((nms n).map V.str) ∧
  ∀ H' (cnt i' : Nat), Kp t l H H' → StAt K H' t c l m i' → i' ≤ i + 1 → cnt ≤ 3 → (cnt = 0 ∨ 1 < n) → Q (.int (cnt : Int)) H'
theorem word_at {e : Nat} (h : e < 3) : ([.str "upto", .str "upto", .str "ahead"] : List V)[e]? = some (.str (wd (decide (e = 2)))) := by
  rcases (show e = 0 ∨ e = 1 ∨ e = 2 by omega) with rfl | rfl | rfl <;> rfl
theorem nms_v {n j : Nat} (h : j < n) : ((nms n).map V.str)[j]? = some (.str (letter (97 + j))) := by rw [List.getElem?_map, nms_at h]; rfl
theorem nms_has {n j : Nat} (h : j < n) : letter (97 + j) ∈ nms n := List.mem_of_getElem? (nms_at h)
theorem df_frame (T : Txt K mg) (S : Std K mg "_law_frame" sFrame) (DD : Df P w K mg base CX0 "_law_draw" ["_law_state", "_law_many"] 2 (spDraw K)) (DW : Df P w K mg base CX0 "_law_worlds" ["_law_frame_here"] 1 (spWorlds K)) : Df P w K mg base CX0 "_law_frame" ["_law_state", "_law_most"] 3 (spFrame K) := by
  refine S.df (fun _ _ _ _ _ _ us hl => match us, hl with | [_, _], _ => rfl) fun f fd F => F.ok scFrame (fun vs H Q E h => ?_) (fun cdv A outer s H vs Q E hr h => ?_)
  · obtain ⟨t, c, l, m, i, rfl, _⟩ := h
    rfl
  · obtain ⟨t, c, l, m, i, rfl, hS, hi, k⟩ := h
    have nd := scFrame.nd
    have h64 := rm64 hr
    have hr1 : Room 1 _ := hr.mono (by decide)
    refine ⟨_, pss_cons (ps_set (i := 2) nd rfl (.inl rfl) (pe_slice sl_tupF (pe_tup (pa_cons pe_str (pa_cons pe_str (pa_cons pe_str (pa_cons pe_str (pa_cons pe_str pa_nil)))))) po_none (po_some (pe_op op_add pe_int (pe_df DD hr pass0 (pa_cons (pv 0) (pa_cons (pv 1) pa_nil)))))))
      (pss_cons (ps_set (i := 3) nd rfl (.inl rfl) (pe_lst pa_nil))
      (pss_cons (ps_for PassesOwn.never rfl (pi_range1 rfl T.nRange (pa_cons (pe_imp (u := tCount K) (pe_ifExp (pt_cmpR op_gt (pe_len T.nLen (pv 2)) pe_int (nomark _)) (pe_df DD hr pass0 (pa_cons (pv 0) (pa_cons pe_int pa_nil))) pe_int) ?count) pa_nil)) (pg_name (i := 4) nd rfl (.inl rfl))
        (pss_cons (ps_set (i := 5) nd rfl (.inl rfl) (pe_df DD hr pass0 (pa_cons (pv 0) (pa_cons (pe_len T.nLen (pv 2)) pa_nil))))
        (pss_cons (ps_set (i := 6) nd rfl (.inl rfl) (pe_op op_mod (pe_callTy call_int1 rfl T.nInt (by decide +kernel) (pa_cons (pe_op op_add (pe_op op_add (pv 5) pe_int) (pe_df DD hr pass0 (pa_cons (pv 0) (pa_cons (pe_op op_sub (pe_len T.nLen (pv 2)) pe_int) pa_nil)))) pa_nil)) (pe_len T.nLen (pv 2))))
        (pss_cons (ps_set (i := 7) nd rfl (.inl rfl) (pe_tup (pa_cons (pe_ix ix_tup (pv 2) (pv 5) (fun _ _ => rfl)) (pa_cons (pe_ix ix_list (pe_lst (pa_cons pe_str (pa_cons pe_str (pa_cons pe_str pa_nil)))) (pe_df DD hr pass0 (pa_cons (pv 0) (pa_cons pe_int pa_nil))) (fun _ _ => rfl)) (pa_cons (pe_ix ix_tup (pv 2) (pv 6) (fun _ _ => rfl)) pa_nil)))))
        (pss_one (ps_if (pt_cmpR (op_neD h64) (pe_df DW hr1 pass0 (pa_cons (pe_tup (pa_cons (pv 2) (pa_cons (pe_tupleOf rfl T.nTuple (pe_op op_cat (pv 3) (pe_lst (pa_cons (pv 7) pa_nil)))) pa_nil))) pa_nil)) (pe_lst pa_nil) (nomark _))
          (pss_one (ps_expr (pe_bm PySem.F.plainAttrs_list PySem.F.slot_list_append PySem.F.type_list_append mt_append (pv 3) (pa_cons (pv 7) pa_nil)))) pss_nil))))))
      (pss_one (ps_ret (pe_tup (pa_cons (pv 2) (pa_cons (pe_tupleOf rfl T.nTuple (pv 3)) pa_nil))))))), ?_⟩
    case count =>
      rintro σ H Q ⟨t, c, l, pn, m, i, n, e0, e2, hS, hi, hq, k⟩
      refine ⟨_, e2, pn, _, rfl, .inr hq, _, _, rfl, rfl, _, rfl, ?_⟩
      rw [List.length_map, nms_len]
      refine ite2 (fun c1 => ?_) (fun _ => k H 0 i (fun b u _ _ e => e) hS (by omega) (by decide) (.inl rfl))
      have c1 := of_decide_eq_true c1
      exact ⟨_, e0, t, c, l, m, i, 4, rfl, hS, hi, by decide, by decide, fun H' r k1 S1 lt => k H' r (i + 1) k1 S1 (by omega) (by omega) (.inr (by omega))⟩
    refine ⟨by show 5 ≤ sizeLine; decide, fun q nq => ⟨_, rfl, _, rfl, t, c, l, m, i, 4, rfl, hS.same (sameN nq), by omega, by decide, by decide, fun H1 r k1 S1 lt => ?_⟩⟩
    have T1 := (hS.same (sameN (o := .tup [.str "a", .str "b", .str "c", .str "d", .str "e"]) nq)).kt k1
    have q1 : SqT K H1 q ((nms 5).map V.str) := by
      have z := T1.tup (K := K) (SqT.of upd_same)
      rw [abc] at z
      exact z
    have k1' : Kp t l H H1 := (Kp.of (sameN nq)).trans k1
    refine ⟨_, _, rfl, rfl, _, rfl, ?_⟩
    show rSlF K (.ref q) none (some (1 + (r : Int))) H1 _
    rw [show (1 + (r : Int)) = ((1 + r : Nat) : Int) from by omega]
    have n4 : 1 + r ≤ 4 := by omega
    have n1 : 1 ≤ 1 + r := by omega
    generalize 1 + r = n at n4 n1
    refine ⟨q, _, rfl, q1, ?_, fun pn o npn oc od => ?_⟩
    · rw [HT.sIx_nat, List.length_map, nms_len]
      omega
    rw [cut_to (by rw [List.length_map, nms_len]; omega), ← List.map_take, nms_take (by omega)]
    refine ⟨by show 0 ≤ sizeLine; decide, fun B nB => ?_⟩
    have S2 := S1.same (sameN (o := .frz o (.tup ((nms n).map V.str))) npn)
    have k2 := KpU (o := .frz o (.tup ((nms n).map V.str))) k1' npn
    have t2 : upd H1 pn (.frz o (.tup ((nms n).map V.str))) pn = some (.frz o (.tup ((nms n).map V.str))) := upd_same
    obtain ⟨b1, b2, b3⟩ := S2.ne_new nB
    have nB0 : H B = none := k2.free nB b1.symm b3.symm
    have S3 := S2.same (sameN (o := .lst []) nB)
    have k3 := KpU (o := .lst []) k2 nB
    have t3 : upd (upd H1 pn (.frz o (.tup ((nms n).map V.str)))) B (.lst []) pn = some (.frz o (.tup ((nms n).map V.str))) := by rw [upd_ne (ne_of_none t2 nB)]; exact t2
    have e3 : upd (upd H1 pn (.frz o (.tup ((nms n).map V.str)))) B (.lst []) B = some (.lst []) := upd_same
    generalize upd (upd H1 pn (.frz o (.tup ((nms n).map V.str)))) B (.lst []) = H3 at S3 k3 t3 e3 ⊢
    clear t2 k2 S2 nB npn k1' q1 T1 k1 S1 nq
    refine ⟨t, c, l, pn, m, i + 1, n, rfl, rfl, S3, by omega, .inl (.inr ⟨o, t3⟩), fun H4 cnt i4 k4 S4 l4 c3 c0 => ⟨(cnt : Int), rfl, by omega, by omega, ?_⟩⟩
    rw [Int.toNat_natCast]
    have T3 := S3.kt k4
    refine for_it walk_rg (fun j σ H' => ∃ fs F i' a4 a5 a6 a7, σ = [some (.ref t), some (.int 4), some (.ref pn), some (.ref B), a4, a5, a6, a7] ∧ Kp t l H H' ∧ StAt K H' t c l m i' ∧ i' ≤ i + 2 + 3 * j ∧ H' pn = some (.frz o (.tup ((nms n).map V.str))) ∧ H' B = some (.lst (fs.map V.ref)) ∧
      Paired (fun a f => SqT K H' a (encF f)) fs F ∧ F.length ≤ j ∧ OnF (nms n) F ∧ K2.worldsM (nms n) F ≠ [])
      ⟨[], [], i4, none, none, none, none, rfl, k3.trans k4, S4, by omega, T3.frz t3, k4 _ _ b1.symm b3.symm e3, .nil, Nat.le_refl _, fun f hf => absurd hf List.not_mem_nil, worlds_none n1⟩ (fun _ _ _ _ _ => trivial) ?_ ?_
    · rintro j x σ H5' H5 hj ⟨fs, F, i', a4, a5, a6, a7, rfl, k5, S5, l5, t5, e5, p5, f5, o5, w5⟩ ⟨rfl, rfl⟩
      have n2 : 1 < n := c0.resolve_left (by omega)
      have len : ((nms n).map V.str).length = n := by rw [List.length_map, nms_len]
      have sq : ∀ {H' : Hp}, H' pn = some (.frz o (.tup ((nms n).map V.str))) → SqT K H' pn ((nms n).map V.str) := fun e => .inl (.inr ⟨o, e⟩)
      refine ⟨_, rfl, _, rfl, pn, _, rfl, .inr (sq t5), t, c, l, m, i', ((nms n).map V.str).length, rfl, S5, by omega, by rw [len]; omega, by rw [len]; omega, fun H6 a k6 S6 la => ?_⟩
      rw [len] at la
      have T6 := S5.kt k6
      have t6 := T6.frz t5
      refine ⟨_, rfl, _, _, rfl, rfl, _, rfl, _, rfl, pn, _, rfl, .inr (sq t6), _, _, rfl, rfl, t, c, l, m, i' + 1, n - 1, ?_, S6, by omega, by omega, by omega, fun H7 d k7 S7 ld => ?_⟩
      · change [V.ref t, V.int ((((nms n).map V.str).length : Int) - 1)] = [V.ref t, V.int ((n - 1 : Nat) : Int)]
        rw [len, show ((n : Int) - 1) = ((n - 1 : Nat) : Int) by omega]
      have T7 := S6.kt k7
      have t7 := T7.frz t6
      refine ⟨_, _, rfl, rfl, .inl ⟨_, rfl, _, rfl, pn, _, rfl, .inr (sq t7), _, _, rfl, rfl, by rw [len]; show (0 : Int) < (n : Int); omega, ?_⟩⟩
      rw [len]
      change gName 6 (.int (((a + 1 + d) % n : Nat) : Int)) _ _ _
      have lb : (a + 1 + d) % n < n := Nat.mod_lt _ (by omega)
      have ab : (a + 1 + d) % n ≠ a := by
        by_cases h : a + 1 + d < n
        · rw [Nat.mod_eq_of_lt h]; omega
        · rw [Nat.mod_eq_sub_mod (by omega), Nat.mod_eq_of_lt (by omega)]; omega
      generalize (a + 1 + d) % n = b at lb ab ⊢
      refine ⟨_, rfl, _, rfl, pn, _, _, _, rfl, rfl, sq t7, at_of rfl (nms_v la), by show 3 ≤ sizeLine; decide, fun W nW => ⟨_, rfl, t, c, l, m, i' + 1 + 1, 3, rfl, S7.same (sameN nW), by omega, by decide, by decide, fun H8 e k8 S8 le => ?_⟩⟩
      have S7' := S7.same (sameN (o := .lst [.str "upto", .str "upto", .str "ahead"]) nW)
      have T8 := S7'.kt k8
      obtain ⟨w1, w2, w3⟩ := S7.ne_new nW
      have eW := k8 W _ w1.symm w3.symm upd_same
      have t8 := T8.frz ((sameN nW) _ _ t7)
      refine ⟨W, _, _, _, rfl, rfl, SqL.of eW, at_of rfl (word_at le), _, rfl, _, rfl, pn, _, _, _, rfl, rfl, sq t8, at_of rfl (nms_v lb), by show 3 ≤ sizeLine; decide, fun fa nfa => ?_⟩
      have k78 : Kp t l H7 H8 := (Kp.of (sameN nW)).trans k8
      have k58 : Kp t l H5 H8 := (k6.trans k7).trans k78
      have T58 := S5.kt k58
      have k8' : Kp t l H H8 := k5.trans k58
      have e8 := k58 B _ b1.symm b3.symm e5
      have p8 := Paired.imp (fun _ _ z => T58.tup z) p5
      have e9 : upd H8 fa (.tup (encF (letter (97 + a), decide (e = 2), letter (97 + b)))) B = some (.lst (fs.map V.ref)) := by rw [upd_ne (ne_of_none e8 nfa)]; exact e8
      have t9 : upd H8 fa (.tup (encF (letter (97 + a), decide (e = 2), letter (97 + b)))) pn = some (.frz o (.tup ((nms n).map V.str))) := by rw [upd_ne (ne_of_none t8 nfa)]; exact t8
      have f9 : SqT K (upd H8 fa (.tup (encF (letter (97 + a), decide (e = 2), letter (97 + b))))) fa (encF (letter (97 + a), decide (e = 2), letter (97 + b))) := SqT.of upd_same
      have p9 := Paired.imp (fun _ _ z => sameT (sameN (o := .tup (encF (letter (97 + a), decide (e = 2), letter (97 + b)))) nfa) z) p8
      have S9 := S8.same (sameN (o := .tup (encF (letter (97 + a), decide (e = 2), letter (97 + b)))) nfa)
      have k9 := KpU (o := .tup (encF (letter (97 + a), decide (e = 2), letter (97 + b)))) k8' nfa
      change tSeq _ _ _ _ (upd H8 fa (.tup (encF (letter (97 + a), decide (e = 2), letter (97 + b)))))
      generalize upd H8 fa (.tup (encF (letter (97 + a), decide (e = 2), letter (97 + b)))) = H9 at e9 t9 f9 p9 S9 k9 ⊢
      have ofc : (letter (97 + a), decide (e = 2), letter (97 + b)).1 ∈ nms n ∧ (letter (97 + a), decide (e = 2), letter (97 + b)).2.2 ∈ nms n ∧ (letter (97 + a), decide (e = 2), letter (97 + b)).1 ≠ (letter (97 + a), decide (e = 2), letter (97 + b)).2.2 := ⟨nms_has la, nms_has lb, fun z => ab (by have := letter_inj z; omega)⟩
      generalize (letter (97 + a), decide (e = 2), letter (97 + b)) = fc at f9 ofc
      have fl : fs.length = F.length := NC.Paired.len p5
      refine ⟨_, rfl, _, rfl, _, rfl, by show 1 ≤ sizeLine; decide, fun g ng => ⟨B, g, _, _, rfl, rfl, by rw [upd_ne (ne_of_none e9 ng)]; exact e9, upd_same, by rw [List.length_map, fl, PySem.sizeLine_eq]; show F.length + 1 ≤ _; omega, fun h nh => ?_⟩⟩
      refine .inl ⟨h, _, rfl, SqL.of upd_same, fun u nu => ⟨by show 2 ≤ sizeLine; decide, fun p np => ?_⟩⟩
      have s1 := sameN (o := .lst [.ref fa]) ng
      have s2 := sameU (o := .lst (fs.map V.ref ++ [.ref fa])) s1 nh
      have s3 := sameU (o := .tup (fs.map V.ref ++ [.ref fa])) s2 nu
      have s4 := sameU (o := .tup [.ref pn, .ref u]) s3 np
      have on2 : OnF (nms n) (F ++ [fc]) := fun f hf => by
        rcases List.mem_append.mp hf with h | h
        · exact o5 f h
        · rw [List.mem_singleton.mp h]; exact ofc
      refine ⟨p, nms n, F ++ [fc], rfl, ⟨pn, u, fs ++ [fa], SqT.of upd_same, sq (s4 _ _ t9), ?_, ?_⟩, nms_nodup n, by rw [nms_len]; omega, by rw [nms_len]; exact n4, fun f hf => ⟨(on2 f hf).1, (on2 f hf).2.1⟩, by rw [List.length_append, List.length_singleton]; omega, fun H10 L as s10 nL R10 => ?_⟩
      · rw [List.map_append]
        exact sameT (sameN np) (SqT.of upd_same)
      · exact P_app (Paired.imp (fun _ _ z => sameT s4 z) p9) (.cons (sameT s4 f9) .nil)
      refine ⟨by show 0 ≤ sizeLine; decide, fun z nz => ⟨wD _, .list [], dp_w (R10.same (sameN nz)), .lst (SqL.of upd_same) .nil, shaped_w _, rfl, _, rfl, ?_⟩⟩
      rw [eqv_wnil]
      have s11 := Same.trans (Same.trans s4 s10) (sameN (o := .lst []) nz)
      have k11 : Kp t l H (upd H10 z (.lst [])) := k9.trans (Kp.of s11)
      by_cases hw : K2.worldsM (nms n) (F ++ [fc]) = []
      · rw [decide_eq_true hw]
        exact iteF ⟨fs, F, _, _, _, _, _, rfl, k11, S9.same s11, by omega, s11 _ _ t9, s11 _ _ e9, Paired.imp (fun _ _ z => sameT s11 z) p9, by omega, o5, w5⟩
      · rw [decide_eq_false hw]
        refine iteT ⟨_, rfl, .inl ⟨rfl, _, SqL.of (s11 _ _ e9)⟩, _, rfl, B, _, _, rfl, rfl, s11 _ _ e9, by rw [List.length_map, fl, PySem.sizeLine_eq]; omega, ?_⟩
        have nBp : pn ≠ B := ne_of t9 e9 (fun z => nomatch z)
        refine ⟨fs ++ [fa], F ++ [fc], _, _, _, _, _, rfl, KpD k11 nB0, StAt.put hS nB0 (S9.same s11), by omega, by rw [upd_ne nBp]; exact s11 _ _ t9, by rw [upd_same, List.map_append]; rfl, ?_, by rw [List.length_append, List.length_singleton]; omega, on2, hw⟩
        exact P_app (Paired.imp (fun _ _ z => sqT_at (sameT s11 z) (s11 _ _ e9) nt_lst) p9) (.cons (sqT_at (sameT s11 f9) (s11 _ _ e9) nt_lst) .nil)
    · rintro σ H5 ⟨fs, F, i', a4, a5, a6, a7, rfl, k5, S5, l5, t5, e5, p5, f5, o5, w5⟩
      refine ⟨_, rfl, _, rfl, .inl ⟨B, _, rfl, SqL.of e5, fun u nu => ⟨by show 2 ≤ sizeLine; decide, fun p np => ?_⟩⟩⟩
      have s6 := Same.trans (sameN (o := .tup (fs.map V.ref)) nu) (sameN (o := .tup [.ref pn, .ref u]) np)
      refine k _ p n F i' (KpU (KpU k5 nu) np) (S5.same s6) (by omega) ⟨pn, u, fs, SqT.of upd_same, ⟨o, s6 _ _ t5, oc, od⟩, sameT (sameN np) (SqT.of upd_same), Paired.imp (fun _ _ z => sameT s6 z) p5⟩ ⟨n1, n4, by omega, o5, w5⟩ (by omega)
end
end NC

set_option Elab.async false
set_option linter.all false
set_option maxRecDepth 100000
set_option maxHeartbeats 4000000
namespace NC
open PySem L2
theorem KT.same {K : PySem.W.Frag} {t l : Addr} {H H1 H2 : Hp} (k : KT K t l H H1) (s : Same H1 H2) : KT K t l H H2 := ⟨k.k.trans (Kp.of s), k.n1, k.n2⟩
section
variable {P : Program} {w : World} {K : PySem.W.Frag} {mg : Str → Option Value} {base : Heap}
/-! ### _law_more -/
abbrev sMore : Stmt := top 42
abbrev nMore : List Str := ["_law_state", "_law_frame_here", "_law_names", "_law_facts", "_law_rows", "_law_fact", "_law_a", "_law_word", "_law_b"]
def spMore (K : PySem.W.Frag) : Sp := fun vs H Q _ => ∃ (t c l p : Addr) (m i n : Nat) (F : List Fc), vs = [.ref t, .ref p] ∧ StAt K H t c l m i ∧ i < 10 ^ 5 ∧ FrN K H p (nms n) F ∧ Fr4 n F ∧ F.length ≤ 10 ∧
  ∀ H' q F' i', Kp t l H H' → StAt K H' t c l m i' → i' ≤ i + 3 → FrN K H' q (nms n) F' → Fr4 n F' → F'.length ≤ F.length + 1 → Q (.ref q) H'
theorem scMore : FnScope nMore ["_law_state", "_law_frame_here"] (defScope sMore) := ⟨rfl, rfl, rfl, by decide +kernel, rfl, by decide +kernel, by decide +kernel⟩
theorem df_more (T : Txt K mg) (S : Std K mg "_law_more" sMore) (DO : Df P w K mg base CX0 "_law_of" ["_law_state", "_law_some"] 3 (spOf K)) (DW : Df P w K mg base CX0 "_law_worlds" ["_law_frame_here"] 1 (spWorlds K)) : Df P w K mg base CX0 "_law_more" ["_law_state", "_law_frame_here"] 4 (spMore K) := by
  refine S.df (fun _ _ _ _ _ _ us hl => match us, hl with | [_, _], _ => rfl) fun f fd F => F.ok scMore (fun vs H Q E h => ?_) (fun cdv A outer s H vs Q E hr h => ?_)
  · obtain ⟨t, c, l, p, m, i, n, F, rfl, _⟩ := h
    rfl
  · obtain ⟨t, c, l, p, m, i, n, F, rfl, hS, hi, hF, h4, h10, k⟩ := h
    have nd := scMore.nd
    have h64 := rm64 hr
    have hr1 : Room 1 _ := hr.mono (by decide)
    refine ⟨_, pss_cons (ps_asg (pv 1) (pg_tup rfl (pgs_cons (pg_name (i := 2) nd rfl (.inl rfl)) (pgs_cons (pg_name (i := 3) nd rfl (.inl rfl)) pgs_nil))))
      (pss_cons (ps_if (pt_cmpR op_lt (pe_len T.nLen (pv 2)) pe_int (nomark _)) (pss_one (ps_ret (pv 1))) pss_nil)
      (pss_cons (ps_set (i := 4) nd rfl (.inl rfl) (pe_op op_cat (pe_lc (own := [("_law_a", 6), ("_law_word", 7), ("_law_b", 8)]) (tt := tYes) rfl nd (pi_tup (pv 3)) (blkOk_by (N := nMore) (sc := defScope sMore) (by decide +kernel))
          (fun _ _ _ _ _ => (show PG _ _ (gTup K 3 _) from pg_tup rfl (pgs_cons (pg_name (i := 6) nd rfl (Or.inl rfl)) (pgs_cons (pg_name (i := 7) nd rfl (Or.inl rfl)) (pgs_cons (pg_name (i := 8) nd rfl (Or.inl rfl)) pgs_nil))))) (fun _ _ _ _ _ => pts_nil)
          (fun _ _ _ _ _ => pe_tup (pa_cons (pv 6) (pa_cons (pv 7) (pa_cons (pv 8) pa_nil)))))
        (pe_lst (pa_cons (pe_tup (pa_cons (pe_df DO hr pass0 (pa_cons (pv 0) (pa_cons (pv 2) pa_nil))) (pa_cons pe_str (pa_cons (pe_df DO hr pass0 (pa_cons (pv 0) (pa_cons (pv 2) pa_nil))) pa_nil)))) pa_nil))))
      (pss_cons (ps_set (i := 5) nd rfl (.inl rfl) (pe_df DO hr pass0 (pa_cons (pv 0) (pa_cons (pv 4) pa_nil))))
      (pss_cons (ps_if (PW.pt (pw_or (pt_cmpR op_eq (pe_ix ix_tup (pv 5) pe_int (fun _ _ => rfl)) (pe_ix ix_tup (pv 5) pe_int (fun _ _ => rfl)) (nomark _))
          (pw_or1 (pt_cmpR (op_eqD h64) (pe_df DW hr1 pass0 (pa_cons (pe_tup (pa_cons (pv 2) (pa_cons (pe_op op_catA (pv 3) (pe_tup (pa_cons (pv 5) pa_nil))) pa_nil))) pa_nil)) (pe_lst pa_nil) (nomark _))))) (pss_one (ps_ret (pv 1))) pss_nil)
      (pss_one (ps_ret (pe_tup (pa_cons (pv 2) (pa_cons (pe_op op_catA (pv 3) (pe_tup (pa_cons (pv 5) pa_nil))) pa_nil))))))))), ?_⟩
    obtain ⟨pn, pf, fs, h1, ⟨o, h2, oc, od⟩, h3⟩ := hF.ex
    have sq : ∀ {H' : Hp}, H' pn = some (.frz o (.tup ((nms n).map V.str))) → SqT K H' pn ((nms n).map V.str) := fun e => .inl (.inr ⟨o, e⟩)
    have fl : fs.length = F.length := NC.Paired.len h3.each
    refine ⟨_, rfl, p, _, rfl, h1, rfl, _, _, rfl, _, _, rfl, rfl, ?_⟩
    refine ⟨_, rfl, pn, _, rfl, .inr (sq h2), _, _, rfl, rfl, _, rfl, ?_⟩
    rw [List.length_map, nms_len]
    refine ite2 (fun _ => ⟨_, rfl, k H p F i (fun b u _ _ e => e) hS (by omega) hF h4 (by omega)⟩) (fun n2 => ?_)
    have n2 : 2 ≤ n := by
      have : ¬ (n : Int) < 2 := fun z => n2 (decide_eq_true z)
      omega
    refine ⟨_, rfl, pf, rfl, ⟨_, h3.tup⟩, fun D nD => lc_it (walk_tup (K := K) (a := pf) (xs := fs.map V.ref)) (fun j H' => Same H H' ∧ ∃ ds : List Addr, H' D = some (.lst (ds.map V.ref)) ∧ Paired (fun a f => SqT K H' a (encF f)) ds (F.take j))
      ⟨sameN nD, [], upd_same, .nil⟩ (fun j H' _ q => sameT q.1 h3.tup) ?_ ?_⟩
    · rintro j x H2 H3 hj ⟨s2, ds, e2, p2⟩ ⟨rfl, hx⟩
      rw [List.getElem?_map] at hx
      obtain ⟨q, hq, rfl⟩ := Option.map_eq_some_iff.mp hx
      obtain ⟨fc, hf, ht⟩ := NC.Paired.at h3.each hq
      refine ⟨q, _, rfl, sameT s2 ht, rfl, _, _, rfl, _, _, rfl, _, _, rfl, rfl, rfl, ?_⟩
      refine ⟨_, rfl, _, rfl, _, rfl, by show 3 ≤ sizeLine; decide, fun r nr => ⟨_, by rw [upd_ne (ne_of_none e2 nr)]; exact e2, ?_, ?_, ds ++ [r], ?_, ?_⟩⟩
      · have := NC.Paired.len p2
        rw [List.length_take] at this
        rw [List.length_map, PySem.sizeLine_eq]
        omega
      · exact sameD (sameU s2 nr) nD
      · rw [upd_same, List.map_append]; rfl
      · have e3 : upd H3 r (.tup (encF fc)) D = some (.lst (ds.map V.ref)) := by rw [upd_ne (ne_of_none e2 nr)]; exact e2
        rw [List.take_add_one, hf]
        exact P_app (Paired.imp (fun _ _ z => sqT_at (sameT (sameN nr) z) e3 nt_lst) p2) (.cons (sqT_at (SqT.of upd_same) e3 nt_lst) .nil)
    · rintro H2 ⟨s2, ds, e2, p2⟩
      rw [List.length_map, fl, List.take_length] at p2
      have S2 := hS.same s2
      obtain ⟨d1, d2, d3⟩ := hS.ne_new nD
      have len : ((nms n).map V.str).length = n := by rw [List.length_map, nms_len]
      have t2 := s2 _ _ h2
      refine ⟨_, rfl, _, rfl, t, c, l, pn, m, i, _, rfl, S2, by omega, .inl (sq t2), by rw [len]; omega, by rw [len]; exact Nat.le_trans h4.n4 (by decide), fun H3 j1 x1 k3 S3 hx1 => ?_⟩
      obtain ⟨x1, rfl, hy1⟩ := strs_at hx1
      have T3 := S2.kt k3
      refine ⟨_, rfl, _, rfl, t, c, l, pn, m, i + 1, _, rfl, S3, by omega, .inl (sq (T3.frz t2)), by rw [len]; omega, by rw [len]; exact Nat.le_trans h4.n4 (by decide), fun H4 j2 x2 k4 S4 hx2 => ?_⟩
      obtain ⟨x2, rfl, hy2⟩ := strs_at hx2
      have k24 := k3.trans k4
      have T4 := S2.kt k24
      refine ⟨by show 3 ≤ sizeLine; decide, fun g ng => ⟨by show 1 ≤ sizeLine; decide, fun e ne => ?_⟩⟩
      have eD4 := k24 D _ d1.symm d3.symm e2
      have p4 := Paired.imp (fun _ _ z => T4.tup z) p2
      have s45 := sameU (o := .lst [.ref g]) (sameN (o := .tup (encF (x1, false, x2))) ng) ne
      have g5 : SqT K (upd (upd H4 g (.tup (encF (x1, false, x2)))) e (.lst [.ref g])) g (encF (x1, false, x2)) := sameT (sameN ne) (SqT.of upd_same)
      have dl : ds.length = F.length := NC.Paired.len p2
      refine ⟨D, e, _, _, rfl, rfl, s45 _ _ eD4, upd_same, by rw [List.length_map, dl, PySem.sizeLine_eq]; show F.length + 1 ≤ _; omega, fun C nC => ?_⟩
      have p5 : Paired (fun a f => SqT K (upd (upd H4 g (.tup (encF (x1, false, x2)))) e (.lst [.ref g])) a (encF f)) (ds ++ [g]) (F ++ [(x1, false, x2)]) := P_app (Paired.imp (fun _ _ z => sameT s45 z) p4) (.cons g5 .nil)
      have S5 := S4.same s45
      have nC : (upd (upd H4 g (.tup (encF (x1, false, x2)))) e (.lst [.ref g])) C = none := nC
      have k5 := k24.trans (Kp.of s45)
      change tSeq _ _ _ _ (upd (upd (upd H4 g (.tup (encF (x1, false, x2)))) e (.lst [.ref g])) C (.lst (ds.map V.ref ++ [.ref g])))
      have nm : ∀ fc ∈ F ++ [(x1, false, x2)], fc.1 ∈ nms n ∧ fc.2.2 ∈ nms n := fun fc hf => by
        rcases List.mem_append.mp hf with h | h
        · exact ⟨(h4.on fc h).1, (h4.on fc h).2.1⟩
        · rw [List.mem_singleton.mp h]; exact ⟨List.mem_of_getElem? hy1, List.mem_of_getElem? hy2⟩
      generalize upd (upd H4 g (.tup (encF (x1, false, x2)))) e (.lst [.ref g]) = H5 at p5 S5 k5 nC ⊢
      obtain ⟨c1, c2, c3⟩ := S5.ne_new nC
      have cC : upd H5 C (.lst (ds.map V.ref ++ [.ref g])) C = some (.lst ((ds ++ [g]).map V.ref)) := by rw [upd_same, List.map_append]; rfl
      have p6 := Paired.imp (fun _ _ z => sameT (sameN (o := .lst (ds.map V.ref ++ [.ref g])) nC) z) p5
      have S6 := S5.same (sameN (o := .lst (ds.map V.ref ++ [.ref g])) nC)
      have k6 : Kp t l H2 (upd H5 C (.lst (ds.map V.ref ++ [.ref g]))) := KpU k5 nC
      generalize upd H5 C (.lst (ds.map V.ref ++ [.ref g])) = H6 at cC p6 S6 k6 ⊢
      have l6 : (((ds ++ [g]).map V.ref)).length = F.length + 1 := by rw [List.length_map, List.length_append, List.length_singleton, dl]
      refine ⟨_, rfl, _, rfl, t, c, l, C, m, i + 1 + 1, _, rfl, S6, by omega, .inr ⟨cC, c1.symm, c3.symm⟩, by rw [l6]; omega, by rw [l6]; omega, fun H7 j3 x3 k7 S7 hx3 => ?_⟩
      rw [List.getElem?_map] at hx3
      obtain ⟨a, ha, rfl⟩ := Option.map_eq_some_iff.mp hx3
      obtain ⟨fc, hf, ta⟩ := NC.Paired.at p6 ha
      obtain ⟨nm1, nm2⟩ := nm fc (List.mem_of_getElem? hf)
      have T7 := S6.kt k7
      have k27 := k6.trans k7
      have T27 := S2.kt k27
      have kH7 : Kp t l H H7 := (Kp.of s2).trans k27
      have TH7 := hS.kt kH7
      have ta := T7.tup ta
      have t7 := T27.frz t2
      have F7 := T27.facts (h3.same s2)
      have fr7 := TH7.fr hF
      refine ⟨_, rfl, a, _, _, _, rfl, rfl, ta, rfl, _, rfl, a, _, _, _, rfl, rfl, ta, rfl, rfl, _, rfl, ?_⟩
      rw [dec_str]
      by_cases hne : fc.1 = fc.2.2
      · rw [decide_eq_true hne]
        exact iteT (iteT ⟨_, rfl, k H7 p F _ kH7 S7 (by omega) fr7 h4 (by omega)⟩)
      · rw [decide_eq_false hne]
        refine iteF ?_
        refine ⟨_, rfl, _, rfl, _, rfl, by show 1 ≤ sizeLine; decide, fun u nu => ?_⟩
        have more : ∀ {H8 : Hp} {u v : Addr} {R : VK}, Same H7 H8 → SqT K H8 u [.ref a] → (∀ v H', Same H8 H' → FactsAt K H' v (fs ++ [a]) (F ++ [fc]) → R (.ref v) H') → rCatA K (.ref pf) (.ref u) H8 R := fun {H8 u v R} s8 hu kk => by
          refine cat_of (sameT s8 F7.tup) hu (by rw [List.length_map, fl, PySem.sizeLine_eq]; show F.length + 1 ≤ _; omega) fun v H' s' tv => kk v H' s' ⟨by rw [List.map_append]; exact tv, P_app (Paired.imp (fun _ _ z => sameT (Same.trans s8 s') z) F7.each) (.cons (sameT (Same.trans s8 s') ta) .nil)⟩
        have on2 : OnF (nms n) (F ++ [fc]) := fun f hf => by
          rcases List.mem_append.mp hf with h | h
          · exact h4.on f h
          · rw [List.mem_singleton.mp h]; exact ⟨nm1, nm2, hne⟩
        refine more (v := u) (sameN nu) (SqT.of upd_same) fun v H8 s8 fv => ?_
        have s78 := Same.trans (sameN (o := .tup [.ref a]) nu) s8
        refine ⟨by show 2 ≤ sizeLine; decide, fun q nq => ?_⟩
        have s79 := Same.trans s78 (sameN (o := .tup [.ref pn, .ref v]) nq)
        refine ⟨q, nms n, F ++ [fc], rfl, ⟨pn, v, fs ++ [a], SqT.of upd_same, sq (s79 _ _ t7), fv.same (sameN nq)⟩, nms_nodup n, by rw [nms_len]; omega, by rw [nms_len]; exact h4.n4, fun f hf => ⟨(on2 f hf).1, (on2 f hf).2.1⟩, by rw [List.length_append, List.length_singleton]; omega, fun H10 L as s10 nL R10 => ?_⟩
        refine ⟨by show 0 ≤ sizeLine; decide, fun z nz => ⟨wD _, .list [], dp_w (R10.same (sameN nz)), .lst (SqL.of upd_same) .nil, shaped_w _, rfl, _, rfl, ?_⟩⟩
        rw [eqv_wnil]
        have s11 := Same.trans (Same.trans s79 s10) (sameN (o := .lst []) nz)
        by_cases hw : K2.worldsM (nms n) (F ++ [fc]) = []
        · rw [decide_eq_true hw]
          exact iteT ⟨_, rfl, k _ p F _ (kH7.trans (Kp.of s11)) (S7.same s11) (by omega) (fr7.same s11) h4 (by omega)⟩
        · rw [decide_eq_false hw]
          refine iteF ?_
          refine ⟨_, rfl, _, rfl, _, rfl, by show 1 ≤ sizeLine; decide, fun u2 nu2 => ?_⟩
          have s12 := Same.trans s11 (sameN (o := .tup [.ref a]) nu2)
          refine more (v := u2) s12 (SqT.of upd_same) fun v2 H13 s13 fv2 => ⟨by show 2 ≤ sizeLine; decide, fun q2 nq2 => ?_⟩
          have s14 := Same.trans (Same.trans s12 s13) (sameN (o := .tup [.ref pn, .ref v2]) nq2)
          exact k _ q2 (F ++ [fc]) _ (kH7.trans (Kp.of s14)) (S7.same s14) (by omega) ⟨pn, v2, fs ++ [a], SqT.of upd_same, ⟨o, s14 _ _ t7, oc, od⟩, fv2.same (sameN nq2)⟩ ⟨h4.n1, h4.n4, by rw [List.length_append, List.length_singleton]; omega, on2, hw⟩ (by rw [List.length_append, List.length_singleton]; omega)
end
end NC

set_option Elab.async false
set_option linter.all false
set_option maxRecDepth 100000
set_option maxHeartbeats 4000000
/-! what is reached from a name, pass by pass -/
namespace K2
variable {α : Type} [DecidableEq α]
def insK (S : List α) (x : α) : List α := if x ∈ S then S else S ++ [x]
def sFact (S : List α) (f : Fact α) : List α := if f.1 ∈ S then insK S f.2.2 else S
def pass (F : List (Fact α)) (S : List α) : List α := F.foldl sFact S
def passes (F : List (Fact α)) : Nat → List α → List α
  | 0, S => S
  | n + 1, S => pass F (passes F n S)
theorem insK_pre (S : List α) (x : α) : ∃ T, insK S x = S ++ T := by
  unfold insK
  split
  · exact ⟨[], by simp⟩
  · exact ⟨[x], rfl⟩
theorem mem_insK {S : List α} {x y : α} : y ∈ insK S x ↔ y ∈ S ∨ y = x := by
  unfold insK
  split
  · next h => exact ⟨.inl, fun z => z.elim id fun e => e ▸ h⟩
  · rw [List.mem_append, List.mem_singleton]
theorem insK_nd {S : List α} {x : α} (h : S.Nodup) : (insK S x).Nodup := by
  unfold insK
  split
  · exact h
  · next hx =>
    rw [List.nodup_append]
    exact ⟨h, by simp, fun a ha b hb e => hx (by rw [← List.mem_singleton.mp hb, ← e]; exact ha)⟩
theorem sFact_pre (S : List α) (f : Fact α) : ∃ T, sFact S f = S ++ T := by
  unfold sFact
  split
  · exact insK_pre S _
  · exact ⟨[], by simp⟩
theorem pass_pre : ∀ (F : List (Fact α)) (S : List α), ∃ T, pass F S = S ++ T
  | [], S => ⟨[], by simp [pass]⟩
  | f :: F, S => by
    obtain ⟨T, e⟩ := sFact_pre S f
    obtain ⟨U, e'⟩ := pass_pre F (sFact S f)
    exact ⟨T ++ U, by show pass F (sFact S f) = _; rw [e', e, List.append_assoc]⟩
theorem pass_sub {F : List (Fact α)} {S : List α} {x : α} (h : x ∈ S) : x ∈ pass F S := by
  obtain ⟨T, e⟩ := pass_pre F S
  rw [e]
  exact List.mem_append_left _ h
theorem pass_close : ∀ {F : List (Fact α)} {S : List α} {f : Fact α}, f ∈ F → f.1 ∈ S → f.2.2 ∈ pass F S
  | g :: F, S, f, hf, hs => by
    show f.2.2 ∈ pass F (sFact S g)
    rcases List.mem_cons.mp hf with e | hf
    · refine pass_sub ?_
      rw [← e]
      unfold sFact
      rw [if_pos hs]
      exact mem_insK.mpr (.inr rfl)
    · refine pass_close hf ?_
      obtain ⟨T, e⟩ := sFact_pre S g
      rw [e]
      exact List.mem_append_left _ hs
/-- what is kept by every fact is kept by every pass -/
theorem pass_inv {F : List (Fact α)} (P : List α → Prop) (h : ∀ S f, f ∈ F → P S → P (sFact S f)) {S : List α} (hS : P S) : P (pass F S) := foldl_inv P sFact F S hS fun b c hc hb => h b c hc hb
theorem passes_inv {F : List (Fact α)} (P : List α → Prop) (h : ∀ S f, f ∈ F → P S → P (sFact S f)) {S : List α} (hS : P S) : ∀ n, P (passes F n S)
  | 0 => hS
  | n + 1 => pass_inv P h (passes_inv P h hS n)
theorem sFact_nd {S : List α} {f : Fact α} (h : S.Nodup) : (sFact S f).Nodup := by
  unfold sFact
  split
  · exact insK_nd h
  · exact h
theorem mem_sFact {S : List α} {f : Fact α} {x : α} (h : x ∈ sFact S f) : x ∈ S ∨ (f.1 ∈ S ∧ x = f.2.2) := by
  unfold sFact at h
  split at h
  · next hs => exact (mem_insK.mp h).imp id fun e => ⟨hs, e⟩
  · exact .inl h
section
variable {N : List α} {F : List (Fact α)} {one : α} (hO : On N F) (h1 : one ∈ N)
include hO h1
theorem reach_sound (n : Nat) : ∀ x ∈ passes F n [one], x ∈ N ∧ ∃ m, Wk F one m x :=
  passes_inv (P := fun S => ∀ x ∈ S, x ∈ N ∧ ∃ m, Wk F one m x) (fun S f hf h x hx => by
    rcases mem_sFact hx with hx | ⟨hs, e⟩
    · exact h x hx
    · rw [e]
      obtain ⟨_, m, k⟩ := h f.1 hs
      exact ⟨(hO f hf).2, _, k.trans (Wk.one (w := f.2.1) hf)⟩) (fun x hx => by rw [List.mem_singleton.mp hx]; exact ⟨h1, false, Wk.nil one⟩) n
theorem reach_nd (n : Nat) : (passes F n [one]).Nodup := passes_inv (P := List.Nodup) (fun S f _ h => sFact_nd h) (by simp) n
theorem reach_full (n : Nat) : pass F (passes F n [one]) = passes F n [one] ∨ n + 1 ≤ (passes F n [one]).length := by
  induction n with
  | zero => right; simp [passes]
  | succ n ih =>
    rcases ih with e | l
    · left
      show pass F (pass F (passes F n [one])) = pass F (passes F n [one])
      rw [e, e]
    · by_cases e : pass F (passes F n [one]) = passes F n [one]
      · left
        show pass F (pass F (passes F n [one])) = pass F (passes F n [one])
        rw [e, e]
      · right
        obtain ⟨T, eT⟩ := pass_pre F (passes F n [one])
        show n + 1 + 1 ≤ (pass F (passes F n [one])).length
        rw [eT, List.length_append]
        have : T ≠ [] := fun z => e (by rw [eT, z, List.append_nil])
        have := List.length_pos_iff.mpr this
        omega
theorem reach_closed {f : Fact α} (hf : f ∈ F) (hs : f.1 ∈ passes F (2 * N.length) [one]) : f.2.2 ∈ passes F (2 * N.length) [one] := by
  rcases reach_full hO h1 (2 * N.length) with e | l
  · have z := pass_close hf hs
    rwa [e] at z
  · have z := len_of_sub (passes F (2 * N.length) [one]) N (reach_nd hO h1 _) fun x hx => (reach_sound hO h1 _ x hx).1
    omega
theorem reach_iff {x : α} : x ∈ passes F (2 * N.length) [one] ↔ ∃ m, Wk F one m x := by
  constructor
  · intro h
    exact (reach_sound hO h1 _ x h).2
  · rintro ⟨m, k⟩
    have start : one ∈ passes F (2 * N.length) [one] := passes_inv (P := fun S => one ∈ S) (fun S f _ h => by
      obtain ⟨T, e⟩ := sFact_pre S f
      rw [e]
      exact List.mem_append_left _ h) (List.mem_singleton.mpr rfl) _
    have key : ∀ {u y : α} {m : Bool}, Wk F u m y → u ∈ passes F (2 * N.length) [one] → y ∈ passes F (2 * N.length) [one] := by
      intro u y m k
      induction k with
      | nil x => exact id
      | cons e _ ih => exact fun hu => ih (reach_closed hO h1 e hu)
    exact key k start
end
end K2

set_option Elab.async false
set_option linter.all false
set_option maxRecDepth 100000
set_option maxHeartbeats 4000000
namespace NC
open PySem L2
/-! ### dicts from names to truths -/
def encB (g : List (Str × Bool)) : List (Key × V) := g.map fun p => (.inr p.1, .bl p.2)
theorem encB_val (x : Str) : ∀ g : List (Str × Bool), ∃ o : Option Bool, valV (encB g) (.inr x) = o.map V.bl ∧ (o.isSome = true ↔ x ∈ g.map (·.1))
  | [] => ⟨none, rfl, by simp⟩
  | p :: g => by
    obtain ⟨o, h1, h2⟩ := encB_val x g
    by_cases e : p.1 = x
    · refine ⟨some p.2, ?_, by simp [e]⟩
      exact valV_pos (p := (Sum.inr p.1, V.bl p.2)) (by rw [e])
    · refine ⟨o, ?_, ?_⟩
      · show valV ((Sum.inr p.1, V.bl p.2) :: encB g) (.inr x) = _
        rw [valV_neg (fun z => e (by injection z))]
        exact h1
      · rw [h2, List.map_cons, List.mem_cons]
        exact ⟨.inr, fun z => z.resolve_left fun y => e y.symm⟩
theorem encB_put (g : List (Str × Bool)) (x : Str) (b : Bool) : ∃ g', putK (encB g) (.inr x) (.bl b) = encB g' ∧ g'.map (·.1) = K2.insK (g.map (·.1)) x := by
  obtain ⟨o, h1, h2⟩ := encB_val x g
  unfold putK K2.insK
  rw [valV_any, h1, Option.isSome_map]
  by_cases hx : x ∈ g.map (·.1)
  · rw [h2.mpr hx, if_pos rfl, if_pos hx]
    refine ⟨g.map fun p => if p.1 = x then (p.1, b) else p, ?_, ?_⟩
    · unfold encB
      rw [List.map_map, List.map_map]
      refine List.map_congr_left fun p _ => ?_
      show (if (Sum.inr p.1 : Key) = Sum.inr x then ((Sum.inr p.1 : Key), V.bl b) else (Sum.inr p.1, V.bl p.2)) = (Sum.inr (if p.1 = x then (p.1, b) else p).1, V.bl (if p.1 = x then (p.1, b) else p).2)
      by_cases e : p.1 = x
      · rw [if_pos (by rw [e]), if_pos e]
      · rw [if_neg (fun z => e (by injection z)), if_neg e]
    · rw [List.map_map]
      refine List.map_congr_left fun p _ => ?_
      show (if p.1 = x then (p.1, b) else p).1 = p.1
      split <;> rfl
  · rw [if_neg (fun z => hx (h2.mp z)), if_neg hx]
    refine ⟨g ++ [(x, b)], ?_, ?_⟩
    · unfold encB; rw [List.map_append]; rfl
    · rw [List.map_append]; rfl
theorem encB_in (g : List (Str × Bool)) (x : Str) : (valV (encB g) (.inr x)).isSome = decide (x ∈ g.map (·.1)) := by
  obtain ⟨o, h1, h2⟩ := encB_val x g
  rw [h1, Option.isSome_map]
  by_cases h : x ∈ g.map (·.1)
  · rw [h2.mpr h, decide_eq_true h]
  · rw [decide_eq_false h]
    exact Bool.eq_false_iff.mpr fun z => h (h2.mp z)
theorem encB_get (g : List (Str × Bool)) (x : Str) : ∃ b, (valV (encB g) (.inr x)).getD (.bl false) = .bl b := by
  obtain ⟨o, h1, _⟩ := encB_val x g
  rw [h1]
  cases o with
  | none => exact ⟨false, rfl⟩
  | some b => exact ⟨b, rfl⟩
theorem encB_some {g : List (Str × Bool)} {x : Str} (h : x ∈ g.map (·.1)) : ∃ b, valV (encB g) (.inr x) = some (.bl b) := by
  obtain ⟨o, h1, h2⟩ := encB_val x g
  obtain ⟨b, hb⟩ := Option.isSome_iff_exists.mp (h2.mpr h)
  exact ⟨b, by rw [h1, hb]; rfl⟩
section
variable {P : Program} {w : World} {K : PySem.W.Frag} {mg : Str → Option Value} {base : Heap}
/-! ### _law_leads -/
abbrev sLeads : Stmt := top 36
def spLeads (K : PySem.W.Frag) : Sp := fun vs H Q _ => ∃ (p : Addr) (N : List Str) (F : List Fc) (x y : Str), vs = [.ref p, .str x, .str y] ∧ FrAt K H p N F ∧ N.length ≤ 7 ∧ K2.On N F ∧ x ∈ N ∧
  ∀ H' L r r2, Same H H' → H' L = some (.lst [.bl r, .bl r2]) → (r = true ↔ ∃ m, K2.Wk F x m y) → Q (.ref L) H'
theorem scLeads : FnScope ["_law_frame_here", "_law_one", "_law_other", "_law_found", "_law_k", "_law_a", "_law_word", "_law_b"] ["_law_frame_here", "_law_one", "_law_other"] (defScope sLeads) := ⟨rfl, rfl, rfl, by decide +kernel, rfl, by decide +kernel, by decide +kernel⟩
theorem df_leads (T : Txt K mg) (S : Std K mg "_law_leads" sLeads) : Df P w K mg base CX0 "_law_leads" ["_law_frame_here", "_law_one", "_law_other"] 1 (spLeads K) := by
  refine S.df (fun _ _ _ _ _ _ us hl => match us, hl with | [_, _, _], _ => rfl) fun f fd F => F.ok scLeads (fun vs H Q E h => ?_) (fun cdv A outer s H vs Q E hr h => ?_)
  · obtain ⟨p, N, F, x, y, rfl, _⟩ := h
    rfl
  · obtain ⟨p, N, F, x, y, rfl, hF, h7, hO, hx, k⟩ := h
    have nd := scLeads.nd
    have hu := rm1 hr
    refine ⟨_, pss_cons (ps_set (i := 3) nd rfl (.inl rfl) (pe_disp (pps_cons (pv 1) pe_bl pps_nil) rfl rfl (by decide) (by decide)))
      (pss_cons (ps_for PassesOwn.never rfl (pi_range1 rfl T.nRange (pa_cons (pe_op op_mul pe_int (pe_len T.nLen (pe_ix ix_tup (pv 0) pe_int (fun _ _ => rfl)))) pa_nil)) (pg_name (i := 4) nd rfl (.inl rfl))
        (pss_one (ps_for PassesOwn.never rfl (pi_tup (pe_ix ix_tup (pv 0) pe_int (fun _ _ => rfl))) (pg_tup rfl (pgs_cons (pg_name (i := 5) nd rfl (.inl rfl)) (pgs_cons (pg_name (i := 6) nd rfl (.inl rfl)) (pgs_cons (pg_name (i := 7) nd rfl (.inl rfl)) pgs_nil))))
          (pss_one (ps_if (pt_cmp (pc_din hu (pv 5) (pv 3)))
            (pss_one (ps_dput hu (pv 3) (pv 7) (pe_pure (pe_or (pe_dget2 hu (pv 3) (pv 7) pe_bl ⟨rfl, rfl, rfl, rfl⟩) (pe_or (pe_dget hu (pv 3) (pv 5) (fun _ _ => rfl)) (pe_one (pe_cmpR op_eq (pv 6) pe_str (nomark _)))))) rfl)) pss_nil)))))
      (pss_one (ps_ret (pe_lst (pa_cons (pe_cmp (pc_din hu (pv 2) (pv 3))) (pa_cons (pe_dget2 hu (pv 3) (pv 2) pe_bl ⟨rfl, rfl, rfl, rfl⟩) pa_nil)))))), ?_⟩
    obtain ⟨pn, pf, fs, h1, h2, h3⟩ := hF.ex
    refine fun D nD => ⟨_, rfl, ?_⟩
    refine ⟨upd_same, [(.inr x, .bl false)], rfl, by show 1 ≤ 15; decide, ?_⟩
    have s1 : Same H (upd (upd H D (.dK [])) D (.dK (mergeK [] [(.inr x, .bl false)]))) := sameD (sameN nD) nD
    have d1 : (upd (upd H D (.dK [])) D (.dK (mergeK [] [(.inr x, .bl false)]))) D = some (.dK (encB [(x, false)])) := by rw [upd_same]; rfl
    change gName 3 (.ref D) _ (upd (upd H D (.dK [])) D (.dK (mergeK [] [(.inr x, .bl false)]))) _
    generalize upd (upd H D (.dK [])) D (.dK (mergeK [] [(.inr x, .bl false)])) = H1 at s1 d1 ⊢
    refine ⟨_, rfl, p, _, _, _, rfl, rfl, sameT s1 h1, rfl, pn, _, rfl, .inr (sameT s1 h2), _, _, rfl, rfl, .inl ⟨by show -(2 ^ 64 : Int) < 2; decide, by show (2 : Int) < 2 ^ 64; decide⟩, _, rfl, ?_, ?_, ?_⟩
    · rw [List.length_map]; omega
    · rw [List.length_map]; omega
    rw [List.length_map, show (2 * (N.length : Int)).toNat = 2 * N.length by omega]
    refine for_it walk_rg (fun i σ H' => ∃ g a4 a5 a6 a7, σ = [some (.ref p), some (.str x), some (.str y), some (.ref D), a4, a5, a6, a7] ∧ Same H H' ∧ H' D = some (.dK (encB g)) ∧ g.map (·.1) = K2.passes F i [x])
      ⟨_, none, none, none, none, rfl, s1, d1, rfl⟩ (fun _ _ _ _ _ => trivial) ?_ ?_
    · rintro i z σ H2' H2 hi ⟨g, a4, a5, a6, a7, rfl, s2, d2, g2⟩ ⟨rfl, rfl⟩
      refine ⟨_, rfl, p, _, _, _, rfl, rfl, sameT s2 h1, rfl, pf, rfl, ⟨_, sameT s2 h3.tup⟩, for_it walk_tup (fun j σ H' => ∃ g a4 a5 a6 a7, σ = [some (.ref p), some (.str x), some (.str y), some (.ref D), a4, a5, a6, a7] ∧ Same H H' ∧ H' D = some (.dK (encB g)) ∧ g.map (·.1) = (F.take j).foldl K2.sFact (K2.passes F i [x]) ∧ g.length ≤ 7)
        ⟨g, _, a5, a6, a7, rfl, s2, d2, g2, ?_⟩ (fun j σ H' _ ⟨_, _, _, _, _, _, q, _⟩ => sameT q h3.tup) ?_ ?_⟩
      · have z := K2.len_of_sub (K2.passes F i [x]) N (K2.reach_nd hO hx i) fun u hu => (K2.reach_sound hO hx i u hu).1
        rw [← g2, List.length_map] at z
        omega
      · clear d2 g2 s2
        rintro j v σ H3 H4 hj ⟨g, a4, a5, a6, a7, rfl, s2, d2, g2, l2⟩ ⟨rfl, hv⟩
        rw [List.getElem?_map] at hv
        obtain ⟨q, hq, rfl⟩ := Option.map_eq_some_iff.mp hv
        obtain ⟨fc, hf, ht⟩ := NC.Paired.at h3.each hq
        obtain ⟨on1, on2⟩ := hO fc (List.mem_of_getElem? hf)
        refine ⟨q, _, rfl, sameT s2 ht, rfl, _, _, rfl, _, _, rfl, _, _, rfl, rfl, ?_⟩
        refine ⟨_, rfl, _, rfl, D, _, rfl, DGet.k (k := .inr fc.1) d2, _, rfl, ?_⟩
        rw [encB_in, foldl_take _ _ hf, ← g2]
        by_cases hin : fc.1 ∈ g.map (·.1)
        · rw [decide_eq_true hin]
          refine iteT ?_
          obtain ⟨b1, hb1⟩ := encB_get g fc.2.2
          obtain ⟨b2, hb2⟩ := encB_some hin
          have got : DGet H4 D (.str fc.1) (some (.bl b2)) := by
            have z := DGet.k (k := .inr fc.1) d2
            rwa [hb2] at z
          refine ⟨.bl (b1 || (b2 || fc.2.1)), ⟨_, rfl, D, rfl, .inl ⟨_, .inl d2⟩, _, rfl, _, DGet.k (k := .inr fc.2.2) d2, b1, hb1, ?_⟩, ?_⟩
          · cases b1 with
            | true => exact iteT ⟨rfl, rfl⟩
            | false =>
              refine iteF ⟨_, rfl, _, rfl, D, _, rfl, got, b2, rfl, ?_⟩
              cases b2 with
              | true => exact iteT ⟨rfl, rfl⟩
              | false => exact iteF ⟨_, rfl, rfl, congrArg V.bl (dec_wd _), rfl⟩
          · obtain ⟨g', hg1, hg2⟩ := encB_put g fc.2.2 (b1 || (b2 || fc.2.1))
            have pt : DPut H4 D (.str fc.2.2) (.bl (b1 || (b2 || fc.2.1))) (upd H4 D (.dK (encB g'))) := by
              have z := DPut.k (k := .inr fc.2.2) (v := .bl (b1 || (b2 || fc.2.1))) d2 (by unfold encB; rw [List.length_map, PySem.sizeLine_eq]; omega)
              rwa [hg1] at z
            have keys : g'.map (·.1) = K2.sFact (g.map (·.1)) fc := by
              rw [hg2]
              unfold K2.sFact
              rw [if_pos hin]
            refine ⟨_, rfl, _, rfl, D, _, rfl, pt, g', _, _, _, _, rfl, sameD s2 nD, upd_same, keys, ?_⟩
            have nd' : (g'.map (·.1)).Nodup := by
              rw [keys, g2, ← foldl_take K2.sFact _ hf]
              exact K2.foldl_inv List.Nodup K2.sFact (F.take (j + 1)) _ (K2.reach_nd hO hx i) fun b c _ hb => K2.sFact_nd hb
            have sub : ∀ u ∈ g'.map (·.1), u ∈ N := by
              rw [keys, g2, ← foldl_take K2.sFact _ hf]
              refine K2.foldl_inv (fun S => ∀ u ∈ S, u ∈ N) K2.sFact (F.take (j + 1)) _ (fun u hu => (K2.reach_sound hO hx i u hu).1) fun b c hc hb u hu => ?_
              rcases K2.mem_sFact hu with h | ⟨_, e⟩
              · exact hb u h
              · rw [e]; exact (hO c (List.mem_of_mem_take hc)).2
            have z := K2.len_of_sub _ N nd' sub
            rw [List.length_map] at z
            omega
        · rw [decide_eq_false hin]
          refine iteF ⟨g, _, _, _, _, rfl, s2, d2, ?_, l2⟩
          unfold K2.sFact
          rw [if_neg hin]
      · rintro σ H3 ⟨g, a4, a5, a6, a7, rfl, s3, d3, g3, l3⟩
        rw [List.length_map, NC.Paired.len h3.each, List.take_length] at g3
        exact ⟨g, _, _, _, _, rfl, s3, d3, g3⟩
    · rintro σ H2 ⟨g, a4, a5, a6, a7, rfl, s2, d2, g2⟩
      obtain ⟨b1, hb1⟩ := encB_get g y
      refine ⟨_, rfl, _, rfl, D, _, rfl, DGet.k (k := .inr y) d2, _, rfl, D, rfl, .inl ⟨_, .inl d2⟩, _, rfl, _, DGet.k (k := .inr y) d2, by show 2 ≤ sizeLine; decide, fun L nL => ?_⟩
      rw [hb1, encB_in]
      refine k _ L _ b1 (sameU s2 nL) upd_same ?_
      rw [g2]
      exact (decide_eq_true_iff).trans (K2.reach_iff hO hx)
end
end NC

set_option Elab.async false
set_option linter.all false
set_option maxRecDepth 100000
set_option maxHeartbeats 4000000
namespace NC
open PySem L2
/-! ### lists of pairs of texts -/
structure PrsAt (K : PySem.W.Frag) (H : Hp) (L : Addr) (as : List Addr) (W : List (Str × Str)) : Prop where
  at_ : H L = some (.lst (as.map V.ref))
  each : Paired (fun a (r : Str × Str) => SqT K H a [.str r.1, .str r.2]) as W
theorem PrsAt.same {K : PySem.W.Frag} {H H' : Hp} {L : Addr} {as : List Addr} {W : List (Str × Str)} (s : Same H H') (h : PrsAt K H L as W) : PrsAt K H' L as W :=
  ⟨s _ _ h.at_, Paired.imp (fun _ _ z => sameT s z) h.each⟩
theorem PrsAt.app {K : PySem.W.Frag} {H : Hp} {L a : Addr} {as : List Addr} {W : List (Str × Str)} {r : Str × Str} (h : PrsAt K H L as W) (ha : SqT K H a [.str r.1, .str r.2]) : PrsAt K (upd H L (.lst (as.map V.ref ++ [.ref a]))) L (as ++ [a]) (W ++ [r]) :=
  ⟨by rw [upd_same, List.map_append]; rfl, P_app (Paired.imp (fun _ _ z => sqT_at z h.at_ nt_lst) h.each) (.cons (sqT_at ha h.at_ nt_lst) .nil)⟩
def qD (r : Str × Str) : PyData := sD [r.1, r.2]
theorem eqv_q (r s : Str × Str) : PyData.eqv (qD r) (qD s) = decide (r = s) := by
  unfold qD
  rw [eqv_s]
  obtain ⟨a, b⟩ := r
  obtain ⟨c, d⟩ := s
  exact decide_eq_decide.mpr (by simp)
theorem dp_prs {K : PySem.W.Frag} {H : Hp} : ∀ {as : List Addr} {W : List (Str × Str)}, Paired (fun a (r : Str × Str) => SqT K H a [.str r.1, .str r.2]) as W → DpAll K H (as.map V.ref) (W.map qD)
  | _, _, .nil => .nil
  | _, _, .cons r t => .cons (dp_s (N := [_, _]) r) (dp_prs t)
theorem shaped_q {r : Str × Str} (h1 : PyData.strOk r.1 = true) (h2 : PyData.strOk r.2 = true) : SeqAt.shaped (qD r) = true := shaped_s fun x hx => by
  rcases List.mem_cons.mp hx with e | hx
  · rw [e]; exact h1
  · rw [List.mem_singleton.mp hx]; exact h2
theorem shaped_ql {W : List (Str × Str)} (h : ∀ r ∈ W, PyData.strOk r.1 = true ∧ PyData.strOk r.2 = true) : SeqAt.shaped (.list (W.map qD)) = true := shaped_of (lay_map qD W fun r hr => lay_map PyData.str [r.1, r.2] fun x hx => by
  rcases List.mem_cons.mp hx with e | hx
  · rw [e]; exact (h r hr).1
  · rw [List.mem_singleton.mp hx]; exact (h r hr).2) (by
  show PyData.depthAll (W.map qD) + 1 ≤ 64
  have := depth_map qD 1 W fun r _ => Nat.succ_le_succ (depth_map PyData.str 0 [r.1, r.2] fun _ _ => Nat.le_refl _)
  omega)
theorem any_q (W : List (Str × Str)) (r : Str × Str) : ((W.map qD).any fun z => PyData.eqv z (qD r)) = decide (r ∈ W) := by
  rw [List.any_map]
  by_cases h : r ∈ W
  · rw [decide_eq_true h]
    exact List.any_eq_true.mpr ⟨r, h, by show PyData.eqv (qD r) (qD r) = true; rw [eqv_q]; exact decide_eq_true rfl⟩
  · rw [decide_eq_false h]
    refine Bool.eq_false_iff.mpr fun q => ?_
    obtain ⟨s, hs, e⟩ := List.any_eq_true.mp q
    have e' : PyData.eqv (qD s) (qD r) = true := e
    rw [eqv_q] at e'
    exact h (of_decide_eq_true e' ▸ hs)
/-- the pairs of the facts -/
def fPrs (F : List Fc) : List (Str × Str) := F.map fun f => (f.1, f.2.2)
/-- the steps of a way -/
def steps (p : List Str) : List (Str × Str) := (List.range (p.length - 1)).map fun i => (p.getD i (letter 0), p.getD (i + 1) (letter 0))
theorem mem_steps {p : List Str} {a b : Str} : (a, b) ∈ steps p ↔ ∃ i, p[i]? = some a ∧ p[i + 1]? = some b := by
  unfold steps
  constructor
  · intro h
    obtain ⟨i, hi, e⟩ := List.mem_map.mp h
    have hi := List.mem_range.mp hi
    injection e with e1 e2
    refine ⟨i, ?_, ?_⟩
    · rw [List.getElem?_eq_getElem (by omega : i < p.length), ← e1, List.getD_eq_getElem?_getD, List.getElem?_eq_getElem (by omega : i < p.length)]; rfl
    · rw [List.getElem?_eq_getElem (by omega : i + 1 < p.length), ← e2, List.getD_eq_getElem?_getD, List.getElem?_eq_getElem (by omega : i + 1 < p.length)]; rfl
  · rintro ⟨i, h1, h2⟩
    have := (List.getElem?_eq_some_iff.mp h2).1
    refine List.mem_map.mpr ⟨i, List.mem_range.mpr (by omega), ?_⟩
    rw [List.getD_eq_getElem?_getD, h1, List.getD_eq_getElem?_getD, h2]; rfl
section
variable {P : Program} {w : World} {K : PySem.W.Frag} {mg : Str → Option Value} {base : Heap}
/-! ### _law_is_path -/
abbrev sIsP : Stmt := top 37
abbrev nIsP : List Str := ["_law_frame_here", "_law_row", "_law_pairs", "_law_steps", "_law_a", "_law_word", "_law_b", "_law_k", "_law_step"]
def spIsP (K : PySem.W.Frag) : Sp := fun vs H Q _ => ∃ (p q : Addr) (n : Nat) (F : List Fc) (pth : List Str) (x : Str), vs = [.ref p, .ref q] ∧ FrAt K H p (nms n) F ∧ n ≤ 7 ∧ K2.On (nms n) F ∧ F.length ≤ 60 ∧ SqT K H q (pth.map V.str) ∧ pth.length ≤ 1000 ∧ pth[0]? = some x ∧ x ∈ nms n ∧
  (∀ r ∈ steps pth, r ∈ fPrs F) ∧ ∀ H', Same H H' → Q (.bl true) H'
theorem scIsP : FnScope nIsP ["_law_frame_here", "_law_row"] (defScope sIsP) := ⟨rfl, rfl, rfl, by decide +kernel, rfl, by decide +kernel, by decide +kernel⟩
theorem df_isP (T : Txt K mg) (S : Std K mg "_law_is_path" sIsP) : Df P w K mg base CX0 "_law_is_path" ["_law_frame_here", "_law_row"] 1 (spIsP K) := by
  refine S.df (fun _ _ _ _ _ _ us hl => match us, hl with | [_, _], _ => rfl) fun f fd F => F.ok scIsP (fun vs H Q E h => ?_) (fun cdv A outer s H vs Q E hr h => ?_)
  · obtain ⟨p, q, n, F, pth, x, rfl, _⟩ := h
    rfl
  · obtain ⟨p, q, n, F, pth, x, rfl, hF, h7, hO, h60, hq, hpl, h0, hx, hst, k⟩ := h
    have nd := scIsP.nd
    have h64 := rm64 hr
    have h65 := rm65 hr
    refine ⟨_, pss_cons (ps_set (i := 2) nd rfl (.inr rfl) (pe_lc (own := [("_law_a", 4), ("_law_word", 5), ("_law_b", 6)]) (tt := tYes) rfl nd (pi_tup (pe_ix ix_tup (pv 0) pe_int (fun _ _ => rfl))) (blkOk_by (N := nIsP) (sc := defScope sIsP) (by decide +kernel))
        (fun _ _ _ _ _ => (show PG _ _ (gTup K 3 _) from pg_tup rfl (pgs_cons (pg_name (i := 4) nd rfl (Or.inl rfl)) (pgs_cons (pg_name (i := 5) nd rfl (Or.inl rfl)) (pgs_cons (pg_name (i := 6) nd rfl (Or.inl rfl)) pgs_nil))))) (fun _ _ _ _ _ => pts_nil)
        (fun _ _ _ _ _ => pe_tup (pa_cons (pv 4) (pa_cons (pv 6) pa_nil)))))
      (pss_cons (ps_setLc (i := 3) (own := [("_law_k", 7)]) (g := gName 7) (tt := tYes) rfl nd rfl rfl (sw_true rfl rfl rfl (by decide +kernel)) (pi_range1 rfl T.nRange (pa_cons (pe_op op_sub (pe_len T.nLen (pv 1)) pe_int) pa_nil)) (blkOk_by (N := nIsP) (sc := defScope sIsP) (by decide +kernel))
        (fun _ _ _ _ _ => pg_name (i := 7) nd rfl (Or.inl rfl)) (fun _ _ _ _ _ => pts_nil)
        (fun _ _ _ _ _ => pe_tup (pa_cons (pe_ix (show IxR _ (rIxT K) from ix_tup) (pv 1) (pv 7) (fun _ _ => rfl)) (pa_cons (pe_ix (show IxR _ (rIxT K) from ix_tup) (pv 1) (pe_op op_add (pv 7) pe_int) (fun _ _ => rfl)) pa_nil))))
      (pss_one (ps_ret (pe_and (pe_cmpR op_gt (pe_len T.nLen (pv 1)) pe_int (nomark _)) (pe_and (pe_cmpR (op_eqD h64) (pe_lc (own := [("_law_step", 8)]) (g := gName 8) rfl nd (pi_list (pv 3)) (blkOk_by (N := nIsP) (sc := defScope sIsP) (by decide +kernel))
          (fun _ _ _ _ _ => pg_name (i := 8) nd rfl (Or.inl rfl)) (fun _ _ _ _ _ => pts_one (pt_cmpR (show OpR _ (compareOp .NotIn) (rNotInD K) from op_notInD h65) (pv 8) (pv 2) rfl)) (fun _ _ _ _ _ => pe_int)) (pe_lst pa_nil) (nomark _))
        (pe_one (pe_cmpR op_in_seq (pe_ix ix_tup (pv 1) pe_int (fun _ _ => rfl)) (pe_ix ix_tup (pv 0) pe_int (fun _ _ => rfl)) rfl))))))), ?_⟩
    obtain ⟨pn, pf, fs, h1, h2, h3⟩ := hF.ex
    have fl : fs.length = F.length := NC.Paired.len h3.each
    refine ⟨_, rfl, p, _, _, _, rfl, rfl, h1, rfl, pf, rfl, ⟨_, h3.tup⟩, fun D nD => lc_it (walk_tup (K := K) (a := pf) (xs := fs.map V.ref)) (fun j H' => Same H H' ∧ ∃ ds : List Addr, PrsAt K H' D ds (fPrs (F.take j)))
      ⟨sameN nD, [], upd_same, .nil⟩ (fun j H' _ q => sameT q.1 h3.tup) ?_ ?_⟩
    · rintro j v H2 H3 hj ⟨s2, ds, R2⟩ ⟨rfl, hv⟩
      rw [List.getElem?_map] at hv
      obtain ⟨q', hq', rfl⟩ := Option.map_eq_some_iff.mp hv
      obtain ⟨fc, hf, ht⟩ := NC.Paired.at h3.each hq'
      refine ⟨q', _, rfl, sameT s2 ht, rfl, _, _, rfl, _, _, rfl, _, _, rfl, rfl, rfl, ?_⟩
      refine ⟨_, rfl, _, rfl, by show 2 ≤ sizeLine; decide, fun r nr => ?_⟩
      have R3 : PrsAt K (upd H3 r (.tup [.str fc.1, .str fc.2.2])) D ds (fPrs (F.take j)) := R2.same (sameN nr)
      refine ⟨_, R3.at_, ?_, sameD (sameU s2 nr) nD, ds ++ [r], ?_⟩
      · have := NC.Paired.len R2.each
        unfold fPrs at this
        rw [List.length_map, List.length_take] at this
        rw [List.length_map, PySem.sizeLine_eq]
        omega
      · rw [List.take_add_one, hf]
        show PrsAt K _ D _ ((F.take j ++ [fc]).map _)
        rw [List.map_append]
        exact R3.app (r := (fc.1, fc.2.2)) (SqT.of upd_same)
    · rintro H2 ⟨s2, ds, R2⟩
      rw [List.length_map, fl, List.take_length] at R2
      have q2 := sameT s2 hq
      have lq : (pth.map V.str).length = pth.length := List.length_map ..
      have pp : 0 < pth.length := (List.getElem?_eq_some_iff.mp h0).1
      have at_ : ∀ {i : Nat} {y : Str}, pth[i]? = some y → atI (pth.map V.str) (i : Int) = some (.str y) := fun {i y} e => atI_nat (by rw [List.getElem?_map, e]; rfl)
      refine ⟨_, rfl, q, _, rfl, .inr q2, _, _, rfl, rfl, _, rfl, ?_, ?_, ?_⟩
      · rw [lq]; omega
      · rw [lq]; omega
      rw [lq, show ((pth.length : Int) - 1).toNat = pth.length - 1 by omega]
      refine fun E nE => lc_it walk_rg (fun i H' => Same H2 H' ∧ ∃ ss : List Addr, PrsAt K H' E ss ((steps pth).take i))
        ⟨sameN nE, [], upd_same, .nil⟩ (fun _ _ _ _ => trivial) ?_ ?_
      · rintro i v H3 H4 hi ⟨s3, ss, R3⟩ ⟨rfl, rfl⟩
        have g1 : pth[i]? = some pth[i] := List.getElem?_eq_getElem (by omega)
        have g2 : pth[i + 1]? = some pth[i + 1] := List.getElem?_eq_getElem (by omega)
        have q3 := sameT s3 q2
        refine ⟨rfl, ?_⟩
        refine ⟨_, rfl, _, rfl, q, _, _, _, rfl, rfl, q3, at_ g1, ?_⟩
        refine ⟨_, rfl, _, rfl, _, _, rfl, rfl, q, _, _, _, rfl, rfl, q3, at_ g2, ?_⟩
        refine ⟨by show 2 ≤ sizeLine; decide, fun r nr => ?_⟩
        have R4 : PrsAt K (upd H4 r (.tup [.str pth[i], .str pth[i + 1]])) E ss ((steps pth).take i) := R3.same (sameN nr)
        have ls : (steps pth).length = pth.length - 1 := by unfold steps; rw [List.length_map, List.length_range]
        refine ⟨_, R4.at_, ?_, sameD (sameU s3 nr) nE, ss ++ [r], ?_⟩
        · have := NC.Paired.len R3.each
          rw [List.length_take] at this
          rw [List.length_map, PySem.sizeLine_eq]
          omega
        · have e : (steps pth)[i]? = some (pth[i], pth[i + 1]) := by
            unfold steps
            rw [List.getElem?_map, List.getElem?_range (by omega)]
            show some (pth.getD i _, pth.getD (i + 1) _) = _
            rw [List.getD_eq_getElem?_getD, List.getD_eq_getElem?_getD, g1, g2]; rfl
          rw [List.take_add_one, e]
          exact R4.app (r := (pth[i], pth[i + 1])) (SqT.of upd_same)
      · rintro H3 ⟨s3, ss, R3⟩
        have ls : (steps pth).length = pth.length - 1 := by unfold steps; rw [List.length_map, List.length_range]
        rw [← ls, List.take_length] at R3
        have R2' := R2.same s3
        have s03 := Same.trans s2 s3
        have okF : ∀ r ∈ fPrs F, PyData.strOk r.1 = true ∧ PyData.strOk r.2 = true := fun r hr => by
          obtain ⟨fc, hf, rfl⟩ := List.mem_map.mp hr
          exact ⟨nms_ok h7 _ (hO fc hf).1, nms_ok h7 _ (hO fc hf).2⟩
        refine ⟨_, rfl, q, _, rfl, .inr (sameT s3 q2), _, _, rfl, rfl, _, rfl, ?_⟩
        rw [decide_eq_true (show (0 : Int) < ((pth.map V.str).length : Int) by rw [lq]; omega)]
        refine iteT ?_
        refine ⟨_, rfl, E, rfl, ⟨_, SqL.of R3.at_⟩, fun G nG => lc_it (walk_list (K := K) (a := E) (xs := ss.map V.ref)) (fun i H' => Same H3 H' ∧ H' G = some (.lst []))
          ⟨sameN nG, upd_same⟩ (fun i H' _ z => SqL.of (z.1 _ _ R3.at_)) ?_ ?_⟩
        · rintro i v H4 H5 hi ⟨s4, g4⟩ ⟨rfl, hv⟩
          rw [List.getElem?_map] at hv
          obtain ⟨a, ha, rfl⟩ := Option.map_eq_some_iff.mp hv
          obtain ⟨r, hr', ta⟩ := NC.Paired.at R3.each ha
          have inF := hst r (List.mem_of_getElem? hr')
          have R2'' := R2'.same s4
          refine ⟨rfl, _, rfl, _, rfl, qD r, (fPrs F).map qD, dp_s (N := [_, _]) (sameT s4 ta), .lst (SqL.of R2''.at_) (dp_prs R2''.each), shaped_q (okF r inF).1 (okF r inF).2, shaped_ql okF, ?_⟩
          rw [any_q, decide_eq_true inF]
          exact ⟨_, rfl, iteF ⟨s4, g4⟩⟩
        · rintro H4 ⟨s4, g4⟩
          refine ⟨by show 0 ≤ sizeLine; decide, fun Z nZ => ?_⟩
          have sZ := sameN (o := .lst []) nZ
          have sA := Same.trans (Same.trans s03 s4) sZ
          refine ⟨.list [], .list [], .lst (SqL.of (sZ _ _ g4)) .nil, .lst (SqL.of upd_same) .nil, rfl, rfl, true, rfl, iteT ?_⟩
          refine ⟨_, rfl, q, _, _, _, rfl, rfl, sameT sA hq, at_ h0, _, rfl, p, _, _, _, rfl, rfl, sameT sA h1, rfl, pn, _, rfl, .inr (sameT sA h2), rfl, flat_strs' _, ?_⟩
          show Q (.bl (inV (.str x) ((nms n).map V.str))) _
          rw [inV_strs, decide_eq_true hx]
          exact k _ sA
end
end NC

set_option Elab.async false
set_option linter.all false
set_option maxRecDepth 100000
set_option maxHeartbeats 4000000
namespace NC
open PySem L2 PySem.Spec PyProof.Rows
section
variable {X : Cx}
/-- x.index(y), x a held tuple of texts -/
def tTIdx (to : TE) (t : TA) : TE := fun σ H Q => to σ H fun x H1 => ∃ p, ∃ ys : List Str, x = .ref p ∧ TupN H1 p ys ∧ t σ H1 fun xs H2 => ∃ z j, xs = [.str z] ∧ TupN H2 p ys ∧ ys[j]? = some z ∧ (∀ m, m < j → ys[m]? ≠ some z) ∧ Q (.int (j : Nat)) H2
variable {o e : Expr} {es : List Expr} {to : TE} {t : TA} {name : Str} {apos cpos : Pos}
theorem pe_tidx (pa : PlainAttrs "tuple") (slot : Slot "tuple" name "tuple.index") (hty : typeOf (.builtin "tuple.index") = pure (.type "method_descriptor")) (ho : PE X o to) (ha : PA X (e :: es) t)
    (hbase : attributeBase o name X.env (eval o X.env) = eval o X.env := by rfl)
    (hfew : ((backTo cpos (starEach (e :: es) X.env)).all (fun x => !x.1) && (backToKw cpos (keywordEach [] X.env)).all (fun x => x.1.isSome)
      && decide ((e :: es).length + ([] : List Keyword).length + (if ([] : List Keyword).isEmpty then 0 else 1) < 30)) = true := by rfl)
    (hline : (apos.endLine == cpos.line) = true := by rfl) (hs : starEach (e :: es) X.env = (false, eval e X.env) :: starEach es X.env := by rfl) (hplain : (backTo cpos (starEach es X.env)).any (·.1) = false := by rfl) :
    PE X (.Call (.Attribute o name apos) (e :: es) [] cpos) (tTIdx to t) := by
  refine ⟨fun pins s σ H Q I h => ?_⟩
  refine wpAny_Call_method_late hbase hfew hline rfl (thn (ho.run pins s σ H _ I h) fun v s1 ⟨x, H1, I1, r1, q1⟩ => ?_)
  obtain ⟨p, ys, rfl, ⟨ob, hp, hc, hd⟩, q1⟩ := q1
  cases r1
  obtain ⟨hg, _⟩ := (show ObjOk X.prog X.w H1 s1.heap p (.frz ob (.tup (ys.map V.str))) from I1.hok p _ hp)
  refine ⟨"tuple", "tuple.index", pa, slot, hty, ⟨ob, hg, hc⟩, fun a z => ?_, ?_⟩
  · cases z
    exact ⟨ob, hg, hd⟩
  have hA := ha.run cpos pins s1 σ H1 _ I1 q1
  rw [hs] at hA ⊢
  refine Calls.callWith_builtin (by show (false || (backTo cpos (starEach es X.env)).any (·.1)) = false; rw [hplain] <;> rfl) (Calls.evalArgs_plain ?_)
  refine thn hA fun us s2 ⟨vs, H2, I2, r2, z, j, e, t2, hj, hm, q2⟩ => ?_
  exact mt_tup_index pins s2 σ H2 (.ref p) vs _ us Q I2 rfl r2 ⟨p, ys, z, j, rfl, e, t2.sq, hj, hm, q2⟩
variable {P : Program} {w : World} {K : PySem.W.Frag} {mg : Str → Option Value} {base : Heap}
/-! ### _law_due -/
theorem due_test (c : Int → Int → Bool) {L : Addr} {as : List Addr} {W : List (List Int)} {i j : Nat} {H1 : Hp} (RW : RowsAt K H1 L as W) (hwl : W.length ≤ 1000) (hb : ∀ r ∈ W, i < r.length ∧ j < r.length) (a0 a2 a3 : Option V) {Q : Bool → Hp → Prop}
    (k : ∀ H', Same H1 H' → Q (decide (W.filter (fun r => c (r.getD i 0) (r.getD j 0)) = [])) H') :
    tTest (tOp (rEqD K) (tLc (iList K (tVar 1)) (gName 6) (tTest (tOp (rI0 fun i j => V.bl (c i j)) (tOp (rIxT K) (tVar 6) (tVar 4)) (tOp (rIxT K) (tVar 6) (tVar 5)))) (tC (V.int 1)) [6]) (tLst tNil)) [a0, some (.ref L), a2, a3, some (.int i), some (.int j), none] H1 Q := by
  refine ⟨_, rfl, L, rfl, ⟨_, SqL.of RW.at_⟩, fun M nM => lc_it (walk_list (K := K) (a := L) (xs := as.map V.ref)) (fun m H' => Same H1 H' ∧ ∃ ws : List Int, H' M = some (.lst (ws.map V.int)) ∧ ws.length ≤ m ∧ (ws = [] ↔ (W.take m).filter (fun r => c (r.getD i 0) (r.getD j 0)) = []))
    ⟨sameN nM, [], upd_same, Nat.le_refl _, by simp⟩ (fun m H' _ q => SqL.of (q.1 _ _ RW.at_)) ?_ ?_⟩
  · rintro m v H2 H3 hm ⟨s2, ws, e2, l2, k2⟩ ⟨rfl, hv⟩
    rw [List.getElem?_map] at hv
    obtain ⟨a, ha, rfl⟩ := Option.map_eq_some_iff.mp hv
    obtain ⟨r, hr, ta⟩ := NC.Paired.at RW.each ha
    obtain ⟨b1, b2⟩ := hb r (List.mem_of_getElem? hr)
    have at_ : ∀ {n : Nat}, n < r.length → atI (r.map V.int) (n : Int) = some (.int (r.getD n 0)) := fun {n} z => atI_nat (by rw [List.getElem?_map, List.getD_eq_getElem?_getD, List.getElem?_eq_getElem z]; rfl)
    have tk : (W.take (m + 1)).filter (fun r => c (r.getD i 0) (r.getD j 0)) = (W.take m).filter (fun r => c (r.getD i 0) (r.getD j 0)) ++ (if c (r.getD i 0) (r.getD j 0) then [r] else []) := by
      rw [List.take_add_one, hr, List.filter_append]
      congr 1
      show List.filter _ [r] = _
      rw [List.filter_cons, List.filter_nil]
    refine ⟨rfl, _, rfl, _, rfl, a, _, _, _, rfl, rfl, sameT s2 ta, at_ b1, _, rfl, _, rfl, a, _, _, _, rfl, rfl, sameT s2 ta, at_ b2, _, _, rfl, rfl, _, rfl, ?_⟩
    refine ite2 (fun cc => ?_) (fun cc => ?_)
    · refine ⟨_, e2, ?_, sameD s2 nM, ws ++ [1], ?_, by rw [List.length_append, List.length_singleton]; omega, ?_⟩
      · have := NC.Paired.len RW.each
        rw [List.length_map] at hm
        rw [List.length_map, PySem.sizeLine_eq]
        omega
      · rw [upd_same, List.map_append]; rfl
      · rw [tk, if_pos cc]
        exact ⟨fun z => absurd z (by simp), fun z => absurd z (by simp)⟩
    · refine ⟨s2, ws, e2, by omega, ?_⟩
      rw [tk, if_neg cc, List.append_nil]
      exact k2
  · rintro H2 ⟨s2, ws, e2, l2, k2⟩
    rw [List.length_map, NC.Paired.len RW.each, List.take_length] at k2
    refine ⟨by show 0 ≤ sizeLine; decide, fun t nt => ⟨.list (ws.map .int), .list [], .lst (SqL.of ((sameN nt) _ _ e2)) (dp_ints ws), .lst (SqL.of upd_same) .nil, shaped_il ws, rfl, _, rfl, ?_⟩⟩
    rw [eqv_inil, decide_eq_decide.mpr k2]
    exact k _ (Same.trans s2 (sameN nt))
abbrev sDue : Stmt := top 39
def spDue (K : PySem.W.Frag) : Sp := fun vs H Q _ => ∃ (p L : Addr) (as : List Addr) (n : Nat) (F : List Fc) (W : List (List Int)) (i j : Nat) (x y : Str), vs = [.ref p, .ref L, .str x, .str y] ∧ FrN K H p (nms n) F ∧ n ≤ 7 ∧ RowsAt K H L as W ∧ W.length ≤ 1000 ∧ (∀ r ∈ W, r.length = n) ∧ (nms n)[i]? = some x ∧ (nms n)[j]? = some y ∧
  ∀ H', Same H H' → Q (lvV (K2.dueM W i j)) H'
abbrev nDue : List Str := ["_law_frame_here", "_law_some", "_law_one", "_law_other", "_law_at", "_law_place", "_law_row"]
theorem scDue : FnScope nDue ["_law_frame_here", "_law_some", "_law_one", "_law_other"] (defScope sDue) := ⟨rfl, rfl, rfl, by decide +kernel, rfl, by decide +kernel, by decide +kernel⟩
theorem df_due (T : Txt K mg) (S : Std K mg "_law_due" sDue) : Df P w K mg base CX0 "_law_due" ["_law_frame_here", "_law_some", "_law_one", "_law_other"] 1 (spDue K) := by
  refine S.df (fun _ _ _ _ _ _ us hl => match us, hl with | [_, _, _, _], _ => rfl) fun f fd F => F.ok scDue (fun vs H Q E h => ?_) (fun cdv A outer s H vs Q E hr h => ?_)
  · obtain ⟨p, L, as, n, F, W, i, j, x, y, rfl, _⟩ := h
    rfl
  · obtain ⟨p, L, as, n, F, W, i, j, x, y, rfl, hF, h7, hW, hwl, hwr, hi, hj, k⟩ := h
    have nd := scDue.nd
    have h64 := rm64 hr
    refine ⟨_, pss_cons (ps_asg (pe_tup (pa_cons (pe_tidx PySem.F.plainAttrs_tuple PySem.F.slot_tuple_index PySem.F.type_tuple_index (pe_ix ix_tup (pv 0) pe_int (fun _ _ => rfl)) (pa_cons (pv 2) pa_nil))
        (pa_cons (pe_tidx PySem.F.plainAttrs_tuple PySem.F.slot_tuple_index PySem.F.type_tuple_index (pe_ix ix_tup (pv 0) pe_int (fun _ _ => rfl)) (pa_cons (pv 3) pa_nil)) pa_nil)))
        (pg_tup rfl (pgs_cons (pg_name (i := 4) nd rfl (.inr rfl)) (pgs_cons (pg_name (i := 5) nd rfl (.inr rfl)) pgs_nil))))
      (pss_cons (ps_if (pt_cmpR (op_eqD h64) (pe_lc (own := [("_law_row", 6)]) (g := gName 6) rfl nd (pi_list (pv 1)) (blkOk_by (N := nDue) (sc := defScope sDue) (by decide +kernel))
          (fun _ _ _ _ _ => pg_name (i := 6) nd rfl (Or.inl rfl)) (fun _ _ _ _ _ => pts_one (pt_cmpR (show OpR _ (compareOp .GtE) _ from op_ge) (pe_ix (show IxR _ (rIxT K) from ix_tup) (pv 6) (pv 4) (fun _ _ => rfl)) (pe_ix (show IxR _ (rIxT K) from ix_tup) (pv 6) (pv 5) (fun _ _ => rfl)) (nomark _))) (fun _ _ _ _ _ => pe_int)) (pe_lst pa_nil) (nomark _))
        (pss_one (ps_ret pe_str)) pss_nil)
      (pss_one (ps_ret (pe_ifExp (pt_cmpR (op_eqD h64) (pe_lc (own := [("_law_row", 6)]) (g := gName 6) rfl nd (pi_list (pv 1)) (blkOk_by (N := nDue) (sc := defScope sDue) (by decide +kernel))
          (fun _ _ _ _ _ => pg_name (i := 6) nd rfl (Or.inl rfl)) (fun _ _ _ _ _ => pts_one (pt_cmpR (show OpR _ (compareOp .Gt) _ from op_gt) (pe_ix (show IxR _ (rIxT K) from ix_tup) (pv 6) (pv 4) (fun _ _ => rfl)) (pe_ix (show IxR _ (rIxT K) from ix_tup) (pv 6) (pv 5) (fun _ _ => rfl)) (nomark _))) (fun _ _ _ _ _ => pe_int)) (pe_lst pa_nil) (nomark _))
        pe_str pe_non)))), ?_⟩
    obtain ⟨pn, pf, fs, h1, h2, h3⟩ := hF.ex
    have uniq : ∀ {a : Nat} {z : Str}, (nms n)[a]? = some z → ∀ m, m < a → (nms n)[m]? ≠ some z := fun {a z} e m lt e2 => by
      have l1 := (List.getElem?_eq_some_iff.mp e).1
      have := List.pairwise_iff_getElem.mp (nms_nodup n) m a (Nat.lt_trans lt l1) l1 lt
      exact this ((List.getElem?_eq_some_iff.mp e2).2.trans (List.getElem?_eq_some_iff.mp e).2.symm)
    refine ⟨_, rfl, p, _, _, _, rfl, rfl, h1, rfl, pn, _, rfl, h2, _, rfl, _, i, rfl, h2, hi, uniq hi, ?_⟩
    refine ⟨_, rfl, p, _, _, _, rfl, rfl, h1, rfl, pn, _, rfl, h2, _, rfl, _, j, rfl, h2, hj, uniq hj, by show 2 ≤ sizeLine; decide, fun q nq => ?_⟩
    refine ⟨q, _, rfl, SqT.of upd_same, rfl, _, _, rfl, _, _, rfl, rfl, ?_⟩
    have s1 := sameN (o := .tup [.int (i : Int), .int (j : Int)]) nq
    have RW := hW.same s1
    generalize upd H q (.tup [.int (i : Int), .int (j : Int)]) = H1 at s1 RW ⊢
    have li : i < n := by have := (List.getElem?_eq_some_iff.mp hi).1; rwa [nms_len] at this
    have lj : j < n := by have := (List.getElem?_eq_some_iff.mp hj).1; rwa [nms_len] at this
    have hb : ∀ r ∈ W, i < r.length ∧ j < r.length := fun r hr => by rw [hwr r hr]; exact ⟨li, lj⟩
    refine due_test (fun a b => decide (b ≤ a)) RW hwl hb _ _ _ fun H2 s2 => ?_
    unfold K2.dueM at k
    refine ite2 (fun c => ?_) (fun c => ?_)
    · have k := k _ (Same.trans s1 s2)
      rw [if_pos (of_decide_eq_true c)] at k
      exact k
    · refine due_test (fun a b => decide (b < a)) (RW.same s2) hwl hb _ _ _ fun H3 s3 => ?_
      have k := k _ (Same.trans (Same.trans s1 s2) s3)
      rw [if_neg (fun z => c (decide_eq_true z))] at k
      refine ite2 (fun c2 => ?_) (fun c2 => ?_)
      · rw [if_pos (of_decide_eq_true c2)] at k
        exact k
      · rw [if_neg (fun z => c2 (decide_eq_true z))] at k
        exact k
end
end NC

set_option Elab.async false
set_option linter.all false
set_option maxRecDepth 100000
set_option maxHeartbeats 4000000
/-! calls from where no repr is under way: what a def promises there -/
namespace NC
open PySem L2 PySem.Spec PyProof.Rows
/-- FnOk, from where no guard is known to stand -/
structure FnG (P : Program) (w : World) (K : PySem.W.Frag) (mg : Str → Option Value) (base : Heap) (CX : CXT) (k : Nat) (f : Addr) (fd : FuncData) (ps : List Str) (sp : Sp) : Prop where
  len : ∀ vs H Q E, sp vs H Q E → vs.length = ps.length
  run : ∀ (A : Around) (outer : List Env) (s : Shared) (H : Hp) (args : Args) (us : List Value) (vs : List V) (Q : VK) (E : XK), A.guards = some [] → Room k A → Env0 P w K mg base A outer s H → BindsTo s fd args (ps.zip us) → Vals vs us →
    sp vs H Q E → codeAny (model P w) A (.call (.ref f) args) (CR CX outer P w H s Q E) s
section
variable {P : Program} {w : World} {K : PySem.W.Frag} {mg : Str → Option Value} {base : Heap} {CX : CXT} {k : Nat} {ps : List Str} {sp : Sp} {x qual : Str}
theorem FnG.bodyC {st : Stmt} {f : Addr} {fd : FuncData} {N : List Str} (F : Fun K x qual st f fd) (S : FnScope N ps (defScope st)) (len : ∀ vs H Q E, sp vs H Q E → vs.length = ps.length)
    (body : ∀ (cdv : Value) (A : Around) (outer : List Env) (s : Shared) (H : Hp) (vs : List V) (Q : VK) (E : XK), fd.code = cdv → A.guards = some [] → Room k (A.deeper (envOfC qual (defScope st) s.heap.objs.size f cdv)) → sp vs H Q E →
      ∃ t, PSs (cxOf CX P w K mg base N qual (defScope st) f cdv A outer s H E).nox (defBody st) t ∧ t { nx := fun _ H' => Q .non H', rt := Q } (start N vs) H) : FnG P w K mg base CX (k + 1) f fd ps sp := by
  obtain ⟨oc, od, kV, doc, pm, an, cdv, ct, osl, rfl, lk, hcd⟩ := F.ex
  refine ⟨len, fun A outer s H args us vs Q E hg room env bind rel want => ?_⟩
  have held := fun b o e => (env.bs b o e).1
  have inK : K.In s.heap := env.mod.kin.keeps held
  have kinds : ∀ y ∈ ps.zip us, (defScope st).names.lookup y.1 = some .local ∨ ((defScope st).names.lookup y.1 = some .cell ∧ ((cellsFrom (s.heap.objs.size + 1) (defScope st).names []).lookup y.1).isSome = true) := by
    rintro ⟨n, v⟩ hy
    rcases S.par n (List.of_mem_zip hy).1 with q | q
    · exact .inl q
    · exact .inr ⟨q, PySem.W.cellsFrom_some _ _ _ (.inl q)⟩
  refine codeAny_call_function room.depth (inK _ _ lk) rfl S.co S.gen rfl (PySem.W.codeRec_of inK hcd) (bind _ _ _ _ (wpAny_newFunctionEnv_cells S.kind kinds ?_))
  rintro env' rfl s1 cells
  refine ⟨(env.mod.nolimit.keeps held).keeps cells.toInCall.keep, codeAny_func ?_⟩
  obtain ⟨t, ht, hq⟩ := body cdv A outer s H vs Q E rfl hg (room.deeper _) want
  have I : Inv (cxOf CX P w K mg base N qual (defScope st) f cdv A outer s H E) [] (start N vs) H s1 := inv_start S room.hd env (len _ _ _ _ want) rel cells
  refine wpAny_mono (ht.nox.run [] s1 (start N vs) H _ I hq) (fun fl s' got => ?_) fun _ _ z => z
  cases fl with
  | ret u =>
    obtain ⟨v, σ', H', J, rv, q⟩ := got
    exact ⟨v, H', J.os, J.bare, J.base, J.hok, rv, q⟩
  | next =>
    obtain ⟨σ', H', J, q⟩ := got
    exact ⟨.non, H', J.os, J.bare, J.base, J.hok, rfl, q⟩
  | brk =>
    obtain ⟨_, _, _, q⟩ := got
    exact q.elim
  | cont =>
    obtain ⟨_, _, _, q⟩ := got
    exact q.elim
theorem FnG.body {st : Stmt} {f : Addr} {fd : FuncData} {N : List Str} (F : Fun K x qual st f fd) (S : FnScope N ps (defScope st)) (len : ∀ vs H Q E, sp vs H Q E → vs.length = ps.length)
    (body : ∀ (cdv : Value) (A : Around) (outer : List Env) (s : Shared) (H : Hp) (vs : List V) (Q : VK) (E : XK), A.guards = some [] → Room k (A.deeper (envOfC qual (defScope st) s.heap.objs.size f cdv)) → sp vs H Q E →
      ∃ t, PSs (cxOf CX P w K mg base N qual (defScope st) f cdv A outer s H E).nox (defBody st) t ∧ t { nx := fun _ H' => Q .non H', rt := Q } (start N vs) H) : FnG P w K mg base CX (k + 1) f fd ps sp :=
  .bodyC F S len fun cdv A outer s H vs Q E _ => body cdv A outer s H vs Q E
/-- Df, from where no guard stands -/
structure DfG (P : Program) (w : World) (K : PySem.W.Frag) (mg : Str → Option Value) (base : Heap) (CX : CXT) (x : Str) (ps : List Str) (k : Nat) (sp : Sp) : Prop where
  ex : ∃ f fd, mg x = some (.ref f) ∧ PySem.W.keepIn K (.ref f) = true ∧ Binds K fd ps [] ∧ FnG P w K mg base CX k f fd ps sp
end
section
variable {X : Cx} {CX : CXT} {k : Nat} {ps : List Str} {sp : Sp} {E : XK} {x : Str} {p pos : Pos} {e : Expr} {es : List Expr} {t : TA}
theorem pe_dfG (F : DfG X.prog X.w X.K X.mg X.base CX x ps k sp) (hgd : X.A.guards = some []) (hr : Room k X.A) (hx : Passes CX X E) (ha : PA X (e :: es) t) (hg : Gl X x := by rfl)
    (hdb : (x == ("__debug__" : Str)) = false := by decide) (he : starEach (e :: es) X.env = (false, eval e X.env) :: starEach es X.env := by rfl) (hpl : (backTo pos (starEach es X.env)).any (·.1) = false := by rfl) :
    PE X (.Call (.Name x p) (e :: es) [] pos) (tCl sp E t) := by
  obtain ⟨f, fd, hm, hk, hb, G⟩ := F.ex
  refine ⟨fun pins s σ H Q I h => wpAny_Call_Name_kw (ld_glob I hg hm ?_ hdb)⟩
  refine PySem.W.callWith_K (h₀ := X.base) I.ok.mod.kin hk (thn (ha.run pos pins s σ H _ I h) fun us s1 ⟨vs, H1, I1, r, q⟩ => ⟨I1.kIn, ?_⟩) he hpl
  have hl : (us ++ []).length = ps.length := by rw [List.append_nil, ← r.length]; exact G.len _ _ _ _ q
  refine wpAny_call (codeAny_mono (G.run X.A X.stack s1 H1 ⟨us, []⟩ us vs Q E hgd hr I1.env0 ?_ r q) fun out s' got => ?_)
  · have z := hb s1 us I1.kIn hl
    rwa [List.append_nil] at z
  cases out with
  | error e => exact hx pins σ H1 s1 e s' I1 got
  | ok fl =>
    cases fl with
    | ret u => exact I1.after got
    | next => exact False.elim got
    | brk => exact False.elim got
    | cont => exact False.elim got
end
end NC

set_option Elab.async false
set_option linter.all false
set_option maxRecDepth 100000
set_option maxHeartbeats 4000000
/-! the law's own call, from where no guard stands -/
namespace NC
open PySem L2 PySem.Spec PyProof.Rows
/-- what is tracked as the law begins: the tables, and the script where the written part does not hold it -/
def Hp0 (T : List Addr) (K : PySem.W.Frag) (a : Addr) (o : Obj) (xs : List V) : Hp := fun b => if b ∈ T then some (.tbl #[]) else if b = a ∧ K.lookup a = none then some (.frz o (.lst xs)) else none
section
variable {T : List Addr} {K : PySem.W.Frag} {a b : Addr} {o : Obj} {xs : List V}
theorem hp0_tab (h : b ∈ T) : Hp0 T K a o xs b = some (.tbl #[]) := if_pos h
theorem hp0_scr (h : a ∉ T) (hk : K.lookup a = none) : Hp0 T K a o xs a = some (.frz o (.lst xs)) := (if_neg h).trans (if_pos ⟨rfl, hk⟩)
theorem hp0_inv {u : HO} (h : Hp0 T K a o xs b = some u) : (b ∈ T ∧ u = .tbl #[]) ∨ (b ∉ T ∧ b = a ∧ K.lookup a = none ∧ u = .frz o (.lst xs)) := by
  unfold Hp0 at h
  by_cases hb : b ∈ T
  · rw [if_pos hb] at h
    exact .inl ⟨hb, (Option.some.inj h).symm⟩
  · rw [if_neg hb] at h
    by_cases hc : b = a ∧ K.lookup a = none
    · rw [if_pos hc] at h
      exact .inr ⟨hb, hc.1, hc.2, (Option.some.inj h).symm⟩
    · rw [if_neg hc] at h
      cases h
theorem hp0_none {oa ob : Obj} {g : Addr → Option Obj} (ha : g a = some oa) (hT : ∀ p ∈ T, g p = some ob) (hb : ∃ oc, g b = some oc ∧ oc ≠ oa ∧ oc ≠ ob) : Hp0 T K a o xs b = none := by
  obtain ⟨oc, e, n1, n2⟩ := hb
  cases q : Hp0 T K a o xs b with
  | none => rfl
  | some u =>
    rcases hp0_inv q with ⟨h, _⟩ | ⟨_, h, _⟩
    · rw [hT b h] at e
      exact absurd (Option.some.inj e).symm n2
    · rw [h, ha] at e
      exact absurd (Option.some.inj e).symm n1
end
theorem lawG {P : Program} {w : World} {K : PySem.W.Frag} {mg mb : Str → Option Value} {CX : CXT} {k : Nat} {fa a : Addr} {cs : List (Addr × Addr)} {fd : FuncData} {x : Str} {sp : Sp} {s₁ : Shared} {vs : List Value} {ns : List Int}
    (inK : K.In s₁.heap) (globals : s₁.heap.Ns mainGlobals mg) (blt : s₁.heap.Ns builtinsNs mb) (blts : ∀ x : Str, x ≠ "__name__" → mb x = bootBuiltins x) (limit : s₁.heap.NoLimit) (gens : s₁.gens = #[])
    (tabs : ∀ p ∈ cs, s₁.heap.get? p.2 = some { cls := .none, data := .fields #[] }) (apart : ∀ p ∈ cs, K.lookup p.2 = none) (codes : ∀ p ∈ cs, PySem.W.CodeHd s₁.heap p.1 p.2)
    (bmain : ∃ (bm : Addr) (ob : Obj), mg "__builtins__" = some (.ref bm) ∧ bm ≠ builtinsNs ∧ s₁.heap.get? bm = some ob ∧ ob.cls = .type "module" ∧ ob.dict = some builtinsNs ∧ ob.data = .plain)
    (script : s₁.heap.get? a = some { cls := .type "list", data := .seq vs.toArray }) (intsA : IntsAre vs ns) (size : ns.length ≤ sizeLine) (room : Room k callerA)
    (F : ∀ base : Heap, K.In base → base.Ns mainGlobals mg → (∀ p ∈ cs, LamX.TabB base mg p.1 p.2) → FnG P w K mg base CX k fa fd [x] sp) (bind : ∀ (s : Shared) (u : Value), BindsTo s fd ⟨[u], []⟩ [(x, u)])
    (want : ∀ H : Hp, (∀ p ∈ cs, H p.2 = some (.tbl #[])) → SqL K H a (ns.map V.int) → sp [.ref a] H (fun v _ => v = .bl true) fun _ _ _ => False)
    (noX : ∀ H e s', CX [] H s₁ (fun _ _ _ => False) e s' → False) :
    codeAny (model P w) callerA (.call (.ref fa) ⟨[.ref a], []⟩) (fun r s' => r = .ok (.ret (.bool true)) ∧ OldK s₁.heap s'.heap ∧ s'.os = s₁.os ∧ AllBare s'.gens) s₁ := by
  have rel := vals_ints intsA
  have many := intsA.length
  let oa : Obj := { cls := .type "list", data := .seq vs.toArray }
  let ot : Obj := { cls := .none, data := .fields #[] }
  let T := cs.map (·.2)
  have inT : ∀ p ∈ cs, p.2 ∈ T := fun p hp => List.mem_map.mpr ⟨p, hp, rfl⟩
  have ofT : ∀ b ∈ T, ∃ p ∈ cs, p.2 = b := fun b hb => List.mem_map.mp hb
  have atT : ∀ b ∈ T, s₁.heap.get? b = some ot := fun b hb => by
    obtain ⟨p, hp, e⟩ := ofT b hb
    exact e ▸ tabs p hp
  have aT : a ∉ T := fun z => by
    have q : some oa = some ot := script.symm.trans (atT a z)
    have q' : Data.seq vs.toArray = Data.fields #[] := congrArg Obj.data (Option.some.inj q)
    cases q'
  let H := Hp0 T K a oa (ns.map V.int)
  have free : ∀ {b : Addr} {o : Obj}, s₁.heap.get? b = some o → (∀ vs n, o.data ≠ .seq vs n) → o.data ≠ .fields #[] → H b = none := fun {b o} e h1 h2 =>
    hp0_none (oa := oa) (ob := ot) script atT ⟨o, e, fun z => h1 _ _ (congrArg Obj.data z), fun z => h2 (congrArg Obj.data z)⟩
  have freeD : ∀ {b : Addr} {o : Obj} {es : Array DictEntry} {ep : Nat}, s₁.heap.get? b = some o → o.data = .dict es ep → H b = none := fun e d => free e (fun _ _ z => by rw [d] at z; cases z) fun z => by rw [d] at z; cases z
  have freeP : ∀ {b : Addr} {o : Obj}, s₁.heap.get? b = some o → o.data = .plain → H b = none := fun e d => free e (fun _ _ z => by rw [d] at z; cases z) fun z => by rw [d] at z; cases z
  have freeK : ∀ b o, K.lookup b = some o → H b = none := fun b o e => by
    cases q : H b with
    | none => rfl
    | some u =>
      rcases hp0_inv q with ⟨h, _⟩ | ⟨_, h, hk, _⟩
      · obtain ⟨p, hp, ep⟩ := ofT b h
        rw [← ep, apart p hp] at e
        cases e
      · rw [h, hk] at e
        cases e
  have ns_ : ∀ {b : Addr} {m : Str → Option Value}, s₁.heap.Ns b m → (hidT s₁.heap H).Ns b m := fun ⟨o, es, ep, e, d, r⟩ => ⟨o, es, ep, hidT_get e (freeD e d), d, r⟩
  have kin : K.In (hidT s₁.heap H) := fun b o e => hidT_get (inK b o e) (freeK b o e)
  have hook : ∀ p ∈ cs, LamX.TabB (hidT s₁.heap H) mg p.1 p.2 := fun p hp => by
    have hTp := tabs p hp
    refine ⟨?_, ?_, fun z => ?_⟩
    · obtain ⟨o, us, file, tf, flags, tg, inF, text, tt, e1, r1, r2, r3, rest⟩ := codes p hp
      refine ⟨o, us, file, tf, flags, tg, inF, text, tt, hidT_get e1 (free e1 (fun _ _ z => ?_) fun z => ?_), r1, r2, r3, rest⟩
      · rw [r2] at z
        cases z
      · rw [r2] at z
        cases z
        simp at r3
    · obtain ⟨bm, ob, b1, b2, b3, b4, b5, b6⟩ := bmain
      refine ⟨bm, ob, b1, b2, fun q => ?_, fun q => ?_, hidT_get b3 (freeP b3 b6), b4, b5, b6⟩
      · obtain ⟨o, es, ep, e, hd, _⟩ := globals
        rw [q, e] at b3
        cases b3
        rw [hd] at b6
        cases b6
      · rw [q, hTp] at b3
        cases b3
        cases b6
    · obtain ⟨o, es, ep, e, hd, _⟩ := globals
      rw [z, hTp] at e
      cases e
      cases hd
  have ok : HOk P w H s₁.heap := fun b u e => by
    rcases hp0_inv e with ⟨h, rfl⟩ | ⟨_, rfl, _, rfl⟩
    · exact atT b h
    · exact ⟨script, by rw [List.length_map]; exact size, vs, _, rel, script⟩
  have seq : SqL K H a (ns.map V.int) := by
    cases hk : K.lookup a with
    | none => exact .inl (.inr ⟨oa, hp0_scr aT hk⟩)
    | some o =>
      have e : some o = some oa := (inK a o hk).symm.trans script
      cases e
      exact .inr ⟨_, vs.toArray, _, hk, rfl, rfl, rfl, by rw [List.size_toArray, many]; exact size, by simpa using rel⟩
  have env : Env0 P w K mg (hidT s₁.heap H) callerA [] s₁ H :=
    ⟨rfl, ⟨kin, ns_ globals, ⟨mb, ns_ blt, blts⟩, let ⟨mc, h1, h2⟩ := limit; ⟨mc, ns_ h1, h2⟩⟩, fun b o e => of_hidT e, Nat.le_of_eq (hidT_size _ _), trivial, fun b hb => absurd (show b ∈ ([] : List Addr) from hb) (by simp), ok, .of_eq gens⟩
  have tabH : ∀ p ∈ cs, H p.2 = some (.tbl #[]) := fun p hp => hp0_tab (inT p hp)
  refine codeAny_mono ((F _ kin (ns_ globals) hook).run callerA [] s₁ H ⟨[.ref a], []⟩ [.ref a] [.ref a] _ _ rfl room env (bind s₁ (.ref a)) (.cons rfl .nil) (want H tabH seq)) fun r s' got => ?_
  cases r with
  | error e => exact (noX H e s' got).elim
  | ok fl =>
    cases fl with
    | next => exact False.elim got
    | brk => exact False.elim got
    | cont => exact False.elim got
    | ret u =>
      obtain ⟨v, H', os, bare, un, ok', rv, q⟩ := got
      obtain rfl : v = .bl true := q
      obtain rfl : u = Value.bool true := rv
      have stays : ∀ b o, b ∉ T → s₁.heap.get? b = some o → s'.heap.get? b = some o := fun b o nb e => by
        cases q : H b with
        | none => exact un.keep b o e q (fun z => absurd (show b ∈ ([] : List Addr) from z) (by simp)) (by simp)
        | some u =>
          rcases hp0_inv q with ⟨h, _⟩ | ⟨_, rfl, _, rfl⟩
          · exact absurd h nb
          · have e' : some o = some oa := e.symm.trans script
            cases e'
            exact (ok' b _ (un.frzs b _ _ q)).1
      have grows : ∀ p ∈ cs, ∃ more : Array Value, s'.heap.get? p.2 = some { cls := .none, data := .fields more } := fun p hp => by
        obtain ⟨more, z⟩ := un.tbls p.2 #[] (tabH p hp)
        exact ⟨_, ok' p.2 _ z⟩
      refine ⟨rfl, ⟨fun b o e => ?_, fun b o e => ?_⟩, os, bare⟩
      · by_cases hb : b ∈ T
        · obtain ⟨p, hp, rfl⟩ := ofT b hb
          obtain ⟨more, hm⟩ := grows p hp
          have e' : some o = some ot := e.symm.trans (tabs p hp)
          cases e'
          exact .inr (.inl ⟨((codes p hp).tab (tabs p hp)).isCodeTable, rfl, #[], more, rfl, by rw [Array.empty_append]; exact hm⟩)
        · exact .inl (stays b o hb e)
      · by_cases hb : b ∈ T
        · obtain ⟨p, hp, rfl⟩ := ofT b hb
          obtain ⟨more, hm⟩ := grows p hp
          exact ⟨_, hm⟩
        · exact ⟨o, stays b o hb e⟩
/-- what the head asks of a law that shows things -/
def LawG (l : PySem.W.OpenLaw) (w : World) (K : PySem.W.Frag) (CX : CXT) (k n : Nat) (x : Str) (mg : Str → Option Value) (fa : Addr) (h : Heap) : Prop :=
  ∃ (fd : FuncData) (cs : List (Addr × Addr)) (sp : Sp), (∀ p ∈ cs, h.get? p.2 = some { cls := .none, data := .fields #[] }) ∧ (∀ p ∈ cs, K.lookup p.2 = none) ∧ (∀ p ∈ cs, PySem.W.CodeHd h p.1 p.2) ∧ (∀ (s : Shared) (u : Value), BindsTo s fd ⟨[u], []⟩ [(x, u)]) ∧
    (∀ (H : Hp) (a : Addr) (ns : List Int), ns.length ≤ n → (∀ z ∈ ns, Builtin.Int.intBits z ≤ 1048576) → (∀ p ∈ cs, H p.2 = some (.tbl #[])) → SqL K H a (ns.map V.int) → sp [.ref a] H (fun v _ => v = .bl true) fun _ _ _ => False) ∧
    ∀ base : Heap, K.In base → base.Ns mainGlobals mg → (∀ p ∈ cs, LamX.TabB base mg p.1 p.2) → FnG l.prog w K mg base CX k fa fd [x] sp
theorem walkG {l : PySem.W.OpenLaw} {n k : Nat} {q : Program} {loose : List Str} {XP : (Str → Option Value) → Heap → Prop} {YP : World → Heap → Prop} {d : DefRec} {K : Params → PySem.W.Frag} {CX : World → CXT} {x : Str}
    (most : l.most = some n) (small : n ≤ sizeLine) (plain : d.params.defaults = []) (room : Room k callerA) (inK : ∀ (w : World) (h : Heap), YP w h → (K w.params).In h)
    (F : ∀ (w : World) (mg : Str → Option Value) (fa : Addr) (h : Heap), YP w h → (K w.params).In h → h.Ns mainGlobals mg → mg d.name = some (.ref fa) → LawG l w (K w.params) (CX w) k n x mg fa h)
    (noX : ∀ (w : World) (H : Hp) (s : Shared) (e : Value) (s' : Shared), CX w [] H s (fun _ _ _ => False) e s' → False) :
    PySem.W.WalkO q loose XP YP l.row.toRowW d [] (fun f vs => PySem.call f vs) := by
  refine Att.attach_callB most plain fun w s₀ s₁ mg mb fa o pm cd doc a vs ns G Y ho hd hcd hmg script intsA len bits gens => ?_
  obtain ⟨fd, cs, sp, tabs, apart, codes, bind, want, hF⟩ := F w mg fa _ Y (inK w _ Y) G.T.g hmg
  exact lawG (inK w _ Y) G.T.g G.T.b G.T.builtins G.T.nolimit gens tabs apart codes G.T.bmain script intsA (Nat.le_trans len small) room hF bind (fun H hH hS => want H a ns len bits hH hS) fun H e s' => noX w H s₁ e s'
end NC

set_option Elab.async false
set_option linter.all false
set_option maxRecDepth 100000
set_option maxHeartbeats 4000000
/-! repr of data, from where no repr is under way -/
namespace NC
open PySem L2 PySem.Spec PyProof.Rows
/-- u in h reads as d, and can be shown inside another thing -/
def ShownAs (P : Program) (w : World) (h : Heap) (u : Value) (d : PyData) : Prop := ∃ as bs, Reads h u d as ∧ ReadAtMost h d.depth bs ∧ ReprK P w bs h d.depth u d.shown
theorem shown_read {P : Program} {w : World} {h : Heap} {u : Value} {d : PyData} {as : List Addr} (r : Reads h u d as) (hs : d.showable = true) (hd : d.hasDict = true → sysModules ∉ as) (hz : d.shown.length ≤ sizeLine) : ShownAs P w h u d :=
  let ⟨bs, b1, b2⟩ := ReprK.of_reads r hs hd hz
  ⟨as, bs, r, b1, b2⟩
theorem shown_all {P : Program} {w : World} {h : Heap} : ∀ {us : List Value} {ds : List PyData}, Paired (fun u d => ShownAs P w h u d) us ds →
    ∃ as bs, ReadsAll h us ds as ∧ ReadAtMost h (PyData.depthAll ds) bs ∧ ReprAllK P w bs h (PyData.depthAll ds) us (PyData.shownAll ds)
  | _, _, .nil => ⟨[], [], .nil, (fun _ z => nomatch z), .nil⟩
  | _, _, .cons (l₂ := ds) (b := d) r t => by
    obtain ⟨as, bs, r1, r2, r3⟩ := r
    obtain ⟨as', bs', t1, t2, t3⟩ := shown_all t
    exact ⟨_, bs ++ bs', .cons r1 t1, (r2.mono (Nat.le_max_left _ _)).append (t2.mono (Nat.le_max_right _ _)),
      .cons ((r3.more fun b hb => List.mem_append_left _ hb).level_le (Nat.le_max_left _ _)) (t3.more_le (fun b hb => List.mem_append_right _ hb) (Nat.le_max_right _ _))⟩
theorem listText_le (ts : List Str) : (listText ts).length ≤ piled ts + 2 := by
  have key : ∀ (ts : List Str) (k : Nat) (acc : Str), (textFrom k acc ts).length ≤ acc.length + piled ts := fun ts => by
    induction ts with
    | nil => exact fun k acc => Nat.le_add_right _ _
    | cons t ts ih =>
      intro k acc
      have z := ih (k + 1) (acc ++ (if k > 0 then ", " else "" : String) ++ t)
      have e : (acc ++ ((if k > 0 then ", " else "" : String) : Str) ++ t).length ≤ acc.length + 2 + t.length := by
        rw [strLen_append, strLen_append]
        have : (((if k > 0 then ", " else "" : String) : Str)).length ≤ 2 := by split <;> decide +kernel
        omega
      rw [piled_cons]
      show (textFrom (k + 1) (acc ++ ((if k > 0 then ", " else "" : String) : Str) ++ t) ts).length ≤ _
      omega
  have z := key ts 0 "["
  show (textFrom 0 "[" ts ++ "]").length ≤ _
  rw [strLen_append]
  have e1 : ((("[" : String) : Str)).length = 1 := rfl
  have e2 : ((("]" : String) : Str)).length = 1 := rfl
  omega
theorem shown_list {P : Program} {w : World} {h : Heap} {a : Addr} {us : List Value} {ds : List PyData} (l : PlainL h a us.toArray) (r : Paired (fun u d => ShownAs P w h u d) us ds) : ShownAs P w h (.ref a) (.list ds) := by
  obtain ⟨o, n, e, c, dn, dt⟩ := l
  obtain ⟨as, bs, r1, r2, r3⟩ := shown_all r
  have rd : Reads h (.ref a) (.list ds) (a :: as) := .list e c dt r1
  have ne : a ∉ bs := not_mem_of_deeper rd (by simp only [PyData.depth]; omega) r2
  refine ⟨_, a :: bs, rd, ReadAtMost.cons rd (by simp only [PyData.depth]; omega) r2, ?_⟩
  simp only [PyData.depth, PyData.shown]
  cases us with
  | nil =>
    cases r
    simp only [PyData.shownAll, listText_nil]
    exact ReprK.listEmpty e c dt
  | cons u us => exact ReprK.list e c dt ne (by simpa using r3.length_eq) fun i y q => r3.item i y (by simpa using q)
theorem repr_list {P : Program} {w : World} {A : Around} {E : Value → Shared → Prop} {s : Shared} {a : Addr} {us : List Value} {ds : List PyData} {Q : Value → Shared → Prop} (hg : A.guards = some []) (hu : A.units + 64 < cLine) (l : PlainL s.heap a us.toArray)
    (r : Paired (fun u d => ShownAs P w s.heap u d) us ds) (ne : us ≠ []) (hd : (PyData.list ds).depth ≤ 60) (hz : (PyData.list ds).shown.length ≤ sizeLine)
    (hQ : ∀ h' u tk, (∀ b o, s.heap.get? b = some o → h'.get? b = some o) → Q (.str (PyData.list ds).shown u) { s with heap := h', toks := tk }) : wpAny (model P w) A (call (.builtin "repr") [.ref a]) Q E s := by
  obtain ⟨o, n, e, c, dn, dt⟩ := l
  obtain ⟨as, bs, r1, r2, r3⟩ := shown_all r
  have rd : Reads s.heap (.ref a) (.list ds) (a :: as) := .list e c dt r1
  have na : a ∉ bs := not_mem_of_deeper rd (by simp only [PyData.depth]; omega) r2
  simp only [PyData.shown] at hz hQ
  simp only [PyData.depth] at hd
  cases us with
  | nil => exact absurd rfl ne
  | cons u us =>
    refine call_repr_slot (by omega) ⟨o, e, c⟩ F.slot_list_repr.toG ?_
    exact call_list_reprK e c dt na (by simpa using r3.length_eq) (fun i y q => r3.item i y (by simpa using q)) (A := A.in1) hg (fun b _ => Clear.nil b) (by show A.units + 1 + (PyData.depthAll ds + 1) < cLine; omega) (fun _ _ z => z) (fun h' u tk hk => ⟨_, _, rfl, hQ h' u tk hk⟩) hz
/-- an item of a shown list: data without dicts, or an empty dict -/
def ShI (K : PySem.W.Frag) (H : Hp) (v : V) (d : PyData) : Prop := d.showable = true ∧ d.shown.length ≤ sizeLine ∧ ((Dp K H v d ∧ d.hasDict = false) ∨ ∃ a, v = .ref a ∧ d = .dict [] ∧ Rd H a (.dK []))
/-- what repr is asked of -/
inductive ShT (K : PySem.W.Frag) (H : Hp) : V → PyData → Prop
  | dat {v : V} {d : PyData} (h : Dp K H v d) (hs : d.showable = true) (hd : d.hasDict = false) (hp : d.depth ≤ 60) (hz : d.shown.length ≤ sizeLine) : ShT K H v d
  | two {a : Addr} {vs : List V} {ds : List (List PyData)} (h : SqL K H a vs) (ne : vs ≠ []) (r : Paired (fun v es => ∃ b ws, v = V.ref b ∧ SqL K H b ws ∧ Paired (ShI K H) ws es) vs ds) (hp : (PyData.list (ds.map PyData.list)).depth ≤ 60)
      (hz : (PyData.list (ds.map PyData.list)).shown.length ≤ sizeLine) : ShT K H (.ref a) (.list (ds.map PyData.list))
section
variable {X : Cx} {pins : List (Addr × Obj)} {σ : L2.St} {H : Hp} {s : Shared}
theorem shI (I : Inv X pins σ H s) {v : V} {u : Value} {d : PyData} (h : ShI X.K H v d) (r : RelV v u) : ShownAs X.prog X.w s.heap u d := by
  obtain ⟨h1, h2, h3⟩ := h
  rcases h3 with ⟨h3, h4⟩ | ⟨a, rfl, rfl, e⟩
  · obtain ⟨as, q⟩ := Dp.reads I d v u h3 r
    exact shown_read q h1 (fun z => by rw [h4] at z; cases z) h2
  · cases r
    obtain ⟨z, hd, vs, rel, o, es, ep, e1, ex, dt, rr⟩ := dk_rd I.hok e
    have lv : vs = [] := by cases rel; rfl
    subst lv
    have le : es = #[] := by
      have q := rr.2.1.length
      have q2 : es.toList.length = 0 := q
      exact Array.eq_empty_of_size_eq_zero (by simpa using q2)
    subst le
    exact shown_read (as := a :: [] ++ []) (.dict (as := []) (bs := []) (kvs := []) e1 ex.1 dt .nil .nil) h1 (fun _ hm => by
      have := List.mem_singleton.mp hm
      rw [← this] at hd
      simp at hd) h2
theorem shIs (I : Inv X pins σ H s) : ∀ {ws : List V} {us : List Value} {es : List PyData}, Paired (ShI X.K H) ws es → Vals ws us → Paired (fun u d => ShownAs X.prog X.w s.heap u d) us es
  | _, _, _, .nil, r => by cases r; exact .nil
  | _, _, _, .cons h t, r => by
    cases r with
    | cons r1 r2 => exact .cons (shI I h r1) (shIs I t r2)
theorem sh2s (I : Inv X pins σ H s) : ∀ {vs : List V} {us : List Value} {ds : List (List PyData)}, Paired (fun v es => ∃ b ws, v = V.ref b ∧ SqL X.K H b ws ∧ Paired (ShI X.K H) ws es) vs ds → Vals vs us →
    Paired (fun u d => ShownAs X.prog X.w s.heap u d) us (ds.map PyData.list)
  | _, _, _, .nil, r => by cases r; exact .nil
  | _, _, _, .cons ⟨b, ws, e, hl, hp⟩ t, r => by
    subst e
    cases r with
    | cons r1 r2 =>
      cases r1
      obtain ⟨its, rv, pl, _⟩ := I.list hl
      exact .cons (shown_list pl (shIs I hp rv)) (sh2s I t r2)
end
theorem call_show {X : Cx} (hg : X.A.guards = some []) (hu : X.A.units + 65 < cLine) : CallR X (.builtin "repr") (fun xs H Q => ∃ v d, xs = [v] ∧ ShT X.K H v d ∧ Q (.str d.shown) H) := by
  rintro pins s σ H xs us Q I r ⟨v, d, rfl, h, q⟩
  obtain ⟨u, rfl, rv⟩ := vals1 r
  have back : ∀ h' t tk, (∀ b o, s.heap.get? b = some o → h'.get? b = some o) → EP X pins σ Q (.str d.shown t) { s with heap := h', toks := tk } := fun h' t tk hk => ⟨.str d.shown, H, I.kept hk, ⟨t, rfl⟩, q⟩
  cases h with
  | dat h hs hd hp hz =>
    obtain ⟨as, rd⟩ := Dp.reads I d v u h rv
    cases rd with
    | none => exact PySem.P.repr_of_none (back _ _ _ fun _ _ e => e)
    | bool b => exact PySem.P.repr_of_bool (back _ _ _ fun _ _ e => e)
    | int i t => exact PySem.P.repr_of_int (by simpa [PyData.showable] using hs) (back _ _ _ fun _ _ e => e)
    | str x t => exact PySem.P.repr_of_str (back _ _ _ fun _ _ e => e) hz
    | list e1 e2 e3 e4 => exact repr_of_reads' (.list e1 e2 e3 e4) hs (fun z => by rw [hd] at z; cases z) hg (by omega) (fun _ _ z => z) back hz
    | tuple e1 e2 e3 e4 => exact repr_of_reads' (.tuple e1 e2 e3 e4) hs (fun z => by rw [hd] at z; cases z) hg (by omega) (fun _ _ z => z) back hz
    | dict e1 e2 e3 e4 e5 => simp only [PyData.hasDict] at hd; cases hd
  | two h ne rr hp hz =>
    cases rv
    obtain ⟨its, rl, pl, _⟩ := I.list h
    exact repr_list hg (by omega) pl (sh2s I rr rl) (fun z => ne (by subst z; cases rl; rfl)) hp hz back
end NC

set_option Elab.async false
set_option linter.all false
set_option maxRecDepth 100000
set_option maxHeartbeats 4000000
namespace K2
section
variable {α : Type} [DecidableEq α]
def LenT (c : Nat) : Tn α → Prop
  | .hit p => p.length = c + 1
  | .on _ later => ∀ pt ∈ later, pt.1.length = c + 1
theorem tFact_len {c : Nat} {last : α} {strict : Bool} {pt : Pt α} {s : Tn α} {f : Fact α} (hp : pt.1.length = c) (h : LenT c s) : LenT c (tFact last strict pt s f) := by
  cases s with
  | hit p => exact h
  | on met later =>
    unfold tFact
    dsimp only
    split
    · split
      · show (pt.1 ++ [f.2.2]).length = _
        rw [List.length_append, hp]; rfl
      · split
        · exact h
        · intro q hq
          rcases List.mem_append.mp hq with z | z
          · exact h q z
          · rw [List.mem_singleton.mp z]
            show (pt.1 ++ [f.2.2]).length = _
            rw [List.length_append, hp]; rfl
    · exact h
theorem tPt_len {c : Nat} {F : List (Fact α)} {last : α} {strict : Bool} {pt : Pt α} {s : Tn α} (hp : pt.1.length = c) (h : LenT c s) : LenT c (tPt F last strict s pt) := by
  unfold tPt
  induction F generalizing s with
  | nil => exact h
  | cons f F ih => exact ih (tFact_len hp h)
theorem tLayer_len {c : Nat} {F : List (Fact α)} {last : α} {strict : Bool} {layer : List (Pt α)} {met : List (α × Bool)} (hl : ∀ pt ∈ layer, pt.1.length = c) : LenT c (tLayer F last strict layer met) := by
  unfold tLayer
  have key : ∀ (l : List (Pt α)) (s : Tn α), (∀ pt ∈ l, pt.1.length = c) → LenT c s → LenT c (l.foldl (tPt F last strict) s) := fun l => by
    induction l with
    | nil => exact fun s _ h => h
    | cons pt l ih => exact fun s hl h => ih _ (fun q hq => hl q (List.mem_cons_of_mem _ hq)) (tPt_len (hl pt List.mem_cons_self) h)
  exact key layer _ hl fun pt hp => absurd hp List.not_mem_nil
theorem bfs_len {F : List (Fact α)} {last : α} {strict : Bool} : ∀ (n c : Nat) {layer : List (Pt α)} {met : List (α × Bool)} {p : List α}, (∀ pt ∈ layer, pt.1.length = c) → bfs F last strict n layer met = some p → p.length ≤ c + n
  | 0, _, _, _, _, _, e => by cases e
  | n + 1, c, layer, met, p, hl, e => by
    unfold bfs at e
    split at e
    · cases e
    · have g := tLayer_len (F := F) (last := last) (strict := strict) (met := met) hl
      cases q : tLayer F last strict layer met with
      | hit p' =>
        rw [q] at e g
        have e' : some p' = some p := e
        cases e'
        have g' : p.length = c + 1 := g
        omega
      | on met' later =>
        rw [q] at e g
        have := bfs_len n (c + 1) g e
        omega
theorem wayIn_len {n : Nat} {F : List (Fact α)} {x y : α} {s : Bool} {p : List α} (e : wayIn n F x y s = some p) : p.length ≤ 2 * n + 2 := by
  unfold wayIn at e
  split at e
  · cases e; simp
  · have := bfs_len (2 * n + 1) 1 (fun pt hp => by rw [List.mem_singleton.mp hp]; rfl) e
    omega
theorem wayM_len {n : Nat} {F : List (Fact α)} {x y : α} {p : List α} (e : wayM n F x y = some p) : p.length ≤ 2 * n + 2 := by
  unfold wayM at e
  cases q : wayIn n F x y true with
  | some p' =>
    rw [q] at e
    have e' : some p' = some p := e
    cases e'
    exact wayIn_len q
  | none =>
    rw [q] at e
    exact wayIn_len e
/-- along a list of neighbours there is a way -/
theorem along {F : List (Fact α)} {p : List α} (h : ∀ i a b, p[i]? = some a → p[i + 1]? = some b → ∃ w, (a, w, b) ∈ F) : ∀ (k i : Nat) (a b : α), p[i]? = some a → p[i + k]? = some b → ∃ m, Wk F a m b
  | 0, i, a, b, e1, e2 => by
    rw [Nat.add_zero, e1] at e2
    cases e2
    exact ⟨false, .nil a⟩
  | k + 1, i, a, b, e1, e2 => by
    have l := (List.getElem?_eq_some_iff.mp e2).1
    have e3 : p[i + 1]? = some p[i + 1] := List.getElem?_eq_getElem (by omega)
    obtain ⟨w, hw⟩ := h i a _ e1 e3
    obtain ⟨m, hm⟩ := along h k (i + 1) _ b e3 (by rw [← e2]; congr 1; omega)
    exact ⟨_, .cons hw hm⟩
end
end K2
namespace NC
open PySem L2
def sPrs (F : List Fc) : List (Str × Str) := fPrs (F.filter fun f => f.2.1)
theorem mem_sPrs {F : List Fc} {a b : Str} : (a, b) ∈ sPrs F ↔ (a, true, b) ∈ F := by
  unfold sPrs fPrs
  rw [List.mem_map]
  constructor
  · rintro ⟨f, hf, e⟩
    obtain ⟨h1, h2⟩ := List.mem_filter.mp hf
    obtain ⟨x, w, y⟩ := f
    injection e with e1 e2
    subst e1 e2
    have h2 : w = true := h2
    rwa [h2] at h1
  · intro h
    exact ⟨_, List.mem_filter.mpr ⟨h, rfl⟩, rfl⟩
theorem mem_fPrs {F : List Fc} {a b : Str} : (a, b) ∈ fPrs F ↔ ∃ w, (a, w, b) ∈ F := by
  unfold fPrs
  rw [List.mem_map]
  constructor
  · rintro ⟨⟨x, w, y⟩, hf, e⟩
    injection e with e1 e2
    subst e1 e2
    exact ⟨w, hf⟩
  · rintro ⟨w, h⟩
    exact ⟨_, h, rfl⟩
/-- a way that is told is a path over the facts, strict where it must be -/
theorem way_facts {N : List Str} {F : List Fc} {x y : Str} (hO : K2.On N F) (hs : ∃ v : Str → Int, K2.Sat v F) (hx : x ∈ N) (hy : y ∈ N) {p : List Str} (e : K2.wayM N.length F x y = some p) :
    p[0]? = some x ∧ p.getLast? = some y ∧ p.length ≤ 2 * N.length + 2 ∧ (∀ r ∈ steps p, r ∈ fPrs F) ∧ ((∃ r ∈ steps p, r ∈ sPrs F) ↔ K2.lev N F x y = 2) ∧ 0 < K2.lev N F x y := by
  obtain ⟨v, hv⟩ := hs
  obtain ⟨s1, s2⟩ := K2.wayM_spec hO hv hx hy
  have B := K2.Borne.lev N F
  have pos : 0 < K2.lev N F x y := Classical.byContradiction fun z => by
    have z0 := B.lo x y
    rw [s1 (by omega)] at e
    cases e
  obtain ⟨p', m, e', c, l, hm⟩ := s2 pos
  rw [e] at e'
  cases e'
  have head := c.head
  refine ⟨by rw [← head]; cases p <;> rfl, l, K2.wayM_len e, fun r hr => ?_, ⟨fun ⟨r, hr, hp⟩ => ?_, fun h => ?_⟩, pos⟩
  · obtain ⟨a, b⟩ := r
    obtain ⟨i, h1, h2⟩ := mem_steps.mp hr
    exact mem_fPrs.mpr (c.step i a b h1 h2)
  · obtain ⟨a, b⟩ := r
    obtain ⟨i, h1, h2⟩ := mem_steps.mp hr
    have hf := mem_sPrs.mp hp
    have h0 : p[0]? = some x := by rw [← head]; cases p <;> rfl
    obtain ⟨m1, w1⟩ := K2.along c.step i 0 x a h0 (by rw [Nat.zero_add]; exact h1)
    have lp := (List.getElem?_eq_some_iff.mp h2).1
    have hl : p[i + 1 + (p.length - 1 - (i + 1))]? = some y := by
      rw [show i + 1 + (p.length - 1 - (i + 1)) = p.length - 1 by omega, ← List.getLast?_eq_getElem?]
      exact l
    obtain ⟨m2, w2⟩ := K2.along c.step (p.length - 1 - (i + 1)) (i + 1) b y h2 hl
    have w := (w1.trans (K2.Wk.cons hf w2))
    have z := (K2.wk_lev hO hv hx hy w).2 (by simp)
    have := B.hi x y
    omega
  · obtain ⟨i, a, b, h1, h2, hf⟩ := c.strict (hm.mpr h)
    exact ⟨(a, b), mem_steps.mpr ⟨i, h1, h2⟩, mem_sPrs.mpr hf⟩
theorem way_none {N : List Str} {F : List Fc} {x y : Str} (hO : K2.On N F) (hs : ∃ v : Str → Int, K2.Sat v F) (hx : x ∈ N) (hy : y ∈ N) (e : K2.wayM N.length F x y = none) : K2.lev N F x y = 0 := by
  obtain ⟨v, hv⟩ := hs
  obtain ⟨s1, s2⟩ := K2.wayM_spec hO hv hx hy
  have B := K2.Borne.lev N F
  refine Classical.byContradiction fun z => ?_
  obtain ⟨p, m, e', _⟩ := s2 (by have := B.lo x y; omega)
  rw [e] at e'
  cases e'
theorem leads_iff {N : List Str} {F : List Fc} {x y : Str} (hO : K2.On N F) (hs : ∃ v : Str → Int, K2.Sat v F) (hx : x ∈ N) (hy : y ∈ N) : (∃ m, K2.Wk F x m y) ↔ 0 < K2.lev N F x y := by
  obtain ⟨v, hv⟩ := hs
  exact ⟨fun ⟨m, h⟩ => (K2.wk_lev hO hv hx hy h).1, (K2.Borne.lev N F).one x y⟩
end NC

set_option Elab.async false
set_option linter.all false
set_option maxRecDepth 100000
set_option maxHeartbeats 4000000
namespace NC
open PySem L2
/-! ### how long the signs of names, facts, frames may be -/
theorem tup_le (ds : List PyData) (m : Nat) (h : ∀ d ∈ ds, d.shown.length ≤ m) : (PyData.tuple ds).shown.length ≤ ds.length * (m + 2) + 2 := by
  have key : ∀ (ds : List PyData), (∀ d ∈ ds, d.shown.length ≤ m) → piled (PyData.shownAll ds) ≤ ds.length * (m + 2) := fun ds => by
    induction ds with
    | nil => exact fun _ => Nat.zero_le _
    | cons d ds ih =>
      intro h
      simp only [PyData.shownAll]
      rw [piled_cons, List.length_cons, Nat.succ_mul]
      have := ih fun x hx => h x (List.mem_cons_of_mem _ hx)
      have := h d List.mem_cons_self
      omega
  have z := PySem.fmt_text (PyData.shownAll ds)
  have := key ds h
  simp only [PyData.shown]
  omega
theorem lst_le (ds : List PyData) (m : Nat) (h : ∀ d ∈ ds, d.shown.length ≤ m) : (PyData.list ds).shown.length ≤ ds.length * (m + 2) + 2 := by
  have key : ∀ (ds : List PyData), (∀ d ∈ ds, d.shown.length ≤ m) → piled (PyData.shownAll ds) ≤ ds.length * (m + 2) := fun ds => by
    induction ds with
    | nil => exact fun _ => Nat.zero_le _
    | cons d ds ih =>
      intro h
      simp only [PyData.shownAll]
      rw [piled_cons, List.length_cons, Nat.succ_mul]
      have := ih fun x hx => h x (List.mem_cons_of_mem _ hx)
      have := h d List.mem_cons_self
      omega
  have z := listText_le (PyData.shownAll ds)
  have := key ds h
  simp only [PyData.shown]
  omega
theorem showAll {ds : List PyData} (h : ∀ d ∈ ds, d.showable = true) : PyData.showableAll ds = true := by
  induction ds with
  | nil => rfl
  | cons d ds ih => simp only [PyData.showableAll, h d List.mem_cons_self, ih fun x hx => h x (List.mem_cons_of_mem _ hx), Bool.and_self]
theorem noDicts {ds : List PyData} (h : ∀ d ∈ ds, d.hasDict = false) : PyData.hasDictAll ds = false := by
  induction ds with
  | nil => rfl
  | cons d ds ih => simp only [PyData.hasDictAll, h d List.mem_cons_self, ih fun x hx => h x (List.mem_cons_of_mem _ hx), Bool.or_self]
theorem deepAll {m : Nat} {ds : List PyData} (h : ∀ d ∈ ds, d.depth ≤ m) : PyData.depthAll ds ≤ m := by
  induction ds with
  | nil => exact Nat.zero_le _
  | cons d ds ih => exact Nat.max_le.mpr ⟨h d List.mem_cons_self, ih fun x hx => h x (List.mem_cons_of_mem _ hx)⟩
/-- data that may be shown, its signs at most m -/
structure Sw (x : PyData) (k m : Nat) : Prop where
  s : x.showable = true
  d : x.hasDict = false
  p : x.depth ≤ k
  z : x.shown.length ≤ m
theorem Sw.tup {ds : List PyData} {k m : Nat} (h : ∀ d ∈ ds, Sw d k m) : Sw (.tuple ds) (k + 1) (ds.length * (m + 2) + 2) :=
  ⟨by simp only [PyData.showable]; exact showAll fun d hd => (h d hd).s, by simp only [PyData.hasDict]; exact noDicts fun d hd => (h d hd).d, by simp only [PyData.depth]; exact Nat.succ_le_succ (deepAll fun d hd => (h d hd).p), tup_le ds m fun d hd => (h d hd).z⟩
theorem Sw.lst {ds : List PyData} {k m : Nat} (h : ∀ d ∈ ds, Sw d k m) : Sw (.list ds) (k + 1) (ds.length * (m + 2) + 2) :=
  ⟨by simp only [PyData.showable]; exact showAll fun d hd => (h d hd).s, by simp only [PyData.hasDict]; exact noDicts fun d hd => (h d hd).d, by simp only [PyData.depth]; exact Nat.succ_le_succ (deepAll fun d hd => (h d hd).p), lst_le ds m fun d hd => (h d hd).z⟩
theorem Sw.mono {d : PyData} {k m k' m' : Nat} (h : Sw d k m) (hk : k ≤ k') (hm : m ≤ m') : Sw d k' m' := ⟨h.s, h.d, Nat.le_trans h.p hk, Nat.le_trans h.z hm⟩
theorem Sw.sh {K : PySem.W.Frag} {H : Hp} {v : V} {d : PyData} {k m : Nat} (h : Sw d k m) (hk : k ≤ 60) (hm : m ≤ 100000) (hd : Dp K H v d) : ShT K H v d := .dat hd h.s h.d (Nat.le_trans h.p hk) (by rw [PySem.sizeLine_eq]; have := h.z; omega)
theorem sw_name {n : Nat} (h7 : n ≤ 7) {x : Str} (h : x ∈ nms n) : Sw (.str x) 0 10 := by
  obtain ⟨i, hi, rfl, _⟩ := mem_nms h
  have key : ∀ i : Fin 7, (PyData.str (letter (97 + i.val))).shown.length ≤ 10 := by decide +kernel
  exact ⟨rfl, rfl, Nat.le_refl _, key ⟨i, by omega⟩⟩
theorem sw_word (b : Bool) : Sw (.str (wd b)) 0 10 := ⟨rfl, rfl, Nat.le_refl _, by cases b <;> decide +kernel⟩
theorem sw_names {n : Nat} (h7 : n ≤ 7) {N : List Str} (h : ∀ x ∈ N, x ∈ nms n) : Sw (sD N) 1 (N.length * 12 + 2) := by
  have z := Sw.tup (ds := N.map PyData.str) (k := 0) (m := 10) fun d hd => by
    obtain ⟨x, hx, rfl⟩ := List.mem_map.mp hd
    exact sw_name h7 (h x hx)
  rwa [List.length_map] at z
theorem sw_num {i : Nat} (h : i < 100) : Sw (.int (i : Int)) 0 10 := by
  have key : ∀ i : Fin 100, (PyData.int (i.val : Int)).showable = true ∧ (PyData.int (i.val : Int)).shown.length ≤ 10 := by decide +kernel
  exact ⟨(key ⟨i, h⟩).1, rfl, Nat.le_refl _, (key ⟨i, h⟩).2⟩
/-- a frame, as data -/
def fcD (f : Fc) : PyData := .tuple [.str f.1, .str (wd f.2.1), .str f.2.2]
def frD (N : List Str) (F : List Fc) : PyData := .tuple [sD N, .tuple (F.map fcD)]
theorem sw_fr {n : Nat} (h7 : n ≤ 7) {F : List Fc} (hO : K2.On (nms n) F) (hl : F.length ≤ 60) : Sw (frD (nms n) F) 3 5000 := by
  have zf : ∀ f ∈ F, Sw (fcD f) 1 38 := fun f hf => Sw.tup (ds := [.str f.1, .str (wd f.2.1), .str f.2.2]) (k := 0) (m := 10) fun d hd => by
    rcases List.mem_cons.mp hd with rfl | hd
    · exact sw_name h7 (hO f hf).1
    rcases List.mem_cons.mp hd with rfl | hd
    · exact sw_word _
    rw [List.mem_singleton.mp hd]
    exact sw_name h7 (hO f hf).2
  have z1 : Sw (.tuple (F.map fcD)) 2 2402 := (Sw.tup (ds := F.map fcD) (k := 1) (m := 38) fun d hd => by
    obtain ⟨f, hf, rfl⟩ := List.mem_map.mp hd
    exact zf f hf).mono (Nat.le_refl _) (by rw [List.length_map]; omega)
  have z2 : Sw (sD (nms n)) 2 2402 := (sw_names h7 (N := nms n) fun _ h => h).mono (by decide) (by rw [nms_len]; omega)
  exact (Sw.tup (ds := [sD (nms n), .tuple (F.map fcD)]) (k := 2) (m := 2402) fun d hd => by
    rcases List.mem_cons.mp hd with rfl | hd
    · exact z2
    rw [List.mem_singleton.mp hd]
    exact z1).mono (Nat.le_refl _) (by show 2 * (2402 + 2) + 2 ≤ 5000; decide)
theorem dp_fcs {K : PySem.W.Frag} {H : Hp} : ∀ {fs : List Addr} {F : List Fc}, Paired (fun a f => SqT K H a (encF f)) fs F → DpAll K H (fs.map V.ref) (F.map fcD)
  | _, _, .nil => .nil
  | _, _, .cons r t => .cons (.tup r (.cons (.str _) (.cons (.str _) (.cons (.str _) .nil)))) (dp_fcs t)
theorem dp_fr {K : PySem.W.Frag} {H : Hp} {p : Addr} {N : List Str} {F : List Fc} (h : FrAt K H p N F) : Dp K H (.ref p) (frD N F) := by
  obtain ⟨pn, pf, fs, h1, h2, h3⟩ := h.ex
  exact .tup h1 (.cons (dp_s h2) (.cons (.tup h3.tup (dp_fcs h3.each)) .nil))
/-- the names of a path -/
theorem path_names {N : List Str} {F : List Fc} {p : List Str} {x : Str} (hO : K2.On N F) (h0 : p[0]? = some x) (hx : x ∈ N) (hs : ∀ r ∈ steps p, r ∈ fPrs F) : ∀ y ∈ p, y ∈ N := by
  intro y hy
  obtain ⟨i, hi⟩ := List.getElem?_of_mem hy
  cases i with
  | zero => rw [h0] at hi; cases hi; exact hx
  | succ i =>
    have l := (List.getElem?_eq_some_iff.mp hi).1
    obtain ⟨w, hw⟩ := mem_fPrs.mp (hs _ (mem_steps.mpr ⟨i, List.getElem?_eq_getElem (by omega), hi⟩))
    exact (hO _ hw).2
end NC

set_option Elab.async false
set_option linter.all false
set_option maxRecDepth 100000
set_option maxHeartbeats 4000000
namespace NC
open PySem L2
/-- a level's sign, as data -/
def lvD (i : Int) : PyData := if i = 2 then .str "ahead" else if i = 1 then .str "upto" else .none
theorem sh_lv {K : PySem.W.Frag} {H : Hp} {a : Addr} {i : Int} (h : H a = some (.lst [lvV i, lvV i])) : ShT K H (.ref a) (.list [lvD i, lvD i]) := by
  unfold lvV at h
  unfold lvD
  by_cases e : i = 2
  · rw [if_pos e] at h
    rw [if_pos e]
    exact .dat (.lst (SqL.of h) (.cons (.str _) (.cons (.str _) .nil))) rfl rfl (by decide) (by rw [PySem.sizeLine_eq]; decide +kernel)
  · rw [if_neg e] at h
    rw [if_neg e]
    by_cases e1 : i = 1
    · rw [if_pos e1] at h
      rw [if_pos e1]
      exact .dat (.lst (SqL.of h) (.cons (.str _) (.cons (.str _) .nil))) rfl rfl (by decide) (by rw [PySem.sizeLine_eq]; decide +kernel)
    · rw [if_neg e1] at h
      rw [if_neg e1]
      exact .dat (.lst (SqL.of h) (.cons .non (.cons .non .nil))) rfl rfl (by decide) (by rw [PySem.sizeLine_eq]; decide +kernel)
theorem lvV_non {i : Int} (h0 : 0 ≤ i) (h2 : i ≤ 2) : decide (lvV i = .non) = !decide (0 < i) := by
  rcases (show i = 0 ∨ i = 1 ∨ i = 2 by omega) with rfl | rfl | rfl <;> rfl
theorem lv_scal {i : Int} {x : Str} : scal (lvV i) (.str x) = true := by
  unfold lvV
  split
  · rfl
  · split <;> rfl
theorem lv_ahead {i : Int} : decide (lvV i = .str "ahead") = decide (i = 2) := by
  unfold lvV
  by_cases h : i = 2
  · rw [if_pos h, decide_eq_true h]; rfl
  · rw [if_neg h, decide_eq_false h]
    split
    · exact decide_eq_false fun z => by
        injection z with z
        exact absurd z (by decide +kernel)
    · rfl
theorem ne_bl {b : Bool} : (!decide (V.bl b = V.bl b)) = false := by rw [decide_eq_true rfl]; rfl
theorem ne_self {x : Str} : (!decide (V.str x = V.str x)) = false := by rw [decide_eq_true rfl]; rfl
section
variable {P : Program} {w : World} {K : PySem.W.Frag} {mg : Str → Option Value} {base : Heap}
/-! ### _law_pairs_right -/
abbrev sPR : Stmt := top 40
abbrev nPR : List Str := ["_law_frame_here", "_law_some", "_law_strict", "_law_one", "_law_other", "_law_due_here", "_law_path", "_law_steps", "_law_is_strict", "_law_a", "_law_word", "_law_b", "_law_k", "_law_step"]
def spPR (K : PySem.W.Frag) : Sp := fun vs H Q _ => ∃ (p : Addr) (n : Nat) (F : List Fc), vs = [.ref p] ∧ FrN K H p (nms n) F ∧ Fr4 n F ∧ F.length ≤ 20 ∧ ∀ H', Same H H' → Q (.bl true) H'
theorem scPR : FnScope nPR ["_law_frame_here"] (defScope sPR) := ⟨rfl, rfl, rfl, by decide +kernel, rfl, by decide +kernel, by decide +kernel⟩
theorem df_PR {C : Addr} (T : Txt K mg) (S : Std K mg "_law_pairs_right" sPR) (DW : Df P w K mg base CX0 "_law_worlds" ["_law_frame_here"] 1 (spWorlds K)) (DD : Df P w K mg base CX0 "_law_due" ["_law_frame_here", "_law_some", "_law_one", "_law_other"] 1 (spDue K))
    (DT : Df P w K mg base (L2.CX P w) "told" ["frame", "a", "b"] 6 (spAsk K C rTold)) (DY : Df P w K mg base (L2.CX P w) "way" ["frame", "a", "b"] 6 (spAsk K C (rWay K)))
    (DP : Df P w K mg base CX0 "_law_is_path" ["_law_frame_here", "_law_row"] 1 (spIsP K)) (DL : Df P w K mg base CX0 "_law_leads" ["_law_frame_here", "_law_one", "_law_other"] 1 (spLeads K)) : DfG P w K mg base CX0 "_law_pairs_right" ["_law_frame_here"] 7 (spPR K) := by
  obtain ⟨f, fd, hm, F⟩ := S.ex
  refine ⟨f, fd, hm, F.kp, F.binds (fun _ _ _ _ _ _ us hl => match us, hl with | [_], _ => rfl), FnG.body F scPR (fun vs H Q E h => ?_) (fun cdv A outer s H vs Q E hg hr h => ?_)⟩
  · obtain ⟨p, n, F, rfl, _⟩ := h
    rfl
  · obtain ⟨p, n, F, rfl, hF, h4, hl, k⟩ := h
    have nd := scPR.nd
    have h64 := rm64 hr
    have h65 := rm65 hr
    have hr1 : Room 1 _ := hr.mono (by decide)
    have hg : (A.deeper (PyProof.Rows.envOfC "_law_pairs_right" (defScope sPR) s.heap.objs.size f cdv)).guards = some [] := hg
    refine ⟨_, pss_cons (ps_asg (pe_tup (pa_cons (pe_df DW hr1 pass0 (pa_cons (pv 0) pa_nil)) (pa_cons (pe_lc (own := [("_law_a", 9), ("_law_word", 10), ("_law_b", 11)]) rfl nd (pi_tup (pe_ix ix_tup (pv 0) pe_int (fun _ _ => rfl))) (blkOk_by (N := nPR) (sc := defScope sPR) (by decide +kernel))
          (fun _ _ _ _ _ => (show PG _ _ (gTup K 3 _) from pg_tup rfl (pgs_cons (pg_name (i := 9) nd rfl (Or.inl rfl)) (pgs_cons (pg_name (i := 10) nd rfl (Or.inl rfl)) (pgs_cons (pg_name (i := 11) nd rfl (Or.inl rfl)) pgs_nil))))) (fun _ _ _ _ _ => pts_one (pt_cmpR (show OpR _ (compareOp .Eq) rEq from op_eq) (pv 10) pe_str (nomark _)))
          (fun _ _ _ _ _ => pe_tup (pa_cons (pv 9) (pa_cons (pv 11) pa_nil)))) pa_nil)))
        (pg_tup rfl (pgs_cons (pg_name (i := 1) nd rfl (.inl rfl)) (pgs_cons (pg_name (i := 2) nd rfl (.inr rfl)) pgs_nil))))
      (pss_cons (ps_for PassesOwn.never rfl (pi_tup (pe_ix ix_tup (pv 0) pe_int (fun _ _ => rfl))) (pg_name (i := 3) nd rfl (.inl rfl))
        (pss_one (ps_for PassesOwn.never rfl (pi_tup (pe_ix ix_tup (pv 0) pe_int (fun _ _ => rfl))) (pg_name (i := 4) nd rfl (.inl rfl))
          (pss_cons (ps_set (i := 5) nd rfl (.inl rfl) (pe_df DD hr1 pass0 (pa_cons (pv 0) (pa_cons (pv 1) (pa_cons (pv 3) (pa_cons (pv 4) pa_nil))))))
          (pss_cons (ps_if (pt_cmpR op_ne (pe_callB (call_show hg h65) rfl T.nRepr (by decide +kernel) (pa_cons (pe_lst (pa_cons (pe_df DT hr passL (pa_cons (pv 0) (pa_cons (pv 3) (pa_cons (pv 4) pa_nil)))) (pa_cons (pe_df DT hr passL (pa_cons (pv 0) (pa_cons (pv 3) (pa_cons (pv 4) pa_nil)))) pa_nil))) pa_nil))
              (pe_callB (call_show hg h65) rfl T.nRepr (by decide +kernel) (pa_cons (pe_lst (pa_cons (pv 5) (pa_cons (pv 5) pa_nil))) pa_nil)) (nomark _)) (pss_one (ps_ret pe_bl)) pss_nil)
          (pss_cons (ps_set (i := 6) nd rfl (.inr rfl) (pe_df DY hr passL (pa_cons (pv 0) (pa_cons (pv 3) (pa_cons (pv 4) pa_nil)))))
          (pss_cons (ps_if (PW.pt (pw_or (pt_cmpR op_ne (pe_cmp (pc_isN (pv 6))) (pe_cmp (pc_isN (pv 5))) (nomark _)) (pw_or1 (pt_cmpR op_ne (pe_callB (call_show hg h65) rfl T.nRepr (by decide +kernel) (pa_cons (pe_df DY hr passL (pa_cons (pv 0) (pa_cons (pv 3) (pa_cons (pv 4) pa_nil)))) pa_nil))
              (pe_callB (call_show hg h65) rfl T.nRepr (by decide +kernel) (pa_cons (pv 6) pa_nil)) (nomark _))))) (pss_one (ps_ret pe_bl)) pss_nil)
          (pss_cons (ps_if (pt_cmp (pc_notN (pv 6)))
            (pss_cons (ps_setLc (i := 7) (own := [("_law_k", 12)]) (g := gName 12) (tt := tYes) rfl nd rfl rfl (sw_true rfl rfl rfl (by decide +kernel)) (pi_range1 rfl T.nRange (pa_cons (pe_op op_sub (pe_len T.nLen (pv 6)) pe_int) pa_nil)) (blkOk_by (N := nPR) (sc := defScope sPR) (by decide +kernel))
              (fun _ _ _ _ _ => pg_name (i := 12) nd rfl (Or.inl rfl)) (fun _ _ _ _ _ => pts_nil)
              (fun _ _ _ _ _ => pe_tup (pa_cons (pe_ix (show IxR _ (rIxT K) from ix_tup) (pv 6) (pv 12) (fun _ _ => rfl)) (pa_cons (pe_ix (show IxR _ (rIxT K) from ix_tup) (pv 6) (pe_op op_add (pv 12) pe_int) (fun _ _ => rfl)) pa_nil))))
            (pss_cons (ps_set (i := 8) nd rfl (.inl rfl) (pe_cmpR (op_neD h64) (pe_lc (own := [("_law_step", 13)]) (g := gName 13) rfl nd (pi_list (pv 7)) (blkOk_by (N := nPR) (sc := defScope sPR) (by decide +kernel))
              (fun _ _ _ _ _ => pg_name (i := 13) nd rfl (Or.inl rfl)) (fun _ _ _ _ _ => pts_one (pt_cmpR (show OpR _ (compareOp .In) (rInD K) from op_inD h65) (pv 13) (pv 2) rfl)) (fun _ _ _ _ _ => pe_int)) (pe_lst pa_nil) (nomark _)))
            (pss_cons (ps_if (PW.pt (pw_or (pt_not (pt_val (pe_isi (T := "tuple") T.nIsi (pv 6) T.nTuple (by decide +kernel)))) (pw_or (pt_not (pt_val (pe_df DP hr1 pass0 (pa_cons (pv 0) (pa_cons (pv 6) pa_nil))))) (pw_or1 (pt_cmpR op_ne (pv 8) (pe_cmpR op_eq (pv 5) pe_str (nomark _)) (nomark _)))))) (pss_one (ps_ret pe_bl)) pss_nil)
            (pss_one (ps_if (PW.pt (pw_or (pt_cmpR op_ne (pe_ix ix_tup (pv 6) pe_int (fun _ _ => rfl)) (pv 3) (nomark _)) (pw_or1 (pt_cmpR op_ne (pe_ix ix_tup (pv 6) (pe_un un_neg pe_int) (fun _ _ => rfl)) (pv 4) (nomark _))))) (pss_one (ps_ret pe_bl)) pss_nil))))) pss_nil)
          (pss_one (ps_if (PW.pt (pw_and (pt_cmpR op_ne (pe_cmp (pc_notN (pv 5))) (pe_ix ix_list (pe_df DL hr1 pass0 (pa_cons (pv 0) (pa_cons (pv 3) (pa_cons (pv 4) pa_nil)))) pe_int (fun _ _ => rfl)) (nomark _)) (pw_and1 (pt_cmpR op_ne (pv 3) (pv 4) (nomark _))))) (pss_one (ps_ret pe_bl)) pss_nil)))))))))) 
      (pss_one (ps_ret pe_bl))), ?_⟩
    obtain ⟨pn, pf, fs, h1, hN, h3⟩ := hF.ex
    have h2 := hN.sq (K := K)
    have fl : fs.length = F.length := NC.Paired.len h3.each
    refine ⟨_, rfl, p, nms n, F, rfl, hF.fr, nms_nodup n, by rw [nms_len]; exact h4.n1, by rw [nms_len]; exact h4.n4, h4.On, by omega, fun H1 L as s1 nL R1 => ?_⟩
    refine ⟨_, rfl, p, _, _, _, rfl, rfl, sameT s1 h1, rfl, pf, rfl, ⟨_, sameT s1 h3.tup⟩, fun D nD => lc_it (walk_tup (K := K) (a := pf) (xs := fs.map V.ref)) (fun j H' => Same H1 H' ∧ ∃ ds : List Addr, PrsAt K H' D ds (sPrs (F.take j)))
      ⟨sameN nD, [], upd_same, .nil⟩ (fun j H' _ q => sameT (Same.trans s1 q.1) h3.tup) ?_ ?_⟩
    · rintro j v H2 H3 hj ⟨s2, ds, R2⟩ ⟨rfl, hv⟩
      rw [List.getElem?_map] at hv
      obtain ⟨q', hq', rfl⟩ := Option.map_eq_some_iff.mp hv
      obtain ⟨fc, hf, ht⟩ := NC.Paired.at h3.each hq'
      refine ⟨q', _, rfl, sameT (Same.trans s1 s2) ht, rfl, _, _, rfl, _, _, rfl, _, _, rfl, rfl, rfl, ?_⟩
      refine ⟨_, rfl, rfl, _, rfl, ?_⟩
      rw [dec_wd]
      have tk : sPrs (F.take (j + 1)) = sPrs (F.take j) ++ (if fc.2.1 then [(fc.1, fc.2.2)] else []) := by
        unfold sPrs fPrs
        rw [List.take_add_one, hf, List.filter_append, List.map_append]
        congr 1
        show List.map _ (List.filter _ [fc]) = _
        rw [List.filter_cons, List.filter_nil]
        split <;> rfl
      refine ite2 (fun hw => ?_) (fun hw => ?_)
      · refine ⟨_, rfl, _, rfl, by show 2 ≤ sizeLine; decide, fun r nr => ?_⟩
        have R3 : PrsAt K (upd H3 r (.tup [.str fc.1, .str fc.2.2])) D ds (sPrs (F.take j)) := R2.same (sameN nr)
        refine ⟨_, R3.at_, ?_, sameD (sameU s2 nr) nD, ds ++ [r], ?_⟩
        · have := NC.Paired.len R2.each
          have l2 : (sPrs (F.take j)).length ≤ 20 := by
            unfold sPrs fPrs
            rw [List.length_map]
            exact Nat.le_trans (List.length_filter_le _ _) (by rw [List.length_take]; omega)
          rw [List.length_map, PySem.sizeLine_eq]
          omega
        · rw [tk, if_pos hw]
          exact R3.app (r := (fc.1, fc.2.2)) (SqT.of upd_same)
      · refine ⟨s2, ds, ?_⟩
        rw [tk, if_neg hw, List.append_nil]
        exact R2
    rintro H2 ⟨s2, ds, R2⟩
    rw [List.length_map, fl, List.take_length] at R2
    refine ⟨by show 2 ≤ sizeLine; decide, fun q nq => ⟨q, _, rfl, SqT.of upd_same, rfl, _, _, rfl, _, _, rfl, rfl, ?_⟩⟩
    have s3 := Same.trans (Same.trans s1 s2) (sameN (o := .tup [.ref L, .ref D]) nq)
    have RL := (R1.same s2).same (sameN (o := .tup [.ref L, .ref D]) nq)
    have RD := R2.same (sameN (o := .tup [.ref L, .ref D]) nq)
    generalize upd H2 q (.tup [.ref L, .ref D]) = H3 at s3 RL RD ⊢
    clear nL nD nq R1 R2 s1 s2
    have okF : ∀ r ∈ sPrs F, PyData.strOk r.1 = true ∧ PyData.strOk r.2 = true := fun r hr => by
      obtain ⟨a, b⟩ := r
      obtain ⟨o1, o2⟩ := h4.On _ (mem_sPrs.mp hr)
      exact ⟨nms_ok (Nat.le_trans h4.n4 (by decide)) _ o1, nms_ok (Nat.le_trans h4.n4 (by decide)) _ o2⟩
    refine ⟨_, rfl, p, _, _, _, rfl, rfl, sameT s3 h1, rfl, pn, rfl, ⟨_, sameT s3 h2⟩, for_it walk_tup (fun i σ H' => ∃ a3 a4 a5 a6 a7 a8, σ = [some (.ref p), some (.ref L), some (.ref D), a3, a4, a5, a6, a7, a8, none, none, none, none, none] ∧ Same H3 H')
      ⟨none, none, none, none, none, none, rfl, fun _ _ e => e⟩ (fun i σ H' _ ⟨_, _, _, _, _, _, _, z⟩ => sameT (Same.trans s3 z) h2) ?_ ?_⟩
    rotate_left
    · rintro σ H4 ⟨a3, a4, a5, a6, a7, a8, rfl, s4⟩
      exact k _ (Same.trans s3 s4)
    rintro i v σ H4 H5 hi ⟨a3, a4, a5, a6, a7, a8, rfl, s4⟩ ⟨rfl, hv⟩
    obtain ⟨x, rfl, hx⟩ := strs_at hv
    have s5 := Same.trans s3 s4
    refine ⟨_, rfl, p, _, _, _, rfl, rfl, sameT s5 h1, rfl, pn, rfl, ⟨_, sameT s5 h2⟩, for_it walk_tup (fun j σ H' => ∃ a4 a5 a6 a7 a8, σ = [some (.ref p), some (.ref L), some (.ref D), some (.str x), a4, a5, a6, a7, a8, none, none, none, none, none] ∧ Same H3 H')
      ⟨a4, a5, a6, a7, a8, rfl, s4⟩ (fun i σ H' _ ⟨_, _, _, _, _, _, z⟩ => sameT (Same.trans s3 z) h2) ?_ ?_⟩
    rotate_left
    · rintro σ H6 ⟨a4, a5, a6, a7, a8, rfl, s6⟩
      exact ⟨_, _, _, _, _, _, rfl, s6⟩
    clear s4 s5
    rintro j v σ H6 H7 hj ⟨a4, a5, a6, a7, a8, rfl, s6⟩ ⟨rfl, hv⟩
    obtain ⟨y, rfl, hy⟩ := strs_at hv
    have s7 := Same.trans s3 s6
    have xN : x ∈ nms n := List.mem_of_getElem? hx
    have yN : y ∈ nms n := List.mem_of_getElem? hy
    have xi : isNm (nms n) (.str x) = true := decide_eq_true xN
    have yi : isNm (nms n) (.str y) = true := decide_eq_true yN
    have due : K2.dueM (K2.worldsM (nms n) F) i j = K2.lev (nms n) F x y := K2.told_due (nms_nodup n) h4.On h4.wd hx hy
    have hwr : ∀ r ∈ K2.worldsM (nms n) F, r.length = n := fun r hr => (K2.world_row hr).1.trans (nms_len n)
    have hwl : (K2.worldsM (nms n) F).length ≤ 1000 := by
      unfold K2.worldsM
      have z := rowsM_small (show (nms n).length ≤ 4 by rw [nms_len]; exact h4.n4) (show (nms n).length ≤ 4 by rw [nms_len]; exact h4.n4)
      exact Nat.le_trans (List.length_filter_le _ _) (by omega)
    -- what is asked of told, of way
    have askT : ∀ {H' : Hp} {Q' : VK}, Same H H' → (∀ H'', Same H' H'' → Q' (lvV (K2.lev (nms n) F x y)) H'') → spAsk K C rTold [.ref p, .str x, .str y] H' Q' E0 := fun {H' Q'} z kk =>
      ⟨p, n, F, _, _, rfl, hF.fr.same z, h4.fit, .inl ⟨_, rfl⟩, .inl ⟨_, rfl⟩, (fun e => by rw [xi] at e; cases e), (fun _ e => by rw [yi] at e; cases e), fun x' y' e1 e2 _ _ => by cases e1; cases e2; exact kk⟩
    have askW : ∀ {H' : Hp} {Q' : VK}, Same H H' → wayR K H' Q' (K2.wayM n F x y) → spAsk K C (rWay K) [.ref p, .str x, .str y] H' Q' E0 := fun {H' Q'} z kk =>
      ⟨p, n, F, _, _, rfl, hF.fr.same z, h4.fit, .inl ⟨_, rfl⟩, .inl ⟨_, rfl⟩, (fun e => by rw [xi] at e; cases e), (fun _ e => by rw [yi] at e; cases e), fun x' y' e1 e2 _ _ => by cases e1; cases e2; exact kk⟩
    refine ⟨_, rfl, _, rfl, _, rfl, _, rfl, p, L, _, n, F, _, i, j, x, y, rfl, hF.same s7, by have := h4.n4; omega, RL.same s6, hwl, hwr, hx, hy, fun H8 s8 => ?_⟩
    rw [due]
    have s78 := Same.trans s7 s8
    generalize hlv : K2.lev (nms n) F x y = lv at askT
    refine ⟨_, rfl, _, rfl, _, rfl, askT s78 fun H9 s9 => ⟨_, rfl, _, rfl, _, rfl, askT (Same.trans s78 s9) fun H10 s10 => ⟨by show 2 ≤ sizeLine; decide, fun e ne => ?_⟩⟩⟩
    refine ⟨_, _, rfl, sh_lv upd_same, ?_⟩
    have s8b := Same.trans s8 (Same.trans s9 (Same.trans s10 (sameN (o := .lst [lvV lv, lvV lv]) ne)))
    generalize upd H10 e (.lst [lvV lv, lvV lv]) = H11 at s8b ⊢
    clear s78 s8 s9 s10 ne
    refine ⟨_, rfl, _, rfl, by show 2 ≤ sizeLine; decide, fun e ne => ⟨_, _, rfl, sh_lv upd_same, rfl, _, rfl, ?_⟩⟩
    rw [ne_self]
    refine iteF ?_
    have s11 := Same.trans s8b (sameN (o := .lst [lvV lv, lvV lv]) ne)
    generalize upd H11 e (.lst [lvV lv, lvV lv]) = H12 at s11 ⊢
    have s12 := Same.trans s7 s11
    refine ⟨_, rfl, _, rfl, _, rfl, askW s12 ?_⟩
    cases hw : K2.wayM n F x y with
    | none =>
      rw [hw] at askW
      have l0 : lv = 0 := by rw [← hlv]; exact way_none h4.On h4.fit.sat xN yN (by rw [nms_len]; exact hw)
      subst l0
      refine fun H13 s13 => ?_
      refine ⟨_, rfl, _, rfl, rfl, _, rfl, iteF ?_⟩
      refine ⟨_, rfl, _, rfl, _, rfl, askW (Same.trans s12 s13) fun H14 s14 => ⟨_, _, rfl, .dat .non rfl rfl (by decide) (by rw [PySem.sizeLine_eq]; decide +kernel), ?_⟩⟩
      refine ⟨_, rfl, _, _, rfl, .dat .non rfl rfl (by decide) (by rw [PySem.sizeLine_eq]; decide +kernel), rfl, _, rfl, ?_⟩
      rw [ne_self]
      refine iteF ⟨_, rfl, _, rfl, iteF ?_⟩
      have s14' := Same.trans (Same.trans s12 s13) s14
      refine ⟨_, rfl, _, rfl, _, rfl, _, rfl, p, nms n, F, x, y, rfl, hF.fr.same s14', by rw [nms_len]; have := h4.n4; omega, h4.On, xN, fun H15 E r r2 s15 e15 hr' => ⟨E, _, _, _, rfl, rfl, SqL.of e15, rfl, ?_⟩⟩
      have rf : r = false := by
        cases r with
        | false => rfl
        | true =>
          have := (leads_iff h4.On h4.fit.sat xN yN).mp (hr'.mp rfl)
          omega
      subst rf
      refine ⟨rfl, _, rfl, iteF ⟨_, _, _, _, _, rfl, Same.trans (Same.trans (Same.trans (Same.trans s6 s11) s13) s14) s15⟩⟩
    | some pth =>
      rw [hw] at askW
      obtain ⟨w0, w1, w2, w3, w4, w5⟩ := way_facts h4.On h4.fit.sat xN yN (show K2.wayM (nms n).length F x y = some pth by rw [nms_len]; exact hw)
      rw [nms_len] at w2
      rw [hlv] at w4 w5
      have n4 := h4.n4
      have hb2 : lv ≤ 2 := by rw [← hlv]; exact (K2.Borne.lev (nms n) F).hi x y
      have dn : decide (lvV lv = .non) = false := by rw [lvV_non (by omega) hb2, decide_eq_true w5]; rfl
      have shw : ∀ {H' : Hp} {q' : Addr}, SqT K H' q' (pth.map V.str) → ShT K H' (.ref q') (sD pth) := fun {H' q'} t => (sw_names (by omega) (path_names h4.On w0 xN w3)).sh (by decide) (by omega) (dp_s t)
      refine fun H13 q s13 tq => ?_
      refine ⟨_, rfl, _, rfl, rfl, _, rfl, ?_⟩
      rw [dn]
      refine iteF ⟨_, rfl, _, rfl, _, rfl, askW (Same.trans s12 s13) fun H14 q2 s14 tq2 => ⟨_, _, rfl, shw tq2, _, rfl, _, _, rfl, shw (sameT s14 tq), rfl, _, rfl, ?_⟩⟩
      rw [ne_self]
      refine iteF ⟨_, rfl, _, rfl, iteT ?_⟩
      have s14' := Same.trans (Same.trans s12 s13) s14
      have tq14 := sameT s14 tq
      have s3e := Same.trans (Same.trans (Same.trans s6 s11) s13) s14
      clear askT askW s13 s14 tq tq2 s11 s12
      -- the steps
      have at_ : ∀ {i : Nat} {y : Str}, pth[i]? = some y → atI (pth.map V.str) (i : Int) = some (.str y) := fun {i y} e => atI_nat (by rw [List.getElem?_map, e]; rfl)
      have lq : (pth.map V.str).length = pth.length := List.length_map ..
      have pp : 0 < pth.length := (List.getElem?_eq_some_iff.mp w0).1
      have ls : (steps pth).length = pth.length - 1 := by unfold steps; rw [List.length_map, List.length_range]
      refine ⟨_, rfl, q, _, rfl, .inr tq14, _, _, rfl, rfl, _, rfl, ?_, ?_, ?_⟩
      · rw [lq]; omega
      · rw [lq]; omega
      rw [lq, show ((pth.length : Int) - 1).toNat = pth.length - 1 by omega]
      refine fun G nG => lc_it walk_rg (fun i H' => Same H14 H' ∧ ∃ ss : List Addr, PrsAt K H' G ss ((steps pth).take i))
        ⟨sameN nG, [], upd_same, .nil⟩ (fun _ _ _ _ => trivial) ?_ ?_
      · rintro i v H15 H16 hi ⟨s15, ss, R3⟩ ⟨rfl, rfl⟩
        have g1 : pth[i]? = some pth[i] := List.getElem?_eq_getElem (by omega)
        have g2 : pth[i + 1]? = some pth[i + 1] := List.getElem?_eq_getElem (by omega)
        have q3 := sameT s15 tq14
        refine ⟨rfl, ?_⟩
        refine ⟨_, rfl, _, rfl, q, _, _, _, rfl, rfl, q3, at_ g1, ?_⟩
        refine ⟨_, rfl, _, rfl, _, _, rfl, rfl, q, _, _, _, rfl, rfl, q3, at_ g2, ?_⟩
        refine ⟨by show 2 ≤ sizeLine; decide, fun r nr => ?_⟩
        have R4 : PrsAt K (upd H16 r (.tup [.str pth[i], .str pth[i + 1]])) G ss ((steps pth).take i) := R3.same (sameN nr)
        refine ⟨_, R4.at_, ?_, sameD (sameU s15 nr) nG, ss ++ [r], ?_⟩
        · have := NC.Paired.len R3.each
          rw [List.length_take] at this
          rw [List.length_map, PySem.sizeLine_eq]
          omega
        · have e : (steps pth)[i]? = some (pth[i], pth[i + 1]) := by
            unfold steps
            rw [List.getElem?_map, List.getElem?_range (by omega)]
            show some (pth.getD i _, pth.getD (i + 1) _) = _
            rw [List.getD_eq_getElem?_getD, List.getD_eq_getElem?_getD, g1, g2]; rfl
          rw [List.take_add_one, e]
          exact R4.app (r := (pth[i], pth[i + 1])) (SqT.of upd_same)
      rintro H15 ⟨s15, ss, R3⟩
      rw [← ls, List.take_length] at R3
      -- whether one is strict
      have RD15 := ((RD.same s3e).same s15)
      refine ⟨_, rfl, G, rfl, ⟨_, SqL.of R3.at_⟩, fun M nM => lc_it (walk_list (K := K) (a := G) (xs := ss.map V.ref)) (fun i H' => Same H15 H' ∧ ∃ ws : List Int, H' M = some (.lst (ws.map V.int)) ∧ ws.length ≤ i ∧ (ws ≠ [] ↔ ∃ r ∈ (steps pth).take i, r ∈ sPrs F))
        ⟨sameN nM, [], upd_same, Nat.le_refl _, by simp⟩ (fun i H' _ z => SqL.of (z.1 _ _ R3.at_)) ?_ ?_⟩
      · rintro i v H16 H17 hi ⟨s16, ws, e16, l16, k16⟩ ⟨rfl, hv⟩
        rw [List.getElem?_map] at hv
        obtain ⟨a, ha, rfl⟩ := Option.map_eq_some_iff.mp hv
        obtain ⟨r, hr', ta⟩ := NC.Paired.at R3.each ha
        have inF := w3 r (List.mem_of_getElem? hr')
        have okr : PyData.strOk r.1 = true ∧ PyData.strOk r.2 = true := by
          obtain ⟨a, b⟩ := r
          obtain ⟨w, hf⟩ := mem_fPrs.mp inF
          exact ⟨nms_ok (by omega) _ (h4.On _ hf).1, nms_ok (by omega) _ (h4.On _ hf).2⟩
        have R2'' := RD15.same s16
        refine ⟨rfl, _, rfl, _, rfl, qD r, (sPrs F).map qD, dp_s (N := [_, _]) (sameT s16 ta), .lst (SqL.of R2''.at_) (dp_prs R2''.each), shaped_q okr.1 okr.2, shaped_ql okF, ?_⟩
        rw [any_q]
        have tk : (∃ r' ∈ (steps pth).take (i + 1), r' ∈ sPrs F) ↔ (∃ r' ∈ (steps pth).take i, r' ∈ sPrs F) ∨ r ∈ sPrs F := by
          rw [List.take_add_one, hr']
          constructor
          · rintro ⟨r', h1, h2⟩
            rcases List.mem_append.mp h1 with z | z
            · exact .inl ⟨r', z, h2⟩
            · have : r' = r := by simpa using z
              exact .inr (this ▸ h2)
          · rintro (⟨r', h1, h2⟩ | h2)
            · exact ⟨r', List.mem_append_left _ h1, h2⟩
            · exact ⟨r, List.mem_append_right _ (by simp), h2⟩
        refine ⟨_, rfl, ite2 (fun c => ?_) (fun c => ?_)⟩
        · refine ⟨_, e16, ?_, sameD s16 nM, ws ++ [1], ?_, by rw [List.length_append, List.length_singleton]; omega, ?_⟩
          · have := NC.Paired.len R3.each
            rw [List.length_map] at hi
            rw [List.length_map, PySem.sizeLine_eq]
            omega
          · rw [upd_same, List.map_append]; rfl
          · exact ⟨fun _ => tk.mpr (.inr (of_decide_eq_true c)), fun _ => by simp⟩
        · refine ⟨s16, ws, e16, by omega, k16.trans ⟨fun z => tk.mpr (.inl z), fun z => (tk.mp z).resolve_right fun y => c (decide_eq_true y)⟩⟩
      rintro H16 ⟨s16, ws, e16, l16, k16⟩
      rw [List.length_map, NC.Paired.len R3.each, List.take_length] at k16
      refine ⟨by show 0 ≤ sizeLine; decide, fun t nt => ⟨.list (ws.map .int), .list [], .lst (SqL.of ((sameN nt) _ _ e16)) (dp_ints ws), .lst (SqL.of upd_same) .nil, shaped_il ws, rfl, ?_⟩⟩
      rw [eqv_inil]
      have s17 := Same.trans s15 (Same.trans s16 (sameN (o := .lst []) nt))
      have strictE : (!decide (ws = [])) = decide (lv = 2) := by
        rw [← decide_not]
        exact decide_eq_decide.mpr (k16.trans w4)
      rw [strictE]
      generalize upd H16 t (.lst []) = H17 at s17 ⊢
      have s17' := Same.trans s14' s17
      have tq17 := sameT s17 tq14
      refine ⟨_, rfl, _, true, tyx_tup tq17, rfl, true, rfl, iteF ?_⟩
      refine ⟨_, rfl, _, rfl, p, q, n, F, pth, x, rfl, hF.fr.same s17', by omega, h4.On, by omega, tq17, by omega, w0, xN, w3, fun H18 s18 => ⟨_, rfl, iteF ?_⟩⟩
      refine ⟨_, rfl, _, rfl, lv_scal, rfl, _, rfl, ?_⟩
      rw [lv_ahead, ne_bl]
      refine iteF ?_
      have tq18 := sameT s18 tq17
      refine ⟨_, rfl, q, _, _, _, rfl, rfl, tq18, at_ w0, _, rfl, rfl, _, rfl, ?_⟩
      rw [ne_self]
      refine iteF ⟨_, rfl, _, rfl, q, _, _, _, rfl, rfl, tq18, last_at w1, _, rfl, rfl, _, rfl, ?_⟩
      rw [ne_self]
      refine iteF ?_
      have s18' := Same.trans s17' s18
      refine ⟨_, rfl, _, rfl, _, rfl, _, rfl, p, nms n, F, x, y, rfl, hF.fr.same s18', by rw [nms_len]; omega, h4.On, xN, fun H19 E r r2 s19 e19 hr' => ⟨E, _, _, _, rfl, rfl, SqL.of e19, rfl, rfl, _, rfl, ?_⟩⟩
      have rf : r = true := hr'.mpr ((leads_iff h4.On h4.fit.sat xN yN).mpr (by rw [hlv]; exact w5))
      rw [dn, rf]
      exact iteF ⟨_, _, _, _, _, rfl, Same.trans (Same.trans (Same.trans s3e s17) s18) s19⟩
end
end NC

set_option Elab.async false
set_option linter.all false
set_option maxRecDepth 100000
set_option maxHeartbeats 4000000
namespace NC
open PySem L2
theorem idle_iff {n : Nat} {F : List Fc} (h : Fr4 n F) (i : Nat) : idle n F i = decide (K2.worldsM (nms n) (but F i) = K2.worldsM (nms n) F) := by
  have hO : K2.On (nms n) (but F i) := fun f hf => h.On f (but_sub f hf)
  have e := K2.same_iff (nms_nodup n) hO h.On (K2.worlds_mono (fun f hf => but_sub f hf) h.wd) h.wd
  cases q : idle n F i with
  | true => exact (decide_eq_true (e.mpr (sameLev_iff.mp q))).symm
  | false => exact (decide_eq_false fun z => by
      have : idle n F i = true := sameLev_iff.mpr (e.mp z)
      rw [q] at this; cases this).symm
def nsD (l : List Nat) : PyData := .tuple (l.map fun (i : Nat) => PyData.int (i : Int))
theorem dp_ns {K : PySem.W.Frag} {H : Hp} {a : Addr} : ∀ {l : List Nat}, SqT K H a (natV l) → Dp K H (.ref a) (nsD l) := fun {l} h =>
  .tup h (by
    have key : ∀ l : List Nat, DpAll K H (natV l) (l.map fun (i : Nat) => PyData.int (i : Int)) := fun l => by
      induction l with
      | nil => exact .nil
      | cons i l ih => exact .cons (.int _) ih
    exact key l)
theorem sw_ns {l : List Nat} (h : ∀ i ∈ l, i < 100) : Sw (nsD l) 1 (l.length * 12 + 2) := by
  have z := Sw.tup (ds := l.map fun (i : Nat) => PyData.int (i : Int)) (k := 0) (m := 10) fun d hd => by
    obtain ⟨i, hi, rfl⟩ := List.mem_map.mp hd
    exact sw_num (h i hi)
  rwa [List.length_map] at z
theorem idles_lt {n : Nat} {F : List Fc} : ∀ i ∈ idles n F, i < F.length := fun i hi => List.mem_range.mp (List.mem_filter.mp hi).1
theorem idles_len {n : Nat} {F : List Fc} : (idles n F).length ≤ F.length := Nat.le_trans (List.length_filter_le _ _) (by rw [List.length_range]; exact Nat.le_refl _)
theorem sw_two {d : PyData} {k m : Nat} (h : Sw d k m) : Sw (.list [d, d]) (k + 1) (2 * (m + 2) + 2) := Sw.lst (ds := [d, d]) fun x hx => by
  rcases List.mem_cons.mp hx with rfl | hx
  · exact h
  · rw [List.mem_singleton.mp hx]; exact h
section
variable {P : Program} {w : World} {K : PySem.W.Frag} {mg : Str → Option Value} {base : Heap}
/-! ### _law_facts_right -/
abbrev sFR : Stmt := top 41
abbrev nFR : List Str := ["_law_frame_here", "_law_some", "_law_due_here", "_law_number"]
theorem scFR : FnScope nFR ["_law_frame_here"] (defScope sFR) := ⟨rfl, rfl, rfl, by decide +kernel, rfl, by decide +kernel, by decide +kernel⟩
theorem df_FR (T : Txt K mg) (S : Std K mg "_law_facts_right" sFR) (DW : Df P w K mg base CX0 "_law_worlds" ["_law_frame_here"] 1 (spWorlds K)) (DI : Df P w K mg base CX0 "needless_facts" ["frame"] 6 (spIdle K)) : DfG P w K mg base CX0 "_law_facts_right" ["_law_frame_here"] 7 (spPR K) := by
  obtain ⟨f, fd, hm, F⟩ := S.ex
  refine ⟨f, fd, hm, F.kp, F.binds (fun _ _ _ _ _ _ us hl => match us, hl with | [_], _ => rfl), FnG.body F scFR (fun vs H Q E h => ?_) (fun cdv A outer s H vs Q E hg hr h => ?_)⟩
  · obtain ⟨p, n, F, rfl, _⟩ := h
    rfl
  · obtain ⟨p, n, F, rfl, hF, h4, hl, k⟩ := h
    have nd := scFR.nd
    have h64 := rm64 hr
    have h65 := rm65 hr
    have hr1 : Room 1 _ := hr.mono (by decide)
    have hg : (A.deeper (PyProof.Rows.envOfC "_law_facts_right" (defScope sFR) s.heap.objs.size f cdv)).guards = some [] := hg
    refine ⟨_, pss_cons (ps_par (i := 1) (j := 2) rfl nd rfl rfl (by decide) rfl rfl (pa_cons (pe_df DW hr1 pass0 (pa_cons (pv 0) pa_nil)) (pa_cons (pe_lst pa_nil) pa_nil)) rfl)
      (pss_cons (ps_for PassesOwn.never rfl (pi_range1 rfl T.nRange (pa_cons (pe_len T.nLen (pe_ix ix_tup (pv 0) pe_int (fun _ _ => rfl))) pa_nil)) (pg_name (i := 3) nd rfl (.inl rfl))
        (pss_one (ps_if (pt_cmpR (op_eqD h64) (pe_df DW hr1 pass0 (pa_cons (pe_tup (pa_cons (pe_ix ix_tup (pv 0) pe_int (fun _ _ => rfl)) (pa_cons (pe_op op_catA (pe_slice sl_tupA (pe_ix ix_tup (pv 0) pe_int (fun _ _ => rfl)) po_none (po_some (pv 3)))
            (pe_slice sl_tupA (pe_ix ix_tup (pv 0) pe_int (fun _ _ => rfl)) (po_some (pe_op op_add (pv 3) pe_int)) po_none)) pa_nil))) pa_nil)) (pv 1) (nomark _))
          (pss_one (ps_expr (pe_bm PySem.F.plainAttrs_list PySem.F.slot_list_append PySem.F.type_list_append mt_append (pv 2) (pa_cons (pv 3) pa_nil)))) pss_nil)))
      (pss_one (ps_ret (pe_cmpR op_eq (pe_callB (call_show hg h65) rfl T.nRepr (by decide +kernel) (pa_cons (pe_lst (pa_cons (pe_df DI hr pass0 (pa_cons (pv 0) pa_nil)) (pa_cons (pe_df DI hr pass0 (pa_cons (pv 0) pa_nil)) pa_nil))) pa_nil))
        (pe_callB (call_show hg h65) rfl T.nRepr (by decide +kernel) (pa_cons (pe_op op_rep (pe_lst (pa_cons (pe_tupleOf rfl T.nTuple (pv 2)) pa_nil)) pe_int) pa_nil)) (nomark _))))), ?_⟩
    obtain ⟨pn, pf, fs, h1, hN, h3⟩ := hF.ex
    have h2 := hN.sq (K := K)
    have fl : fs.length = F.length := NC.Paired.len h3.each
    refine ⟨_, rfl, p, nms n, F, rfl, hF.fr, nms_nodup n, by rw [nms_len]; exact h4.n1, by rw [nms_len]; exact h4.n4, h4.On, by omega, fun H1 L as s1 nL R1 => ?_⟩
    refine ⟨by show 0 ≤ sizeLine; decide, fun B nB => ⟨_, _, rfl, ?_⟩⟩
    have nLB : L ≠ B := ne_of_none R1.at_ nB
    refine ⟨_, rfl, p, _, _, _, rfl, rfl, sameT (sameU s1 nB) h1, rfl, pf, _, rfl, .inr (sameT (sameU s1 nB) h3.tup), _, rfl, ?_, ?_, ?_⟩
    · rw [List.length_map]; omega
    · rw [List.length_map]; omega
    rw [List.length_map, fl, Int.toNat_natCast]
    refine for_it walk_rg (fun i σ H' => ∃ a3, σ = [some (.ref p), some (.ref L), some (.ref B), a3] ∧ Same H1 H' ∧ H' B = some (.lst (natV ((List.range i).filter (idle n F)))))
      ⟨none, rfl, sameN nB, by rw [upd_same]; rfl⟩ (fun i σ H' _ _ => trivial) ?_ ?_
    · rintro i v σ H2 H3 hi ⟨a3, rfl, s2, e2⟩ ⟨rfl, rfl⟩
      have s3 := Same.trans s1 s2
      refine ⟨_, rfl, p, _, _, _, rfl, rfl, sameT s3 h1, rfl, _, rfl, p, _, _, _, rfl, rfl, sameT s3 h1, rfl, _, rfl, _, rfl, ?_⟩
      refine cut_of (sameT s3 h3.tup) fun c1 H4 s4 t1 => ?_
      refine ⟨_, rfl, p, _, _, _, rfl, rfl, sameT (Same.trans s3 s4) h1, rfl, _, rfl, _, _, rfl, rfl, _, rfl, ?_⟩
      dsimp only [tNoPart]
      refine cut_of (sameT (Same.trans s3 s4) h3.tup) fun c2 H5 s5 t2 => ?_
      rw [cut_to (by rw [List.length_map]; omega)] at t1
      rw [show ((i : Int) + 1) = ((i + 1 : Nat) : Int) from rfl, cut_from (by rw [List.length_map]; omega)] at t2
      show rCatA K (.ref c1) (.ref c2) H5 _
      refine cat_of (sameT s5 t1) t2 (by rw [List.length_take, List.length_drop, List.length_map, PySem.sizeLine_eq]; omega) fun c3 H6 s6 t3 => ?_
      refine ⟨by show 2 ≤ sizeLine; decide, fun q nq => ?_⟩
      have s36 := Same.trans (Same.trans s4 s5) s6
      have s7 := sameU (o := .tup [.ref pn, .ref c3]) s36 nq
      refine ⟨q, nms n, but F i, rfl, ⟨pn, c3, fs.take i ++ fs.drop (i + 1), SqT.of upd_same, sameT (Same.trans s3 s7) h2, ?_, ?_⟩, nms_nodup n, by rw [nms_len]; exact h4.n1, by rw [nms_len]; exact h4.n4, fun f hf => h4.On f (but_sub f hf), ?_, fun H8 L2' as2 s8 nL2 R8 => ?_⟩
      · rw [List.map_append, List.map_take, List.map_drop]
        exact sameT (sameN nq) t3
      · exact Paired.imp (fun _ _ z => sameT (Same.trans s3 s7) z) (P_app (P_take i h3.each) (P_drop (i + 1) h3.each))
      · unfold but
        rw [List.length_append, List.length_take, List.length_drop]
        omega
      have s9 := Same.trans s7 s8
      have RL := (R1.same s2).same s9
      refine ⟨_, rfl, wD _, wD _, dp_w R8, dp_w RL, shaped_w _, shaped_w _, _, rfl, ?_⟩
      rw [eqv_w, ← idle_iff h4]
      have e9 := s9 _ _ e2
      have fm := filter_more (idle n F) i
      refine ite2 (fun c => ?_) (fun c => ?_)
      · refine ⟨_, rfl, .inl ⟨rfl, _, SqL.of e9⟩, _, rfl, B, _, _, rfl, rfl, e9, ?_, ?_⟩
        · have := List.length_filter_le (idle n F) (List.range i)
          rw [List.length_range] at this
          unfold natV
          rw [List.length_map, PySem.sizeLine_eq]
          omega
        · refine ⟨_, rfl, sameD (Same.trans s2 s9) nB, ?_⟩
          rw [upd_same, fm, if_pos c]
          unfold natV
          rw [List.map_append]
          rfl
      · refine ⟨_, rfl, Same.trans s2 s9, ?_⟩
        rw [fm, if_neg c, List.append_nil]
        exact e9
    · rintro σ H2 ⟨a3, rfl, s2, e2⟩
      have s3 := Same.trans s1 s2
      have e2 : H2 B = some (.lst (natV (idles n F))) := e2
      have il := idles_len (n := n) (F := F)
      have sw : Sw (.list [nsD (idles n F), nsD (idles n F)]) 2 1000 := (sw_two (sw_ns fun i hi => by have := idles_lt i hi; omega)).mono (Nat.le_refl _) (by omega)
      refine ⟨_, rfl, p, n, F, rfl, hF.fr.same s3, h4.fit, fun H4 q1 s4 t1 => ⟨_, rfl, p, n, F, rfl, (hF.fr.same s3).same s4, h4.fit, fun H5 q2 s5 t2 => ⟨by show 2 ≤ sizeLine; decide, fun a na => ?_⟩⟩⟩
      have s6 := Same.trans (Same.trans s4 s5) (sameN (o := .lst [.ref q1, .ref q2]) na)
      refine ⟨_, _, rfl, sw.sh (by decide) (by decide) (.lst (SqL.of upd_same) (.cons (dp_ns (SqT.of ((sameN na) _ _ (s5 _ _ t1)))) (.cons (dp_ns (SqT.of ((sameN na) _ _ t2))) .nil))), ?_⟩
      generalize upd H5 a (.lst [.ref q1, .ref q2]) = H6 at s6 ⊢
      have e6 := s6 _ _ e2
      refine ⟨_, rfl, .inl ⟨B, _, rfl, SqL.of e6, fun u nu => ⟨by show 1 ≤ sizeLine; decide, fun b nb => ⟨b, 2, _, rfl, rfl, upd_same, by decide, by decide, by show 1 * 2 ≤ sizeLine; decide, fun c nc => ?_⟩⟩⟩⟩
      have s7 := Same.trans (sameN (o := .tup (natV (idles n F))) nu) (sameN (o := .lst [.ref u]) nb)
      have s8 := Same.trans s7 (sameN (o := .lst (List.replicate (2 : Int).toNat [V.ref u]).flatten) nc)
      have tu : SqT K (upd (upd (upd H6 u (.tup (natV (idles n F)))) b (.lst [.ref u])) c (.lst (List.replicate (2 : Int).toNat [V.ref u]).flatten)) u (natV (idles n F)) := SqT.of (sameU (o := .lst (List.replicate (2 : Int).toNat [V.ref u]).flatten) (sameN (o := .lst [.ref u]) nb) nc _ _ upd_same)
      refine ⟨_, _, rfl, sw.sh (by decide) (by decide) (.lst (SqL.of upd_same) (.cons (dp_ns tu) (.cons (dp_ns tu) .nil))), rfl, ?_⟩
      rw [decide_eq_true rfl]
      exact k _ (Same.trans s3 (Same.trans s6 s8))
end
end NC

set_option Elab.async false
set_option linter.all false
set_option maxRecDepth 100000
set_option maxHeartbeats 4000000
namespace NC
open PySem L2
/-! ### the chains of seven -/
def c7 (b : Nat) : List Fc := (List.range 6).map fun k => (letter (97 + k), decide (k = b), letter (97 + (k + 1)))
def g7 (b : Nat) (r : Bool) : List Fc := if r then (c7 b).reverse else c7 b
def v7 (x : Str) : Int := ((x.cps.getD 0 0 : Nat) : Int)
def fg : List Str := [letter 102, letter 103]
theorem g7_way : ∀ b : Fin 7, ∀ r : Bool, K2.wayM 7 (g7 b.val r) (letter 97) (letter 103) = some (nms 7) ∧ K2.wayM 7 (g7 b.val r) (letter 103) (letter 97) = none ∧ K2.wayM 7 (g7 b.val r) (letter 102) (letter 103) = some fg := by decide +kernel
theorem g7_st : ∀ b : Fin 7, ∀ r : Bool, ((steps (nms 7)).any fun s => decide (s ∈ sPrs (g7 b.val r))) = decide (b.val < 6) ∧ ((steps fg).any fun s => decide (s ∈ sPrs (g7 b.val r))) = decide (b.val = 5) := by decide +kernel
theorem g7_sat : ∀ b : Fin 7, ∀ r : Bool, (g7 b.val r).all (fun f => decide (K2.SatF v7 f) && decide (f.1 ∈ nms 7) && decide (f.2.2 ∈ nms 7) && decide (f.1 ≠ f.2.2)) = true ∧ (g7 b.val r).length = 6 := by decide +kernel
theorem g7_but : ∀ b : Fin 7, ∀ r : Bool, ∀ i : Fin 6, ((g7 b.val r)[i.val]?.any fun f => (K2.wayM 7 (g7 b.val r) f.1 f.2.2).isSome && (K2.wayM 7 (but (g7 b.val r) i.val) f.1 f.2.2).isNone) = true := by decide +kernel
section
variable {b : Nat} {r : Bool} (hb : b < 7)
include hb
theorem g7_fit : Fit 7 (g7 b r) := by
  obtain ⟨h1, h2⟩ := g7_sat ⟨b, hb⟩ r
  have h1 : ∀ f ∈ g7 b r, ((K2.SatF v7 f ∧ f.1 ∈ nms 7) ∧ f.2.2 ∈ nms 7) ∧ f.1 ≠ f.2.2 := fun f hf => by
    have z := List.all_eq_true.mp h1 f hf
    rw [Bool.and_eq_true, Bool.and_eq_true, Bool.and_eq_true, decide_eq_true_iff, decide_eq_true_iff, decide_eq_true_iff, decide_eq_true_iff] at z
    exact z
  exact ⟨⟨by decide, by decide, by rw [h2]; decide, fun f hf => ⟨(h1 f hf).1.1.2, (h1 f hf).1.2, (h1 f hf).2⟩⟩, v7, fun f hf => (h1 f hf).1.1.1⟩
theorem in7 {i : Nat} (h : i < 7) : letter (97 + i) ∈ nms 7 := List.mem_map.mpr ⟨i, List.mem_range.mpr h, rfl⟩
theorem lev_of {x y : Str} (hx : x ∈ nms 7) (hy : y ∈ nms 7) {p : List Str} (e : K2.wayM 7 (g7 b r) x y = some p) {t : Bool} (ht : ((steps p).any fun s => decide (s ∈ sPrs (g7 b r))) = t) : K2.lev (nms 7) (g7 b r) x y = if t then 2 else 1 := by
  have fit := g7_fit hb (r := r)
  obtain ⟨_, _, _, _, h5, h6⟩ := way_facts fit.On fit.sat hx hy e
  have up := (K2.Borne.lev (nms 7) (g7 b r)).hi x y
  cases t with
  | true =>
    obtain ⟨s, hs, z⟩ := List.any_eq_true.mp ht
    exact h5.mp ⟨s, hs, of_decide_eq_true z⟩
  | false =>
    have n2 : K2.lev (nms 7) (g7 b r) x y ≠ 2 := fun z => by
      obtain ⟨s, hs, z⟩ := h5.mpr z
      have : ((steps p).any fun s => decide (s ∈ sPrs (g7 b r))) = true := List.any_eq_true.mpr ⟨s, hs, decide_eq_true z⟩
      rw [ht] at this
      cases this
    show _ = (1 : Int)
    omega
theorem lev_ag : K2.lev (nms 7) (g7 b r) (letter 97) (letter 103) = if decide (b < 6) then 2 else 1 := lev_of hb (in7 hb (i := 0) (by decide)) (in7 hb (i := 6) (by decide)) (g7_way ⟨b, hb⟩ r).1 (g7_st ⟨b, hb⟩ r).1
theorem lev_fg : K2.lev (nms 7) (g7 b r) (letter 102) (letter 103) = if decide (b = 5) then 2 else 1 := lev_of hb (in7 hb (i := 5) (by decide)) (in7 hb (i := 6) (by decide)) (g7_way ⟨b, hb⟩ r).2.2 (g7_st ⟨b, hb⟩ r).2
theorem lev_ga : K2.lev (nms 7) (g7 b r) (letter 103) (letter 97) = 0 := way_none (g7_fit hb).On (g7_fit hb).sat (in7 hb (i := 6) (by decide)) (in7 hb (i := 0) (by decide)) (g7_way ⟨b, hb⟩ r).2.1
theorem idles7 : idles 7 (g7 b r) = [] := by
  have fit := g7_fit hb (r := r)
  obtain ⟨_, h2⟩ := g7_sat ⟨b, hb⟩ r
  have h2 : (g7 b r).length = 6 := h2
  unfold idles
  rw [List.filter_eq_nil_iff]
  intro i hi z
  have li := List.mem_range.mp hi
  rw [h2] at li
  have q := g7_but ⟨b, hb⟩ r ⟨i, li⟩
  have q : ((g7 b r)[i]?.any fun f => (K2.wayM 7 (g7 b r) f.1 f.2.2).isSome && (K2.wayM 7 (but (g7 b r) i) f.1 f.2.2).isNone) = true := q
  obtain ⟨f, hf⟩ : ∃ f, (g7 b r)[i]? = some f := ⟨(g7 b r)[i], List.getElem?_eq_getElem (by omega)⟩
  rw [hf] at q
  have q : ((K2.wayM 7 (g7 b r) f.1 f.2.2).isSome && (K2.wayM 7 (but (g7 b r) i) f.1 f.2.2).isNone) = true := q
  rw [Bool.and_eq_true] at q
  obtain ⟨p, hp⟩ := Option.isSome_iff_exists.mp q.1
  have q2 := Option.isNone_iff_eq_none.mp q.2
  have on := fit.On f (List.mem_of_getElem? hf)
  have pos := (way_facts fit.On fit.sat on.1 on.2 hp).2.2.2.2.2
  obtain ⟨v, hv⟩ := fit.sat
  have zero := way_none (N := nms 7) (F := but (g7 b r) i) (fun f hf => fit.On f (but_sub f hf)) ⟨v, fun f hf => hv f (but_sub f hf)⟩ on.1 on.2 q2
  have := sameLev_iff.mp z f.1 on.1 f.2.2 on.2
  omega
end
end NC

set_option Elab.async false
set_option linter.all false
set_option maxRecDepth 100000
set_option maxHeartbeats 4000000
namespace NC
open PySem L2
theorem tIf_val {x y : V} {b : Bool} {Q : VK} {H : Hp} {σ : L2.St} (h : Q (if b = true then x else y) H) : if b = true then tC x σ H Q else tC y σ H Q := by
  cases b <;> exact h
theorem lv_if (c : Bool) : lvV (if c = true then 2 else 1) = if c = true then .str "ahead" else .str "upto" := by cases c <;> rfl
theorem wd_if (i b : Nat) : (if decide (V.int (i : Int) = V.int (b : Int)) = true then V.str "ahead" else V.str "upto") = V.str (wd (decide (i = b))) := by
  by_cases h : i = b
  · rw [decide_eq_true h, h, decide_eq_true rfl]; rfl
  · rw [decide_eq_false h, decide_eq_false fun z => h (by injection z with z; omega)]; rfl
theorem ab_a : ("a" : Str) = letter 97 := by decide +kernel
theorem ab_f : ("f" : Str) = letter 102 := by decide +kernel
theorem ab_g : ("g" : Str) = letter 103 := by decide +kernel
section
variable {P : Program} {w : World} {K : PySem.W.Frag} {mg : Str → Option Value} {base : Heap}
/-! ### _law_seven_right -/
abbrev s7R : Stmt := top 43
abbrev n7R : List Str := ["_law_names", "_law_number", "_law_facts", "_law_frame_here", "_law_due_here", "_law_k"]
theorem sc7R : FnScope n7R [] (defScope s7R) := ⟨rfl, rfl, rfl, by decide +kernel, rfl, by decide +kernel, by decide +kernel⟩
def sp7R (K : PySem.W.Frag) : Sp := fun vs H Q _ => vs = [] ∧ ∀ H', Same H H' → Q (.bl true) H'
theorem df_7R {C : Addr} (T : Txt K mg) (S : Std K mg "_law_seven_right" s7R) (DI : Df P w K mg base CX0 "needless_facts" ["frame"] 6 (spIdle K))
    (DT : Df P w K mg base (L2.CX P w) "told" ["frame", "a", "b"] 6 (spAsk K C rTold)) (DY : Df P w K mg base (L2.CX P w) "way" ["frame", "a", "b"] 6 (spAsk K C (rWay K))) : Df P w K mg base CX0 "_law_seven_right" [] 7 (sp7R K) := by
  refine S.df (fun _ _ _ _ _ _ us hl => match us, hl with | [], _ => rfl) fun f fd F => F.ok sc7R (fun vs H Q E h => ?_) (fun cdv A outer s H vs Q E hr h => ?_)
  · obtain ⟨rfl, _⟩ := h
    rfl
  · obtain ⟨rfl, k⟩ := h
    have nd := sc7R.nd
    have h64 := rm64 hr
    refine ⟨_, (pss_cons (ps_set (i := 0) nd rfl (.inr rfl) (pe_tup (pa_cons pe_str (pa_cons pe_str (pa_cons pe_str (pa_cons pe_str (pa_cons pe_str (pa_cons pe_str (pa_cons pe_str pa_nil)))))))))
       (pss_cons (ps_for PassesOwn.never rfl (pi_range1 rfl T.nRange (pa_cons pe_int pa_nil)) (pg_name (i := 1) nd rfl (.inr rfl)) (pss_cons (ps_setLc (i := 2) (own := [("_law_k", 5)]) (g := gName 5) (tt := tYes) rfl nd rfl rfl (sw_true rfl rfl rfl (by decide +kernel)) (pi_range1 rfl T.nRange (pa_cons pe_int pa_nil)) (blkOk_by (N := n7R) (sc := defScope s7R) (by decide +kernel))
                  (fun _ _ _ _ _ => pg_name (i := 5) nd rfl (Or.inl rfl)) (fun _ _ _ _ _ => pts_nil)
                  (fun _ _ _ _ _ => (pe_tup (pa_cons (pe_ix (show IxR _ (rIxT K) from ix_tup) (pv 0) (pv 5) (fun _ _ => rfl)) (pa_cons (pe_ifExp (pt_cmpR (show OpR _ (compareOp .Eq) rEq from op_eq) (pv 5) (pv 1) (nomark _)) pe_str pe_str) (pa_cons (pe_ix (show IxR _ (rIxT K) from ix_tup) (pv 0) (pe_op op_add (pv 5) pe_int) (fun _ _ => rfl)) pa_nil))))))
       (pss_one (ps_for PassesOwn.never rfl (pi_tup (pe_tup (pa_cons (pe_tup (pa_cons (pv 0) (pa_cons (pe_tupleOf rfl T.nTuple (pv 2)) pa_nil))) (pa_cons (pe_tup (pa_cons (pv 0) (pa_cons (pe_tupleOf rfl T.nTuple (pe_revL (pv 2))) pa_nil))) pa_nil)))) (pg_name (i := 3) nd rfl (.inl rfl)) (pss_cons (ps_set (i := 4) nd rfl (.inl rfl) (pe_ifExp (pt_cmpR op_lt (pv 1) pe_int (nomark _)) pe_str pe_str))
       (pss_cons (ps_if (PW.pt (pw_or (pt_cmpR op_ne (pe_df DT hr passL (pa_cons (pv 3) (pa_cons pe_str (pa_cons pe_str pa_nil)))) (pv 4) (nomark _)) (pw_or (pt_cmpR (op_neD h64) (pe_df DY hr passL (pa_cons (pv 3) (pa_cons pe_str (pa_cons pe_str pa_nil)))) (pv 0) (nomark _)) (pw_or1 (pt_cmp (pc_notN (pe_df DT hr passL (pa_cons (pv 3) (pa_cons pe_str (pa_cons pe_str pa_nil)))))))))) (pss_one (ps_ret pe_bl)) pss_nil)
       (pss_cons (ps_if (PW.pt (pw_or (pt_cmp (pc_notN (pe_df DY hr passL (pa_cons (pv 3) (pa_cons pe_str (pa_cons pe_str pa_nil)))))) (pw_or1 (pt_cmpR (op_neD h64) (pe_df DI hr pass0 (pa_cons (pv 3) pa_nil)) (pe_tup pa_nil) (nomark _))))) (pss_one (ps_ret pe_bl)) pss_nil)
       (pss_one (ps_if (PW.pt (pw_or (pt_cmpR op_ne (pe_df DT hr passL (pa_cons (pv 3) (pa_cons pe_str (pa_cons pe_str pa_nil)))) (pe_ifExp (pt_cmpR op_eq (pv 1) pe_int (nomark _)) pe_str pe_str) (nomark _)) (pw_or1 (pt_cmpR (op_neD h64) (pe_df DY hr passL (pa_cons (pv 3) (pa_cons pe_str (pa_cons pe_str pa_nil)))) (pe_tup (pa_cons pe_str (pa_cons pe_str pa_nil))) (nomark _))))) (pss_one (ps_ret pe_bl)) pss_nil)))))))))
       (pss_one (ps_ret pe_bl)))), ?_⟩
    refine ⟨by show 7 ≤ sizeLine; decide, fun t nt => ?_⟩
    have e7 : ([.str "a", .str "b", .str "c", .str "d", .str "e", .str "f", .str "g"] : List V) = (nms 7).map V.str := by decide +kernel
    have s1 := sameN (o := .tup [.str "a", .str "b", .str "c", .str "d", .str "e", .str "f", .str "g"]) nt
    have t1 : SqT K (upd H t (.tup [.str "a", .str "b", .str "c", .str "d", .str "e", .str "f", .str "g"])) t ((nms 7).map V.str) := by rw [← e7]; exact SqT.of upd_same
    change gName 0 (.ref t) _ (upd H t (.tup [.str "a", .str "b", .str "c", .str "d", .str "e", .str "f", .str "g"])) _
    generalize upd H t (.tup [.str "a", .str "b", .str "c", .str "d", .str "e", .str "f", .str "g"]) = H1 at s1 t1 ⊢
    refine ⟨7, rfl, by decide, by decide, for_it (walk_rg (n := 7)) (fun i σ H' => ∃ a1 a2 a3 a4, σ = [some (.ref t), a1, a2, a3, a4, none] ∧ Same H1 H')
      ⟨none, none, none, none, rfl, fun _ _ e => e⟩ (fun i σ H' _ _ => trivial) ?_ ?_⟩
    rotate_left
    · rintro σ H2 ⟨a1, a2, a3, a4, rfl, s2⟩
      exact k _ (Same.trans s1 s2)
    rintro b v σ H2 H3 hb ⟨a1, a2, a3, a4, rfl, s2⟩ ⟨rfl, rfl⟩
    refine ⟨6, rfl, by decide, by decide, fun L nL => lc_it (walk_rg (n := 6)) (fun i H' => Same H3 H' ∧ ∃ fs : List Addr, H' L = some (.lst (fs.map V.ref)) ∧ Paired (fun a f => SqT K H' a (encF f)) fs ((c7 b).take i))
      ⟨sameN nL, [], upd_same, .nil⟩ (fun i H' _ _ => trivial) ?_ ?_⟩
    · rintro i v H4 H5 hi ⟨s4, fs, e4, p4⟩ ⟨rfl, rfl⟩
      have at_ : ∀ {m : Nat}, m < 7 → atI ((nms 7).map V.str) (m : Int) = some (.str (letter (97 + m))) := fun {m} h => atI_nat (by
        unfold nms
        rw [List.getElem?_map, List.getElem?_map, List.getElem?_range h]; rfl)
      have t4 := sameT (Same.trans s2 s4) t1
      refine ⟨rfl, _, rfl, _, rfl, t, _, _, _, rfl, rfl, t4, at_ (by omega), ?_⟩
      refine ⟨_, rfl, _, rfl, rfl, _, rfl, tIf_val ?_⟩
      rw [wd_if]
      refine ⟨_, rfl, _, rfl, _, _, rfl, rfl, t, _, _, _, rfl, rfl, t4, at_ (m := i + 1) (by omega), by show 3 ≤ sizeLine; decide, fun q nq => ?_⟩
      have e5 : upd H5 q (.tup [.str (letter (97 + i)), .str (wd (decide (i = b))), .str (letter (97 + (i + 1)))]) L = some (.lst (fs.map V.ref)) := by rw [upd_ne (ne_of_none e4 nq)]; exact e4
      refine ⟨_, e5, ?_, sameD (sameU s4 nq) nL, fs ++ [q], ?_, ?_⟩
      · have := NC.Paired.len p4
        rw [List.length_take] at this
        rw [List.length_map, PySem.sizeLine_eq]
        omega
      · rw [upd_same, List.map_append]; rfl
      · have ei : (c7 b)[i]? = some (letter (97 + i), decide (i = b), letter (97 + (i + 1))) := by
          unfold c7
          rw [List.getElem?_map, List.getElem?_range hi]; rfl
        rw [List.take_add_one, ei]
        exact P_app (Paired.imp (fun _ _ z => sqT_at (sameT (sameN nq) z) e5 nt_lst) p4) (.cons (sqT_at (SqT.of upd_same) e5 nt_lst) .nil)
    rintro H4 ⟨s4, fs, e4, p4⟩
    have lc : (c7 b).length = 6 := by unfold c7; rw [List.length_map, List.length_range]
    rw [show (6 : Nat) = (c7 b).length from lc.symm, List.take_length] at p4
    have fl := NC.Paired.len p4
    refine ⟨_, rfl, _, rfl, .inl ⟨L, _, rfl, SqL.of e4, fun u nu => ⟨by show 2 ≤ sizeLine; decide, fun p np => ?_⟩⟩⟩
    have s5 := sameU (o := .tup [.ref t, .ref u]) (sameN (o := .tup (fs.map V.ref)) nu) np
    have f1 : FrAt K (upd (upd H4 u (.tup (fs.map V.ref))) p (.tup [.ref t, .ref u])) p (nms 7) (c7 b) :=
      ⟨t, u, fs, SqT.of upd_same, sameT (Same.trans (Same.trans s2 s4) s5) t1, SqT.of ((sameN np) _ _ upd_same), Paired.imp (fun _ _ z => sameT s5 z) p4⟩
    change tTup _ _ (upd (upd H4 u (.tup (fs.map V.ref))) p (.tup [.ref t, .ref u])) _
    have e5 := s5 _ _ e4
    have s5' := Same.trans (Same.trans s2 s4) s5
    have p5 := Paired.imp (fun _ _ z => sameT s5 z) p4
    generalize upd (upd H4 u (.tup (fs.map V.ref))) p (.tup [.ref t, .ref u]) = H5 at f1 e5 s5' p5 ⊢
    refine ⟨_, rfl, _, rfl, L, _, rfl, SqL.of e5, fun c nc => .inl ⟨c, _, rfl, SqL.of upd_same, fun u2 nu2 => ⟨by show 2 ≤ sizeLine; decide, fun p2 np2 => ⟨by show 2 ≤ sizeLine; decide, fun z nz => ?_⟩⟩⟩⟩
    have s6 := sameU (o := .tup [.ref t, .ref u2]) (sameU (o := .tup (fs.map V.ref).reverse) (sameN (o := .lst (fs.map V.ref).reverse) nc) nu2) np2
    have s7 := sameU (o := .tup [.ref p, .ref p2]) s6 nz
    have f1' := f1.same s7
    have f2 : FrAt K (upd (upd (upd (upd H5 c (.lst (fs.map V.ref).reverse)) u2 (.tup (fs.map V.ref).reverse)) p2 (.tup [.ref t, .ref u2])) z (.tup [.ref p, .ref p2])) p2 (nms 7) (c7 b).reverse :=
      ⟨t, u2, fs.reverse, SqT.of ((sameN nz) _ _ upd_same), sameT (Same.trans s5' s7) t1, by rw [List.map_reverse]; exact SqT.of ((sameN nz) _ _ ((sameN np2) _ _ upd_same)), by
        have key : ∀ {as : List Addr} {W : List Fc}, Paired (fun a f => SqT K (upd (upd (upd (upd H5 c (.lst (fs.map V.ref).reverse)) u2 (.tup (fs.map V.ref).reverse)) p2 (.tup [.ref t, .ref u2])) z (.tup [.ref p, .ref p2])) a (encF f)) as W → Paired (fun a f => SqT K (upd (upd (upd (upd H5 c (.lst (fs.map V.ref).reverse)) u2 (.tup (fs.map V.ref).reverse)) p2 (.tup [.ref t, .ref u2])) z (.tup [.ref p, .ref p2])) a (encF f)) as.reverse W.reverse := fun {as W} h => by
          induction h with
          | nil => exact .nil
          | cons r _ ih => rw [List.reverse_cons, List.reverse_cons]; exact P_app ih (.cons r .nil)
        exact key (Paired.imp (fun _ _ y => sameT s7 y) p5)⟩
    have tz : SqT K (upd (upd (upd (upd H5 c (.lst (fs.map V.ref).reverse)) u2 (.tup (fs.map V.ref).reverse)) p2 (.tup [.ref t, .ref u2])) z (.tup [.ref p, .ref p2])) z [.ref p, .ref p2] := SqT.of upd_same
    refine ⟨z, rfl, ⟨_, tz⟩, ?_⟩
    have s8 := Same.trans s5' s7
    generalize upd (upd (upd (upd H5 c (.lst (fs.map V.ref).reverse)) u2 (.tup (fs.map V.ref).reverse)) p2 (.tup [.ref t, .ref u2])) z (.tup [.ref p, .ref p2]) = H6 at f1' f2 tz s8 ⊢
    clear s7 s6 s5' s5 p5 e5 f1 p4 e4 s4
    refine for_it walk_tup (fun j σ H' => ∃ a3 a4, σ = [some (.ref t), some (.int b), some (.ref L), a3, a4, none] ∧ Same H6 H')
      ⟨_, _, rfl, fun _ _ e => e⟩ (fun i σ H' _ ⟨_, _, _, z⟩ => sameT z tz) ?_ ?_
    rotate_left
    · rintro σ H7 ⟨a3, a4, rfl, s9⟩
      exact ⟨_, _, _, _, rfl, Same.trans s8 s9⟩
    rintro j v σ H7 H8 hj ⟨a3, a4, rfl, s9⟩ ⟨rfl, hv⟩
    obtain ⟨r, q, rfl, hF⟩ : ∃ r q, v = .ref q ∧ FrAt K H6 q (nms 7) (g7 b r) := by
      match j, hv with
      | 0, hv => cases hv; exact ⟨false, _, rfl, f1'⟩
      | 1, hv => cases hv; exact ⟨true, _, rfl, f2⟩
      | n + 2, hv => simp at hv
    have fit := g7_fit hb (r := r)
    have iA : ("a" : Str) ∈ nms 7 := by decide +kernel
    have iF : ("f" : Str) ∈ nms 7 := by decide +kernel
    have iG : ("g" : Str) ∈ nms 7 := by decide +kernel
    have lAG := lev_ag hb (r := r)
    have lGA := lev_ga hb (r := r)
    have lFG := lev_fg hb (r := r)
    obtain ⟨wAG, wGA, wFG⟩ := g7_way ⟨b, hb⟩ r
    rw [← ab_a, ← ab_g] at lAG lGA wAG wGA
    rw [← ab_f, ← ab_g] at lFG wFG
    have askT : ∀ {x y : Str} {H' : Hp} {Q' : VK}, x ∈ nms 7 → y ∈ nms 7 → Same H6 H' → (∀ H'', Same H' H'' → Q' (lvV (K2.lev (nms 7) (g7 b r) x y)) H'') → spAsk K C rTold [.ref q, .str x, .str y] H' Q' E0 := fun {x y H' Q'} hx hy z kk =>
      ⟨q, 7, g7 b r, _, _, rfl, hF.same z, fit, .inl ⟨_, rfl⟩, .inl ⟨_, rfl⟩, (fun e => by rw [show isNm (nms 7) (.str x) = true from decide_eq_true hx] at e; cases e), (fun _ e => by rw [show isNm (nms 7) (.str y) = true from decide_eq_true hy] at e; cases e), fun x' y' e1 e2 _ _ => by cases e1; cases e2; exact kk⟩
    have askW : ∀ {x y : Str} {H' : Hp} {Q' : VK}, x ∈ nms 7 → y ∈ nms 7 → Same H6 H' → wayR K H' Q' (K2.wayM 7 (g7 b r) x y) → spAsk K C (rWay K) [.ref q, .str x, .str y] H' Q' E0 := fun {x y H' Q'} hx hy z kk =>
      ⟨q, 7, g7 b r, _, _, rfl, hF.same z, fit, .inl ⟨_, rfl⟩, .inl ⟨_, rfl⟩, (fun e => by rw [show isNm (nms 7) (.str x) = true from decide_eq_true hx] at e; cases e), (fun _ e => by rw [show isNm (nms 7) (.str y) = true from decide_eq_true hy] at e; cases e), fun x' y' e1 e2 _ _ => by cases e1; cases e2; exact kk⟩
    have t9 := sameT (Same.trans s8 s9) t1
    have ok7 := nms_ok (n := 7) (by decide)
    refine ⟨_, rfl, _, _, rfl, rfl, _, rfl, tIf_val ?_⟩
    have lt6 : decide ((b : Int) < 6) = decide (b < 6) := decide_eq_decide.mpr (by omega)
    rw [lt6]
    refine ⟨_, rfl, askT iA iG s9 fun H9 s10 => ?_⟩
    rw [lAG, lv_if]
    have isS : ∀ c : Bool, ∃ x : Str, (if c = true then V.str "ahead" else V.str "upto") = V.str x := fun c => by cases c <;> exact ⟨_, rfl⟩
    obtain ⟨sx, hsx⟩ := isS (decide (b < 6))
    rw [hsx]
    refine ⟨_, rfl, rfl, _, rfl, ?_⟩
    rw [ne_self]
    have neS : ∀ {N : List Str}, (!PyData.eqv (sD N) (sD N)) = false := fun {N} => by rw [eqv_s, decide_eq_true rfl]; rfl
    have s11 := Same.trans s9 s10
    refine iteF ⟨_, rfl, askW iA iG s11 ?_⟩
    rw [wAG]
    refine fun H11 p1 s12 tp1 => ⟨_, rfl, sD (nms 7), sD (nms 7), dp_s tp1, dp_s (sameT (Same.trans (Same.trans s8 s11) s12) t1), shaped_s ok7, shaped_s ok7, _, rfl, ?_⟩
    rw [neS]
    have s13 := Same.trans s11 s12
    refine iteF ⟨_, rfl, askT iG iA s13 fun H12 s14 => ?_⟩
    rw [lGA]
    have s15 := Same.trans s13 s14
    refine ⟨_, rfl, iteF ⟨_, rfl, askW iG iA s15 ?_⟩⟩
    rw [wGA]
    refine fun H13 s16 => ⟨_, rfl, iteF ⟨_, rfl, q, 7, g7 b r, rfl, hF.same (Same.trans s15 s16), fit, fun H14 x1 s17 tx => ?_⟩⟩
    rw [idles7 hb] at tx
    refine ⟨by show 0 ≤ sizeLine; decide, fun y1 ny => ⟨.tuple [], .tuple [], .tup (SqT.of ((sameN ny) _ _ tx)) .nil, .tup (SqT.of upd_same) .nil, rfl, rfl, _, rfl, iteF ?_⟩⟩
    have s18 := Same.trans (Same.trans s15 s16) (Same.trans s17 (sameN (o := .tup []) ny))
    change tNext _ _ (upd H14 y1 (.tup []))
    generalize upd H14 y1 (.tup []) = H15 at s18 ⊢
    refine ⟨_, rfl, askT iF iG s18 fun H16 s19 => ?_⟩
    rw [lFG, lv_if]
    refine ⟨_, rfl, rfl, _, rfl, tIf_val ?_⟩
    have eq5 : decide (V.int (b : Int) = V.int 5) = decide (b = 5) := decide_eq_decide.mpr ⟨fun z => by injection z with z; omega, fun z => by rw [z]; rfl⟩
    rw [eq5]
    obtain ⟨sy, hsy⟩ := isS (decide (b = 5))
    rw [hsy]
    refine ⟨rfl, _, rfl, ?_⟩
    rw [ne_self]
    refine iteF ⟨_, rfl, askW iF iG (Same.trans s18 s19) ?_⟩
    rw [wFG]
    refine fun H17 p3 s20 tp3 => ⟨by show 2 ≤ sizeLine; decide, fun y2 ny2 => ?_⟩
    have efg : ([V.str "f", V.str "g"] : List V) = fg.map V.str := by decide +kernel
    refine ⟨sD fg, sD fg, dp_s (sameT (sameN ny2) tp3), dp_s (by rw [← efg]; exact SqT.of upd_same), shaped_s (fun x hx => ok7 x (by
      have z : ∀ x ∈ fg, x ∈ nms 7 := by decide +kernel
      exact z x hx)), shaped_s (fun x hx => ok7 x (by
      have z : ∀ x ∈ fg, x ∈ nms 7 := by decide +kernel
      exact z x hx)), _, rfl, ?_⟩
    rw [neS]
    exact iteF ⟨_, _, rfl, Same.trans (Same.trans s18 s19) (Same.trans s20 (sameN ny2))⟩
end
end NC

set_option Elab.async false
set_option linter.all false
set_option maxRecDepth 100000
set_option maxHeartbeats 4000000
/-! a lambda handed to a def, with or without defaults -/
namespace NC
open PySem L2 PySem.Spec PyProof.Rows LamX
/-- the lambda's names: captured ones, globals, and own ones that the maker's slots don't know -/
structure LamD (N : List Str) (sc scope : Scope) : Prop where
  kind : scope.kind = .function
  co : scope.isCoroutine = false
  gen : scope.isGenerator = false
  own : ∀ y ∈ scope.names, y.2 ≠ .cell ∧ (y.2 = .local → y.1 ∉ N)
  free : ∀ y ∈ scope.names, y.2 = .free → sc.names.lookup y.1 = some .cell ∨ sc.names.lookup y.1 = some .free
def lamDB (N : List Str) (sc scope : Scope) : Bool :=
  decide (scope.kind = .function) && !scope.isCoroutine && !scope.isGenerator && scope.names.all fun y => !decide (y.2 = .cell) && (!decide (y.2 = .local) || !N.contains y.1) && (!decide (y.2 = .free) || decide (sc.names.lookup y.1 = some .cell) || decide (sc.names.lookup y.1 = some .free))
theorem lamD_by {N : List Str} {sc scope : Scope} (h : lamDB N sc scope = true) : LamD N sc scope := by
  unfold lamDB at h
  simp only [Bool.and_eq_true, Bool.or_eq_true, Bool.not_eq_true', decide_eq_true_eq, decide_eq_false_iff_not, List.all_eq_true] at h
  obtain ⟨⟨⟨h1, h2⟩, h3⟩, h4⟩ := h
  refine ⟨h1, h2, h3, fun y hy => ⟨(h4 y hy).1.1, fun e hm => ?_⟩, fun y hy e => ?_⟩
  · rcases (h4 y hy).1.2 with z | z
    · exact z e
    · have : N.contains y.1 = true := List.contains_iff_mem.mpr hm
      rw [z] at this
      cases this
  · rcases (h4 y hy).2 with (z | z) | z
    · exact absurd e z
    · exact .inl z
    · exact .inr z
section
variable {X : Cx} {pins : List (Addr × Obj)} {σ : L2.St} {H HZ : Hp} {s s1 : Shared}
theorem LamD.has {scope : Scope} (L : LamD X.N X.env.scope scope) (ok : X.Ok) : ∀ y ∈ scope.names, y.2 = .free → ∃ c, X.env.cells.lookup y.1 = some c := fun y hy e => (L.free y hy e).elim (fun k => ok.has _ (.inl k)) fun k => ok.has _ (.inr k)
abbrev lamO (q : Str) (params : Arguments) (body : Expr) (scope : Scope) (cl : List (Str × Addr)) (dV doc pm : Value) (c' : Addr) (ctv : Value) : Obj := PySem.W.kdv_obj "<lambda>" q params (.expr body) scope cl dV doc pm c' ctv
/-- the function is made from here: its code object is new, or found in the table -/
theorem lam_tail {T : List (Addr × Str)} {c P : Addr} {params : Arguments} {body : Expr} {scope : Scope} {pos : Pos} {dV : Value} {E : Value → Shared → Prop} {Q : Value → Shared → Prop} (I : Inv X pins σ H s) (TB : TabB X.base X.mg c P) (hcode : X.env.code = .ref c)
    (hm : (P, X.env.qual ++ "<lambda>") ∈ T) (hu : ∀ p ∈ T, p.1 = P → p.2 = X.env.qual ++ "<lambda>") (hT : Tabs T H) (hfree : ∀ y ∈ scope.names, y.2 = .free → ∃ c, X.env.cells.lookup y.1 = some c)
    (h : ∀ (f c' : Addr) (doc pm ctv : Value) (H1 : Hp) (s' : Shared), Inv X pins σ H1 s' → ExtN H H1 → (∀ b, b < s.heap.objs.size → H b = none → H1 b = none) → Tabs T H1 →
      (∀ b o, b ≠ P → s.heap.get? b = some o → s'.heap.get? b = some o) → s'.heap.get? f = some (lamO (X.env.qual ++ "<lambda>") params body scope (cloFrom X.env.cells scope.names []) dV doc pm c' ctv) → H1 f = none → f ∉ frs X.stack → H1 c' = some (CodeO c' (X.env.qual ++ "<lambda>")) → Q (.ref f) s') :
    wpAny (model X.prog X.w) X.A (makeTail "<lambda>" (X.env.qual ++ "<lambda>") params (.expr body) scope X.env dV .none none pos pos.line) Q E s := by
  obtain ⟨ps, hP, ht, ha⟩ := hT _ hm
  have bP : s.heap.BuiltinsAt X.mg P := TB.bm.keeps I.bk
  have hP' : s.heap.get? P = some { cls := .none, data := .fields ps } := I.hok P _ hP
  have nofr : ∀ f, s.heap.objs.size ≤ f → f ∉ frs X.stack := fun f hf z => by
    rcases List.mem_cons.mp (I.stkSub _ z) with e | e
    · exact Nat.lt_irrefl _ (Nat.lt_of_lt_of_le (e ▸ I.lt) hf)
    · exact I.nofs hf e
  cases hc : codeAmong pos ps.toList with
  | some cv =>
    obtain ⟨c', rfl, hco⟩ := ha pos cv hc
    refine PySem.W.kdv_makeTailHit (mg := X.mg) (c := c) (P := P) (ps := ps) (closure_ok hfree) I.ok.glob (I.mod.glob.keeps I.bk) hcode (TB.code.keeps I.bk) hP' ht hc bP fun ctv doc h' tk hx hsz => ?_
    have keep : ∀ b o, s.heap.get? b = some o → (h'.push (lamO (X.env.qual ++ "<lambda>") params body scope (cloFrom X.env.cells scope.names []) dV doc ((X.mg "__name__").getD .none) c' ctv)).get? b = some o := fun b o e => Heap.get?_push_of_some _ (hx b o e)
    exact h h'.objs.size c' doc ((X.mg "__name__").getD .none) ctv H { s with heap := h'.push (lamO (X.env.qual ++ "<lambda>") params body scope (cloFrom X.env.cells scope.names []) dV doc ((X.mg "__name__").getD .none) c' ctv), toks := tk } (I.kept keep) (ExtN.refl H) (fun _ _ n => n) hT (fun b o _ e => keep b o e) (Heap.get?_push_size _ rfl) (I.hok.fresh hsz) (nofr _ hsz) hco
  | none =>
    refine PySem.W.kdv_makeTail (mg := X.mg) (c := c) (P := P) (ps := ps) (closure_ok hfree) I.ok.glob (I.mod.glob.keeps I.bk) hcode (TB.code.keeps I.bk) hP' ht hc TB.gP bP fun c' ctv doc h' tk hx hge hlt hrec htb => ?_
    obtain ⟨c2, oc, vs, t, e2, hoc, hd, hv⟩ := hrec
    cases e2
    have hsz : s.heap.objs.size ≤ h'.objs.size := Nat.le_trans hge (Nat.le_of_lt hlt)
    have nC : H c' = none := I.hok.fresh hge
    have ltP : P < s.heap.objs.size := Heap.lt_size hP'
    have keep : ∀ b o, b ≠ P → s.heap.get? b = some o → (h'.push (lamO (X.env.qual ++ "<lambda>") params body scope (cloFrom X.env.cells scope.names []) dV doc ((X.mg "__name__").getD .none) c' ctv)).get? b = some o := fun b o hb e => Heap.get?_push_of_some _ (hx b o hb e)
    have I1 := inv_table (t' := tk) (more := #[rawInt pos.line, rawInt pos.col, .ref c']) (q := X.env.qual ++ "<lambda>") I hP keep (Heap.get?_push_of_some _ htb) hge ⟨oc, vs, t, Heap.get?_push_of_some _ hoc, hd, hv⟩
    have apart : ∀ b, b ≠ P → b ≠ c' → upd (upd H P (.tbl (ps ++ #[rawInt pos.line, rawInt pos.col, .ref c']))) c' (CodeO c' (X.env.qual ++ "<lambda>")) b = H b := fun b h1 h2 => by rw [upd_ne h2, upd_ne h1]
    have hE : ExtN H (upd (upd H P (.tbl (ps ++ #[rawInt pos.line, rawInt pos.col, .ref c']))) c' (CodeO c' (X.env.qual ++ "<lambda>"))) := fun b o e n =>
      (apart b (fun z => n ps (Option.some.inj (e.symm.trans (z ▸ hP)))) (ne_of_none e nC)).trans e
    have eL : (ps ++ #[rawInt pos.line, rawInt pos.col, .ref c']).toList = ps.toList ++ [rawInt pos.line, rawInt pos.col, .ref c'] := by simp
    refine h h'.objs.size c' doc ((X.mg "__name__").getD .none) ctv _ _ I1 hE (fun b lt n => ?_) (fun p hp => ?_) keep (Heap.get?_push_size _ rfl) ?_ (nofr _ hsz) upd_same
    · rw [apart b (fun z => by rw [z, hP] at n; cases n) (Nat.ne_of_lt (Nat.lt_of_lt_of_le lt hge))]
      exact n
    · by_cases hb : p.1 = P
      · rw [hu p hp hb, hb]
        refine ⟨_, by rw [upd_ne (ne_of_none hP nC), upd_same], by rw [eL]; exact PySem.TriplesOk_snoc _ _ _ _ ht, fun p' cv hcv => ?_⟩
        rw [eL] at hcv
        rcases among_app _ ht hcv with z | z
        · obtain ⟨c0, e1, e2⟩ := ha p' cv z
          exact ⟨c0, e1, hE _ _ e2 codeO_ne⟩
        · exact ⟨c', z, upd_same⟩
      · obtain ⟨ps', a1, a2, a3⟩ := hT p hp
        refine ⟨ps', by rw [upd_ne (ne_of_none a1 nC), upd_ne hb]; exact a1, a2, fun p' cv hcv => ?_⟩
        obtain ⟨c0, e1, e2⟩ := a3 p' cv hcv
        exact ⟨c0, e1, hE _ _ e2 codeO_ne⟩
    · rw [apart _ (Nat.ne_of_gt (Nat.lt_of_lt_of_le ltP hsz)) (Nat.ne_of_gt hlt)]
      exact I.hok.fresh hsz
/-- the body's context holds as the lambda is entered -/
theorem lam_start {A : Around} {outer : List Env} {E : XK} {scope : Scope} {f c' : Addr} {h₁ : Heap} {tk : Nat} {bs : List (Str × Value)} (I : Inv X pins σ H s) (L : LamD X.N X.env.scope scope) (e0 : Env0 X.prog X.w X.K X.mg X.base A outer s1 HZ) (hd : A.handled = none)
    (un : Un (frs X.stack) [] H HZ s.heap s1.heap) (hns : h₁.Ns s1.heap.objs.size fun y => bs.reverse.lookup y) (kp : ∀ b o, s1.heap.get? b = some o → h₁.get? b = some o) :
    Inv (lamCx X A outer s1 HZ E scope f c') [] σ HZ { s1 with heap := h₁, toks := tk } := by
  have hfree := L.has I.ok
  have up : ∀ {y c}, (cloFrom X.env.cells scope.names []).lookup y = some c → X.env.cells.lookup y = some c := fun {y c} e => by
    rcases cloFrom_mem (PySem.mem_of_lookup e) with hm | ⟨h1, h2⟩
    · cases hm
    · obtain ⟨c1, hc⟩ := hfree _ h1 rfl
      have hc : X.env.cells.lookup y = some c1 := hc
      have e2 : c = c1 := by
        rw [h2, hc] <;> rfl
      rw [e2]
      exact hc
  have down : ∀ {y}, scope.names.lookup y = some .free → ∃ c, (cloFrom X.env.cells scope.names []).lookup y = some c := fun {y} hl =>
    mem_lookup (cloFrom_has (cells := X.env.cells) (acc := []) (show (y, NameKind.free) ∈ scope.names from PySem.mem_of_lookup hl))
  have cellK : ∀ {c : Addr} {v : Option Value}, H c = none → s.heap.IsCell c v → h₁.IsCell c v := fun {c v} n ⟨o, ho, hd⟩ =>
    let ⟨_, q⟩ := un.any ho n (by simp)
    ⟨_, kp _ _ q, hd⟩
  have noA : ∀ b : Addr, b ∉ (lamCx X A outer s1 HZ E scope f c').ex := fun b z => absurd (show b ∈ ([] : List Addr) from z) (by simp)
  have noCell : ∀ {y}, scope.names.lookup y ≠ some .cell := fun {y} k => (L.own _ (PySem.mem_of_lookup k)).1 rfl
  refine ⟨⟨e0.mod, L.kind, rfl, rfl, Nat.le_refl _, fun y z c e1 e2 => I.ok.inj y z c (up e1) (up e2), fun y hy => ?_, fun y c z _ => ?_, fun _ => hd, Around.frames_deeper e0.frames, .inr ⟨rfl, rfl⟩, fun b z => absurd z (noA b), e0.bs, e0.bsz, fun b _ _ => noA b,
      fun b z => absurd z (noA b), e0.funs, e0.frf⟩,
    rfl, e0.bare, Un.kept kp, ⟨_, hns, fun i y v e1 e2 e3 => ?_⟩, fun y c e => ?_, e0.hok.fresh (Nat.le_refl _), fun y c e => ?_, fun q hq => absurd (show q ∈ ([] : List (Addr × Obj)) ++ [] from hq) (by simp), e0.hok.kept kp, I.len⟩
  · have hy : scope.names.lookup y = some .cell ∨ scope.names.lookup y = some .free := hy
    exact hy.elim (fun k => absurd k noCell) down
  · have z : false = true := z
    cases z
  · have e3 : Vis scope y := e3
    have e1 : X.N[i]? = some y := e1
    rcases e3 with k | k | k
    · exact absurd (List.mem_of_getElem? e1) ((L.own _ (PySem.mem_of_lookup k)).2 rfl)
    · exact absurd k noCell
    · obtain ⟨m, hn, hl⟩ := I.loc
      have hvis : Vis X.env.scope y := (L.free _ (PySem.mem_of_lookup k) rfl).elim (fun k => .inr (.inl k)) (fun k => .inr (.inr k))
      obtain ⟨w', r, q⟩ := hl i y v e1 e2 hvis
      obtain ⟨c2, h2⟩ := down k
      refine ⟨w', r, .inr ⟨.inr k, c2, h2, ?_⟩⟩
      have c1 := up h2
      rcases q with ⟨k', _⟩ | ⟨_, c3, e', z⟩
      · have k' : X.env.scope.names.lookup y = some .local := k'
        rcases L.free _ (PySem.mem_of_lookup k) rfl with k2 | k2 <;> rw [show X.env.scope.names.lookup y = _ from k2] at k' <;> cases k'
      · rw [c1] at e'
        cases e'
        exact cellK (I.freeC y _ c1) z
  · obtain ⟨w', z⟩ := I.cell y c (up e)
    exact ⟨w', cellK (I.freeC y c (up e)) z⟩
  · obtain ⟨v, o, ho, hd⟩ := I.cell y c (up e)
    exact un.free c o ho (I.freeC y c (up e)) (by simp)
/-- a(), in the def that got the lambda -/
theorem act_lam {CXg : CXT} {Eg : XK} {Ng : List Str} {qg : Str} {sg : Scope} {g f c' : Addr} {cdg dV doc pm ctv : Value} {params : Arguments} {body : Expr} {scope : Scope} {bs : List (Str × Value)} {k i : Nat} {a : Str} {pn : List (Addr × Obj)} {xe : Value → Shared → Prop} {W : WX} {tb : XK → TE} {p1 p2 : Pos}
    (I : Inv X pins σ H s) (L : LamD X.N X.env.scope scope) (hf : s.heap.get? f = some (lamO (X.env.qual ++ "<lambda>") params body scope (cloFrom X.env.cells scope.names []) dV doc pm c' ctv)) (hfn : H f = none) (hfr : f ∉ frs X.stack)
    (hbind : ∀ s' : Shared, (∀ b o, s.heap.get? b = some o → H b = none → b ∉ frs X.stack → s'.heap.get? b = some o) → BindsTo s' (PySem.W.kdv_fn "<lambda>" (X.env.qual ++ "<lambda>") params (.expr body) scope (cloFrom X.env.cells scope.names []) dV doc pm (.ref c') ctv) ⟨[], []⟩ bs)
    (hloc : ∀ y ∈ bs, scope.names.lookup y.1 = some .local)
    (tk : Takes ((cxOf CXg X.prog X.w X.K X.mg X.base Ng qg sg g cdg X.A X.stack s H Eg).tr pn xe) W) (hr : Room (k + 1) (X.A.deeper (envOfC qg sg s.heap.objs.size g cdg)))
    (hbody : ∀ (A : Around) (outer : List Env) (s : Shared) (H : Hp) (E : XK), Room k (A.deeper (lamEnv X scope s.heap.objs.size f c')) → PE (lamCx X A outer s H E scope f c') body (tb E))
    (hN : Ng[i]? = some a) (hv : Vis sg a) (hd : (a == ("__debug__" : Str)) = false := by decide) (hcd : (a == ("__classdict__" : Str)) = false := by decide) :
    PE ((cxOf CXg X.prog X.w X.K X.mg X.base Ng qg sg g cdg X.A X.stack s H Eg).tr pn xe) (.Call (.Name a p1) [] [] p2)
      (fun σZ HZ Q => σZ[i]? = some (some (.ref f)) ∧ HZ c' = some (CodeO c' (X.env.qual ++ "<lambda>")) ∧ tb (WE W σZ) σ HZ Q) := by
  refine ⟨fun pinsZ sZ σZ HZ Q IZ h => ?_⟩
  obtain ⟨hs, hc, ht⟩ := h
  refine wpAny_Call_Name_kw (thn ((pe_var (pos := p1) (i := i) hN hv hd hcd).run pinsZ sZ σZ HZ (fun v H1 => v = .ref f ∧ H1 = HZ) IZ ⟨.ref f, hs, rfl, rfl⟩) fun u s1 ⟨v, H1, I1, r1, ev, eH⟩ => ?_)
  subst ev
  rw [eH] at I1
  obtain rfl : u = Value.ref f := r1
  have un : Un (frs X.stack) [] H HZ s.heap s1.heap := I1.base
  have old : ∀ b o, s.heap.get? b = some o → H b = none → b ∉ frs X.stack → s1.heap.get? b = some o := fun b o e n m => un.keep b o e n m (fun z => nomatch (show b ∈ ([] : List Addr) from z))
  have of1 := old f _ hf hfn hfr
  refine PySem.W.callWith_F0 ⟨_, _, _, _, of1⟩ ?_
  obtain ⟨⟨oc, vs, t, hoc, hdc, hvc⟩, _, _⟩ := I1.hok c' _ hc
  have rc : codeAny (model X.prog X.w) (X.A.deeper (envOfC qg sg s.heap.objs.size g cdg)) (.call (.ref f) ⟨[], []⟩) (CR (L2.CX X.prog X.w) (envOfC qg sg s.heap.objs.size g cdg :: X.stack) X.prog X.w HZ s1 Q (WE W σZ)) s1 := by
    refine PySem.W.kla_callFunE hr.depth of1 rfl L.co L.gen rfl ⟨c', oc, vs, t, rfl, hoc, hdc, hvc⟩ (hbind s1 old _ _ _ _ ?_)
    refine wpAny_newFunctionEnv (fun y hy => (L.own y hy).1) hloc (fun h₁ hns hsb => ⟨I1.nolimit.fresh _ hsb, ?_⟩) L.kind
    show codeAny _ _ (.expr body (lamEnv X scope s1.heap.objs.size f c')) _ _
    have kp : ∀ b o, s1.heap.get? b = some o → h₁.get? b = some o := fun b o e => hsb.extBut b o (Nat.ne_of_lt (Heap.lt_size e)) (Heap.get?_push_of_some _ e)
    have J : Inv (lamCx X (X.A.deeper (envOfC qg sg s.heap.objs.size g cdg)) (envOfC qg sg s.heap.objs.size g cdg :: X.stack) s1 HZ (WE W σZ) scope f c') [] σ HZ { s1 with heap := h₁, toks := s1.toks + bs.length } :=
      lam_start I L I1.env0 hr.hd un hns kp
    refine PySem.W.kla_codeExpr (wpAny_mono ((hbody _ _ s1 HZ (WE W σZ) (hr.deeper _)).run [] _ _ HZ Q J ht) (fun v s' hq => ?_) fun _ _ z => z)
    obtain ⟨w', H', J', rv, q⟩ := hq
    exact ⟨w', H', J'.os, J'.bare, J'.base, J'.hok, rv, q⟩
  have hx := passAt tk σZ
  refine wpAny_call (codeAny_mono rc fun r s' hq => ?_)
  cases r with
  | error e => exact hx pinsZ HZ s1 e s' I1 hq
  | ok fl =>
    cases fl with
    | ret u => exact I1.after hq
    | next => exact False.elim hq
    | brk => exact False.elim hq
    | cont => exact False.elim hq
end
/-- a def that calls what it got: TT, what it makes of the reading of the lambda's body -/
def GivesD (X : Cx) (Ng : List Str) (x : Str) (sg : Scope) (g : Addr) (cdg : Value) (bg : List Stmt) (a : Str) (q : Str) (TT : (XK → Hp → VK → Prop) → Hp → VK → Prop) : Prop :=
  ∀ (f c' : Addr) (s : Shared) (H : Hp) (Q : VK) (tl : XK → Hp → VK → Prop),
    (∀ (W : WX) (pn : List (Addr × Obj)) (xe : Value → Shared → Prop) (p1 p2 : Pos), Takes ((cxOf L2.CX0 X.prog X.w X.K X.mg X.base Ng x sg g cdg X.A X.stack s H L2.E0).tr pn xe) W →
      PE ((cxOf L2.CX0 X.prog X.w X.K X.mg X.base Ng x sg g cdg X.A X.stack s H L2.E0).tr pn xe) (.Call (.Name a p1) [] [] p2) (fun σZ HZ Q => σZ[0]? = some (some (.ref f)) ∧ HZ c' = some (CodeO c' q) ∧ tl (WE W σZ) HZ Q)) →
    H c' = some (CodeO c' q) → TT tl H Q →
    ∃ t, PSs (cxOf L2.CX0 X.prog X.w X.K X.mg X.base Ng x sg g cdg X.A X.stack s H L2.E0).nox bg t ∧ t { nx := fun _ H' => Q .non H', rt := Q } (L2.start Ng [.ref f]) H
/-- what is left to show where a lambda is handed over: the tables hold, before and behind -/
def tLamD (T : List (Addr × Str)) (TT : (XK → Hp → VK → Prop) → Hp → VK → Prop) (t : XK → TE) : TE := fun σ H Q => Tabs T H ∧ ∀ H1, ExtN H H1 → Tabs T H1 → TT (fun E H' Q' => t E σ H' Q') H1 Q
section
variable {X : Cx} {T : List (Addr × Str)} {TT : (XK → Hp → VK → Prop) → Hp → VK → Prop} {x a : Str} {g c P : Addr} {k : Nat} {st : Stmt} {fd : FuncData} {Ng : List Str} {params : Arguments} {body : Expr} {scope : Scope} {t : XK → TE} {p lpos pos : Pos}
/-- the def runs, once the lambda is there -/
theorem lam_run {bs : List (Str × Value)} {dV : Value} {pins : List (Addr × Obj)} {σ : L2.St} {H1 : Hp} {Q : VK} {s' : Shared} {f c' : Addr} {doc pm ctv : Value} (F : Fun X.K x x st g fd) (hb : L2.Binds X.K fd [a] []) (Sg : FnScope Ng [a] (defScope st)) (hNg : Ng[0]? = some a) (hva : Vis (defScope st) a)
    (hG : ∀ cdv, GivesD X Ng x (defScope st) g cdv (defBody st) a (X.env.qual ++ "<lambda>") TT) (hr : Room (k + 2) X.A) (L : LamD X.N X.env.scope scope)
    (hbody : ∀ (A : Around) (outer : List Env) (s : Shared) (H : Hp) (E : XK) (f c' : Addr), Room k (A.deeper (lamEnv X scope s.heap.objs.size f c')) → PE (lamCx X A outer s H E scope f c') body (t E))
    (I1 : Inv X pins σ H1 s') (hf : s'.heap.get? f = some (lamO (X.env.qual ++ "<lambda>") params body scope (cloFrom X.env.cells scope.names []) dV doc pm c' ctv)) (hfn : H1 f = none) (hfr : f ∉ frs X.stack) (hco : H1 c' = some (CodeO c' (X.env.qual ++ "<lambda>")))
    (hbind : ∀ s₂ : Shared, (∀ b o, s'.heap.get? b = some o → H1 b = none → b ∉ frs X.stack → s₂.heap.get? b = some o) → BindsTo s₂ (PySem.W.kdv_fn "<lambda>" (X.env.qual ++ "<lambda>") params (.expr body) scope (cloFrom X.env.cells scope.names []) dV doc pm (.ref c') ctv) ⟨[], []⟩ bs)
    (hloc : ∀ y ∈ bs, scope.names.lookup y.1 = some .local) (h : TT (fun E H' Q' => t E σ H' Q') H1 Q)
    (hd : (a == ("__debug__" : Str)) = false := by decide) (hcd : (a == ("__classdict__" : Str)) = false := by decide) : wpAny (model X.prog X.w) X.A (call (.ref g) [.ref f]) (EP X pins σ Q) X.xe s' := by
  obtain ⟨oc, od, kV, gdoc, gpm, an, cdv, ct, osl, rfl, lk, hcg⟩ := F.ex
  have rc : codeAny (model X.prog X.w) X.A (.call (.ref g) ⟨[.ref f], []⟩) (CR L2.CX0 X.stack X.prog X.w H1 s' Q L2.E0) s' := by
    refine run_ofS (N := Ng) (ps := [a]) (us := [.ref f]) (vs := [.ref f]) lk hcg Sg hr I1.env0 (hb s' [.ref f] I1.kIn rfl) (.cons rfl .nil) rfl fun hr' => ?_
    obtain ⟨t', ht', hq'⟩ := hG cdv f c' s' H1 Q (fun E H' Q' => t E σ H' Q') (fun W pn xe p1 p2 tk => act_lam (i := 0) I1 L hf hfn hfr hbind hloc tk hr' (fun A outer s H E hr2 => hbody A outer s H E f c' hr2) hNg hva hd hcd) hco h
    exact ⟨t', ht'.nox, hq'⟩
  refine wpAny_call (codeAny_mono rc fun r s2 hq => ?_)
  cases r with
  | error e => exact (show False from hq).elim
  | ok fl =>
    cases fl with
    | ret u => exact I1.after hq
    | next => exact False.elim hq
    | brk => exact False.elim hq
    | cont => exact False.elim hq
/-- x(lambda: body) -/
theorem pe_lamD (F : Fun X.K x x st g fd) (hg : Gl X x) (hm : X.mg x = some (.ref g)) (hb : L2.Binds X.K fd [a] []) (Sg : FnScope Ng [a] (defScope st)) (hNg : Ng[0]? = some a) (hva : Vis (defScope st) a)
    (hG : ∀ cdv, GivesD X Ng x (defScope st) g cdv (defBody st) a (X.env.qual ++ "<lambda>") TT) (TB : TabB X.base X.mg c P) (hcode : X.env.code = .ref c) (hmT : (P, X.env.qual ++ "<lambda>") ∈ T) (hu : ∀ p ∈ T, p.1 = P → p.2 = X.env.qual ++ "<lambda>") (hr : Room (k + 2) X.A) (L : LamD X.N X.env.scope scope)
    (hdef : defaultsOf params X.env = ([], [])) (hbind : ∀ (q : Str) (cl : List (Str × Addr)) (doc pm cv ctv : Value), bindArgs (PySem.W.kdv_fn "<lambda>" q params (.expr body) scope cl .none doc pm cv ctv) ⟨[], []⟩ = pure [])
    (hbody : ∀ (A : Around) (outer : List Env) (s : Shared) (H : Hp) (E : XK) (f c' : Addr), Room k (A.deeper (lamEnv X scope s.heap.objs.size f c')) → PE (lamCx X A outer s H E scope f c') body (t E))
    (hdb : (x == ("__debug__" : Str)) = false := by decide) (hd : (a == ("__debug__" : Str)) = false := by decide) (hcd : (a == ("__classdict__" : Str)) = false := by decide) :
    PE X (.Call (.Name x p) [.Lambda params body scope lpos] [] pos) (tLamD T TT t) := by
  refine ⟨fun pins s σ H Q I ⟨hT, h⟩ => wpAny_Call_Name_kw (ld_glob I hg hm ?_ hdb)⟩
  refine PySem.W.callWith_K (h₀ := X.base) I.ok.mod.kin F.kp ?_ (by rfl) (by rfl)
  show wpAny _ _ (spliced ((false, eval (.Lambda params body scope lpos) X.env) :: backTo pos (starEach [] X.env))) _ _ s
  refine Calls.spliced_cons (PySem.W.kla_eval hdef ?_)
  rw [makeFunction_eq]
  simp only [List.zip_nil_right, List.filterMap_nil, List.isEmpty_nil, if_true, pure_bind]
  refine lam_tail I TB hcode hmT hu hT (L.has I.ok) fun f c' doc pm ctv H1 s' I1 eN _ T1 _ hf hfn hfr hco => Calls.spliced_nil ⟨I1.kIn, ?_⟩
  exact lam_run F hb Sg hNg hva hG hr L hbody I1 hf hfn hfr hco (fun _ _ => .of_eq (hbind _ _ _ _ _ _)) (fun y hy => absurd hy List.not_mem_nil) (h H1 eN T1) hd hcd
/-- x(lambda y=0: body) -/
theorem pe_lamD1 {i : Int} {dpos : Pos} {dj : Nat} {bs : Value → List (Str × Value)} (F : Fun X.K x x st g fd) (hg : Gl X x) (hm : X.mg x = some (.ref g)) (hb : L2.Binds X.K fd [a] []) (Sg : FnScope Ng [a] (defScope st)) (hNg : Ng[0]? = some a) (hva : Vis (defScope st) a)
    (hG : ∀ cdv, GivesD X Ng x (defScope st) g cdv (defBody st) a (X.env.qual ++ "<lambda>") TT) (TB : TabB X.base X.mg c P) (hcode : X.env.code = .ref c) (hmT : (P, X.env.qual ++ "<lambda>") ∈ T) (hu : ∀ p ∈ T, p.1 = P → p.2 = X.env.qual ++ "<lambda>") (hr : Room (k + 2) X.A) (L : LamD X.N X.env.scope scope)
    (hdef : params.defaults = [.Constant (.int i) dj dpos]) (hkw : params.kw_defaults = [])
    (hbind : ∀ (q : Str) (cl : List (Str × Addr)) (t : Addr) (doc pm cv ctv : Value), ∃ kk : Option (Array Value) → Sem (List (Str × Value)), bindArgs (PySem.W.kdv_fn "<lambda>" q params (.expr body) scope cl (.ref t) doc pm cv ctv) ⟨[], []⟩ = seqItems? (.ref t) >>= kk ∧ ∀ v : Value, kk (some #[v]) = pure (bs v))
    (hloc : ∀ v, ∀ z ∈ bs v, scope.names.lookup z.1 = some .local)
    (hbody : ∀ (A : Around) (outer : List Env) (s : Shared) (H : Hp) (E : XK) (f c' : Addr), Room k (A.deeper (lamEnv X scope s.heap.objs.size f c')) → PE (lamCx X A outer s H E scope f c') body (t E))
    (hdb : (x == ("__debug__" : Str)) = false := by decide) (hd : (a == ("__debug__" : Str)) = false := by decide) (hcd : (a == ("__classdict__" : Str)) = false := by decide) :
    PE X (.Call (.Name x p) [.Lambda params body scope lpos] [] pos) (tLamD T TT t) := by
  refine ⟨fun pins s σ H Q I ⟨hT, h⟩ => wpAny_Call_Name_kw (ld_glob I hg hm ?_ hdb)⟩
  refine PySem.W.callWith_K (h₀ := X.base) I.ok.mod.kin F.kp ?_ (by rfl) (by rfl)
  show wpAny _ _ (spliced ((false, eval (.Lambda params body scope lpos) X.env) :: backTo pos (starEach [] X.env))) _ _ s
  refine Calls.spliced_cons (PySem.W.kdv_lam (by rw [hdef]; rfl) hkw ?_)
  rw [hdef]
  refine PySem.W.kdv_all1 (thn ((pe_int (X := X) (i := i) (j := dj) (pos := dpos)).run pins s σ H (fun v H1 => v = .int i ∧ H1 = H) I ⟨rfl, rfl⟩) fun u s1 ⟨v, H1, I1, r1, ev, eH⟩ => PySem.W.kdv_all0 ?_)
  subst ev
  rw [eH] at I1
  clear eH H1
  rw [makeFunction_eq]
  simp only [List.zip_nil_right, List.filterMap_nil, List.isEmpty_nil, List.isEmpty_cons, if_true, Bool.false_eq_true, if_false, pure_bind]
  refine wpAny_bind (wpAny_newTextTuple ?_)
  have keep : ∀ b o, s1.heap.get? b = some o → (s1.heap.push { cls := .type "tuple", data := .seq [u].toArray }).get? b = some o := fun b o e => Heap.get?_push_of_some _ e
  have I2 : Inv X pins σ H { s1 with heap := s1.heap.push { cls := .type "tuple", data := .seq [u].toArray } } := I1.kept keep
  have tn : H s1.heap.objs.size = none := I1.hok.fresh (Nat.le_refl _)
  have tfr : s1.heap.objs.size ∉ frs X.stack := fun z => by
    rcases List.mem_cons.mp (I1.stkSub _ z) with e | e
    · exact Nat.lt_irrefl _ (e ▸ I1.lt)
    · exact I1.nofs (Nat.le_refl _) e
  have hT2 : (s1.heap.push { cls := .type "tuple", data := .seq [u].toArray }).get? s1.heap.objs.size = some (PySem.W.kdv_tup [u]) := Heap.get?_push_size _ rfl
  refine lam_tail I2 TB hcode hmT hu hT (L.has I.ok) fun f c' doc pm ctv H1 s' I3 eN nn T1 stays hf hfn hfr hco => Calls.spliced_nil ⟨I3.kIn, ?_⟩
  have nP : s1.heap.objs.size ≠ P := fun z => by
    obtain ⟨ps, hP, _⟩ := hT _ hmT
    have hP : H P = some (.tbl ps) := hP
    rw [← z, tn] at hP
    cases hP
  have t3 := stays _ _ nP hT2
  have tn3 : H1 s1.heap.objs.size = none := nn _ (by show _ < (s1.heap.push _).objs.size; rw [Heap.size_push]; omega) tn
  obtain ⟨kk, b1, b2⟩ := hbind (X.env.qual ++ "<lambda>") (cloFrom X.env.cells scope.names []) s1.heap.objs.size doc pm (.ref c') ctv
  exact lam_run (bs := bs u) F hb Sg hNg hva hG hr L hbody I3 hf hfn hfr hco (fun s₂ old => .of_defaults (o := PySem.W.kdv_tup [u]) rfl (old _ _ t3 tn3 tfr) rfl b1 (b2 u)) (hloc u) (h H1 eN T1) hd hcd
end
end NC

set_option Elab.async false
set_option linter.all false
set_option maxRecDepth 100000
set_option maxHeartbeats 4000000
namespace NC
open PySem L2 LamX
/-- what the top has written of the exceptions that the law tells apart -/
structure TxtR (K : PySem.W.Frag) (mg : Str → Option Value) (B CF CN CQ : Addr) : Prop where
  gB : mg "CutError" = some (.ref B)
  gF : mg "BadFrame" = some (.ref CF)
  gN : mg "BadName" = some (.ref CN)
  gQ : mg "BadQuestion" = some (.ref CQ)
  xN : PySem.W.exmOne K (.ref CN) (.ref B) = some true
  xQ : PySem.W.exmOne K (.ref CQ) (.ref B) = some true
  nF : PySem.W.kitOne K (.ref CN) (.ref CF) = some false
  nN : PySem.W.kitOne K (.ref CN) (.ref CN) = some true
  nQ : PySem.W.kitOne K (.ref CN) (.ref CQ) = some false
  qF : PySem.W.kitOne K (.ref CQ) (.ref CF) = some false
  qN : PySem.W.kitOne K (.ref CQ) (.ref CN) = some false
  qQ : PySem.W.kitOne K (.ref CQ) (.ref CQ) = some true
  cN : ExcC K CN
  cQ : ExcC K CQ
  fN : XfC K CN
  noG : PySem.W.findIn K (.ref CN) "given" = some none
abbrev sRef : Stmt := top 38
abbrev nRef : List Str := ["_law_call", "_law_caught", "e"]
theorem scRef : FnScope nRef ["_law_call"] (defScope sRef) := ⟨rfl, rfl, rfl, by decide +kernel, rfl, by decide +kernel, by decide +kernel⟩
/-- what _law_refused makes of a call: told, or refused by a name, or by a question -/
def TRef (CN CQ : Addr) (tl : XK → Hp → VK → Prop) (H : Hp) (Q : VK) : Prop := ∀ (E' : XK) (Q' : VK),
  (∀ d v H', H' d = some (.xd [("given", v)]) → (∀ L H'', Same H' H'' → H'' L = some (.lst [.str "name", v]) → Q (.ref L) H'') → E' (.ref CN) (some d) H') →
  (∀ H', (∀ H'', Same H' H'' → Q (.str "question") H'') → E' (.ref CQ) none H') → (∀ v H', Q (.str "told") H' → Q' v H') → tl E' H Q'
theorem refused_gives {X : Cx} {K : PySem.W.Frag} {mg : Str → Option Value} {B CF CN CQ g : Addr} {cdg : Value} {q : Str} (hK : X.K = K) (hm : X.mg = mg) (T : Txt K mg) (R : TxtR K mg B CF CN CQ) :
    GivesD X nRef "_law_refused" (defScope sRef) g cdg (defBody sRef) "_law_call" q (TRef CN CQ) := by
  subst hK hm
  intro f c' s H Q tl act hc h
  have nd := scRef.nd
  refine ⟨_, pss_cons (ps_set (i := 1) nd rfl (.inl rfl) pe_non)
    (pss_cons (ps_try_keep (X := (cxOf L2.CX0 X.prog X.w X.K X.mg X.base nRef "_law_refused" (defScope sRef) g cdg X.A X.stack s H L2.E0).nox) (i := 2) (c := .ref B) (Wout := fun _ _ _ _ => False)
      (tb := fun W D σ H => σ[0]? = some (some (.ref f)) ∧ H c' = some (CodeO c' q) ∧ tl (WE W σ) H fun _ H1 => D.nx σ H1) rfl rfl rfl nd rfl rfl ⟨rfl, by decide, .inl R.gB⟩ LamX.takes0
      (fun W pn xe tk _ => pss_one (ps_expr (act W pn xe _ _ tk))) (fun a oe cls d pn z fv => pss_one (ps_set (i := 1) nd rfl (.inl rfl) (pv 2))))
    (pss_cons (ps_if (pt_cmp (pc_isN (pv 1))) (pss_one (ps_ret pe_str)) pss_nil)
    (pss_cons (ps_if (PW.pt (pw_or (pt_val (pe_callB call_isV rfl T.nIsi (by decide +kernel) (pa_cons (pv 1) (pa_cons (pe_glob (v := .ref CF) rfl R.gF rfl) pa_nil)))) (pw_or1 (pt_cmpR op_eq (pe_callB call_isV rfl T.nIsi (by decide +kernel) (pa_cons (pv 1) (pa_cons (pe_glob (v := .ref CN) rfl R.gN rfl) pa_nil)))
        (pe_callB call_isV rfl T.nIsi (by decide +kernel) (pa_cons (pv 1) (pa_cons (pe_glob (v := .ref CQ) rfl R.gQ rfl) pa_nil))) (nomark _))))) (pss_one (ps_ret pe_str)) pss_nil)
    (pss_one (ps_ret (pe_ifExp (pt_val (pe_callB call_isV rfl T.nIsi (by decide +kernel) (pa_cons (pv 1) (pa_cons (pe_glob (v := .ref CN) rfl R.gN rfl) pa_nil)))) (pe_lst (pa_cons pe_str (pa_cons (pe_xv (pv 1)) pa_nil))) pe_str)))))), ?_⟩
  refine ⟨rfl, hc, h _ _ (fun d v H' e k => ?_) (fun H' k => ?_) fun v H' k => ?_⟩
  · refine ⟨true, R.xN, fun _ a na => ⟨_, rfl, na, ?_⟩, fun z => by cases z⟩
    have e1 := (sameN (o := exv a (.ref CN) (some d)) na) _ _ e
    have s1 := sameN (o := exv a (.ref CN) (some d)) na
    have x1 : upd H' a (exv a (.ref CN) (some d)) a = some (exv a (.ref CN) (some d)) := upd_same
    generalize upd H' a (exv a (.ref CN) (some d)) = H1 at e1 s1 x1 ⊢
    have dd : ∀ dd, some d = some dd → ∃ fs, H1 dd = some (.xd fs) := fun dd z => by cases z; exact ⟨_, e1⟩
    refine ⟨_, rfl, _, rfl, iteF ?_⟩
    refine ⟨_, rfl, a, CN, some d, .ref CF, .ref CF, false, rfl, x1, dd, R.cN, fun u r => r, R.nF, _, rfl, iteF ?_⟩
    refine ⟨_, rfl, a, CN, some d, .ref CN, .ref CN, true, rfl, x1, dd, R.cN, fun u r => r, R.nN, ?_⟩
    refine ⟨_, rfl, a, CN, some d, .ref CQ, .ref CQ, false, rfl, x1, dd, R.cN, fun u r => r, R.nQ, rfl, _, rfl, iteF ?_⟩
    refine ⟨_, rfl, a, CN, some d, .ref CN, .ref CN, true, rfl, x1, dd, R.cN, fun u r => r, R.nN, _, rfl, iteT ?_⟩
    exact ⟨_, rfl, a, CN, d, _, v, rfl, x1, R.fN, R.noG, e1, rfl, by show 2 ≤ sizeLine; decide, fun L nL => k L _ (sameU s1 nL) upd_same⟩
  · refine ⟨true, R.xQ, fun _ a na => ⟨_, rfl, na, ?_⟩, fun z => by cases z⟩
    have s1 := sameN (o := exv a (.ref CQ) none) na
    have x1 : upd H' a (exv a (.ref CQ) none) a = some (exv a (.ref CQ) none) := upd_same
    generalize upd H' a (exv a (.ref CQ) none) = H1 at s1 x1 ⊢
    have dd : ∀ dd, (none : Option Addr) = some dd → ∃ fs, H1 dd = some (.xd fs) := fun dd z => by cases z
    refine ⟨_, rfl, _, rfl, iteF ?_⟩
    refine ⟨_, rfl, a, CQ, none, .ref CF, .ref CF, false, rfl, x1, dd, R.cQ, fun u r => r, R.qF, _, rfl, iteF ?_⟩
    refine ⟨_, rfl, a, CQ, none, .ref CN, .ref CN, false, rfl, x1, dd, R.cQ, fun u r => r, R.qN, ?_⟩
    refine ⟨_, rfl, a, CQ, none, .ref CQ, .ref CQ, true, rfl, x1, dd, R.cQ, fun u r => r, R.qQ, rfl, _, rfl, iteF ?_⟩
    refine ⟨_, rfl, a, CQ, none, .ref CN, .ref CN, false, rfl, x1, dd, R.cQ, fun u r => r, R.qN, _, rfl, iteF ?_⟩
    exact k _ s1
  · exact ⟨_, rfl, _, rfl, iteT k⟩
end NC

set_option Elab.async false
set_option linter.all false
set_option maxRecDepth 100000
set_option maxHeartbeats 4000000
namespace NC
open PySem L2 LamX
section
variable {K : PySem.W.Frag} {H H' : Hp}
theorem extT {a : Addr} {xs : List V} (e : ExtN H H') (h : SqT K H a xs) : SqT K H' a xs := by
  rcases h with (h | ⟨o, h⟩) | h
  · exact .inl (.inl (e _ _ h fun _ z => by cases z))
  · exact .inl (.inr ⟨o, e _ _ h fun _ z => by cases z⟩)
  · exact .inr h
theorem ext_lst {a : Addr} {xs : List V} (e : ExtN H H') (h : H a = some (.lst xs)) : H' a = some (.lst xs) := e _ _ h fun _ z => by cases z
theorem ext_dK {a : Addr} {kvs : List (Key × V)} (e : ExtN H H') (h : H a = some (.dK kvs)) : H' a = some (.dK kvs) := e _ _ h fun _ z => by cases z
theorem StAt.ext {t c l : Addr} {m i : Nat} (e : ExtN H H') (h : StAt K H t c l m i) : StAt K H' t c l m i := by
  obtain ⟨ns, h1, h2⟩ := h.cells
  obtain ⟨ms, h3, h4⟩ := h.lefts
  exact ⟨ext_dK e h.st, ⟨ns, ext_lst e h1, h2⟩, ⟨ms, ext_lst e h3, h4⟩, h.ne, h.ne2, h.pos, h.fit⟩
theorem FrAt.ext {p : Addr} {N : List Str} {F : List Fc} (e : ExtN H H') (h : FrAt K H p N F) : FrAt K H' p N F := by
  obtain ⟨pn, pf, fs, h1, h2, h3⟩ := h.ex
  exact ⟨pn, pf, fs, extT e h1, extT e h2, extT e h3.tup, Paired.imp (fun _ _ z => extT e z) h3.each⟩
theorem tabs_kp {T : List (Addr × Str)} {t c l : Addr} {m i : Nat} (h : StAt K H t c l m i) (k : Kp t l H H') (tb : Tabs T H) : Tabs T H' := by
  obtain ⟨ms, h3, _⟩ := h.lefts
  have ne : ∀ {b : Addr} {u : HO}, H b = some u → (∀ kvs, u ≠ .dK kvs) → (∀ xs, u ≠ .lst xs) → H' b = some u := fun {b u} e n1 n2 =>
    k b u (fun z => by rw [z, h.st] at e; exact n1 _ (Option.some.inj e).symm) (fun z => by rw [z, h3] at e; exact n2 _ (Option.some.inj e).symm) e
  intro p hp
  obtain ⟨ps, h1, h2, h4⟩ := tb p hp
  refine ⟨ps, ne h1 (fun _ z => by cases z) (fun _ z => by cases z), h2, fun pos cv hc => ?_⟩
  obtain ⟨c', e1, e2⟩ := h4 pos cv hc
  exact ⟨c', e1, ne e2 (fun _ z => by unfold CodeO at z; cases z) (fun _ z => by unfold CodeO at z; cases z)⟩
/-- the odd things that the law asks of -/
def OddAt (K : PySem.W.Frag) (H : Hp) (v : V) (d : PyData) : Prop :=
  (v = .non ∧ d = .none) ∨ (v = .str "zz" ∧ d = .str "zz") ∨ (v = .int 5 ∧ d = .int 5) ∨ (∃ a, v = .ref a ∧ H a = some (.tup [.str "a"]) ∧ d = .tuple [.str "a"]) ∨ (∃ a, v = .ref a ∧ H a = some (.lst [.str "a"]) ∧ d = .list [.str "a"]) ∨
    (v = .str "" ∧ d = .str "") ∨ (v = .bl true ∧ d = .bool true) ∨ ∃ a, v = .ref a ∧ H a = some (.dK []) ∧ d = .dict []
theorem OddAt.ext {v : V} {d : PyData} (e : ExtN H H') (h : OddAt K H v d) : OddAt K H' v d := by
  rcases h with h | h | h | ⟨a, h1, h2, h3⟩ | ⟨a, h1, h2, h3⟩ | h | h | ⟨a, h1, h2, h3⟩
  · exact .inl h
  · exact .inr (.inl h)
  · exact .inr (.inr (.inl h))
  · exact .inr (.inr (.inr (.inl ⟨a, h1, e _ _ h2 (fun _ z => by cases z), h3⟩)))
  · exact .inr (.inr (.inr (.inr (.inl ⟨a, h1, ext_lst e h2, h3⟩))))
  · exact .inr (.inr (.inr (.inr (.inr (.inl h)))))
  · exact .inr (.inr (.inr (.inr (.inr (.inr (.inl h))))))
  · exact .inr (.inr (.inr (.inr (.inr (.inr (.inr ⟨a, h1, ext_dK e h2, h3⟩))))))
theorem OddAt.odd {v : V} {d : PyData} (h : OddAt K H v d) : Odd K H v := by
  rcases h with ⟨rfl, _⟩ | ⟨rfl, _⟩ | ⟨rfl, _⟩ | ⟨a, rfl, h2, _⟩ | ⟨a, rfl, h2, _⟩ | ⟨rfl, _⟩ | ⟨rfl, _⟩ | ⟨a, rfl, h2, _⟩
  · exact .inr ⟨(fun z e => by cases e), _, .base .non, rfl⟩
  · exact .inl ⟨_, rfl⟩
  · exact .inr ⟨(fun z e => by cases e), _, .base (.int 5), rfl⟩
  · exact .inr ⟨(fun z e => by cases e), _, .base (.tup h2), rfl⟩
  · exact .inr ⟨(fun z e => by cases e), _, .base (.lst h2), rfl⟩
  · exact .inl ⟨_, rfl⟩
  · exact .inr ⟨(fun z e => by cases e), _, .base (.bl true), rfl⟩
  · exact .inr ⟨(fun z e => by cases e), _, .base (.dK h2), rfl⟩
theorem odd_non : Odd K H .non := .inr ⟨(fun z e => by cases e), _, .base .non, rfl⟩
theorem OddAt.no {n : Nat} (h7 : n ≤ 7) {v : V} {d : PyData} (h : OddAt K H v d) : isNm (nms n) v = false := by
  have k1 : ∀ n : Fin 8, isNm (nms n.val) (.str "zz") = false ∧ isNm (nms n.val) (.str "") = false := by decide +kernel
  obtain ⟨z1, z2⟩ := k1 ⟨n, by omega⟩
  rcases h with ⟨rfl, _⟩ | ⟨rfl, _⟩ | ⟨rfl, _⟩ | ⟨a, rfl, h2, _⟩ | ⟨a, rfl, h2, _⟩ | ⟨rfl, _⟩ | ⟨rfl, _⟩ | ⟨a, rfl, h2, _⟩
  · rfl
  · exact z1
  · rfl
  · rfl
  · rfl
  · exact z2
  · rfl
  · rfl
theorem OddAt.sh {v : V} {d : PyData} (h : OddAt K H v d) : ShI K H v d := by
  rcases h with ⟨rfl, rfl⟩ | ⟨rfl, rfl⟩ | ⟨rfl, rfl⟩ | ⟨a, rfl, h2, rfl⟩ | ⟨a, rfl, h2, rfl⟩ | ⟨rfl, rfl⟩ | ⟨rfl, rfl⟩ | ⟨a, rfl, h2, rfl⟩
  · exact ⟨rfl, by rw [PySem.sizeLine_eq]; decide +kernel, .inl ⟨.non, rfl⟩⟩
  · exact ⟨rfl, by rw [PySem.sizeLine_eq]; decide +kernel, .inl ⟨.str _, rfl⟩⟩
  · exact ⟨by decide +kernel, by rw [PySem.sizeLine_eq]; decide +kernel, .inl ⟨.int _, rfl⟩⟩
  · exact ⟨rfl, by rw [PySem.sizeLine_eq]; decide +kernel, .inl ⟨.tup (SqT.of h2) (.cons (.str _) .nil), rfl⟩⟩
  · exact ⟨rfl, by rw [PySem.sizeLine_eq]; decide +kernel, .inl ⟨.lst (SqL.of h2) (.cons (.str _) .nil), rfl⟩⟩
  · exact ⟨rfl, by rw [PySem.sizeLine_eq]; decide +kernel, .inl ⟨.str _, rfl⟩⟩
  · exact ⟨rfl, by rw [PySem.sizeLine_eq]; decide +kernel, .inl ⟨.bl _, rfl⟩⟩
  · exact ⟨rfl, by rw [PySem.sizeLine_eq]; decide +kernel, .inr ⟨a, rfl, rfl, .inl h2⟩⟩
/-- four times what is heard -/
def four (d : PyData) : List (List PyData) := [[.str "name", d], [.str "name", d], [.str "name", d], [.str "name", d]]
theorem OddAt.four {v : V} {d : PyData} (h : OddAt K H v d) : (PyData.list ((four d).map PyData.list)).depth ≤ 60 ∧ (PyData.list ((four d).map PyData.list)).shown.length ≤ sizeLine := by
  rcases h with ⟨_, rfl⟩ | ⟨_, rfl⟩ | ⟨_, rfl⟩ | ⟨a, _, _, rfl⟩ | ⟨a, _, _, rfl⟩ | ⟨_, rfl⟩ | ⟨_, rfl⟩ | ⟨a, _, _, rfl⟩ <;> exact ⟨by decide +kernel, by rw [PySem.sizeLine_eq]; decide +kernel⟩
theorem sh_name : ShI K H (.str "name") (.str "name") := ⟨rfl, by rw [PySem.sizeLine_eq]; decide +kernel, .inl ⟨.str _, rfl⟩⟩
theorem sh_four {v : V} {d : PyData} {X a1 a2 a3 a4 : Addr} (h : OddAt K H v d) (e : H X = some (.lst [.ref a1, .ref a2, .ref a3, .ref a4])) (h1 : H a1 = some (.lst [.str "name", v])) (h2 : H a2 = some (.lst [.str "name", v])) (h3 : H a3 = some (.lst [.str "name", v])) (h4 : H a4 = some (.lst [.str "name", v])) :
    ShT K H (.ref X) (.list ((NC.four d).map PyData.list)) := by
  have one : ∀ {a : Addr}, H a = some (.lst [.str "name", v]) → ∃ b ws, V.ref a = V.ref b ∧ SqL K H b ws ∧ Paired (ShI K H) ws [.str "name", d] := fun {a} e => ⟨a, _, rfl, SqL.of e, .cons sh_name (.cons h.sh .nil)⟩
  exact .two (SqL.of e) (fun z => by cases z) (.cons (one h1) (.cons (one h2) (.cons (one h3) (.cons (one h4) .nil)))) h.four.1 h.four.2
end
theorem same_dec {n : Nat} {F G : List Fc} (hF : Fr4 n F) (hG : Fr4 n G) : decide (K2.worldsM (nms n) F = K2.worldsM (nms n) G) = sameLev n F G := by
  have e := K2.same_iff (nms_nodup n) hF.On hG.On hF.wd hG.wd
  cases q : sameLev n F G with
  | true => exact decide_eq_true (e.mpr (sameLev_iff.mp q))
  | false =>
    refine decide_eq_false fun z => ?_
    have : sameLev n F G = true := sameLev_iff.mpr (e.mp z)
    rw [q] at this; cases this
/-- a value on the way, whatever follows -/
theorem tAsg_mid {te : TE} {g : TG} {D : Ends} {σ : L2.St} {H : Hp} (R : VK) (h : ∀ Q : VK, (∀ v H', R v H' → Q v H') → te σ H Q) (k : ∀ v H', R v H' → g v σ H' D.nx) : tAsg te g D σ H := h _ k
theorem tSeq_mid {a b : TS} {D : Ends} {σ : L2.St} {H : Hp} (R : L2.St → Hp → Prop) (h : ∀ D' : Ends, (∀ σ' H', R σ' H' → D'.nx σ' H') → a D' σ H) (k : ∀ σ' H', R σ' H' → b D σ' H') : tSeq a b D σ H := h _ k
end NC

set_option Elab.async false
set_option linter.all false
set_option maxRecDepth 100000
set_option maxHeartbeats 4000000
namespace NC
open PySem L2 PySem.Spec PyProof.Rows
section
variable {P : Program} {w : World} {K : PySem.W.Frag} {mg : Str → Option Value} {base : Heap}
/-! ### law -/
abbrev sLaw : Stmt := top 44
abbrev nLaw : List Str := ["_law_script", "_law_state", "_law_turn", "_law_kept", "_law_heard", "_law_frame_here", "_law_odd", "_law_other"]
theorem scLaw : FnScope nLaw ["_law_script"] (defScope sLaw) := ⟨rfl, rfl, rfl, by decide +kernel, rfl, by decide +kernel, by decide +kernel⟩
/-- the name of the law's lambdas -/
abbrev qLam : Str := (("law" : Str) ++ ".<locals>.") ++ "<lambda>"
def spLaw (K : PySem.W.Frag) (TP : Addr) : Sp := fun vs H Q _ => ∃ (a : Addr) (ns : List Int), vs = [.ref a] ∧ SqL K H a (ns.map V.int) ∧ ns.length ≤ 63 ∧ LamX.Tabs [(TP, qLam)] H ∧ ∀ H', Q (.bl true) H'
theorem ok_law {B CF CN CQ fa g c TP : Addr} {fd fdR : FuncData} (T : Txt K mg) (R : TxtR K mg B CF CN CQ) (FL : Fun K "law" "law" sLaw fa fd) (hcode : fd.code = .ref c) (TB : LamX.TabB base mg c TP)
    (FR : Fun K "_law_refused" "_law_refused" sRef g fdR) (hmR : mg "_law_refused" = some (.ref g))
    (DB : Df P w K mg base CX0 "_law_begin" ["_law_script"] 1 (spBegin K)) (D7 : Df P w K mg base CX0 "_law_seven_right" [] 7 (sp7R K)) (DF : Df P w K mg base CX0 "_law_frame" ["_law_state", "_law_most"] 3 (spFrame K))
    (DM : Df P w K mg base CX0 "_law_more" ["_law_state", "_law_frame_here"] 4 (spMore K)) (DD : Df P w K mg base CX0 "_law_draw" ["_law_state", "_law_many"] 2 (spDraw K)) (DP : DfG P w K mg base CX0 "_law_pairs_right" ["_law_frame_here"] 7 (spPR K))
    (DQ : DfG P w K mg base CX0 "_law_facts_right" ["_law_frame_here"] 7 (spPR K)) (DS : Df P w K mg base (L2.CX P w) "same_worlds" ["one", "other"] 6 (spSame K CQ)) (DW : Df P w K mg base CX0 "_law_worlds" ["_law_frame_here"] 1 (spWorlds K))
    (DT : Df P w K mg base (L2.CX P w) "told" ["frame", "a", "b"] 6 (spAsk K CN rTold)) (DY : Df P w K mg base (L2.CX P w) "way" ["frame", "a", "b"] 6 (spAsk K CN (rWay K))) : FnG P w K mg base CX0 9 fa fd ["_law_script"] (spLaw K TP) := by
  refine FnG.bodyC FL scLaw (fun vs H Q E h => ?_) (fun cdv A outer s H vs Q E hcd hg hr h => ?_)
  · obtain ⟨a, ns, rfl, _⟩ := h
    rfl
  · obtain ⟨a, ns, rfl, hS, hl, hT, k⟩ := h
    have nd := scLaw.nd
    have h64 := rm64 hr
    have h65 := rm65 hr
    have hg : (A.deeper (PyProof.Rows.envOfC "law" (defScope sLaw) s.heap.objs.size fa cdv)).guards = some [] := hg
    have hcd : cdv = .ref c := hcd.symm.trans hcode
    have r1 : Room 1 _ := hr.mono (by decide)
    have r2 : Room 2 _ := hr.mono (by decide)
    have r3 : Room 3 _ := hr.mono (by decide)
    have r4 : Room 4 _ := hr.mono (by decide)
    have r6 : Room 6 _ := hr.mono (by decide)
    have r7 : Room 7 _ := hr.mono (by decide)
    have hbR := FR.binds (ps := ["_law_call"]) (fun _ _ _ _ _ _ us hl => match us, hl with | [_], _ => rfl)
    refine ⟨_, (pss_cons (ps_set (i := 1) nd rfl (.inl rfl) (pe_df DB r1 pass0 (pa_cons (pv 0) pa_nil)))
       (pss_cons (ps_if (pt_not (pt_val (pe_df0 D7 r7 pass0))) (pss_one (ps_ret pe_bl)) pss_nil)
       (pss_cons (ps_for PassesOwn.never rfl (pi_range1 rfl T.nRange (pa_cons (pe_op op_add pe_int (pe_callB (call_min2 rfl) rfl T.nMin (by decide +kernel) (pa_cons pe_int (pa_cons (pe_len T.nLen (pv 0)) pa_nil)))) pa_nil)) (pg_name (i := 2) nd rfl (.inl rfl)) (pss_cons (ps_set (i := 5) nd rfl (.inr rfl) (pe_df DF r3 pass0 (pa_cons (pv 1) (pa_cons pe_int pa_nil))))
       (pss_cons (ps_set (i := 5) nd rfl (.inr rfl) (pe_ifExp (pt_cmpR op_eq (pe_df DD r2 pass0 (pa_cons (pv 1) (pa_cons pe_int pa_nil))) pe_int (nomark _)) (pe_df DM r4 pass0 (pa_cons (pv 1) (pa_cons (pv 5) pa_nil))) (pv 5)))
       (pss_cons (ps_asg (pe_tup (pa_cons (pe_ifExp (pt_cmpR op_eq (pe_df DD r2 pass0 (pa_cons (pv 1) (pa_cons pe_int pa_nil))) pe_int (nomark _)) (pe_df DM r4 pass0 (pa_cons (pv 1) (pa_cons (pv 5) pa_nil))) (pe_df DF r3 pass0 (pa_cons (pv 1) (pa_cons pe_int pa_nil)))) (pa_cons (pe_callB (call_show hg h65) rfl T.nRepr (by decide +kernel) (pa_cons (pv 5) pa_nil)) pa_nil))) (pg_tup rfl (pgs_cons (pg_name (i := 7) nd rfl (.inr rfl)) (pgs_cons (pg_name (i := 3) nd rfl (.inl rfl)) pgs_nil))))
       (pss_cons (ps_if (PW.pt (pw_or (pt_not (pt_val (pe_dfG DP hg r7 pass0 (pa_cons (pv 5) pa_nil)))) (pw_or1 (pt_not (pt_val (pe_dfG DQ hg r7 pass0 (pa_cons (pv 5) pa_nil))))))) (pss_one (ps_ret pe_bl)) pss_nil)
       (pss_cons (ps_if (pt_cmpR (op_eqD h64) (pe_ix ix_tup (pv 5) pe_int (fun _ _ => rfl)) (pe_ix ix_tup (pv 7) pe_int (fun _ _ => rfl)) (nomark _)) (pss_one (ps_if (pt_cmpR op_ne (pe_callB (call_show hg h65) rfl T.nRepr (by decide +kernel) (pa_cons (pe_df DS r6 passL (pa_cons (pv 5) (pa_cons (pv 7) pa_nil))) pa_nil)) (pe_callB (call_show hg h65) rfl T.nRepr (by decide +kernel) (pa_cons (pe_cmpR (op_eqD h64) (pe_df DW r1 pass0 (pa_cons (pv 5) pa_nil)) (pe_df DW r1 pass0 (pa_cons (pv 7) pa_nil)) (nomark _)) pa_nil)) (nomark _)) (pss_one (ps_ret pe_bl)) pss_nil)) (pss_one (ps_if (pt_cmpR op_ne (pe_lamD (k := 6) (TT := TRef CN CQ) FR rfl hmR hbR scRef rfl (.inl rfl) (fun cdv => refused_gives rfl rfl T R) TB hcd (List.mem_singleton.mpr rfl) (fun p hp _ => by rw [List.mem_singleton.mp hp]) hr (lamD_by (show lamDB nLaw (defScope sLaw) _ = true by decide +kernel)) rfl (fun _ _ _ _ _ _ => rfl) (fun A outer s H E f c' hr => (pe_df DS hr (passX rfl rfl rfl rfl) (pa_cons (pv 5) (pa_cons (pv 7) pa_nil))))) pe_str (nomark _)) (pss_one (ps_ret pe_bl)) pss_nil)))
       (pss_cons (ps_for PassesOwn.never rfl (pi_tup (pe_tup (pa_cons pe_non (pa_cons pe_str (pa_cons pe_int (pa_cons (pe_tup (pa_cons pe_str pa_nil)) (pa_cons (pe_lst (pa_cons pe_str pa_nil)) (pa_cons pe_str (pa_cons pe_bl (pa_cons pe_dnewK pa_nil)))))))))) (pg_name (i := 6) nd rfl (.inr rfl)) (pss_cons (ps_set (i := 4) nd rfl (.inl rfl) (pe_lst (pa_cons (pe_lamD (k := 6) (TT := TRef CN CQ) FR rfl hmR hbR scRef rfl (.inl rfl) (fun cdv => refused_gives rfl rfl T R) TB hcd (List.mem_singleton.mpr rfl) (fun p hp _ => by rw [List.mem_singleton.mp hp]) hr (lamD_by (show lamDB nLaw (defScope sLaw) _ = true by decide +kernel)) rfl (fun _ _ _ _ _ _ => rfl) (fun A outer s H E f c' hr => (pe_df DT hr (passX rfl rfl rfl rfl) (pa_cons (pv 5) (pa_cons (pv 6) (pa_cons pe_non pa_nil)))))) (pa_cons (pe_lamD1 (k := 6) (TT := TRef CN CQ) (bs := fun v => [("_law_y", v)]) FR rfl hmR hbR scRef rfl (.inl rfl) (fun cdv => refused_gives rfl rfl T R) TB hcd (List.mem_singleton.mpr rfl) (fun p hp _ => by rw [List.mem_singleton.mp hp]) hr (lamD_by (show lamDB nLaw (defScope sLaw) _ = true by decide +kernel)) rfl rfl (fun _ _ _ _ _ _ _ => ⟨_, rfl, fun _ => rfl⟩) (fun v z hz => by rw [List.mem_singleton.mp hz]; rfl) (fun A outer s H E f c' hr => (pe_df DY hr (passX rfl rfl rfl rfl) (pa_cons (pv 5) (pa_cons pe_str (pa_cons (pv 6) pa_nil)))))) pa_nil))))
       (pss_cons (ps_set (i := 4) nd rfl (.inl rfl) (pe_op op_cat (pv 4) (pe_lst (pa_cons (pe_lamD (k := 6) (TT := TRef CN CQ) FR rfl hmR hbR scRef rfl (.inl rfl) (fun cdv => refused_gives rfl rfl T R) TB hcd (List.mem_singleton.mpr rfl) (fun p hp _ => by rw [List.mem_singleton.mp hp]) hr (lamD_by (show lamDB nLaw (defScope sLaw) _ = true by decide +kernel)) rfl (fun _ _ _ _ _ _ => rfl) (fun A outer s H E f c' hr => (pe_df DT hr (passX rfl rfl rfl rfl) (pa_cons (pv 5) (pa_cons pe_str (pa_cons (pv 6) pa_nil)))))) pa_nil))))
       (pss_one (ps_if (pt_cmpR op_ne (pe_callB (call_show hg h65) rfl T.nRepr (by decide +kernel) (pa_cons (pe_op op_cat (pv 4) (pe_lst (pa_cons (pe_lamD (k := 6) (TT := TRef CN CQ) FR rfl hmR hbR scRef rfl (.inl rfl) (fun cdv => refused_gives rfl rfl T R) TB hcd (List.mem_singleton.mpr rfl) (fun p hp _ => by rw [List.mem_singleton.mp hp]) hr (lamD_by (show lamDB nLaw (defScope sLaw) _ = true by decide +kernel)) rfl (fun _ _ _ _ _ _ => rfl) (fun A outer s H E f c' hr => (pe_df DY hr (passX rfl rfl rfl rfl) (pa_cons (pv 5) (pa_cons (pv 6) (pa_cons pe_str pa_nil)))))) pa_nil))) pa_nil)) (pe_callB (call_show hg h65) rfl T.nRepr (by decide +kernel) (pa_cons (pe_op op_rep (pe_lst (pa_cons (pe_lst (pa_cons pe_str (pa_cons (pv 6) pa_nil))) pa_nil)) pe_int) pa_nil)) (nomark _)) (pss_one (ps_ret pe_bl)) pss_nil)))))
       (pss_one (ps_if (pt_cmpR op_ne (pe_callB (call_show hg h65) rfl T.nRepr (by decide +kernel) (pa_cons (pv 5) pa_nil)) (pv 3) (nomark _)) (pss_one (ps_ret pe_bl)) pss_nil)))))))))
       (pss_one (ps_ret pe_bl))))), ?_⟩
    refine ⟨_, rfl, a, ns, rfl, hS, hl, fun H1 t c l m s1 tn ln st1 => ?_⟩
    refine ⟨rfl, fun H2 s2 => ⟨_, rfl, iteF ?_⟩⟩
    have s12 := Same.trans s1 s2
    have hS2 : SqL K H2 a (ns.map V.int) := by
      rcases hS with (h | ⟨o, h⟩) | h
      · exact .inl (.inl (s12 _ _ h))
      · exact .inl (.inr ⟨o, s12 _ _ h⟩)
      · exact .inr h
    have st2 := st1.same s2
    have tb2 := hT.ext s12
    refine ⟨_, rfl, a, _, rfl, .inl hS2, _, _, rfl, _, _, rfl, rfl, _, rfl, ?_, ?_, ?_⟩
    · rw [List.length_map]
      split <;> omega
    · rw [List.length_map]
      split <;> omega
    have few : ((4 : Int) + (if ((ns.map V.int).length : Int) < 4 then ((ns.map V.int).length : Int) else 4)).toNat ≤ 8 := by
      rw [List.length_map]
      split <;> omega
    generalize ((4 : Int) + (if ((ns.map V.int).length : Int) < 4 then ((ns.map V.int).length : Int) else 4)).toNat = M at few ⊢
    refine for_it (walk_rg (n := M)) (fun i σ H' => ∃ a2 a3 a4 a5 a6 a7 j, σ = [some (.ref a), some (.ref t), a2, a3, a4, a5, a6, a7] ∧ StAt K H' t c l m j ∧ j ≤ 50 * i ∧ LamX.Tabs [(TP, qLam)] H')
      ⟨none, none, none, none, none, none, 0, rfl, st2, Nat.le_refl _, tb2⟩ (fun i σ H' _ _ => trivial) ?_ ?_
    rotate_left
    · rintro σ H3 ⟨a2, a3, a4, a5, a6, a7, j, rfl, _⟩
      exact k _
    clear tb2 st2 hS2 s12 s2 s1 st1 tn ln hS
    rintro i v σ H3 H4 hi ⟨a2, a3, a4, a5, a6, a7, j, rfl, st4, hj, tb4⟩ ⟨rfl, rfl⟩
    -- a frame
    refine ⟨_, rfl, t, c, l, m, j, rfl, st4, by omega, fun H5 p n F j5 k5 st5 hj5 hF h4 hl3 => ?_⟩
    have tb5 := tabs_kp st4 k5 tb4
    -- with a fact more, at times
    dsimp only [gName]
    refine tAsg_mid (R := fun v H7 => ∃ q F7 j7, v = .ref q ∧ StAt K H7 t c l m j7 ∧ j7 ≤ j + 24 ∧ LamX.Tabs [(TP, qLam)] H7 ∧ FrN K H7 q (nms n) F7 ∧ Fr4 n F7 ∧ F7.length ≤ 4) (fun Q kk => ?_) ?_
    · refine ⟨_, rfl, t, c, l, m, j5, 2, rfl, st5, by omega, by decide, by decide, fun H6 r k6 st6 hr6 => ⟨rfl, _, rfl, ?_⟩⟩
      have tb6 := tabs_kp st5 k6 tb5
      have hF6 := (st5.kt k6).fr hF
      refine ite2 (fun _ => ?_) (fun _ => ?_)
      · exact ⟨_, rfl, _, rfl, t, c, l, p, m, j5 + 1, n, F, rfl, st6, by omega, hF6, h4, by omega, fun H7 q F7 j7 k7 st7 hj7 hF7 h47 hl7 => kk _ _ ⟨q, F7, j7, rfl, st7, by omega, tabs_kp st6 k7 tb6, hF7, h47, by omega⟩⟩
      · exact ⟨_, rfl, kk _ _ ⟨p, F, j5 + 1, rfl, st6, by omega, tb6, hF6, h4, by omega⟩⟩
    clear tb5 hF h4 hl3 st5 hj5 k5 tb4 st4
    rintro v H7 ⟨q, F7, j7, rfl, st7, hj7, tb7, hF7, h47, hl7⟩
    -- another frame, and how this one looks
    have sw := sw_fr (F := F7) (Nat.le_trans h47.n4 (by decide)) h47.On (by omega)
    dsimp only [gName]
    refine tAsg_mid (R := fun v H9 => ∃ z q2 n2 F2 j9, v = .ref z ∧ SqT K H9 z [.ref q2, .str (frD (nms n) F7).shown] ∧ FrN K H9 q2 (nms n2) F2 ∧ Fr4 n2 F2 ∧ F2.length ≤ 5 ∧ FrN K H9 q (nms n) F7 ∧ StAt K H9 t c l m j9 ∧ j9 ≤ j + 50 ∧ LamX.Tabs [(TP, qLam)] H9) (fun Q kk => ?_) ?_
    · refine ⟨_, rfl, t, c, l, m, j7, 2, rfl, st7, by omega, by decide, by decide, fun H8 r k8 st8 hr8 => ⟨rfl, _, rfl, ?_⟩⟩
      have tb8 := tabs_kp st7 k8 tb7
      have hF8 := (st7.kt k8).fr hF7
      refine ite2 (fun _ => ?_) (fun _ => ?_)
      · refine ⟨_, rfl, _, rfl, t, c, l, q, m, j7 + 1, n, F7, rfl, st8, by omega, hF8, h47, by omega, fun H9 q2 F2 j9 k9 st9 hj9 hF2 h42 hl2 => ?_⟩
        have hF9 := (st8.kt k9).fr hF8
        refine ⟨_, rfl, _, _, rfl, sw.sh (by decide) (by decide) (dp_fr hF9.fr), by show 2 ≤ sizeLine; decide, fun z nz => kk _ _ ⟨z, q2, n, F2, j9, rfl, SqT.of upd_same, hF2.same (sameN nz), h42, by omega, hF9.same (sameN nz), st9.same (sameN nz), by omega, (tabs_kp st8 k9 tb8).ext (sameN nz)⟩⟩
      · refine ⟨_, rfl, t, c, l, m, j7 + 1, rfl, st8, by omega, fun H9 q2 n2 F2 j9 k9 st9 hj9 hF2 h42 hl2 => ?_⟩
        have hF9 := (st8.kt k9).fr hF8
        refine ⟨_, rfl, _, _, rfl, sw.sh (by decide) (by decide) (dp_fr hF9.fr), by show 2 ≤ sizeLine; decide, fun z nz => kk _ _ ⟨z, q2, n2, F2, j9, rfl, SqT.of upd_same, hF2.same (sameN nz), h42, by omega, hF9.same (sameN nz), st9.same (sameN nz), by omega, (tabs_kp st8 k9 tb8).ext (sameN nz)⟩⟩
    clear tb7 hF7 st7 hj7
    rintro v H9 ⟨z, q2, n2, F2, j9, rfl, tz, hF2, h42, hl2, hF9, st9, hj9, tb9⟩
    refine ⟨z, _, rfl, tz, rfl, _, _, rfl, _, _, rfl, rfl, ?_⟩
    refine ⟨_, rfl, q, n, F7, rfl, hF9, h47, by omega, fun H10 s10 => ⟨_, rfl, iteF ⟨_, rfl, q, n, F7, rfl, hF9.same s10, h47, by omega, fun H11 s11 => ⟨_, rfl, iteF ?_⟩⟩⟩⟩
    have s9 := Same.trans s10 s11
    have f1 := (hF9.same s9).fr
    have f2 := (hF2.same s9).fr
    have st11 := st9.same s9
    have tb11 := tb9.ext s9
    clear tz hF2 hF9 st9 tb9 s9 s10 s11
    dsimp only [tNext]
    refine tSeq_mid (R := fun σ' H' => σ' = [some (.ref a), some (.ref t), some (.int (i : Int)), some (.str (frD (nms n) F7).shown), a4, some (.ref q), a6, some (.ref q2)] ∧ StAt K H' t c l m j9 ∧ LamX.Tabs [(TP, qLam)] H' ∧ FrAt K H' q (nms n) F7) (fun D' kk => ?_) ?_
    · obtain ⟨pn, pf, fs, h1, h2, h3⟩ := f1.ex
      obtain ⟨qn, qf, gs, g1, g2, g3⟩ := f2.ex
      have ok7 := nms_ok (Nat.le_trans h47.n4 (by decide))
      have ok2 := nms_ok (Nat.le_trans h42.n4 (by decide))
      refine ⟨_, rfl, q, _, _, _, rfl, rfl, h1, rfl, _, rfl, q2, _, _, _, rfl, rfl, g1, rfl, sD (nms n), sD (nms n2), dp_s h2, dp_s g2, shaped_s ok7, shaped_s ok2, _, rfl, ?_⟩
      rw [eqv_s]
      by_cases e : n = n2
      · subst e
        rw [decide_eq_true rfl]
        refine iteT ?_
        have dB : ∀ (b : Bool) (H' : Hp), ShT K H' (.bl b) (.bool b) := fun b H' =>   .dat (.bl b) rfl rfl (show 0 ≤ 60 by decide) (by cases b <;> (rw [PySem.sizeLine_eq]; decide +kernel))
        refine ⟨_, rfl, _, rfl, q, q2, n, n, F7, F2, rfl, f1, h47.fit, f2, h42.fit, (fun z => absurd rfl z), fun _ H12 s12 => ⟨_, _, rfl, dB _ _, ?_⟩⟩
        refine ⟨_, rfl, q, nms n, F7, rfl, f1.same s12, nms_nodup n, by rw [nms_len]; exact h47.n1, by rw [nms_len]; exact h47.n4, h47.On, by omega, fun H13 L as s13 nL R13 => ?_⟩
        refine ⟨_, rfl, q2, nms n, F2, rfl, f2.same (Same.trans s12 s13), nms_nodup n, by rw [nms_len]; exact h42.n1, by rw [nms_len]; exact h42.n4, h42.On, by omega, fun H14 L2' as2 s14 nL2 R14 => ?_⟩
        refine ⟨wD _, wD _, dp_w (R13.same s14), dp_w R14, shaped_w _, shaped_w _, ?_⟩
        rw [eqv_w, same_dec h47 h42]
        refine ⟨_, _, rfl, dB _ _, rfl, _, rfl, ?_⟩
        rw [ne_self]
        have s15 := Same.trans s12 (Same.trans s13 s14)
        exact iteF (kk _ _ ⟨rfl, st11.same s15, tb11.ext s15, f1.same s15⟩)
      · rw [decide_eq_false fun z => e (nms_inj z)]
        refine iteF ⟨tb11, fun H12 e12 tb12 E' Q' hN hQ hT => ⟨_, rfl, _, rfl, q, q2, n, n2, F7, F2, rfl, f1.ext e12, h47.fit, f2.ext e12, h42.fit, (fun _ H13 s13 => hQ H13 fun H14 s14 => ?_), fun z => absurd z e⟩⟩
        refine ⟨rfl, _, rfl, ?_⟩
        rw [ne_self]
        have s15 := Same.trans s13 s14
        exact iteF (kk _ _ ⟨rfl, (st11.ext e12).same s15, tb12.ext s15, (f1.ext e12).same s15⟩)
    clear f1 f2 st11 tb11 h42 hl2
    rintro σ' H12 ⟨rfl, st12, tb12, f12⟩
    refine ⟨by show 1 ≤ sizeLine; decide, fun t1 n1 => ⟨by show 1 ≤ sizeLine; decide, fun l1 n2 => fun d1 n3 => ⟨by show 8 ≤ sizeLine; decide, fun z nz => ?_⟩⟩⟩
    have s13 := sameU (o := .tup [.non, .str "zz", .int 5, .ref t1, .ref l1, .str "", .bl true, .ref d1]) (sameU (o := .dK []) (sameU (o := .lst [.str "a"]) (sameN (o := .tup [.str "a"]) n1) n2) n3) nz
    have oz : (upd (upd (upd (upd H12 t1 (.tup [.str "a"])) l1 (.lst [.str "a"])) d1 (.dK [])) z (.tup [.non, .str "zz", .int 5, .ref t1, .ref l1, .str "", .bl true, .ref d1])) z = some (.tup [.non, .str "zz", .int 5, .ref t1, .ref l1, .str "", .bl true, .ref d1]) := upd_same
    have o1 : (upd (upd (upd (upd H12 t1 (.tup [.str "a"])) l1 (.lst [.str "a"])) d1 (.dK [])) z (.tup [.non, .str "zz", .int 5, .ref t1, .ref l1, .str "", .bl true, .ref d1])) t1 = some (.tup [.str "a"]) := (sameN nz) _ _ ((sameN n3) _ _ ((sameN n2) _ _ upd_same))
    have o2 : (upd (upd (upd (upd H12 t1 (.tup [.str "a"])) l1 (.lst [.str "a"])) d1 (.dK [])) z (.tup [.non, .str "zz", .int 5, .ref t1, .ref l1, .str "", .bl true, .ref d1])) l1 = some (.lst [.str "a"]) := (sameN nz) _ _ ((sameN n3) _ _ upd_same)
    have o3 : (upd (upd (upd (upd H12 t1 (.tup [.str "a"])) l1 (.lst [.str "a"])) d1 (.dK [])) z (.tup [.non, .str "zz", .int 5, .ref t1, .ref l1, .str "", .bl true, .ref d1])) d1 = some (.dK []) := (sameN nz) _ _ upd_same
    refine ⟨z, rfl, ⟨_, SqT.of oz⟩, ?_⟩
    have st13 := st12.same s13
    have tb13 := tb12.ext s13
    have f13 := f12.same s13
    generalize upd (upd (upd (upd H12 t1 (.tup [.str "a"])) l1 (.lst [.str "a"])) d1 (.dK [])) z (.tup [.non, .str "zz", .int 5, .ref t1, .ref l1, .str "", .bl true, .ref d1]) = H13 at oz o1 o2 o3 st13 tb13 f13 ⊢
    clear s13 st12 tb12 f12 n1 n2 n3 nz
    have n7 : n ≤ 7 := Nat.le_trans h47.n4 (by decide)
    have fit := h47.fit
    have isA : isNm (nms n) (.str "a") = true := decide_eq_true (List.mem_map.mpr ⟨0, List.mem_range.mpr h47.n1, by decide +kernel⟩)
    refine for_it walk_tup (fun jj σ H' => ∃ b4 b6, σ = [some (.ref a), some (.ref t), some (.int (i : Int)), some (.str (frD (nms n) F7).shown), b4, some (.ref q), b6, some (.ref q2)] ∧ LamX.ExtN H13 H' ∧ LamX.Tabs [(TP, qLam)] H')
      ⟨_, _, rfl, LamX.ExtN.refl _, tb13⟩ (fun _ _ _ _ ⟨_, _, _, e, _⟩ => extT e (SqT.of oz)) ?_ ?_
    rotate_left
    · rintro σ H14 ⟨b4, b6, rfl, e14, tb14⟩
      refine ⟨_, rfl, _, _, rfl, sw.sh (by decide) (by decide) (dp_fr (f13.ext e14)), _, rfl, rfl, _, rfl, ?_⟩
      rw [ne_self]
      exact iteF ⟨_, _, _, _, _, _, j9, rfl, st13.ext e14, by omega, tb14⟩
    rintro jj v σ H14 H14' hjj ⟨b4, b6, rfl, e14, tb14⟩ ⟨rfl, hv⟩
    obtain ⟨d, od⟩ : ∃ d, OddAt K H13 v d := by
      match jj, hv with
      | 0, hv => cases hv; exact ⟨_, .inl ⟨rfl, rfl⟩⟩
      | 1, hv => cases hv; exact ⟨_, .inr (.inl ⟨rfl, rfl⟩)⟩
      | 2, hv => cases hv; exact ⟨_, .inr (.inr (.inl ⟨rfl, rfl⟩))⟩
      | 3, hv => cases hv; exact ⟨_, .inr (.inr (.inr (.inl ⟨t1, rfl, o1, rfl⟩)))⟩
      | 4, hv => cases hv; exact ⟨_, .inr (.inr (.inr (.inr (.inl ⟨l1, rfl, o2, rfl⟩))))⟩
      | 5, hv => cases hv; exact ⟨_, .inr (.inr (.inr (.inr (.inr (.inl ⟨rfl, rfl⟩)))))⟩
      | 6, hv => cases hv; exact ⟨_, .inr (.inr (.inr (.inr (.inr (.inr (.inl ⟨rfl, rfl⟩))))))⟩
      | 7, hv => cases hv; exact ⟨_, .inr (.inr (.inr (.inr (.inr (.inr (.inr ⟨d1, rfl, o3, rfl⟩))))))⟩
      | m + 8, hv => simp at hv
    have no := od.no n7
    -- the odd thing first, then second
    have ask1 : ∀ {r : Nat → List Fc → Str → Str → Hp → VK → Prop} {u : V} {H' : Hp} {E' : XK} {Q' : VK}, LamX.ExtN H13 H' → Odd K H' u → (∀ d' H'', Same H' H'' → H'' d' = some (.xd [("given", v)]) → E' (.ref CN) (some d') H'') → spAsk K CN r [.ref q, v, u] H' Q' E' := fun {r u H' E' Q'} e ou kk =>
      ⟨q, n, F7, v, u, rfl, f13.ext e, fit, (od.ext e).odd, ou, (fun _ d' H'' s' _ e' => kk d' H'' s' e'), (fun z => by rw [no] at z; cases z), fun x y e1 _ hx _ => by
        rw [e1] at no
        exact absurd (show isNm (nms n) (.str x) = true from decide_eq_true hx) (by rw [no]; decide)⟩
    have ask2 : ∀ {r : Nat → List Fc → Str → Str → Hp → VK → Prop} {H' : Hp} {E' : XK} {Q' : VK}, LamX.ExtN H13 H' → (∀ d' H'', Same H' H'' → H'' d' = some (.xd [("given", v)]) → E' (.ref CN) (some d') H'') → spAsk K CN r [.ref q, .str "a", v] H' Q' E' := fun {r H' E' Q'} e kk =>
      ⟨q, n, F7, .str "a", v, rfl, f13.ext e, fit, .inl ⟨_, rfl⟩, (od.ext e).odd, (fun z => by rw [isA] at z; cases z), (fun _ _ d' H'' s' _ e' => kk d' H'' s' e'), fun x y _ e2 _ hy => by
        rw [e2] at no
        exact absurd (show isNm (nms n) (.str y) = true from decide_eq_true hy) (by rw [no]; decide)⟩
    refine ⟨tb14, fun H15 e15 tb15 E1 Q1 hN1 _ _ => ⟨_, rfl, _, rfl, ask1 (e14.trans e15) odd_non fun d1 H16 s16 e16 => hN1 d1 v H16 e16 fun L1 H17 s17 e17 => ?_⟩⟩
    have x17 := (e14.trans e15).trans (LamX.ExtN.of (Same.trans s16 s17))
    have tb17 := (tb15.ext s16).ext s17
    clear e14 e15 tb14 tb15 s16 s17 e16 hN1
    refine ⟨tb17, fun H18 e18 tb18 E2 Q2 hN2 _ _ => ⟨_, rfl, _, rfl, ask2 (x17.trans e18) fun d2 H19 s19 e19 => hN2 d2 v H19 e19 fun L2a H20 s20 e20 => ⟨by show 2 ≤ sizeLine; decide, fun X1 nX1 => ?_⟩⟩⟩
    have y20 := e18.trans (LamX.ExtN.of (sameU (o := .lst [.ref L1, .ref L2a]) (Same.trans s19 s20) nX1))
    have x21 := x17.trans y20
    have a1 := ext_lst y20 e17
    have a2 := (sameN (o := .lst [.ref L1, .ref L2a]) nX1) _ _ e20
    have tb21 := ((tb18.ext s19).ext s20).ext (sameN (o := .lst [.ref L1, .ref L2a]) nX1)
    have ex1 : upd H20 X1 (.lst [.ref L1, .ref L2a]) X1 = some (.lst [.ref L1, .ref L2a]) := upd_same
    dsimp only [gName]
    generalize upd H20 X1 (.lst [.ref L1, .ref L2a]) = H21 at y20 x21 a1 a2 tb21 ex1 ⊢
    clear y20 e18 tb18 s19 s20 e17 e20 e19 tb17 x17 nX1 hN2
    refine ⟨_, rfl, tb21, fun H22 e22 tb22 E3 Q3 hN3 _ _ => ⟨_, rfl, _, rfl, ask2 (x21.trans e22) fun d3 H23 s23 e23 => hN3 d3 v H23 e23 fun L3 H24 s24 e24 => ⟨by show 1 ≤ sizeLine; decide, fun X2 nX2 => ?_⟩⟩⟩
    have y25 := e22.trans (LamX.ExtN.of (sameU (o := .lst [.ref L3]) (Same.trans s23 s24) nX2))
    refine ⟨X1, X2, _, _, rfl, rfl, ext_lst y25 ex1, upd_same, by show 3 ≤ sizeLine; decide, fun X3 nX3 => ?_⟩
    have z3 := sameU (o := .lst ([.ref L1, .ref L2a] ++ [.ref L3])) (sameN (o := .lst [.ref L3]) nX2) nX3
    have y26 := (e22.trans (LamX.ExtN.of (Same.trans s23 s24))).trans (LamX.ExtN.of z3)
    have x26 := x21.trans y26
    have a1' := ext_lst y26 a1
    have a2' := ext_lst y26 a2
    have a3' := z3 _ _ e24
    have tb26 := ((tb22.ext s23).ext s24).ext z3
    have ex3 : upd (upd H24 X2 (.lst [.ref L3])) X3 (.lst ([.ref L1, .ref L2a] ++ [.ref L3])) X3 = some (.lst [.ref L1, .ref L2a, .ref L3]) := upd_same
    dsimp only [gName]
    generalize upd (upd H24 X2 (.lst [.ref L3])) X3 (.lst ([.ref L1, .ref L2a] ++ [.ref L3])) = H26 at x26 a1' a2' a3' tb26 ex3 z3 y26 ⊢
    clear y25 y26 z3 e22 tb22 s23 s24 e23 e24 a1 a2 tb21 ex1 x21 nX2 nX3 hN3
    refine ⟨_, rfl, tb26, fun H27 e27 tb27 E4 Q4 hN4 _ _ => ⟨_, rfl, _, rfl, ask1 (x26.trans e27) (.inl ⟨_, rfl⟩) fun d4 H28 s28 e28 => hN4 d4 v H28 e28 fun L4 H29 s29 e29 => ⟨by show 1 ≤ sizeLine; decide, fun X4 nX4 => ?_⟩⟩⟩
    have y30 := e27.trans (LamX.ExtN.of (sameU (o := .lst [.ref L4]) (Same.trans s28 s29) nX4))
    refine ⟨X3, X4, _, _, rfl, rfl, ext_lst y30 ex3, upd_same, by show 4 ≤ sizeLine; decide, fun X5 nX5 => ?_⟩
    have z5 := sameU (o := .lst ([.ref L1, .ref L2a, .ref L3] ++ [.ref L4])) (sameN (o := .lst [.ref L4]) nX4) nX5
    have y31 := (e27.trans (LamX.ExtN.of (Same.trans s28 s29))).trans (LamX.ExtN.of z5)
    have x31 := x26.trans y31
    have tb31 := ((tb27.ext s28).ext s29).ext z5
    have ex5 : upd (upd H29 X4 (.lst [.ref L4])) X5 (.lst ([.ref L1, .ref L2a, .ref L3] ++ [.ref L4])) X5 = some (.lst [.ref L1, .ref L2a, .ref L3, .ref L4]) := upd_same
    refine ⟨_, _, rfl, sh_four (od.ext x31) ex5 (ext_lst y31 a1') (ext_lst y31 a2') (ext_lst y31 a3') (z5 _ _ e29), ?_⟩
    generalize upd (upd H29 X4 (.lst [.ref L4])) X5 (.lst ([.ref L1, .ref L2a, .ref L3] ++ [.ref L4])) = H31 at x31 tb31 ⊢
    refine ⟨_, rfl, by show 2 ≤ sizeLine; decide, fun M1 nM1 => ⟨by show 1 ≤ sizeLine; decide, fun M2 nM2 => ⟨M2, 4, _, rfl, rfl, upd_same, by decide, by decide, by show 1 * 4 ≤ sizeLine; decide, fun M3 nM3 => ?_⟩⟩⟩
    have z6 := sameU (o := .lst (List.replicate (4 : Int).toNat [V.ref M1]).flatten) (sameU (o := .lst [.ref M1]) (sameN (o := .lst [.str "name", v]) nM1) nM2) nM3
    have em : upd (upd (upd H31 M1 (.lst [.str "name", v])) M2 (.lst [.ref M1])) M3 (.lst (List.replicate (4 : Int).toNat [V.ref M1]).flatten) M1 = some (.lst [.str "name", v]) := (sameN nM3) _ _ ((sameN nM2) _ _ upd_same)
    refine ⟨_, _, rfl, sh_four (od.ext (x31.trans (LamX.ExtN.of z6))) upd_same em em em em, rfl, _, rfl, ?_⟩
    rw [ne_self]
    exact iteF ⟨_, _, rfl, x31.trans (LamX.ExtN.of z6), tb31.ext z6⟩
end
end NC

set_option Elab.async false
set_option linter.all false
set_option maxRecDepth 100000
set_option maxHeartbeats 4000000
namespace NC
open PySem L2 PySem.Spec PyProof.Rows
theorem all_mk {l : PySem.W.OpenLaw} {w : World} {K : PySem.W.Frag} {h : Heap} {mg : Str → Option Value} {fa : Addr} (X : K.In h) (G : h.Ns mainGlobals mg) (hfa : mg "law" = some (.ref fa))
    {f0 : Addr} {oc0 kV0 dc0 pm0 cd0 ct0 : Value} {od0 an0 : Option Addr} {sl0 : Array (Option Value)}
    {f1 : Addr} {oc1 kV1 dc1 pm1 cd1 ct1 : Value} {od1 an1 : Option Addr} {sl1 : Array (Option Value)}
    {f2 : Addr} {oc2 kV2 dc2 pm2 cd2 ct2 : Value} {od2 an2 : Option Addr} {sl2 : Array (Option Value)}
    {f3 : Addr} {oc3 kV3 dc3 pm3 cd3 ct3 : Value} {od3 an3 : Option Addr} {sl3 : Array (Option Value)}
    {f4 : Addr} {oc4 kV4 dc4 pm4 cd4 ct4 : Value} {od4 an4 : Option Addr} {sl4 : Array (Option Value)}
    {f5 : Addr} {oc5 kV5 dc5 pm5 cd5 ct5 : Value} {od5 an5 : Option Addr} {sl5 : Array (Option Value)}
    {f6 : Addr} {oc6 kV6 dc6 pm6 cd6 ct6 : Value} {od6 an6 : Option Addr} {sl6 : Array (Option Value)}
    {f7 : Addr} {oc7 kV7 dc7 pm7 cd7 ct7 : Value} {od7 an7 : Option Addr} {sl7 : Array (Option Value)}
    {f8 : Addr} {oc8 kV8 dc8 pm8 cd8 ct8 : Value} {od8 an8 : Option Addr} {sl8 : Array (Option Value)}
    {f9 : Addr} {oc9 kV9 dc9 pm9 cd9 ct9 : Value} {od9 an9 : Option Addr} {sl9 : Array (Option Value)}
    {f10 : Addr} {oc10 kV10 dc10 pm10 cd10 ct10 : Value} {od10 an10 : Option Addr} {sl10 : Array (Option Value)}
    {f11 : Addr} {oc11 kV11 dc11 pm11 cd11 ct11 : Value} {od11 an11 : Option Addr} {sl11 : Array (Option Value)}
    {f12 : Addr} {oc12 kV12 dc12 pm12 cd12 ct12 : Value} {od12 an12 : Option Addr} {sl12 : Array (Option Value)}
    {f13 : Addr} {oc13 kV13 dc13 pm13 cd13 ct13 : Value} {od13 an13 : Option Addr} {sl13 : Array (Option Value)}
    {f14 : Addr} {oc14 kV14 dc14 pm14 cd14 ct14 : Value} {od14 an14 : Option Addr} {sl14 : Array (Option Value)}
    {f15 : Addr} {oc15 kV15 dc15 pm15 cd15 ct15 : Value} {od15 an15 : Option Addr} {sl15 : Array (Option Value)}
    {f16 : Addr} {oc16 kV16 dc16 pm16 cd16 ct16 : Value} {od16 an16 : Option Addr} {sl16 : Array (Option Value)}
    {f17 : Addr} {oc17 kV17 dc17 pm17 cd17 ct17 : Value} {od17 an17 : Option Addr} {sl17 : Array (Option Value)}
    {f18 : Addr} {oc18 kV18 dc18 pm18 cd18 ct18 : Value} {od18 an18 : Option Addr} {sl18 : Array (Option Value)}
    {f19 : Addr} {oc19 kV19 dc19 pm19 cd19 ct19 : Value} {od19 an19 : Option Addr} {sl19 : Array (Option Value)}
    {f20 : Addr} {oc20 kV20 dc20 pm20 cd20 ct20 : Value} {od20 an20 : Option Addr} {sl20 : Array (Option Value)}
    {f21 : Addr} {oc21 kV21 dc21 pm21 cd21 ct21 : Value} {od21 an21 : Option Addr} {sl21 : Array (Option Value)}
    {f22 : Addr} {oc22 kV22 dc22 pm22 cd22 ct22 : Value} {od22 an22 : Option Addr} {sl22 : Array (Option Value)}
    {f23 : Addr} {oc23 kV23 dc23 pm23 cd23 ct23 : Value} {od23 an23 : Option Addr} {sl23 : Array (Option Value)}
    {f24 : Addr} {oc24 kV24 dc24 pm24 cd24 ct24 : Value} {od24 an24 : Option Addr} {sl24 : Array (Option Value)}
    {f25 : Addr} {oc25 kV25 dc25 pm25 cd25 ct25 : Value} {od25 an25 : Option Addr} {sl25 : Array (Option Value)}
    {f26 : Addr} {oc26 kV26 dc26 pm26 cd26 ct26 : Value} {od26 an26 : Option Addr} {sl26 : Array (Option Value)}
    {f27 : Addr} {oc27 kV27 dc27 pm27 cd27 ct27 : Value} {od27 an27 : Option Addr} {sl27 : Array (Option Value)}
    {f28 : Addr} {oc28 kV28 dc28 pm28 cd28 ct28 : Value} {od28 an28 : Option Addr} {sl28 : Array (Option Value)}
    {f29 : Addr} {oc29 kV29 dc29 pm29 cd29 ct29 : Value} {od29 an29 : Option Addr} {sl29 : Array (Option Value)}
    {tk0 : Tok}
    {tk1 : Tok}
    {tk2 : Tok}
    {tk3 : Tok}
    {tk4 : Tok}
    {tk5 : Tok}
    {LV B CF CN CQ NN fI fL cL TP : Addr} {tv1 tv2 : Tok} {nv : Nat} {slv slI slL : Array (Option Value)} {nm q : Str} {bs bm sub : List Value} {sn : List Str} {ab : Bool} {col : Option Bool} {dd odI anI odL anL : Option Addr} {m0 m1 m2 m3 m5 : Option Value} {ocI kVI dcI pmI cdI ctI ocL kVL dcL pmL ctL : Value}
    (a0 : PySem.W.nsIn K mainGlobals "_law_seven_right" = some (some (.ref f0))) (l0 : K.lookup f0 = some ⟨oc0, od0, .func (PySem.W.fnOf "_law_seven_right" "_law_seven_right" (defArgs s7R) (defBody s7R) (defScope s7R) .none kV0 dc0 pm0 an0 cd0 ct0), sl0⟩) (c0 : PySem.W.codeIn K cd0 "_law_seven_right" = true) (k0 : PySem.W.keepIn K (.ref f0) = true)
    (a1 : PySem.W.nsIn K mainGlobals "is_word" = some (some (.ref f1))) (l1 : K.lookup f1 = some ⟨oc1, od1, .func (PySem.W.fnOf "is_word" "is_word" (defArgs sWord) (defBody sWord) (defScope sWord) .none kV1 dc1 pm1 an1 cd1 ct1), sl1⟩) (c1 : PySem.W.codeIn K cd1 "is_word" = true) (k1 : PySem.W.keepIn K (.ref f1) = true)
    (a2 : PySem.W.nsIn K mainGlobals "is_name" = some (some (.ref f2))) (l2 : K.lookup f2 = some ⟨oc2, od2, .func (PySem.W.fnOf "is_name" "is_name" (defArgs sName) (defBody sName) (defScope sName) .none kV2 dc2 pm2 an2 cd2 ct2), sl2⟩) (c2 : PySem.W.codeIn K cd2 "is_name" = true) (k2 : PySem.W.keepIn K (.ref f2) = true)
    (a3 : PySem.W.nsIn K mainGlobals "is_fact" = some (some (.ref f3))) (l3 : K.lookup f3 = some ⟨oc3, od3, .func (PySem.W.fnOf "is_fact" "is_fact" (defArgs sFact) (defBody sFact) (defScope sFact) .none kV3 dc3 pm3 an3 cd3 ct3), sl3⟩) (c3 : PySem.W.codeIn K cd3 "is_fact" = true) (k3 : PySem.W.keepIn K (.ref f3) = true)
    (a4 : PySem.W.nsIn K mainGlobals "names_fault" = some (some (.ref f4))) (l4 : K.lookup f4 = some ⟨oc4, od4, .func (PySem.W.fnOf "names_fault" "names_fault" (defArgs sNamesF) (defBody sNamesF) (defScope sNamesF) .none kV4 dc4 pm4 an4 cd4 ct4), sl4⟩) (c4 : PySem.W.codeIn K cd4 "names_fault" = true) (k4 : PySem.W.keepIn K (.ref f4) = true)
    (a5 : PySem.W.nsIn K mainGlobals "facts_fault" = some (some (.ref f5))) (l5 : K.lookup f5 = some ⟨oc5, od5, .func (PySem.W.fnOf "facts_fault" "facts_fault" (defArgs sFactsF) (defBody sFactsF) (defScope sFactsF) .none kV5 dc5 pm5 an5 cd5 ct5), sl5⟩) (c5 : PySem.W.codeIn K cd5 "facts_fault" = true) (k5 : PySem.W.keepIn K (.ref f5) = true)
    (a6 : PySem.W.nsIn K mainGlobals "need_form" = some (some (.ref f6))) (l6 : K.lookup f6 = some ⟨oc6, od6, .func (PySem.W.fnOf "need_form" "need_form" (defArgs sForm) (defBody sForm) (defScope sForm) .none kV6 dc6 pm6 an6 cd6 ct6), sl6⟩) (c6 : PySem.W.codeIn K cd6 "need_form" = true) (k6 : PySem.W.keepIn K (.ref f6) = true)
    (a7 : PySem.W.nsIn K mainGlobals "levels_of" = some (some (.ref f7))) (l7 : K.lookup f7 = some ⟨oc7, od7, .func (PySem.W.fnOf "levels_of" "levels_of" (defArgs sLevels) (defBody sLevels) (defScope sLevels) .none kV7 dc7 pm7 an7 cd7 ct7), sl7⟩) (c7 : PySem.W.codeIn K cd7 "levels_of" = true) (k7 : PySem.W.keepIn K (.ref f7) = true)
    (a8 : PySem.W.nsIn K mainGlobals "is_sound" = some (some (.ref f8))) (l8 : K.lookup f8 = some ⟨oc8, od8, .func (PySem.W.fnOf "is_sound" "is_sound" (defArgs sSound) (defBody sSound) (defScope sSound) .none kV8 dc8 pm8 an8 cd8 ct8), sl8⟩) (c8 : PySem.W.codeIn K cd8 "is_sound" = true) (k8 : PySem.W.keepIn K (.ref f8) = true)
    (a9 : PySem.W.nsIn K mainGlobals "need_frame" = some (some (.ref f9))) (l9 : K.lookup f9 = some ⟨oc9, od9, .func (PySem.W.fnOf "need_frame" "need_frame" (defArgs sNeedF) (defBody sNeedF) (defScope sNeedF) .none kV9 dc9 pm9 an9 cd9 ct9), sl9⟩) (c9 : PySem.W.codeIn K cd9 "need_frame" = true) (k9 : PySem.W.keepIn K (.ref f9) = true)
    (a10 : PySem.W.nsIn K mainGlobals "need_name" = some (some (.ref f10))) (l10 : K.lookup f10 = some ⟨oc10, od10, .func (PySem.W.fnOf "need_name" "need_name" (defArgs sNeedN) (defBody sNeedN) (defScope sNeedN) .none kV10 dc10 pm10 an10 cd10 ct10), sl10⟩) (c10 : PySem.W.codeIn K cd10 "need_name" = true) (k10 : PySem.W.keepIn K (.ref f10) = true)
    (a11 : PySem.W.nsIn K mainGlobals "told" = some (some (.ref f11))) (l11 : K.lookup f11 = some ⟨oc11, od11, .func (PySem.W.fnOf "told" "told" (defArgs sTold) (defBody sTold) (defScope sTold) .none kV11 dc11 pm11 an11 cd11 ct11), sl11⟩) (c11 : PySem.W.codeIn K cd11 "told" = true) (k11 : PySem.W.keepIn K (.ref f11) = true)
    (a12 : PySem.W.nsIn K mainGlobals "same_worlds" = some (some (.ref f12))) (l12 : K.lookup f12 = some ⟨oc12, od12, .func (PySem.W.fnOf "same_worlds" "same_worlds" (defArgs sSame) (defBody sSame) (defScope sSame) .none kV12 dc12 pm12 an12 cd12 ct12), sl12⟩) (c12 : PySem.W.codeIn K cd12 "same_worlds" = true) (k12 : PySem.W.keepIn K (.ref f12) = true)
    (a13 : PySem.W.nsIn K mainGlobals "without_fact" = some (some (.ref f13))) (l13 : K.lookup f13 = some ⟨oc13, od13, .func (PySem.W.fnOf "without_fact" "without_fact" (defArgs sBut) (defBody sBut) (defScope sBut) .none kV13 dc13 pm13 an13 cd13 ct13), sl13⟩) (c13 : PySem.W.codeIn K cd13 "without_fact" = true) (k13 : PySem.W.keepIn K (.ref f13) = true)
    (a14 : PySem.W.nsIn K mainGlobals "needless_facts" = some (some (.ref f14))) (l14 : K.lookup f14 = some ⟨oc14, od14, .func (PySem.W.fnOf "needless_facts" "needless_facts" (defArgs sIdle) (defBody sIdle) (defScope sIdle) .none kV14 dc14 pm14 an14 cd14 ct14), sl14⟩) (c14 : PySem.W.codeIn K cd14 "needless_facts" = true) (k14 : PySem.W.keepIn K (.ref f14) = true)
    (a15 : PySem.W.nsIn K mainGlobals "way_in" = some (some (.ref f15))) (l15 : K.lookup f15 = some ⟨oc15, od15, .func (PySem.W.fnOf "way_in" "way_in" (defArgs sWayIn) (defBody sWayIn) (defScope sWayIn) .none kV15 dc15 pm15 an15 cd15 ct15), sl15⟩) (c15 : PySem.W.codeIn K cd15 "way_in" = true) (k15 : PySem.W.keepIn K (.ref f15) = true)
    (a16 : PySem.W.nsIn K mainGlobals "way" = some (some (.ref f16))) (l16 : K.lookup f16 = some ⟨oc16, od16, .func (PySem.W.fnOf "way" "way" (defArgs sWay) (defBody sWay) (defScope sWay) .none kV16 dc16 pm16 an16 cd16 ct16), sl16⟩) (c16 : PySem.W.codeIn K cd16 "way" = true) (k16 : PySem.W.keepIn K (.ref f16) = true)
    (a17 : PySem.W.nsIn K mainGlobals "_law_mixed" = some (some (.ref f17))) (l17 : K.lookup f17 = some ⟨oc17, od17, .func (PySem.W.fnOf "_law_mixed" "_law_mixed" (defArgs sMixed) (defBody sMixed) (defScope sMixed) .none kV17 dc17 pm17 an17 cd17 ct17), sl17⟩) (c17 : PySem.W.codeIn K cd17 "_law_mixed" = true) (k17 : PySem.W.keepIn K (.ref f17) = true)
    (a18 : PySem.W.nsIn K mainGlobals "_law_draw" = some (some (.ref f18))) (l18 : K.lookup f18 = some ⟨oc18, od18, .func (PySem.W.fnOf "_law_draw" "_law_draw" (defArgs sDraw) (defBody sDraw) (defScope sDraw) .none kV18 dc18 pm18 an18 cd18 ct18), sl18⟩) (c18 : PySem.W.codeIn K cd18 "_law_draw" = true) (k18 : PySem.W.keepIn K (.ref f18) = true)
    (a19 : PySem.W.nsIn K mainGlobals "_law_begin" = some (some (.ref f19))) (l19 : K.lookup f19 = some ⟨oc19, od19, .func (PySem.W.fnOf "_law_begin" "_law_begin" (defArgs sBegin) (defBody sBegin) (defScope sBegin) .none kV19 dc19 pm19 an19 cd19 ct19), sl19⟩) (c19 : PySem.W.codeIn K cd19 "_law_begin" = true) (k19 : PySem.W.keepIn K (.ref f19) = true)
    (a20 : PySem.W.nsIn K mainGlobals "_law_worlds" = some (some (.ref f20))) (l20 : K.lookup f20 = some ⟨oc20, od20, .func (PySem.W.fnOf "_law_worlds" "_law_worlds" (defArgs sWorlds) (defBody sWorlds) (defScope sWorlds) .none kV20 dc20 pm20 an20 cd20 ct20), sl20⟩) (c20 : PySem.W.codeIn K cd20 "_law_worlds" = true) (k20 : PySem.W.keepIn K (.ref f20) = true)
    (a21 : PySem.W.nsIn K mainGlobals "_law_of" = some (some (.ref f21))) (l21 : K.lookup f21 = some ⟨oc21, od21, .func (PySem.W.fnOf "_law_of" "_law_of" (defArgs sOf) (defBody sOf) (defScope sOf) .none kV21 dc21 pm21 an21 cd21 ct21), sl21⟩) (c21 : PySem.W.codeIn K cd21 "_law_of" = true) (k21 : PySem.W.keepIn K (.ref f21) = true)
    (a22 : PySem.W.nsIn K mainGlobals "_law_frame" = some (some (.ref f22))) (l22 : K.lookup f22 = some ⟨oc22, od22, .func (PySem.W.fnOf "_law_frame" "_law_frame" (defArgs sFrame) (defBody sFrame) (defScope sFrame) .none kV22 dc22 pm22 an22 cd22 ct22), sl22⟩) (c22 : PySem.W.codeIn K cd22 "_law_frame" = true) (k22 : PySem.W.keepIn K (.ref f22) = true)
    (a23 : PySem.W.nsIn K mainGlobals "_law_more" = some (some (.ref f23))) (l23 : K.lookup f23 = some ⟨oc23, od23, .func (PySem.W.fnOf "_law_more" "_law_more" (defArgs sMore) (defBody sMore) (defScope sMore) .none kV23 dc23 pm23 an23 cd23 ct23), sl23⟩) (c23 : PySem.W.codeIn K cd23 "_law_more" = true) (k23 : PySem.W.keepIn K (.ref f23) = true)
    (a24 : PySem.W.nsIn K mainGlobals "_law_leads" = some (some (.ref f24))) (l24 : K.lookup f24 = some ⟨oc24, od24, .func (PySem.W.fnOf "_law_leads" "_law_leads" (defArgs sLeads) (defBody sLeads) (defScope sLeads) .none kV24 dc24 pm24 an24 cd24 ct24), sl24⟩) (c24 : PySem.W.codeIn K cd24 "_law_leads" = true) (k24 : PySem.W.keepIn K (.ref f24) = true)
    (a25 : PySem.W.nsIn K mainGlobals "_law_is_path" = some (some (.ref f25))) (l25 : K.lookup f25 = some ⟨oc25, od25, .func (PySem.W.fnOf "_law_is_path" "_law_is_path" (defArgs sIsP) (defBody sIsP) (defScope sIsP) .none kV25 dc25 pm25 an25 cd25 ct25), sl25⟩) (c25 : PySem.W.codeIn K cd25 "_law_is_path" = true) (k25 : PySem.W.keepIn K (.ref f25) = true)
    (a26 : PySem.W.nsIn K mainGlobals "_law_due" = some (some (.ref f26))) (l26 : K.lookup f26 = some ⟨oc26, od26, .func (PySem.W.fnOf "_law_due" "_law_due" (defArgs sDue) (defBody sDue) (defScope sDue) .none kV26 dc26 pm26 an26 cd26 ct26), sl26⟩) (c26 : PySem.W.codeIn K cd26 "_law_due" = true) (k26 : PySem.W.keepIn K (.ref f26) = true)
    (a27 : PySem.W.nsIn K mainGlobals "_law_pairs_right" = some (some (.ref f27))) (l27 : K.lookup f27 = some ⟨oc27, od27, .func (PySem.W.fnOf "_law_pairs_right" "_law_pairs_right" (defArgs sPR) (defBody sPR) (defScope sPR) .none kV27 dc27 pm27 an27 cd27 ct27), sl27⟩) (c27 : PySem.W.codeIn K cd27 "_law_pairs_right" = true) (k27 : PySem.W.keepIn K (.ref f27) = true)
    (a28 : PySem.W.nsIn K mainGlobals "_law_facts_right" = some (some (.ref f28))) (l28 : K.lookup f28 = some ⟨oc28, od28, .func (PySem.W.fnOf "_law_facts_right" "_law_facts_right" (defArgs sFR) (defBody sFR) (defScope sFR) .none kV28 dc28 pm28 an28 cd28 ct28), sl28⟩) (c28 : PySem.W.codeIn K cd28 "_law_facts_right" = true) (k28 : PySem.W.keepIn K (.ref f28) = true)
    (a29 : PySem.W.nsIn K mainGlobals "_law_refused" = some (some (.ref f29))) (l29 : K.lookup f29 = some ⟨oc29, od29, .func (PySem.W.fnOf "_law_refused" "_law_refused" (defArgs sRef) (defBody sRef) (defScope sRef) .none kV29 dc29 pm29 an29 cd29 ct29), sl29⟩) (c29 : PySem.W.codeIn K cd29 "_law_refused" = true) (k29 : PySem.W.keepIn K (.ref f29) = true)
    (z0 : PySem.W.nsIn K mainGlobals "isinstance" = some none)
    (z1 : PySem.W.nsIn K mainGlobals "str" = some none)
    (z2 : PySem.W.nsIn K mainGlobals "len" = some none)
    (z3 : PySem.W.nsIn K mainGlobals "all" = some none)
    (z4 : PySem.W.nsIn K mainGlobals "tuple" = some none)
    (z5 : PySem.W.nsIn K mainGlobals "enumerate" = some none)
    (z6 : PySem.W.nsIn K mainGlobals "max" = some none)
    (z7 : PySem.W.nsIn K mainGlobals "range" = some none)
    (z8 : PySem.W.nsIn K mainGlobals "int" = some none)
    (z9 : PySem.W.nsIn K mainGlobals "list" = some none)
    (z10 : PySem.W.nsIn K mainGlobals "dict" = some none)
    (z11 : PySem.W.nsIn K mainGlobals "zip" = some none)
    (z12 : PySem.W.nsIn K mainGlobals "sorted" = some none)
    (z13 : PySem.W.nsIn K mainGlobals "repr" = some none)
    (z14 : PySem.W.nsIn K mainGlobals "min" = some none)
    (y0 : PySem.W.nsIn K mainGlobals "LETTERS" = some (some (.str "abcdefghijklmnopqrstuvwxyz" tk0)))
    (y1 : PySem.W.nsIn K mainGlobals "MOST_LETTERS" = some (some (.int 6 tk1)))
    (y2 : PySem.W.nsIn K mainGlobals "MOST_NAMES" = some (some (.int 7 tk2)))
    (y3 : PySem.W.nsIn K mainGlobals "MOST_FACTS" = some (some (.int 60 tk3)))
    (y4 : PySem.W.nsIn K mainGlobals "UPTO" = some (some (.str "upto" tk4)))
    (y5 : PySem.W.nsIn K mainGlobals "AHEAD" = some (some (.str "ahead" tk5)))
    (aV : PySem.W.nsIn K mainGlobals "LEVELS" = some (some (.ref LV)))
    (lV : K.lookup LV = some ⟨.type "tuple", none, .seq #[.none, .str "upto" tv1, .str "ahead" tv2] nv, slv⟩)
    (gB : PySem.W.nsIn K mainGlobals "CutError" = some (some (.ref B)))
    (gF : PySem.W.nsIn K mainGlobals "BadFrame" = some (some (.ref CF)))
    (gN : PySem.W.nsIn K mainGlobals "BadName" = some (some (.ref CN)))
    (gQ : PySem.W.nsIn K mainGlobals "BadQuestion" = some (some (.ref CQ)))
    (b1 : PySem.W.specialIn K (.ref B) "__getattribute__" = some (some (.builtin "type.__getattribute__")))
    (b2 : PySem.W.typeIn K (.ref B) = some (.type "type"))
    (b3 : PySem.W.readsIn K B (.type "type") = true)
    (b4 : PySem.W.findCls K (.ref B) (.type "type") "__init__" = some (.val (.builtin "ValueError.__init__")))
    (b5 : PySem.W.subIn K (.ref B) (.type "BaseException") = some true)
    (b6 : PySem.W.hasDictIn K B = true)
    (q1 : PySem.W.excIn K CQ [.type "ValueError", .type "Exception", .type "BaseException", .type "object"] "ValueError.__new__" = true)
    (n1 : PySem.W.findIn K (.ref CN) "__getattribute__" = some (some (.builtin "BaseException.__getattribute__")))
    (n2 : PySem.W.findIn K (.ref CN) "__getattr__" = some none)
    (n3 : PySem.W.subIn K (.ref CN) (.type "BaseException") = some true)
    (n4 : PySem.W.hasDictIn K CN = true)
    (n5 : PySem.W.findIn K (.ref CN) "__class__" = some (some (.builtin "object.__class__")))
    (n6 : PySem.W.mroIn K CN (.type "object") = some true)
    (n7 : PySem.W.typeIn K (.ref CN) = some (.type "type"))
    (n8 : PySem.W.keepIn K (.ref CN) = true)
    (n9 : PySem.W.subIn K (.ref CN) (.ref B) = some true)
    (r1 : PySem.W.findIn K (.ref CQ) "__getattribute__" = some (some (.builtin "BaseException.__getattribute__")))
    (r2 : PySem.W.findIn K (.ref CQ) "__getattr__" = some none)
    (r3 : PySem.W.subIn K (.ref CQ) (.type "BaseException") = some true)
    (r4 : PySem.W.hasDictIn K CQ = true)
    (r5 : PySem.W.findIn K (.ref CQ) "__class__" = some (some (.builtin "object.__class__")))
    (r6 : PySem.W.mroIn K CQ (.type "object") = some true)
    (r7 : PySem.W.typeIn K (.ref CQ) = some (.type "type"))
    (r8 : PySem.W.keepIn K (.ref CQ) = true)
    (r9 : PySem.W.subIn K (.ref CQ) (.ref B) = some true)
    (e1 : PySem.W.specialIn K (.builtin "object.__class__") "__get__" = some (some (.builtin "getset_descriptor.__get__")))
    (e2 : PySem.W.takesIn K (.builtin "object.__class__") = some true)
    (u0 : PySem.W.kitOne K (.ref CN) (.ref CF) = some false)
    (u1 : PySem.W.kitOne K (.ref CN) (.ref CN) = some true)
    (u2 : PySem.W.kitOne K (.ref CN) (.ref CQ) = some false)
    (v0 : PySem.W.kitOne K (.ref CQ) (.ref CF) = some false)
    (v1 : PySem.W.kitOne K (.ref CQ) (.ref CN) = some false)
    (v2 : PySem.W.kitOne K (.ref CQ) (.ref CQ) = some true)
    (xL : K.lookup CN = some (excClassObj nm q CN NN bs bm true sn sub ab col dd m0 m1 m2 m3 m5 "ValueError.__new__"))
    (xR : PySem.HandSPX.refsVE bm = true)
    (sa : PySem.W.findIn K (.ref CN) "__setattr__" = some (some (.builtin "object.__setattr__")))
    (noG : PySem.W.findIn K (.ref CN) "given" = some none)
    (iC : PySem.W.findIn K (.ref CN) "__init__" = some (some (.ref fI)))
    (tI : PySem.W.typeIn K (.ref fI) = some (.type "function"))
    (lI : K.lookup fI = some ⟨ocI, odI, .func (PySem.W.fnOf "__init__" "BadName.__init__" (defArgs sNmInit) (defBody sNmInit) (defScope sNmInit) .none kVI dcI pmI anI cdI ctI), slI⟩)
    (cI : PySem.W.codeIn K cdI "BadName.__init__" = true)
    (kI : PySem.W.keepIn K (.ref fI) = true)
    (aL : PySem.W.nsIn K mainGlobals "law" = some (some (.ref fL)))
    (lL : K.lookup fL = some ⟨ocL, odL, .func (PySem.W.fnOf "law" "law" (defArgs sLaw) (defBody sLaw) (defScope sLaw) .none kVL dcL pmL anL (.ref cL) ctL), slL⟩)
    (cL2 : PySem.W.codeIn K (.ref cL) "law" = true)
    (kL : PySem.W.keepIn K (.ref fL) = true)
    (hT : h.get? TP = some { cls := .none, data := .fields #[] })
    (nT : K.lookup TP = none)
    (hC : PySem.W.codeHdIn K cL TP = true)
    (gP : mainGlobals ≠ TP) : LawG l w K CX0 9 63 "_law_script" mg fa h := by
  have e := hfa.symm.trans (PySem.W.mg_of X G aL)
  cases e
  have S__law_seven_right : Std K mg "_law_seven_right" s7R := ⟨_, _, PySem.W.mg_of X G a0, fun_mk (st := s7R) l0 c0 k0⟩
  have S_is_word : Std K mg "is_word" sWord := ⟨_, _, PySem.W.mg_of X G a1, fun_mk (st := sWord) l1 c1 k1⟩
  have S_is_name : Std K mg "is_name" sName := ⟨_, _, PySem.W.mg_of X G a2, fun_mk (st := sName) l2 c2 k2⟩
  have S_is_fact : Std K mg "is_fact" sFact := ⟨_, _, PySem.W.mg_of X G a3, fun_mk (st := sFact) l3 c3 k3⟩
  have S_names_fault : Std K mg "names_fault" sNamesF := ⟨_, _, PySem.W.mg_of X G a4, fun_mk (st := sNamesF) l4 c4 k4⟩
  have S_facts_fault : Std K mg "facts_fault" sFactsF := ⟨_, _, PySem.W.mg_of X G a5, fun_mk (st := sFactsF) l5 c5 k5⟩
  have S_need_form : Std K mg "need_form" sForm := ⟨_, _, PySem.W.mg_of X G a6, fun_mk (st := sForm) l6 c6 k6⟩
  have S_levels_of : Std K mg "levels_of" sLevels := ⟨_, _, PySem.W.mg_of X G a7, fun_mk (st := sLevels) l7 c7 k7⟩
  have S_is_sound : Std K mg "is_sound" sSound := ⟨_, _, PySem.W.mg_of X G a8, fun_mk (st := sSound) l8 c8 k8⟩
  have S_need_frame : Std K mg "need_frame" sNeedF := ⟨_, _, PySem.W.mg_of X G a9, fun_mk (st := sNeedF) l9 c9 k9⟩
  have S_need_name : Std K mg "need_name" sNeedN := ⟨_, _, PySem.W.mg_of X G a10, fun_mk (st := sNeedN) l10 c10 k10⟩
  have S_told : Std K mg "told" sTold := ⟨_, _, PySem.W.mg_of X G a11, fun_mk (st := sTold) l11 c11 k11⟩
  have S_same_worlds : Std K mg "same_worlds" sSame := ⟨_, _, PySem.W.mg_of X G a12, fun_mk (st := sSame) l12 c12 k12⟩
  have S_without_fact : Std K mg "without_fact" sBut := ⟨_, _, PySem.W.mg_of X G a13, fun_mk (st := sBut) l13 c13 k13⟩
  have S_needless_facts : Std K mg "needless_facts" sIdle := ⟨_, _, PySem.W.mg_of X G a14, fun_mk (st := sIdle) l14 c14 k14⟩
  have S_way_in : Std K mg "way_in" sWayIn := ⟨_, _, PySem.W.mg_of X G a15, fun_mk (st := sWayIn) l15 c15 k15⟩
  have S_way : Std K mg "way" sWay := ⟨_, _, PySem.W.mg_of X G a16, fun_mk (st := sWay) l16 c16 k16⟩
  have S__law_mixed : Std K mg "_law_mixed" sMixed := ⟨_, _, PySem.W.mg_of X G a17, fun_mk (st := sMixed) l17 c17 k17⟩
  have S__law_draw : Std K mg "_law_draw" sDraw := ⟨_, _, PySem.W.mg_of X G a18, fun_mk (st := sDraw) l18 c18 k18⟩
  have S__law_begin : Std K mg "_law_begin" sBegin := ⟨_, _, PySem.W.mg_of X G a19, fun_mk (st := sBegin) l19 c19 k19⟩
  have S__law_worlds : Std K mg "_law_worlds" sWorlds := ⟨_, _, PySem.W.mg_of X G a20, fun_mk (st := sWorlds) l20 c20 k20⟩
  have S__law_of : Std K mg "_law_of" sOf := ⟨_, _, PySem.W.mg_of X G a21, fun_mk (st := sOf) l21 c21 k21⟩
  have S__law_frame : Std K mg "_law_frame" sFrame := ⟨_, _, PySem.W.mg_of X G a22, fun_mk (st := sFrame) l22 c22 k22⟩
  have S__law_more : Std K mg "_law_more" sMore := ⟨_, _, PySem.W.mg_of X G a23, fun_mk (st := sMore) l23 c23 k23⟩
  have S__law_leads : Std K mg "_law_leads" sLeads := ⟨_, _, PySem.W.mg_of X G a24, fun_mk (st := sLeads) l24 c24 k24⟩
  have S__law_is_path : Std K mg "_law_is_path" sIsP := ⟨_, _, PySem.W.mg_of X G a25, fun_mk (st := sIsP) l25 c25 k25⟩
  have S__law_due : Std K mg "_law_due" sDue := ⟨_, _, PySem.W.mg_of X G a26, fun_mk (st := sDue) l26 c26 k26⟩
  have S__law_pairs_right : Std K mg "_law_pairs_right" sPR := ⟨_, _, PySem.W.mg_of X G a27, fun_mk (st := sPR) l27 c27 k27⟩
  have S__law_facts_right : Std K mg "_law_facts_right" sFR := ⟨_, _, PySem.W.mg_of X G a28, fun_mk (st := sFR) l28 c28 k28⟩
  have S__law_refused : Std K mg "_law_refused" sRef := ⟨_, _, PySem.W.mg_of X G a29, fun_mk (st := sRef) l29 c29 k29⟩
  have T : Txt K mg := ⟨PySem.W.mg_none_of X G z0, PySem.W.mg_none_of X G z1, PySem.W.mg_none_of X G z2, PySem.W.mg_none_of X G z3, PySem.W.mg_none_of X G z4, PySem.W.mg_none_of X G z5, PySem.W.mg_none_of X G z6, PySem.W.mg_none_of X G z7, PySem.W.mg_none_of X G z8, PySem.W.mg_none_of X G z9, PySem.W.mg_none_of X G z10, PySem.W.mg_none_of X G z11, PySem.W.mg_none_of X G z12, PySem.W.mg_none_of X G z13, PySem.W.mg_none_of X G z14, ⟨_, PySem.W.mg_of X G y0⟩, ⟨_, PySem.W.mg_of X G y1⟩, ⟨_, PySem.W.mg_of X G y2⟩, ⟨_, PySem.W.mg_of X G y3⟩, ⟨_, PySem.W.mg_of X G y4⟩, ⟨_, PySem.W.mg_of X G y5⟩,
    ⟨LV, PySem.W.mg_of X G aV, fun H => .inr ⟨_, _, _, lV, rfl, rfl, (by show 3 ≤ sizeLine; decide), .cons rfl (.cons ⟨_, rfl⟩ (.cons ⟨_, rfl⟩ .nil))⟩, _, lV, rfl, rfl⟩⟩
  have gB' := PySem.W.mg_of X G gB
  have TN : TxtN K mg B CN fI := ⟨⟨gB', b1, b2, b3, b4⟩, ⟨⟨nm, q, NN, bs, bm, sn, sub, ab, col, dd, m0, m1, m2, m3, m5, xL, xR⟩, sa, n3, n7, n8⟩, PySem.W.mg_of X G gN, noG, iC, tI, _, fun_mk (st := sNmInit) lI cI kI⟩
  have TQ : TxtQ K mg CQ := ⟨q1, PySem.W.mg_of X G gQ, r8, r3, r7⟩
  have eN : ExcC K CN := ⟨n1, n2, n3, n4, n5, e1, e2, n6⟩
  have eQ : ExcC K CQ := ⟨r1, r2, r3, r4, r5, e1, e2, r6⟩
  have R : TxtR K mg B CF CN CQ := { gB := gB', gF := PySem.W.mg_of X G gF, gN := PySem.W.mg_of X G gN, gQ := PySem.W.mg_of X G gQ, xN := PySem.W.exm_ref b5 b6 b2 n9, xQ := PySem.W.exm_ref b5 b6 b2 r9, nF := u0, nN := u1, nQ := u2, qF := v0, qN := v1, qQ := v2, cN := eN, cQ := eQ, fN := ⟨n1, n2, n3, n4⟩, noG := noG }
  have FR := fun_mk (st := sRef) l29 c29 k29
  have FL := fun_mk (st := sLaw) lL cL2 kL
  refine ⟨PySem.W.fnOf "law" "law" (defArgs sLaw) (defBody sLaw) (defScope sLaw) .none kVL dcL pmL anL (.ref cL) ctL, [(cL, TP)], spLaw K TP, fun p hp => ?_, fun p hp => ?_, fun p hp => ?_, fun s u => .of_eq rfl, fun H a ns hl _ hH hS => ⟨a, ns, rfl, hS, hl, fun p hp => ?_, fun _ => rfl⟩, fun base kin hns TB => ?_⟩
  · rw [List.mem_singleton.mp hp]; exact hT
  · rw [List.mem_singleton.mp hp]; exact nT
  · rw [List.mem_singleton.mp hp]; exact PySem.W.codeHd_of_K X hC
  · rw [List.mem_singleton.mp hp]; exact LamX.TabS.nil (hH _ (List.mem_singleton.mpr rfl))
  · have TB1 := TB _ (List.mem_singleton.mpr rfl)
    have D_is_word := df_word (P := l.prog) (w := w) (base := base) T S_is_word
    have D_is_name := df_name (P := l.prog) (w := w) (base := base) T S_is_name
    have D_is_fact := df_fact (P := l.prog) (w := w) (base := base) T S_is_fact D_is_name
    have D_names_fault := df_namesF (P := l.prog) (w := w) (base := base) T S_names_fault D_is_word
    have D_facts_fault := df_factsF (P := l.prog) (w := w) (base := base) T S_facts_fault D_is_fact
    have D_need_form := df_form (P := l.prog) (w := w) (base := base) T S_need_form D_names_fault D_facts_fault
    have D_levels_of := df_levels (P := l.prog) (w := w) (base := base) T S_levels_of
    have D_is_sound := df_sound (P := l.prog) (w := w) (base := base) T S_is_sound D_levels_of
    have D_need_frame := df_needF (P := l.prog) (w := w) (base := base) T S_need_frame D_need_form D_is_sound
    have D_need_name := df_needN (P := l.prog) (w := w) (base := base) T TN S_need_name D_is_name
    have D_told := df_told (P := l.prog) (w := w) (base := base) (B := B) (fI := fI) T S_told D_levels_of D_need_frame D_need_name
    have D_same_worlds := df_same (P := l.prog) (w := w) (base := base) T TQ S_same_worlds D_levels_of D_need_frame
    have D_without_fact := df_but (P := l.prog) (w := w) (base := base) T S_without_fact
    have D_needless_facts := df_idle (P := l.prog) (w := w) (base := base) T S_needless_facts D_levels_of D_need_frame D_without_fact
    have D_way_in := df_wayIn (P := l.prog) (w := w) (base := base) T S_way_in
    have D_way := df_way (P := l.prog) (w := w) (base := base) T S_way D_way_in D_need_frame D_need_name
    have D__law_mixed := df_mixed (P := l.prog) (w := w) (base := base) T S__law_mixed
    have D__law_draw := df_draw (P := l.prog) (w := w) (base := base) T S__law_draw D__law_mixed
    have D__law_begin := df_begin (P := l.prog) (w := w) (base := base) T S__law_begin
    have D__law_worlds := df_worlds (P := l.prog) (w := w) (base := base) T S__law_worlds
    have D__law_of := df_of (P := l.prog) (w := w) (base := base) T S__law_of D__law_draw
    have D__law_frame := df_frame (P := l.prog) (w := w) (base := base) T S__law_frame D__law_draw D__law_worlds
    have D__law_more := df_more (P := l.prog) (w := w) (base := base) T S__law_more D__law_of D__law_worlds
    have D__law_leads := df_leads (P := l.prog) (w := w) (base := base) T S__law_leads
    have D__law_is_path := df_isP (P := l.prog) (w := w) (base := base) T S__law_is_path
    have D__law_due := df_due (P := l.prog) (w := w) (base := base) T S__law_due
    have D__law_pairs_right := df_PR (P := l.prog) (w := w) (base := base) T S__law_pairs_right D__law_worlds D__law_due D_told D_way D__law_is_path D__law_leads
    have D__law_facts_right := df_FR (P := l.prog) (w := w) (base := base) T S__law_facts_right D__law_worlds D_needless_facts
    have D__law_seven_right := df_7R (P := l.prog) (w := w) (base := base) T S__law_seven_right D_needless_facts D_told D_way
    exact ok_law T R FL rfl TB1 FR (PySem.W.mg_of X G a29) D__law_begin D__law_seven_right D__law_frame D__law_more D__law_draw D__law_pairs_right D__law_facts_right D_same_worlds D__law_worlds D_told D_way
end NC
open PySem PySem.W PyProof.Rows in
set_option maxRecDepth 100000 in
set_option maxHeartbeats 0 in
theorem PySem.Challenge.cw_namedcuts_k02_whole_ways_and_all_worlds_holds : PySem.Challenge.rw_namedcuts_k02_whole_ways_and_all_worlds.Holds := by
  w_on; o_law; k_head; (case hw => w_witness2)
  k_fill
  refine NC.walkG (l := PySem.Challenge.rw_namedcuts_k02_whole_ways_and_all_worlds) (n := 63) (k := 9) (x := "_law_script") (CX := fun _ => L2.CX0) rfl (by decide) rfl ⟨rfl, by decide, by decide⟩ (fun w h Y => PySem.W.km_in_of Y) ?F (fun _ _ _ _ _ z => z)
  case F =>
    intro w mg fa h Y KX G hmg
    have TT := PySem.W.km_tabs_of Y
    refine' NC.all_mk KX G hmg ?a0 ?l0 ?c0 ?k0 ?a1 ?l1 ?c1 ?k1 ?a2 ?l2 ?c2 ?k2 ?a3 ?l3 ?c3 ?k3 ?a4 ?l4 ?c4 ?k4 ?a5 ?l5 ?c5 ?k5 ?a6 ?l6 ?c6 ?k6 ?a7 ?l7 ?c7 ?k7 ?a8 ?l8 ?c8 ?k8 ?a9 ?l9 ?c9 ?k9 ?a10 ?l10 ?c10 ?k10 ?a11 ?l11 ?c11 ?k11 ?a12 ?l12 ?c12 ?k12 ?a13 ?l13 ?c13 ?k13 ?a14 ?l14 ?c14 ?k14 ?a15 ?l15 ?c15 ?k15 ?a16 ?l16 ?c16 ?k16 ?a17 ?l17 ?c17 ?k17 ?a18 ?l18 ?c18 ?k18 ?a19 ?l19 ?c19 ?k19 ?a20 ?l20 ?c20 ?k20 ?a21 ?l21 ?c21 ?k21 ?a22 ?l22 ?c22 ?k22 ?a23 ?l23 ?c23 ?k23 ?a24 ?l24 ?c24 ?k24 ?a25 ?l25 ?c25 ?k25 ?a26 ?l26 ?c26 ?k26 ?a27 ?l27 ?c27 ?k27 ?a28 ?l28 ?c28 ?k28 ?a29 ?l29 ?c29 ?k29 ?z0 ?z1 ?z2 ?z3 ?z4 ?z5 ?z6 ?z7 ?z8 ?z9 ?z10 ?z11 ?z12 ?z13 ?z14 ?y0 ?y1 ?y2 ?y3 ?y4 ?y5 ?aV ?lV ?gB ?gF ?gN ?gQ ?b1 ?b2 ?b3 ?b4 ?b5 ?b6 ?q1 ?n1 ?n2 ?n3 ?n4 ?n5 ?n6 ?n7 ?n8 ?n9 ?r1 ?r2 ?r3 ?r4 ?r5 ?r6 ?r7 ?r8 ?r9 ?e1 ?e2 ?u0 ?u1 ?u2 ?v0 ?v1 ?v2 ?xL ?xR ?sa ?noG ?iC ?tI ?lI ?cI ?kI ?aL ?lL ?cL2 ?kL ?hT ?nT ?hC ?gP
    (case a0 => first | k_is | kernel_rfl)
    (case l0 => first | k_is | kernel_rfl)
    (case c0 => first | k_is | kernel_rfl)
    (case k0 => first | k_is | kernel_rfl)
    (case a1 => first | k_is | kernel_rfl)
    (case l1 => first | k_is | kernel_rfl)
    (case c1 => first | k_is | kernel_rfl)
    (case k1 => first | k_is | kernel_rfl)
    (case a2 => first | k_is | kernel_rfl)
    (case l2 => first | k_is | kernel_rfl)
    (case c2 => first | k_is | kernel_rfl)
    (case k2 => first | k_is | kernel_rfl)
    (case a3 => first | k_is | kernel_rfl)
    (case l3 => first | k_is | kernel_rfl)
    (case c3 => first | k_is | kernel_rfl)
    (case k3 => first | k_is | kernel_rfl)
    (case a4 => first | k_is | kernel_rfl)
    (case l4 => first | k_is | kernel_rfl)
    (case c4 => first | k_is | kernel_rfl)
    (case k4 => first | k_is | kernel_rfl)
    (case a5 => first | k_is | kernel_rfl)
    (case l5 => first | k_is | kernel_rfl)
    (case c5 => first | k_is | kernel_rfl)
    (case k5 => first | k_is | kernel_rfl)
    (case a6 => first | k_is | kernel_rfl)
    (case l6 => first | k_is | kernel_rfl)
    (case c6 => first | k_is | kernel_rfl)
    (case k6 => first | k_is | kernel_rfl)
    (case a7 => first | k_is | kernel_rfl)
    (case l7 => first | k_is | kernel_rfl)
    (case c7 => first | k_is | kernel_rfl)
    (case k7 => first | k_is | kernel_rfl)
    (case a8 => first | k_is | kernel_rfl)
    (case l8 => first | k_is | kernel_rfl)
    (case c8 => first | k_is | kernel_rfl)
    (case k8 => first | k_is | kernel_rfl)
    (case a9 => first | k_is | kernel_rfl)
    (case l9 => first | k_is | kernel_rfl)
    (case c9 => first | k_is | kernel_rfl)
    (case k9 => first | k_is | kernel_rfl)
    (case a10 => first | k_is | kernel_rfl)
    (case l10 => first | k_is | kernel_rfl)
    (case c10 => first | k_is | kernel_rfl)
    (case k10 => first | k_is | kernel_rfl)
    (case a11 => first | k_is | kernel_rfl)
    (case l11 => first | k_is | kernel_rfl)
    (case c11 => first | k_is | kernel_rfl)
    (case k11 => first | k_is | kernel_rfl)
    (case a12 => first | k_is | kernel_rfl)
    (case l12 => first | k_is | kernel_rfl)
    (case c12 => first | k_is | kernel_rfl)
    (case k12 => first | k_is | kernel_rfl)
    (case a13 => first | k_is | kernel_rfl)
    (case l13 => first | k_is | kernel_rfl)
    (case c13 => first | k_is | kernel_rfl)
    (case k13 => first | k_is | kernel_rfl)
    (case a14 => first | k_is | kernel_rfl)
    (case l14 => first | k_is | kernel_rfl)
    (case c14 => first | k_is | kernel_rfl)
    (case k14 => first | k_is | kernel_rfl)
    (case a15 => first | k_is | kernel_rfl)
    (case l15 => first | k_is | kernel_rfl)
    (case c15 => first | k_is | kernel_rfl)
    (case k15 => first | k_is | kernel_rfl)
    (case a16 => first | k_is | kernel_rfl)
    (case l16 => first | k_is | kernel_rfl)
    (case c16 => first | k_is | kernel_rfl)
    (case k16 => first | k_is | kernel_rfl)
    (case a17 => first | k_is | kernel_rfl)
    (case l17 => first | k_is | kernel_rfl)
    (case c17 => first | k_is | kernel_rfl)
    (case k17 => first | k_is | kernel_rfl)
    (case a18 => first | k_is | kernel_rfl)
    (case l18 => first | k_is | kernel_rfl)
    (case c18 => first | k_is | kernel_rfl)
    (case k18 => first | k_is | kernel_rfl)
    (case a19 => first | k_is | kernel_rfl)
    (case l19 => first | k_is | kernel_rfl)
    (case c19 => first | k_is | kernel_rfl)
    (case k19 => first | k_is | kernel_rfl)
    (case a20 => first | k_is | kernel_rfl)
    (case l20 => first | k_is | kernel_rfl)
    (case c20 => first | k_is | kernel_rfl)
    (case k20 => first | k_is | kernel_rfl)
    (case a21 => first | k_is | kernel_rfl)
    (case l21 => first | k_is | kernel_rfl)
    (case c21 => first | k_is | kernel_rfl)
    (case k21 => first | k_is | kernel_rfl)
    (case a22 => first | k_is | kernel_rfl)
    (case l22 => first | k_is | kernel_rfl)
    (case c22 => first | k_is | kernel_rfl)
    (case k22 => first | k_is | kernel_rfl)
    (case a23 => first | k_is | kernel_rfl)
    (case l23 => first | k_is | kernel_rfl)
    (case c23 => first | k_is | kernel_rfl)
    (case k23 => first | k_is | kernel_rfl)
    (case a24 => first | k_is | kernel_rfl)
    (case l24 => first | k_is | kernel_rfl)
    (case c24 => first | k_is | kernel_rfl)
    (case k24 => first | k_is | kernel_rfl)
    (case a25 => first | k_is | kernel_rfl)
    (case l25 => first | k_is | kernel_rfl)
    (case c25 => first | k_is | kernel_rfl)
    (case k25 => first | k_is | kernel_rfl)
    (case a26 => first | k_is | kernel_rfl)
    (case l26 => first | k_is | kernel_rfl)
    (case c26 => first | k_is | kernel_rfl)
    (case k26 => first | k_is | kernel_rfl)
    (case a27 => first | k_is | kernel_rfl)
    (case l27 => first | k_is | kernel_rfl)
    (case c27 => first | k_is | kernel_rfl)
    (case k27 => first | k_is | kernel_rfl)
    (case a28 => first | k_is | kernel_rfl)
    (case l28 => first | k_is | kernel_rfl)
    (case c28 => first | k_is | kernel_rfl)
    (case k28 => first | k_is | kernel_rfl)
    (case a29 => first | k_is | kernel_rfl)
    (case l29 => first | k_is | kernel_rfl)
    (case c29 => first | k_is | kernel_rfl)
    (case k29 => first | k_is | kernel_rfl)
    (case z0 => first | k_is | kernel_rfl)
    (case z1 => first | k_is | kernel_rfl)
    (case z2 => first | k_is | kernel_rfl)
    (case z3 => first | k_is | kernel_rfl)
    (case z4 => first | k_is | kernel_rfl)
    (case z5 => first | k_is | kernel_rfl)
    (case z6 => first | k_is | kernel_rfl)
    (case z7 => first | k_is | kernel_rfl)
    (case z8 => first | k_is | kernel_rfl)
    (case z9 => first | k_is | kernel_rfl)
    (case z10 => first | k_is | kernel_rfl)
    (case z11 => first | k_is | kernel_rfl)
    (case z12 => first | k_is | kernel_rfl)
    (case z13 => first | k_is | kernel_rfl)
    (case z14 => first | k_is | kernel_rfl)
    (case y0 => first | k_is | kernel_rfl)
    (case y1 => first | k_is | kernel_rfl)
    (case y2 => first | k_is | kernel_rfl)
    (case y3 => first | k_is | kernel_rfl)
    (case y4 => first | k_is | kernel_rfl)
    (case y5 => first | k_is | kernel_rfl)
    (case aV => first | k_is | kernel_rfl)
    (case lV => first | k_is | kernel_rfl)
    (case gB => first | k_is | kernel_rfl)
    (case gF => first | k_is | kernel_rfl)
    (case gN => first | k_is | kernel_rfl)
    (case gQ => first | k_is | kernel_rfl)
    (case b1 => first | k_is | kernel_rfl)
    (case b2 => first | k_is | kernel_rfl)
    (case b3 => first | k_is | kernel_rfl)
    (case b4 => first | k_is | kernel_rfl)
    (case b5 => first | k_is | kernel_rfl)
    (case b6 => first | k_is | kernel_rfl)
    (case q1 => first | k_is | kernel_rfl)
    (case n1 => first | k_is | kernel_rfl)
    (case n2 => first | k_is | kernel_rfl)
    (case n3 => first | k_is | kernel_rfl)
    (case n4 => first | k_is | kernel_rfl)
    (case n5 => first | k_is | kernel_rfl)
    (case n6 => first | k_is | kernel_rfl)
    (case n7 => first | k_is | kernel_rfl)
    (case n8 => first | k_is | kernel_rfl)
    (case n9 => first | k_is | kernel_rfl)
    (case r1 => first | k_is | kernel_rfl)
    (case r2 => first | k_is | kernel_rfl)
    (case r3 => first | k_is | kernel_rfl)
    (case r4 => first | k_is | kernel_rfl)
    (case r5 => first | k_is | kernel_rfl)
    (case r6 => first | k_is | kernel_rfl)
    (case r7 => first | k_is | kernel_rfl)
    (case r8 => first | k_is | kernel_rfl)
    (case r9 => first | k_is | kernel_rfl)
    (case e1 => first | k_is | kernel_rfl)
    (case e2 => first | k_is | kernel_rfl)
    (case u0 => first | k_is | kernel_rfl)
    (case u1 => first | k_is | kernel_rfl)
    (case u2 => first | k_is | kernel_rfl)
    (case v0 => first | k_is | kernel_rfl)
    (case v1 => first | k_is | kernel_rfl)
    (case v2 => first | k_is | kernel_rfl)
    (case xL => first | k_is | kernel_rfl)
    (case xR => decide +kernel)
    (case sa => first | k_is | kernel_rfl)
    (case noG => first | k_is | kernel_rfl)
    (case iC => first | k_is | kernel_rfl)
    (case tI => first | k_is | kernel_rfl)
    (case lI => first | k_is | kernel_rfl)
    (case cI => first | k_is | kernel_rfl)
    (case kI => first | k_is | kernel_rfl)
    (case aL => first | k_is | kernel_rfl)
    (case lL => first | k_is | kernel_rfl)
    (case cL2 => first | k_is | kernel_rfl)
    (case kL => first | k_is | kernel_rfl)
    (case hT => exact TT _ (by k_mem))
    (case nT => first | k_is | kernel_rfl)
    (case hC => kernel_rfl)
    (case gP => decide)

