import PyProof.Rows.All
import Wide.All
import OpenK.AllK
import Wide.FinOn
import HandS.ForMost
import HandS.GenList
import HandS.Defaults
import HandS.IsInst
import HandS.Property
import HandS.TupAny
import HandS.Style
import HandS.Conv
import HandS.Walk
import HandS.SortRule
import KE.GoesEnum
import KE.KAssignIn
import PySem.Challenge.RW_lastside_k17_whole_least_by_search
/-! Transfers on one tree: the cost rule, the local rule of runs, and that they agree. Plain Lean. -/
namespace M
inductive Ch where
  | L | R | Q
  deriving DecidableEq, Repr

/-- the side of an item: true is left -/
def chOf (b : Bool) : Ch := if b then .L else .R
theorem chOf_inj {a b : Bool} (h : chOf a = chOf b) : a = b := by
  cases a <;> cases b <;> first | rfl | cases h
theorem chOf_Q (b : Bool) : chOf b ≠ .Q := by cases b <;> decide
def agrees (a b : Ch) : Bool := a == b || a == .Q || b == .Q

/-! ### lists that are woven -/
section
variable {α : Type} (kd sd : α → Bool)
/-- loads -/
def lds : List α → Nat
  | [] => 0
  | x :: r => (if kd x then 1 else 0) + lds r
/-- begins with a hit -/
def hh : List α → Nat
  | [] => 0
  | x :: _ => if kd x then 0 else 1
/-- the least number of blocks -/
def qq (l : List α) : Nat := lds kd l + hh kd l
/-- the talk is right, prev the side before -/
def TalkOk : Ch → List α → Prop
  | _, [] => True
  | prev, x :: r => (kd x = true → prev ≠ chOf (sd x)) ∧ TalkOk (chOf (sd x)) r
def lastCh : Ch → List α → Ch
  | prev, [] => prev
  | _, x :: r => lastCh (chOf (sd x)) r
variable {kd sd}
theorem lds_cons (x : α) (r : List α) : lds kd (x :: r) = (if kd x = true then 1 else 0) + lds kd r := rfl
theorem hh_cons (x : α) (r : List α) : hh kd (x :: r) = if kd x = true then 0 else 1 := rfl
theorem qq_def (l : List α) : qq kd l = lds kd l + hh kd l := rfl
theorem hh_le (l : List α) : hh kd l ≤ 1 := by
  cases l with
  | nil => exact Nat.zero_le _
  | cons x r => rw [hh_cons]; split <;> omega
theorem hh_lds (x : α) (r : List α) : qq kd (x :: r) = lds kd r + 1 := by
  rw [qq_def, hh_cons, lds_cons]
  split <;> omega
theorem lds_le (l : List α) : lds kd l ≤ l.length := by
  induction l with
  | nil => exact Nat.le_refl _
  | cons x r ih => rw [lds_cons, List.length_cons]; split <;> omega
theorem lds_append (a b : List α) : lds kd (a ++ b) = lds kd a + lds kd b := by
  induction a with
  | nil => simp [lds]
  | cons x r ih => rw [List.cons_append, lds_cons, lds_cons, ih]; omega
def part (sd : α → Bool) (s : Bool) (w : List α) : List α := w.filter fun x => sd x == s
theorem part_cons (s : Bool) (x : α) (w : List α) : part sd s (x :: w) = if sd x = s then x :: part sd s w else part sd s w := by
  unfold part
  rw [List.filter_cons]
  by_cases h : sd x = s
  · rw [if_pos h, if_pos (by rw [h]; exact beq_self_eq_true s)]
  · rw [if_neg h, if_neg (by intro q; exact h (beq_iff_eq.mp q))]
theorem part_len (w : List α) : (part sd true w).length + (part sd false w).length = w.length := by
  induction w with
  | nil => rfl
  | cons x r ih =>
    rw [part_cons, part_cons]
    cases h : sd x <;> simp <;> omega
theorem part_lens (s : Bool) (w : List α) : (part sd s w).length + (part sd (!s) w).length = w.length := by
  have := part_len (sd := sd) w
  cases s
  · show (part sd false w).length + (part sd true w).length = _; omega
  · exact this

/-- what a right talk asks of the two sides -/
theorem talk_counts : ∀ (w : List α) (x : α) (prev : Ch), TalkOk kd sd prev (x :: w) →
    (lastCh sd prev (x :: w) = chOf (sd x) → qq kd (part sd (!sd x) (x :: w)) + 1 ≤ (part sd (sd x) (x :: w)).length ∧ qq kd (part sd (sd x) (x :: w)) ≤ (part sd (!sd x) (x :: w)).length + 1) ∧
    (lastCh sd prev (x :: w) = chOf (!sd x) → qq kd (part sd (sd x) (x :: w)) ≤ (part sd (!sd x) (x :: w)).length ∧ qq kd (part sd (!sd x) (x :: w)) ≤ (part sd (sd x) (x :: w)).length) := by
  intro w
  induction w with
  | nil =>
    intro x prev _
    have e1 : part sd (sd x) [x] = [x] := by rw [part_cons, if_pos rfl]; rfl
    have e2 : part sd (!sd x) [x] = [] := by rw [part_cons, if_neg (by cases sd x <;> decide)]; rfl
    rw [e1, e2]
    refine ⟨fun _ => ⟨?_, ?_⟩, fun h => ?_⟩
    · simp [qq, lds, hh]
    · rw [hh_lds]; simp [lds]
    · exfalso
      have : chOf (sd x) = chOf (!sd x) := h
      have := chOf_inj this
      cases q : sd x <;> rw [q] at this <;> cases this
  | cons y w ih =>
    intro x prev ht
    obtain ⟨h0, h1⟩ := ht
    have hy := ih y (chOf (sd x)) h1
    have el : lastCh sd prev (x :: y :: w) = lastCh sd (chOf (sd x)) (y :: w) := rfl
    rw [el]
    have ex : part sd (sd x) (x :: y :: w) = x :: part sd (sd x) (y :: w) := by rw [part_cons, if_pos rfl]
    have en : part sd (!sd x) (x :: y :: w) = part sd (!sd x) (y :: w) := by rw [part_cons, if_neg (by cases sd x <;> decide)]
    rw [ex, en]
    have eq1 : qq kd (x :: part sd (sd x) (y :: w)) = lds kd (part sd (sd x) (y :: w)) + 1 := hh_lds _ _
    have len1 : (x :: part sd (sd x) (y :: w)).length = (part sd (sd x) (y :: w)).length + 1 := rfl
    by_cases hs : sd y = sd x
    · -- the same side: y is a hit
      rw [hs] at hy
      have ky : kd y = false := by
        cases q : kd y with
        | false => rfl
        | true => exact absurd (by rw [hs]) (h1.1 q)
      have ey : part sd (sd x) (y :: w) = y :: part sd (sd x) w := by rw [part_cons, if_pos hs]
      have q1 : qq kd (part sd (sd x) (y :: w)) = lds kd (part sd (sd x) (y :: w)) + 1 := by
        rw [ey, qq_def, hh_cons, ky]; simp
      refine ⟨fun h => ?_, fun h => ?_⟩
      · obtain ⟨a, b⟩ := hy.1 h
        omega
      · obtain ⟨a, b⟩ := hy.2 h
        omega
    · have hs' : sd y = !sd x := by cases q : sd x <;> cases r : sd y <;> simp_all
      rw [hs', Bool.not_not] at hy
      have qle : lds kd (part sd (sd x) (y :: w)) ≤ qq kd (part sd (sd x) (y :: w)) := by rw [qq_def]; omega
      refine ⟨fun h => ?_, fun h => ?_⟩
      · obtain ⟨a, b⟩ := hy.2 h
        omega
      · obtain ⟨a, b⟩ := hy.1 h
        omega

/-- two sides with enough lines are woven: both endings at once -/
theorem weave : ∀ (n : Nat) (s : Bool) (X Y : List α), X.length + Y.length ≤ n → X ≠ [] → (∀ x ∈ X, sd x = s) → (∀ y ∈ Y, sd y = !s) →
    (qq kd X ≤ Y.length → qq kd Y ≤ X.length → Y ≠ [] → ∃ w : List α, part sd s w = X ∧ part sd (!s) w = Y ∧ w.head? = X.head? ∧ (∀ prev, (∀ x, X.head? = some x → kd x = true → prev ≠ chOf s) → TalkOk kd sd prev w ∧ lastCh sd prev w = chOf (!s))) ∧
    (qq kd Y + 1 ≤ X.length → qq kd X ≤ Y.length + 1 → ∃ w : List α, part sd s w = X ∧ part sd (!s) w = Y ∧ w.head? = X.head? ∧ (∀ prev, (∀ x, X.head? = some x → kd x = true → prev ≠ chOf s) → TalkOk kd sd prev w ∧ lastCh sd prev w = chOf s)) := by
  intro n
  induction n with
  | zero =>
    intro s X Y h hX
    cases X with
    | nil => exact absurd rfl hX
    | cons _ _ => simp at h
  | succ n ih =>
    intro s X Y h hX hsX hsY
    cases X with
    | nil => exact absurd rfl hX
    | cons a u =>
      have hn : u.length + Y.length ≤ n := by rw [List.length_cons] at h; omega
      have hn' : Y.length + u.length ≤ n := by omega
      have sa : sd a = s := hsX a List.mem_cons_self
      have hsu : ∀ x ∈ u, sd x = s := fun x hx => hsX x (List.mem_cons_of_mem _ hx)
      have hsu' : ∀ x ∈ u, sd x = !!s := fun x hx => by rw [Bool.not_not]; exact hsu x hx
      have sne : ¬ (s = !s) := by cases s <;> decide
      -- a, then a weaving of u and Y
      have put : ∀ (w : List α) (z : Ch), part sd s w = u → part sd (!s) w = Y → (TalkOk kd sd (chOf s) w ∧ lastCh sd (chOf s) w = z) →
          part sd s (a :: w) = a :: u ∧ part sd (!s) (a :: w) = Y ∧ (a :: w).head? = (a :: u).head? ∧ (∀ prev, (∀ x, (a :: u).head? = some x → kd x = true → prev ≠ chOf s) → TalkOk kd sd prev (a :: w) ∧ lastCh sd prev (a :: w) = z) := by
        intro w z e1 e2 e3
        refine ⟨by rw [part_cons, if_pos sa, e1], by rw [part_cons, if_neg (by rw [sa]; exact sne), e2], rfl, fun prev hp => ⟨⟨?_, ?_⟩, ?_⟩⟩
        · intro ka; rw [sa]; exact hp a rfl ka
        · rw [sa]; exact e3.1
        · show lastCh sd (chOf (sd a)) w = z
          rw [sa]; exact e3.2
      have qa : qq kd (a :: u) = lds kd u + 1 := hh_lds a u
      have hla : (a :: u).length = u.length + 1 := rfl
      have chne : chOf (!s) ≠ chOf s := fun q => by have := chOf_inj q; cases s <;> cases this
      have lu := lds_le (kd := kd) u
      constructor
      · intro h1 h2 hY
        cases u with
        | nil =>
          -- one line here: Y is one block
          cases Y with
          | nil => exact absurd rfl hY
          | cons y v =>
            have qy : qq kd (y :: v) = lds kd v + 1 := hh_lds y v
            have lv : lds kd v = 0 := by rw [hla] at h2; simp at h2; omega
            have sy : ∀ z ∈ (y :: v), sd z = !s := hsY
            -- all of one side, the rest hits
            have run : ∀ (l : List α), (∀ z ∈ l, sd z = !s) → lds kd l = 0 → ∀ prev, prev = chOf (!s) → TalkOk kd sd prev l ∧ lastCh sd prev l = chOf (!s) := by
              intro l
              induction l with
              | nil => intro _ _ prev e; exact ⟨trivial, e⟩
              | cons z l ihl =>
                intro hz hl prev e
                have kz : kd z = false := by
                  cases q : kd z with
                  | false => rfl
                  | true => rw [lds_cons, q] at hl; simp at hl
                have hl' : lds kd l = 0 := by rw [lds_cons] at hl; omega
                have sz := hz z List.mem_cons_self
                obtain ⟨r1, r2⟩ := ihl (fun z' h' => hz z' (List.mem_cons_of_mem _ h')) hl' (chOf (!s)) rfl
                refine ⟨⟨fun q => absurd (kz.symm.trans q) (by decide), by rw [sz]; exact r1⟩, ?_⟩
                show lastCh sd (chOf (sd z)) l = _
                rw [sz]; exact r2
            obtain ⟨r1, r2⟩ := run v (fun z hz => sy z (List.mem_cons_of_mem _ hz)) lv (chOf (!s)) rfl
            have sy0 := sy y List.mem_cons_self
            have pY : part sd (!s) (y :: v) = y :: v := List.filter_eq_self.mpr fun z hz => beq_iff_eq.mpr (sy z hz)
            have pX : part sd s (y :: v) = [] := List.filter_eq_nil_iff.mpr fun z hz q => sne ((beq_iff_eq.mp q).symm.trans (sy z hz))
            have tk : TalkOk kd sd (chOf s) (y :: v) := ⟨fun _ => by rw [sy0]; exact fun q => chne q.symm, by rw [sy0]; exact r1⟩
            have lc : lastCh sd (chOf s) (y :: v) = chOf (!s) := by
              show lastCh sd (chOf (sd y)) v = _
              rw [sy0]; exact r2
            exact ⟨a :: y :: v, put (y :: v) (chOf (!s)) pX pY ⟨tk, lc⟩⟩
        | cons b u' =>
          have qb : qq kd (b :: u') = lds kd u' + 1 := hh_lds b u'
          have hlb : (b :: u').length = u'.length + 1 := rfl
          have lu' := lds_le (kd := kd) u'
          cases kb : kd b with
          | true =>
            have lb : lds kd (b :: u') = lds kd u' + 1 := by show (if kd b then 1 else 0) + _ = _; rw [kb]; simp; omega
            have := ih (!s) Y (b :: u') hn' hY hsY hsu'
            obtain ⟨w, e1, e2, e3, e4⟩ := this.2 (by omega) (by omega)
            rw [Bool.not_not] at e2
            refine ⟨a :: w, put w _ e2 e1 (e4 (chOf s) fun _ _ _ q => chne q.symm)⟩
          | false =>
            have lb : lds kd (b :: u') = lds kd u' := by show (if kd b then 1 else 0) + _ = _; rw [kb]; simp
            by_cases hle : qq kd Y ≤ (b :: u').length
            · obtain ⟨w, e1, e2, e3, e4⟩ := (ih s (b :: u') Y hn (by simp) hsu hsY).1 (by omega) hle hY
              refine ⟨a :: w, put w _ e1 e2 (e4 (chOf s) fun x hx kx => ?_)⟩
              have : b = x := by simpa using hx
              rw [← this, kb] at kx; cases kx
            · have qY := hh_le (kd := kd) Y
              have lY := lds_le (kd := kd) Y
              have qYl : qq kd Y ≤ Y.length := by
                cases Y with
                | nil => exact absurd rfl hY
                | cons y v => rw [hh_lds]; have := lds_le (kd := kd) v; rw [List.length_cons]; omega
              have := ih (!s) Y (b :: u') hn' hY hsY hsu'
              obtain ⟨w, e1, e2, e3, e4⟩ := this.2 (by omega) (by omega)
              rw [Bool.not_not] at e2
              refine ⟨a :: w, put w _ e2 e1 (e4 (chOf s) fun _ _ _ q => chne q.symm)⟩
      · intro h1 h2
        by_cases hY : Y = []
        · -- only one side
          subst hY
          have l0 : lds kd u = 0 := by rw [qa] at h2; simp at h2; omega
          have run : ∀ (l : List α), (∀ z ∈ l, sd z = s) → lds kd l = 0 → ∀ prev, prev = chOf s → TalkOk kd sd prev l ∧ lastCh sd prev l = chOf s := by
            intro l
            induction l with
            | nil => intro _ _ prev e; exact ⟨trivial, e⟩
            | cons z l ihl =>
              intro hz hl prev e
              have kz : kd z = false := by
                cases q : kd z with
                | false => rfl
                | true => rw [lds_cons, q] at hl; simp at hl
              have hl' : lds kd l = 0 := by rw [lds_cons] at hl; omega
              have sz := hz z List.mem_cons_self
              obtain ⟨r1, r2⟩ := ihl (fun z' h' => hz z' (List.mem_cons_of_mem _ h')) hl' (chOf s) rfl
              refine ⟨⟨fun q => absurd (kz.symm.trans q) (by decide), by rw [sz]; exact r1⟩, ?_⟩
              show lastCh sd (chOf (sd z)) l = _
              rw [sz]; exact r2
          have pX : part sd s u = u := List.filter_eq_self.mpr fun z hz => beq_iff_eq.mpr (hsu z hz)
          have pY : part sd (!s) u = [] := List.filter_eq_nil_iff.mpr fun z hz q => sne ((hsu z hz).symm.trans (beq_iff_eq.mp q))
          exact ⟨a :: u, put u _ pX pY (run u hsu l0 _ rfl)⟩
        · have qYl : qq kd Y ≤ Y.length ∧ 1 ≤ qq kd Y := by
            cases Y with
            | nil => exact absurd rfl hY
            | cons y v => rw [hh_lds]; have := lds_le (kd := kd) v; rw [List.length_cons]; omega
          cases u with
          | nil => simp at h1; omega
          | cons b u' =>
            have qb : qq kd (b :: u') = lds kd u' + 1 := hh_lds b u'
            have hlb : (b :: u').length = u'.length + 1 := rfl
            have lu' := lds_le (kd := kd) u'
            cases kb : kd b with
            | true =>
              have lb : lds kd (b :: u') = lds kd u' + 1 := by show (if kd b then 1 else 0) + _ = _; rw [kb]; simp; omega
              obtain ⟨w, e1, e2, e3, e4⟩ := (ih (!s) Y (b :: u') hn' hY hsY hsu').1 (by omega) (by omega) (by simp)
              rw [Bool.not_not] at e2 e4
              exact ⟨a :: w, put w _ e2 e1 (e4 (chOf s) fun _ _ _ q => chne q.symm)⟩
            | false =>
              have lb : lds kd (b :: u') = lds kd u' := by show (if kd b then 1 else 0) + _ = _; rw [kb]; simp
              by_cases hle : qq kd Y + 1 ≤ (b :: u').length
              · obtain ⟨w, e1, e2, e3, e4⟩ := (ih s (b :: u') Y hn (by simp) hsu hsY).2 hle (by omega)
                refine ⟨a :: w, put w _ e1 e2 (e4 (chOf s) fun x hx kx => ?_)⟩
                have : b = x := by simpa using hx
                rw [← this, kb] at kx; cases kx
              · obtain ⟨w, e1, e2, e3, e4⟩ := (ih (!s) Y (b :: u') hn' hY hsY hsu').1 (by omega) (by omega) (by simp)
                rw [Bool.not_not] at e2 e4
                exact ⟨a :: w, put w _ e2 e1 (e4 (chOf s) fun _ _ _ q => chne q.symm)⟩
end
end M

namespace M
/-! ### the problem of one tree, the cost rule, the local rule -/
inductive G where
  | lf (r : Bool)
  | nd (l : G) (a b : Ch) (r : G)
def G.sz : G → Nat
  | .lf _ => 1
  | .nd l _ _ r => l.sz + r.sz
/-- a request: is it a load, its slot -/
abbrev Rq := Bool × Nat
def kd (x : Rq) : Bool := x.1
def sdm (m : Nat) (x : Rq) : Bool := decide (x.2 < m)
def dnq (m : Nat) (x : Rq) : Rq := (x.1, x.2 - m)
def upq (m : Nat) (x : Rq) : Rq := (x.1, x.2 + m)
def lft (m : Nat) (w : List Rq) : List Rq := part (sdm m) true w
def rgt (m : Nat) (w : List Rq) : List Rq := (part (sdm m) false w).map (dnq m)
def Val : G → List Rq → Prop
  | .lf r, w => (∀ x ∈ w, x.2 = 0) ∧ lds kd w = if r then 1 else 0
  | .nd l a b r, w => TalkOk kd (sdm l.sz) a w ∧ agrees (lastCh (sdm l.sz) a w) b = true ∧ Val l (lft l.sz w) ∧ Val r (rgt l.sz w)

structure Need where
  p : Nat
  ld : Option Nat
  ht : Option Nat
  em : Bool
  deriving DecidableEq, Repr
def Need.of (o : Need) (k : Bool) : Option Nat := if k then o.ld else o.ht
def Need.q (o : Need) (k : Bool) : Nat := if k then o.p else o.p + 1
def stays (side wanted : Ch) : Bool := wanted == .Q || wanted == side
def turns (side wanted : Ch) : Bool := wanted != side
def oneCost (stay turn : Bool) (lines blocks : Nat) (ol : Option Nat) (ob : Nat) : List Nat :=
  match ol with
  | none => []
  | some ol => (if turn then [max lines ob + max ol blocks] else []) ++ (if stay then [max lines (ob + 1) + max ol (blocks - 1)] else [])
def talkCosts (side wanted : Ch) (lines blocks : Nat) (o : Need) : List Nat :=
  (if o.em && stays side wanted && blocks == 1 then [lines] else []) ++
    (oneCost (stays side wanted) (turns side wanted) lines blocks o.ld o.p ++ oneCost (stays side wanted) (turns side wanted) lines blocks o.ht (o.p + 1))
def smallest : List Nat → Option Nat
  | [] => none
  | x :: r => some (r.foldl min x)
def loadCosts (side before wanted : Ch) (f o : Need) : List Nat :=
  match f.ld with
  | none => []
  | some n => if before != side then talkCosts side wanted n f.p o else []
def hitCosts (side wanted : Ch) (f o : Need) : List Nat :=
  match f.ht with
  | none => []
  | some n => talkCosts side wanted n (f.p + 1) o
def forkNeed (l r : Need) (before wanted : Ch) : Need where
  p := l.p + r.p
  ld := smallest (loadCosts .L before wanted l r ++ loadCosts .R before wanted r l)
  ht := smallest (hitCosts .L wanted l r ++ hitCosts .R wanted r l)
  em := l.em && r.em && agrees before wanted
def leafNeed (r : Bool) : Need := if r then ⟨1, some 1, some 2, false⟩ else ⟨0, none, some 1, true⟩
def need : G → Need
  | .lf r => leafNeed r
  | .nd l a b r => forkNeed (need l) (need r) a b

/-! ### smallest, membership -/
theorem foldl_min_le : ∀ (l : List Nat) (a : Nat), l.foldl min a ≤ a ∧ (∀ c ∈ l, l.foldl min a ≤ c) ∧ (l.foldl min a = a ∨ l.foldl min a ∈ l) := by
  intro l
  induction l with
  | nil => intro a; exact ⟨Nat.le_refl _, fun c h => absurd h (by simp), .inl rfl⟩
  | cons x r ih =>
    intro a
    obtain ⟨h1, h2, h3⟩ := ih (min a x)
    rw [List.foldl_cons]
    refine ⟨by omega, fun c hc => ?_, ?_⟩
    · rcases List.mem_cons.mp hc with rfl | hc
      · omega
      · exact h2 c hc
    · rcases h3 with h3 | h3
      · rcases Nat.le_total a x with q | q
        · exact .inl (by omega)
        · exact .inr (by rw [h3, Nat.min_eq_right q]; exact List.mem_cons_self)
      · exact .inr (List.mem_cons_of_mem _ h3)
theorem smallest_le (l : List Nat) (n : Nat) : (∃ c, smallest l = some c ∧ c ≤ n) ↔ ∃ c ∈ l, c ≤ n := by
  cases l with
  | nil => simp [smallest]
  | cons x r =>
    obtain ⟨h1, h2, h3⟩ := foldl_min_le r x
    constructor
    · rintro ⟨c, e, hc⟩
      cases e
      rcases h3 with h3 | h3
      · exact ⟨x, List.mem_cons_self, by omega⟩
      · exact ⟨_, List.mem_cons_of_mem _ h3, hc⟩
    · rintro ⟨c, hm, hc⟩
      refine ⟨_, rfl, ?_⟩
      rcases List.mem_cons.mp hm with rfl | hm
      · omega
      · have := h2 c hm; omega
theorem mem_oneCost {stay turn : Bool} {n b : Nat} {ol : Option Nat} {ob c : Nat} :
    c ∈ oneCost stay turn n b ol ob ↔ ∃ n', ol = some n' ∧ ((turn = true ∧ c = max n ob + max n' b) ∨ (stay = true ∧ c = max n (ob + 1) + max n' (b - 1))) := by
  unfold oneCost
  cases ol with
  | none => simp
  | some n' => cases stay <;> cases turn <;> simp
theorem mem_talk {side wanted : Ch} {n b c : Nat} {o : Need} :
    c ∈ talkCosts side wanted n b o ↔ (o.em = true ∧ stays side wanted = true ∧ b = 1 ∧ c = n) ∨
      ∃ k n', o.of k = some n' ∧ ((turns side wanted = true ∧ c = max n (o.q k) + max n' b) ∨ (stays side wanted = true ∧ c = max n (o.q k + 1) + max n' (b - 1))) := by
  unfold talkCosts
  rw [List.mem_append, List.mem_append, mem_oneCost, mem_oneCost]
  constructor
  · rintro (h | ⟨n', h1, h2⟩ | ⟨n', h1, h2⟩)
    · split at h
      · rename_i hc
        simp only [Bool.and_eq_true, beq_iff_eq] at hc
        exact .inl ⟨hc.1.1, hc.1.2, hc.2, by simpa using h⟩
      · simp at h
    · exact .inr ⟨true, n', h1, h2⟩
    · exact .inr ⟨false, n', h1, h2⟩
  · rintro (⟨h1, h2, h3, h4⟩ | ⟨k, n', h1, h2⟩)
    · left
      rw [h1, h2, h3, h4]; simp
    · right
      cases k with
      | true => exact .inl ⟨n', h1, h2⟩
      | false => exact .inr ⟨n', h1, h2⟩
/-- the two sides by the side's name -/
def pick {β : Type} (l r : β) (s : Bool) : β := if s then l else r
theorem mem_node {l r : Need} {a b : Ch} {k : Bool} {n : Nat} :
    (∃ c, (forkNeed l r a b).of k = some c ∧ c ≤ n) ↔ ∃ s n0, (pick l r s).of k = some n0 ∧ (k = true → a ≠ chOf s) ∧ ∃ c ∈ talkCosts (chOf s) b n0 ((pick l r s).q k) (pick l r (!s)), c ≤ n := by
  cases k with
  | true =>
    show (∃ c, smallest _ = some c ∧ c ≤ n) ↔ _
    rw [smallest_le]
    constructor
    · rintro ⟨c, hc, hn⟩
      rcases List.mem_append.mp hc with h | h
      · unfold loadCosts at h
        cases e : l.ld with
        | none => rw [e] at h; simp at h
        | some n0 =>
          rw [e] at h
          by_cases ha : a = .L
          · rw [ha] at h; simp at h
          · change c ∈ (if (a != .L) = true then _ else _) at h
            rw [if_pos (bne_iff_ne.mpr ha)] at h
            refine ⟨true, n0, e, fun _ => ha, c, h, hn⟩
      · unfold loadCosts at h
        cases e : r.ld with
        | none => rw [e] at h; simp at h
        | some n0 =>
          rw [e] at h
          by_cases ha : a = .R
          · rw [ha] at h; simp at h
          · change c ∈ (if (a != .R) = true then _ else _) at h
            rw [if_pos (bne_iff_ne.mpr ha)] at h
            refine ⟨false, n0, e, fun _ => ha, c, h, hn⟩
    · rintro ⟨s, n0, e, ha, c, hc, hn⟩
      refine ⟨c, List.mem_append.mpr ?_, hn⟩
      have ha := ha rfl
      cases s with
      | true =>
        have e : l.ld = some n0 := e
        have ha : a ≠ .L := ha
        left; unfold loadCosts; rw [e]; change c ∈ (if (a != .L) = true then _ else _); rw [if_pos (bne_iff_ne.mpr ha)]; exact hc
      | false =>
        have e : r.ld = some n0 := e
        have ha : a ≠ .R := ha
        right; unfold loadCosts; rw [e]; change c ∈ (if (a != .R) = true then _ else _); rw [if_pos (bne_iff_ne.mpr ha)]; exact hc
  | false =>
    show (∃ c, smallest _ = some c ∧ c ≤ n) ↔ _
    rw [smallest_le]
    constructor
    · rintro ⟨c, hc, hn⟩
      rcases List.mem_append.mp hc with h | h
      · unfold hitCosts at h
        cases e : l.ht with
        | none => rw [e] at h; simp at h
        | some n0 => rw [e] at h; exact ⟨true, n0, e, (fun q => by cases q), c, h, hn⟩
      · unfold hitCosts at h
        cases e : r.ht with
        | none => rw [e] at h; simp at h
        | some n0 => rw [e] at h; exact ⟨false, n0, e, (fun q => by cases q), c, h, hn⟩
    · rintro ⟨s, n0, e, ha, c, hc, hn⟩
      refine ⟨c, List.mem_append.mpr ?_, hn⟩
      cases s with
      | true =>
        have e : l.ht = some n0 := e
        left; unfold hitCosts; rw [e]; exact hc
      | false =>
        have e : r.ht = some n0 := e
        right; unfold hitCosts; rw [e]; exact hc

/-! ### runs -/
theorem dn_up (m : Nat) (X : List Rq) : (X.map (upq m)).map (dnq m) = X := by
  rw [List.map_map]
  conv => rhs; rw [← List.map_id X]
  refine List.map_congr_left fun x _ => ?_
  show (x.1, x.2 + m - m) = x
  rw [Nat.add_sub_cancel]
theorem up_dn {m : Nat} {X : List Rq} (h : ∀ x ∈ X, ¬ x.2 < m) : (X.map (dnq m)).map (upq m) = X := by
  rw [List.map_map]
  conv => rhs; rw [← List.map_id X]
  refine List.map_congr_left fun x hx => ?_
  show (x.1, x.2 - m + m) = x
  have := h x hx
  rw [Nat.sub_add_cancel (by omega)]
theorem lds_map (f : Rq → Rq) (hf : ∀ x, (f x).1 = x.1) (X : List Rq) : lds kd (X.map f) = lds kd X := by
  induction X with
  | nil => rfl
  | cons x r ih => rw [List.map_cons, lds_cons, lds_cons, ih]; show (if (f x).1 = true then _ else _) + _ = (if x.1 = true then _ else _) + _; rw [hf]
theorem hh_map (f : Rq → Rq) (hf : ∀ x, (f x).1 = x.1) (X : List Rq) : hh kd (X.map f) = hh kd X := by
  cases X with
  | nil => rfl
  | cons x r => rw [List.map_cons, hh_cons, hh_cons]; show (if (f x).1 = true then _ else _) = (if x.1 = true then _ else _); rw [hf]
theorem qq_map (f : Rq → Rq) (hf : ∀ x, (f x).1 = x.1) (X : List Rq) : qq kd (X.map f) = qq kd X := by
  rw [qq_def, qq_def, lds_map f hf, hh_map f hf]
/-- a side's own list -/
def own (m : Nat) (s : Bool) (X : List Rq) : List Rq := if s then X else X.map (dnq m)
def out (m : Nat) (s : Bool) (X : List Rq) : List Rq := if s then X else X.map (upq m)
theorem qq_own (m : Nat) (s : Bool) (X : List Rq) : qq kd (own m s X) = qq kd X := by
  cases s with
  | true => rfl
  | false => exact qq_map (dnq m) (fun _ => rfl) X
theorem len_own (m : Nat) (s : Bool) (X : List Rq) : (own m s X).length = X.length := by
  cases s with
  | true => rfl
  | false => exact List.length_map ..
theorem qq_out (m : Nat) (s : Bool) (X : List Rq) : qq kd (out m s X) = qq kd X := by
  cases s with
  | true => rfl
  | false => exact qq_map (upq m) (fun _ => rfl) X
theorem len_out (m : Nat) (s : Bool) (X : List Rq) : (out m s X).length = X.length := by
  cases s with
  | true => rfl
  | false => exact List.length_map ..
theorem own_out (m : Nat) (s : Bool) (X : List Rq) : own m s (out m s X) = X := by
  cases s with
  | true => rfl
  | false => exact dn_up m X
theorem head_own (m : Nat) (s : Bool) (X : List Rq) : (own m s X).head?.map kd = X.head?.map kd := by
  cases s with
  | true => rfl
  | false => cases X <;> rfl
theorem head_out (m : Nat) (s : Bool) (X : List Rq) : (out m s X).head?.map kd = X.head?.map kd := by
  cases s with
  | true => rfl
  | false => cases X <;> rfl
theorem val_nd {l r : G} {a b : Ch} {w : List Rq} : Val (.nd l a b r) w ↔ TalkOk kd (sdm l.sz) a w ∧ agrees (lastCh (sdm l.sz) a w) b = true ∧ ∀ s, Val (pick l r s) (own l.sz s (part (sdm l.sz) s w)) := by
  constructor
  · rintro ⟨h1, h2, h3, h4⟩
    refine ⟨h1, h2, fun s => ?_⟩
    cases s with
    | true => exact h3
    | false => exact h4
  · rintro ⟨h1, h2, h3⟩
    exact ⟨h1, h2, h3 true, h3 false⟩
theorem lds_part (sd : Rq → Bool) (w : List Rq) : lds kd (part sd true w) + lds kd (part sd false w) = lds kd w := by
  induction w with
  | nil => rfl
  | cons x r ih =>
    rw [part_cons, part_cons]
    cases h : sd x <;> simp [lds_cons] <;> omega
theorem val_lds : ∀ (g : G) (w : List Rq), Val g w → lds kd w = (need g).p := by
  intro g
  induction g with
  | lf r => rintro w ⟨_, h⟩; rw [h]; cases r <;> rfl
  | nd l a b r ihl ihr =>
    rintro w ⟨_, _, h3, h4⟩
    have e1 := ihl _ h3
    have e2 := ihr _ h4
    rw [rgt, lds_map (dnq l.sz) (fun _ => rfl)] at e2
    show _ = (need l).p + (need r).p
    rw [← e1, ← e2]
    exact (lds_part _ w).symm
theorem val_lt : ∀ (g : G) (w : List Rq), Val g w → ∀ x ∈ w, x.2 < g.sz := by
  intro g
  induction g with
  | lf r => rintro w ⟨h, _⟩ x hx; rw [h x hx]; exact Nat.one_pos
  | nd l a b r ihl ihr =>
    rintro w ⟨_, _, h3, h4⟩ x hx
    show x.2 < l.sz + r.sz
    by_cases hlt : x.2 < l.sz
    · omega
    · have hm : x ∈ part (sdm l.sz) false w := List.mem_filter.mpr ⟨hx, by simp [sdm]; omega⟩
      have := ihr _ h4 (dnq l.sz x) (List.mem_map.mpr ⟨x, hm, rfl⟩)
      have h : x.2 - l.sz < r.sz := this
      omega
theorem val_nil : ∀ (g : G), Val g [] ↔ (need g).em = true := by
  intro g
  induction g with
  | lf r => cases r <;> simp [Val, need, leafNeed, lds]
  | nd l a b r ihl ihr =>
    show (True ∧ agrees a b = true ∧ Val l [] ∧ Val r []) ↔ ((need l).em && (need r).em && agrees a b) = true
    rw [ihl, ihr]
    simp only [Bool.and_eq_true, true_and]
    constructor
    · rintro ⟨h1, h2, h3⟩; exact ⟨⟨h2, h3⟩, h1⟩
    · rintro ⟨⟨h2, h3⟩, h1⟩; exact ⟨h1, h2, h3⟩
theorem lastCh_cons (sd : Rq → Bool) : ∀ (w : List Rq) (x : Rq) (prev : Ch), ∃ s, lastCh sd prev (x :: w) = chOf s := by
  intro w
  induction w with
  | nil => intro x prev; exact ⟨sd x, rfl⟩
  | cons y w ih => intro x prev; exact ih y (chOf (sd x))
theorem agrees_ch {s : Bool} {b : Ch} (h : agrees (chOf s) b = true) : b = .Q ∨ b = chOf s := by
  cases s <;> cases b <;> revert h <;> decide
theorem stays_iff {s : Bool} {b : Ch} : stays (chOf s) b = true ↔ agrees (chOf s) b = true := by
  cases s <;> cases b <;> decide
theorem turns_iff {s : Bool} {b : Ch} : turns (chOf s) b = true ↔ agrees (chOf (!s)) b = true := by
  cases s <;> cases b <;> decide
theorem qq_need {g : G} {w : List Rq} {k : Bool} (h : Val g w) (hk : w.head?.map kd = some k) : qq kd w = (need g).q k := by
  rw [qq_def, val_lds g w h]
  cases w with
  | nil => cases hk
  | cons x r =>
    have e : kd x = k := Option.some.inj hk
    rw [hh_cons, e]
    cases k <;> rfl

theorem rep_lds (n : Nat) : lds kd (List.replicate n ((false, 0) : Rq)) = 0 := by
  induction n with
  | zero => rfl
  | succ n ih => rw [List.replicate_succ, lds_cons, ih]; rfl
/-- THE THEOREM: the cost rule tells for which numbers of requests there is a run -/
theorem runs_iff : ∀ (g : G) (k : Bool) (n : Nat), (∃ w, Val g w ∧ w.length = n ∧ w.head?.map kd = some k) ↔ ∃ c, (need g).of k = some c ∧ c ≤ n := by
  intro g
  induction g with
  | lf r =>
    intro k n
    constructor
    · rintro ⟨w, ⟨h0, hl⟩, rfl, hk⟩
      cases w with
      | nil => cases hk
      | cons x u =>
        have e : kd x = k := Option.some.inj hk
        have hle := lds_le (kd := kd) u
        rw [lds_cons, e] at hl
        rw [List.length_cons]
        cases r <;> cases k <;> simp at hl
        · exact ⟨1, rfl, by omega⟩
        · exact ⟨2, rfl, by omega⟩
        · exact ⟨1, rfl, by omega⟩
    · rintro ⟨c, hc, hn⟩
      have mem0 : ∀ (j : Nat) (x : Rq), x ∈ List.replicate j ((false, 0) : Rq) → x.2 = 0 := fun j x hx => by rw [(List.mem_replicate.mp hx).2]
      cases r <;> cases k <;> simp [need, leafNeed, Need.of] at hc
      · subst hc
        refine ⟨(false, 0) :: List.replicate (n - 1) (false, 0), ⟨fun x hx => ?_, ?_⟩, by simp; omega, rfl⟩
        · rcases List.mem_cons.mp hx with rfl | hx
          · rfl
          · exact mem0 _ x hx
        · rw [lds_cons, rep_lds]; rfl
      · subst hc
        refine ⟨(false, 0) :: (true, 0) :: List.replicate (n - 2) (false, 0), ⟨fun x hx => ?_, ?_⟩, by simp; omega, rfl⟩
        · rcases List.mem_cons.mp hx with rfl | hx
          · rfl
          · rcases List.mem_cons.mp hx with rfl | hx
            · rfl
            · exact mem0 _ x hx
        · rw [lds_cons, lds_cons, rep_lds]; rfl
      · subst hc
        refine ⟨(true, 0) :: List.replicate (n - 1) (false, 0), ⟨fun x hx => ?_, ?_⟩, by simp; omega, rfl⟩
        · rcases List.mem_cons.mp hx with rfl | hx
          · rfl
          · exact mem0 _ x hx
        · rw [lds_cons, rep_lds]; rfl
  | nd l a b r ihl ihr =>
    intro k n
    have ih : ∀ s k n, (∃ w, Val (pick l r s) w ∧ w.length = n ∧ w.head?.map kd = some k) ↔ ∃ c, (need (pick l r s)).of k = some c ∧ c ≤ n := fun s => by
      cases s with
      | true => exact ihl
      | false => exact ihr
    have pn : ∀ s, pick (need l) (need r) s = need (pick l r s) := fun s => by cases s <;> rfl
    show _ ↔ ∃ c, (forkNeed (need l) (need r) a b).of k = some c ∧ c ≤ n
    rw [mem_node]
    constructor
    · rintro ⟨w, hv, rfl, hk⟩
      obtain ⟨ht, ha, hs⟩ := val_nd.mp hv
      cases w with
      | nil => cases hk
      | cons x u =>
        have ek : kd x = k := Option.some.inj hk
        obtain ⟨t1, t2⟩ := talk_counts u x a ht
        generalize hsx : sdm l.sz x = s at t1 t2
        have eX : part (sdm l.sz) s (x :: u) = x :: part (sdm l.sz) s u := by rw [part_cons, if_pos hsx]
        have hX := hs s
        have hY := hs (!s)
        have kX : (own l.sz s (part (sdm l.sz) s (x :: u))).head?.map kd = some k := by rw [head_own, eX]; exact congrArg some ek
        obtain ⟨n0, e0, l0⟩ := (ih s k _).mp ⟨_, hX, rfl, kX⟩
        have qX := qq_need hX kX
        rw [qq_own] at qX
        rw [len_own] at l0
        have lens := part_lens (sd := sdm l.sz) s (x :: u)
        have q1 : 1 ≤ qq kd (part (sdm l.sz) s (x :: u)) := by rw [eX, hh_lds]; omega
        refine ⟨s, n0, by rw [pn]; exact e0, fun q => ?_, ?_⟩
        · have := ht.1 (by rw [ek]; exact q)
          rw [hsx] at this
          exact this
        · obtain ⟨z, ez⟩ := lastCh_cons (sdm l.sz) u x a
          rw [ez] at ha
          rw [pn, pn, ← qX]
          by_cases hz : z = s
          · subst hz
            obtain ⟨b1, b2⟩ := t1 ez
            have hst := stays_iff.mpr ha
            by_cases hn : part (sdm l.sz) (!z) (x :: u) = []
            · rw [hn] at hY b1 b2 lens
              have hem : (need (pick l r (!z))).em = true := (val_nil _).mp (by cases z <;> exact hY)
              refine ⟨n0, mem_talk.mpr (.inl ⟨hem, hst, ?_, rfl⟩), ?_⟩
              · rw [List.length_nil] at b2; omega
              · rw [List.length_nil] at lens; omega
            · obtain ⟨y, v, ey⟩ := List.exists_cons_of_ne_nil hn
              have kY : (own l.sz (!z) (part (sdm l.sz) (!z) (x :: u))).head?.map kd = some (kd y) := by rw [head_own, ey]; rfl
              obtain ⟨n1, e1, l1⟩ := (ih (!z) (kd y) _).mp ⟨_, hY, rfl, kY⟩
              have qY := qq_need hY kY
              rw [qq_own] at qY
              rw [len_own] at l1
              refine ⟨_, mem_talk.mpr (.inr ⟨kd y, n1, e1, .inr ⟨hst, rfl⟩⟩), ?_⟩
              rw [← qY]
              omega
          · have hz' : z = !s := by cases z <;> cases s <;> simp_all
            subst hz'
            obtain ⟨b1, b2⟩ := t2 ez
            have htu := turns_iff.mpr ha
            by_cases hn : part (sdm l.sz) (!s) (x :: u) = []
            · rw [hn] at b1; simp at b1; omega
            · obtain ⟨y, v, ey⟩ := List.exists_cons_of_ne_nil hn
              have kY : (own l.sz (!s) (part (sdm l.sz) (!s) (x :: u))).head?.map kd = some (kd y) := by rw [head_own, ey]; rfl
              obtain ⟨n1, e1, l1⟩ := (ih (!s) (kd y) _).mp ⟨_, hY, rfl, kY⟩
              have qY := qq_need hY kY
              rw [qq_own] at qY
              rw [len_own] at l1
              refine ⟨_, mem_talk.mpr (.inr ⟨kd y, n1, e1, .inl ⟨htu, rfl⟩⟩), ?_⟩
              rw [← qY]
              omega
    · rintro ⟨s, n0, e0, hpre, c, hc, hn⟩
      rw [pn] at e0
      rw [pn, pn] at hc
      -- a side's list, put out
      have sides : ∀ (s : Bool) (X : List Rq), Val (pick l r s) X → (∀ x ∈ out l.sz s X, sdm l.sz x = s) := fun s X hX x hx => by
        have hlt := val_lt _ _ hX
        cases s with
        | true => exact decide_eq_true (hlt x hx)
        | false =>
          obtain ⟨y, hy, rfl⟩ := List.mem_map.mp hx
          refine decide_eq_false ?_
          show ¬ y.2 + l.sz < l.sz
          omega
      have fin : ∀ (X Y w : List Rq) (z : Bool), Val (pick l r s) X → Val (pick l r (!s)) Y → X.head?.map kd = some k → w.length = n → agrees (chOf z) b = true →
          part (sdm l.sz) s w = out l.sz s X → part (sdm l.sz) (!s) w = out l.sz (!s) Y → w.head? = (out l.sz s X).head? →
          (∀ prev, (∀ x, (out l.sz s X).head? = some x → kd x = true → prev ≠ chOf s) → TalkOk kd (sdm l.sz) prev w ∧ lastCh (sdm l.sz) prev w = chOf z) →
          ∃ w, Val (.nd l a b r) w ∧ w.length = n ∧ w.head?.map kd = some k := by
        intro X Y w z hX hY hk hl hag e1 e2 e3 e4
        have hk' : (out l.sz s X).head?.map kd = some k := by rw [head_out]; exact hk
        obtain ⟨t1, t2⟩ := e4 a fun x hx kx => hpre (by rw [hx] at hk'; rw [← kx]; exact (Option.some.inj hk').symm)
        refine ⟨w, val_nd.mpr ⟨t1, by rw [t2]; exact hag, fun s' => ?_⟩, hl, by rw [e3]; exact hk'⟩
        by_cases hs : s' = s
        · subst hs; rw [e1, own_out]; exact hX
        · have hs' : s' = !s := by cases s' <;> cases s <;> simp_all
          subst hs'; rw [e2, own_out]; exact hY
      have sides' : ∀ (Y : List Rq), Val (pick l r (!s)) Y → (∀ x ∈ out l.sz (!s) Y, sdm l.sz x = !s) := fun Y hY => sides (!s) Y hY
      have outne : ∀ (s : Bool) (X : List Rq) (k : Bool), X.head?.map kd = some k → out l.sz s X ≠ [] := fun s X k h q => by
        have := head_out l.sz s X
        rw [q, h] at this
        cases this
      have wlen : ∀ (X Y w : List Rq), part (sdm l.sz) s w = out l.sz s X → part (sdm l.sz) (!s) w = out l.sz (!s) Y → w.length = X.length + Y.length := fun X Y w e1 e2 => by
        have := part_lens (sd := sdm l.sz) s w
        rw [e1, e2, len_out, len_out] at this
        exact this.symm
      rcases mem_talk.mp hc with ⟨hem, hst, hb, rfl⟩ | ⟨k', n1, e1, hh⟩
      · obtain ⟨X, hX, lX, kX⟩ := (ih s k n).mpr ⟨_, e0, hn⟩
        have hY : Val (pick l r (!s)) [] := (val_nil _).mpr hem
        have qX := qq_need hX kX
        obtain ⟨w, f1, f2, f3, f4⟩ := (weave (kd := kd) (sd := sdm l.sz) ((out l.sz s X).length + (out l.sz (!s) []).length) s (out l.sz s X) (out l.sz (!s) []) (Nat.le_refl _) (outne s X k kX) (sides s X hX) (sides' [] hY)).2
          (by
            have : qq kd (out l.sz (!s) []) = 0 := by rw [qq_out]; rfl
            have h1 : X ≠ [] := fun q => by rw [q] at kX; cases kX
            have := List.length_pos_iff.mpr h1
            have h2 := len_out l.sz s X
            omega) (by rw [qq_out]; omega)
        exact fin X [] w s hX hY kX (by rw [wlen X [] w f1 f2, lX]; rfl) (stays_iff.mp hst) f1 f2 f3 f4
      · rcases hh with ⟨htu, rfl⟩ | ⟨hst, rfl⟩
        · obtain ⟨X, hX, lX, kX⟩ := (ih s k (n - max n1 ((need (pick l r s)).q k))).mpr ⟨_, e0, by omega⟩
          obtain ⟨Y, hY, lY, kY⟩ := (ih (!s) k' (max n1 ((need (pick l r s)).q k))).mpr ⟨_, e1, by omega⟩
          have qX := qq_need hX kX
          have qY := qq_need hY kY
          obtain ⟨w, f1, f2, f3, f4⟩ := (weave (kd := kd) (sd := sdm l.sz) _ s (out l.sz s X) (out l.sz (!s) Y) (Nat.le_refl _) (outne s X k kX) (sides s X hX) (sides' Y hY)).1
            (by rw [qq_out, len_out]; omega) (by rw [qq_out, len_out]; omega) (outne (!s) Y k' kY)
          exact fin X Y w (!s) hX hY kX (by rw [wlen X Y w f1 f2]; omega) (turns_iff.mp htu) f1 f2 f3 f4
        · obtain ⟨X, hX, lX, kX⟩ := (ih s k (n - max n1 ((need (pick l r s)).q k - 1))).mpr ⟨_, e0, by omega⟩
          obtain ⟨Y, hY, lY, kY⟩ := (ih (!s) k' (max n1 ((need (pick l r s)).q k - 1))).mpr ⟨_, e1, by omega⟩
          have qX := qq_need hX kX
          have qY := qq_need hY kY
          obtain ⟨w, f1, f2, f3, f4⟩ := (weave (kd := kd) (sd := sdm l.sz) _ s (out l.sz s X) (out l.sz (!s) Y) (Nat.le_refl _) (outne s X k kX) (sides s X hX) (sides' Y hY)).2
            (by rw [qq_out, len_out]; omega) (by rw [qq_out, len_out]; omega)
          exact fin X Y w s hX hY kX (by rw [wlen X Y w f1 f2]; omega) (stays_iff.mp hst) f1 f2 f3 f4
end M

/-! The plain words of the walks: trees, rows, patterns, the search. -/
namespace M
inductive T where
  | lf
  | nd (l r : T)
  deriving DecidableEq, Repr
def T.sz : T → Nat
  | .lf => 1
  | .nd l r => l.sz + r.sz
theorem T.sz_pos : ∀ t : T, 0 < t.sz
  | .lf => Nat.one_pos
  | .nd l r => by have := l.sz_pos; simp only [T.sz]; omega
/-- the rows (fork, first slot, last slot), children first -/
def rowsOf : T → Nat → List (Nat × Nat × Nat)
  | .lf, _ => []
  | .nd l r, o => rowsOf l o ++ rowsOf r (o + l.sz) ++ [(o + l.sz - 1, o, o + (l.sz + r.sz) - 1)]
/-- the text of a tree: 40 opens, 46 a slot, 41 closes -/
def signs : T → List Nat
  | .lf => [46]
  | .nd l r => 40 :: (signs l ++ signs r) ++ [41]
/-- the trees at the forks, children first, each with its first slot -/
def subs : T → Nat → List (T × Nat)
  | .lf, _ => []
  | .nd l r, o => subs l o ++ subs r (o + l.sz) ++ [(.nd l r, o)]
def forkOf : T → Nat → Nat
  | .lf, o => o
  | .nd l _, o => o + l.sz - 1
/-- is it a fork, its number -/
def nodeOf : T → Nat → Bool × Nat
  | .lf, o => (false, o)
  | .nd l _, o => (true, o + l.sz - 1)
/-- left and right of each fork, by the forks' numbers -/
def kids : T → Nat → List ((Bool × Nat) × (Bool × Nat))
  | .lf, _ => []
  | .nd l r, o => kids l o ++ [(nodeOf l o, nodeOf r (o + l.sz))] ++ kids r (o + l.sz)
def gOf : T → (Nat → Ch) → (Nat → Ch) → (Nat → Bool) → Nat → G
  | .lf, _, _, R, o => .lf (R o)
  | .nd l r, s, e, R, o => .nd (gOf l s e R o) (s (o + l.sz - 1)) (e (o + l.sz - 1)) (gOf r s e R (o + l.sz))
theorem gOf_sz : ∀ (t : T) s e R o, (gOf t s e R o).sz = t.sz
  | .lf, _, _, _, _ => rfl
  | .nd l r, s, e, R, o => by simp only [gOf, G.sz, T.sz, gOf_sz]
/-- a list as a function -/
def fnOf (l : List Ch) (i : Nat) : Ch := l.getD i .Q
def inOf (R : List Nat) (i : Nat) : Bool := R.contains i
/-- what one asks of a tree -/
def askOf (t : T) (s e : List Ch) (R : List Nat) : G := gOf t (fnOf s) (fnOf e) (inOf R) 0
def needRows (t : T) (s e : List Ch) (R : List Nat) : List (Nat × Need) := (subs t 0).map fun u => (forkOf u.1 u.2, need (gOf u.1 (fnOf s) (fnOf e) (inOf R) u.2))
/-! ### all small trees -/
def T.dp : T → Nat
  | .lf => 0
  | .nd l r => max l.dp r.dp + 1
theorem T.dp_lt : ∀ t : T, t.dp < t.sz
  | .lf => Nat.one_pos
  | .nd l r => by have := l.dp_lt; have := r.dp_lt; have := l.sz_pos; have := r.sz_pos; simp only [T.dp, T.sz]; omega
def grown : Nat → List T
  | 0 => [.lf]
  | d + 1 => .lf :: (grown d).flatMap fun l => (grown d).filterMap fun r => if (l.sz + r.sz) ≤ 5 then some (.nd l r) else none
theorem mem_grown : ∀ (d : Nat) (t : T), t.dp ≤ d → t.sz ≤ 5 → t ∈ grown d
  | 0, .lf, _, _ => by simp [grown]
  | 0, .nd l r, h, _ => by simp [T.dp] at h
  | d + 1, .lf, _, _ => by simp [grown]
  | d + 1, .nd l r, h, hs => by
    simp only [T.dp] at h
    simp only [T.sz] at hs
    have h1 := mem_grown d l (by omega) (by have := r.sz_pos; omega)
    have h2 := mem_grown d r (by omega) (by have := l.sz_pos; omega)
    refine List.mem_cons_of_mem _ (List.mem_flatMap.mpr ⟨l, h1, List.mem_filterMap.mpr ⟨r, h2, ?_⟩⟩)
    rw [if_pos hs]
def small : List T := grown 4
theorem mem_small {t : T} (h : t.sz ≤ 5) : t ∈ small := mem_grown 4 t (by have := t.dp_lt; omega) h
/-- what holds of all small trees -/
theorem all_small {p : T → Bool} (h : small.all p = true) {t : T} (ht : t.sz ≤ 5) : p t = true := List.all_eq_true.mp h t (mem_small ht)
example : small.length = 23 := by decide +kernel

/-! ### the forks in order -/
def post (t : T) : List Nat := (subs t 0).map fun u => forkOf u.1 u.2
def known (t l : T) (o i : Nat) : Bool := l == .lf || (List.range i).any fun j => (subs t 0)[j]? == some (l, o)
def kidsOk (t : T) : Bool := decide (post t).Nodup && ((List.range (subs t 0).length).all fun i => match (subs t 0)[i]? with
  | some (.nd l r, o) => decide (o + l.sz - 1 + 1 < t.sz) && ((kids t 0)[o + l.sz - 1]? == some (nodeOf l o, nodeOf r (o + l.sz))) && known t l o i && known t r (o + l.sz) i
  | _ => false)
theorem kids_ok {t : T} (h : t.sz ≤ 5) : kidsOk t = true := all_small (p := kidsOk) (by decide +kernel) h
theorem post_nodup {t : T} (h : t.sz ≤ 5) : (post t).Nodup := by
  have := kids_ok h
  unfold kidsOk at this
  rw [Bool.and_eq_true] at this
  exact of_decide_eq_true this.1
theorem known_of {t l : T} {o i : Nat} (h : known t l o i = true) : l = .lf ∨ ∃ j, j < i ∧ (subs t 0)[j]? = some (l, o) := by
  unfold known at h
  rw [Bool.or_eq_true] at h
  rcases h with h | h
  · exact .inl (by simpa using h)
  · obtain ⟨j, hj, e⟩ := List.any_eq_true.mp h
    exact .inr ⟨j, List.mem_range.mp hj, by simpa using e⟩
theorem sub_at {t : T} (h : t.sz ≤ 5) {i : Nat} {u : T × Nat} (hi : (subs t 0)[i]? = some u) : ∃ l r, u.1 = .nd l r ∧ forkOf u.1 u.2 + 1 < t.sz ∧ (kids t 0)[forkOf u.1 u.2]? = some (nodeOf l u.2, nodeOf r (u.2 + l.sz)) ∧
    (l = .lf ∨ ∃ j, j < i ∧ (subs t 0)[j]? = some (l, u.2)) ∧ (r = .lf ∨ ∃ j, j < i ∧ (subs t 0)[j]? = some (r, u.2 + l.sz)) := by
  have := kids_ok h
  unfold kidsOk at this
  rw [Bool.and_eq_true] at this
  have hlt := (List.getElem?_eq_some_iff.mp hi).1
  have q := List.all_eq_true.mp this.2 i (List.mem_range.mpr hlt)
  rw [hi] at q
  obtain ⟨v, o⟩ := u
  cases v with
  | lf => cases q
  | nd l r =>
    simp only [Bool.and_eq_true, decide_eq_true_eq, beq_iff_eq] at q
    obtain ⟨⟨⟨q1, q2⟩, q3⟩, q4⟩ := q
    exact ⟨l, r, rfl, q1, q2, known_of q3, known_of q4⟩
theorem subs_len : ∀ (t : T) (o : Nat), (subs t o).length + 1 = t.sz
  | .lf, _ => rfl
  | .nd l r, o => by
    have h1 := subs_len l o
    have h2 := subs_len r (o + l.sz)
    simp only [subs, T.sz, List.length_append, List.length_cons, List.length_nil]
    omega
theorem kids_len : ∀ (t : T) (o : Nat), (kids t o).length + 1 = t.sz
  | .lf, _ => rfl
  | .nd l r, o => by
    have h1 := kids_len l o
    have h2 := kids_len r (o + l.sz)
    simp only [kids, T.sz, List.length_append, List.length_cons, List.length_nil]
    omega
/-- least of a need -/
def leastN (n : Need) : Option Nat := if n.em then some 0 else smallest ([n.ld, n.ht].filterMap id)

/-! ### flags by numbers -/
/-- flag i of the pattern k: true is left -/
def bit (k i : Nat) : Bool := k / 2 ^ i % 2 == 0
def bitsOf (n k : Nat) : List Bool := (List.range n).map (bit k)
/-- the number of a list of flags -/
def numOf : List Bool → Nat
  | [] => 0
  | b :: r => (if b then 0 else 1) + 2 * numOf r
def turnedL (rows : List (Nat × Nat × Nat)) (now : List Bool) (x : Nat) : List Bool :=
  rows.foldl (fun f r => if r.2.1 ≤ x ∧ x ≤ r.2.2 then f.set r.1 (decide (x ≤ r.1)) else f) now
def blockedL (rows : List (Nat × Nat × Nat)) (now : List Bool) (x : Nat) : Bool :=
  rows.any fun r => decide (r.2.1 ≤ x) && decide (x ≤ r.2.2) && (now.getD r.1 true == decide (x ≤ r.1))
def everyL : Nat → List (List Bool)
  | 0 => [[]]
  | n + 1 => (everyL n).map (· ++ [true]) ++ (everyL n).map (· ++ [false])
def agreeL (now : List Bool) (e : List Ch) : Bool := (List.range e.length).all fun i => chOf (now.getD i true) == e.getD i .Q || e.getD i .Q == .Q
/-- where a hit leads, the victim -/
def hitsL (rows : List (Nat × Nat × Nat)) (m : Nat) (now : List Bool) : List Nat := (List.range m).map fun x => numOf (turnedL rows now x)
def victimsL (rows : List (Nat × Nat × Nat)) (m : Nat) (now : List Bool) : List Nat := (List.range m).filter fun x => !blockedL rows now x
def movesL (rows : List (Nat × Nat × Nat)) (m : Nat) : List (List Nat × Nat) := (everyL (m - 1)).map fun now => (hitsL rows m now, (victimsL rows m now).headD 0)
end M

/-! Reading a tree's text. Plain Lean. -/
namespace M
/-- kind (0 open, 1 slot, 2 fork), number, first, last, place -/
structure Ent where
  kind : Nat
  num : Nat
  fst : Nat
  lst : Nat
  pl : Nat
  deriving DecidableEq, Repr
abbrev RowK := Nat × (Bool × Nat) × (Bool × Nat)
abbrev RdS := List Ent × List RowK × Nat
def rdStep (s : RdS) (i c : Nat) : Option RdS :=
  if c = 40 then some (⟨0, 0, 0, 0, i⟩ :: s.1, s.2.1, s.2.2) else
  if c = 46 then some (⟨1, s.2.2, s.2.2, s.2.2, i⟩ :: s.1, s.2.1, s.2.2 + 1) else
  if c = 41 then
    match s.1 with
    | r :: l :: o :: S => if o.kind = 0 ∧ l.kind ≠ 0 ∧ r.kind ≠ 0 then some (⟨2, l.lst, l.fst, r.lst, o.pl⟩ :: S, s.2.1 ++ [(l.lst, (l.kind == 2, l.num), (r.kind == 2, r.num))], s.2.2) else none
    | _ => none
  else none
def rdGo : List Nat → Nat → RdS → Option RdS
  | [], _, s => some s
  | c :: r, i, s => (rdStep s i c).bind (rdGo r (i + 1))
theorem rdGo_append : ∀ (a b : List Nat) (i : Nat) (s : RdS), rdGo (a ++ b) i s = (rdGo a i s).bind (rdGo b (i + a.length))
  | [], b, i, s => rfl
  | c :: r, b, i, s => by
    rw [List.cons_append, rdGo, rdGo, List.length_cons]
    cases rdStep s i c with
    | none => rfl
    | some s2 =>
      show rdGo (r ++ b) (i + 1) s2 = _
      rw [rdGo_append r b (i + 1) s2, show i + 1 + r.length = i + (r.length + 1) by omega]
      rfl
def rdAt (cs : List Nat) (i : Nat) : Option RdS := rdGo (cs.take i) 0 ([], [], 0)
theorem rdAt_next {cs : List Nat} {s : RdS} (h : rdGo cs 0 ([], [], 0) = some s) {i c : Nat} (hc : cs[i]? = some c) {u : RdS} (hu : rdAt cs i = some u) : ∃ v, rdAt cs (i + 1) = some v ∧ rdStep u i c = some v := by
  have hi : i < cs.length := (List.getElem?_eq_some_iff.mp hc).1
  have e : cs = cs.take i ++ c :: cs.drop (i + 1) := by
    have := List.take_append_drop i cs
    rw [List.drop_eq_getElem_cons hi] at this
    rw [(List.getElem?_eq_some_iff.mp hc).2] at this
    exact this.symm
  have hl : (cs.take i).length = i := by rw [List.length_take]; omega
  rw [e, rdGo_append, show rdGo (cs.take i) 0 ([], [], 0) = some u from hu] at h
  have h : (rdStep u (0 + (cs.take i).length) c).bind (rdGo (cs.drop (i + 1)) (0 + (cs.take i).length + 1)) = some s := h
  rw [Nat.zero_add, hl] at h
  cases hv : rdStep u i c with
  | none => rw [hv] at h; cases h
  | some v =>
    refine ⟨v, ?_, rfl⟩
    have e2 : cs.take (i + 1) = cs.take i ++ [c] := by rw [List.take_add_one, hc]; rfl
    rw [rdAt, e2, rdGo_append, show rdGo (cs.take i) 0 ([], [], 0) = some u from hu]
    show (rdStep u (0 + (cs.take i).length) c).bind _ = _
    rw [Nat.zero_add, hl, hv]
    rfl
def rowsK (t : T) : List RowK := (subs t 0).map fun u => (forkOf u.1 u.2, match u.1 with | .lf => ((false, 0), (false, 0)) | .nd l r => (nodeOf l u.2, nodeOf r (u.2 + l.sz)))
def rdOk (t : T) : Bool := (match rdGo (signs t) 0 ([], [], 0) with | some ([x], rows, _) => x.kind != 0 && rows == rowsK t | _ => false) && decide ((signs t).length ≤ 13) &&
  (rowsK t).all fun r => ((kids t 0)[r.1]? == some (r.2.1, r.2.2)) && decide (r.1 + 1 < t.sz)
theorem rd_ok {t : T} (h : t.sz ≤ 5) : rdOk t = true := all_small (p := rdOk) (by decide +kernel) h
theorem rd_text {t : T} (h : t.sz ≤ 5) : (∃ x n, rdGo (signs t) 0 ([], [], 0) = some ([x], rowsK t, n) ∧ x.kind ≠ 0) ∧ (signs t).length ≤ 13 ∧ ∀ r ∈ rowsK t, (kids t 0)[r.1]? = some (r.2.1, r.2.2) ∧ r.1 + 1 < t.sz := by
  have := rd_ok h
  unfold rdOk at this
  rw [Bool.and_eq_true, Bool.and_eq_true] at this
  obtain ⟨⟨h1, h2⟩, h3⟩ := this
  refine ⟨?_, of_decide_eq_true h2, fun r hr => ?_⟩
  · split at h1
    · next x rows n e =>
      rw [Bool.and_eq_true] at h1
      refine ⟨x, n, ?_, by simpa using h1.1⟩
      rw [e]
      have : rows = rowsK t := by simpa using h1.2
      rw [this]
    · cases h1
  · have := List.all_eq_true.mp h3 r hr
    rw [Bool.and_eq_true] at this
    exact ⟨by simpa using this.1, of_decide_eq_true this.2⟩
theorem rowsK_post (t : T) : (rowsK t).map (·.1) = post t := by simp [rowsK, post]
theorem rowsK_len (t : T) : (rowsK t).length + 1 = t.sz := by rw [← subs_len t 0]; simp [rowsK]
/-- ints that rise, all below n, n of them -/
theorem rise_is {l : List Int} (hp : l.Pairwise (· < ·)) (h0 : ∀ x ∈ l, 0 ≤ x ∧ x < (l.length : Int)) (i : Nat) (hi : i < l.length) : l[i] = (i : Int) := by
  have lo : ∀ (i : Nat) (hi : i < l.length), (i : Int) ≤ l[i] := by
    intro i
    induction i with
    | zero => intro hi; have := (h0 _ (List.getElem_mem hi)).1; simpa using this
    | succ i ih =>
      intro hi
      have h1 := ih (by omega)
      have h2 := List.pairwise_iff_getElem.mp hp i (i + 1) (by omega) hi (by omega)
      omega
  have up : ∀ (k i : Nat) (hi : i < l.length), l.length - 1 - i = k → l[i] ≤ (i : Int) := by
    intro k
    induction k with
    | zero =>
      intro i hi hk
      have := (h0 _ (List.getElem_mem hi)).2
      omega
    | succ k ih =>
      intro i hi hk
      have h1 := ih (i + 1) (by omega) (by omega)
      have h2 := List.pairwise_iff_getElem.mp hp i (i + 1) hi (by omega) (by omega)
      omega
  have := lo i hi
  have := up _ i hi rfl
  omega
end M

/-! The law's drawing of a tree; its text. Plain Lean. -/
namespace M
abbrev Row := Nat × Nat × Nat
def pre : T → Nat → List Row
  | .lf, _ => []
  | .nd l r, o => (o + l.sz - 1, o, o + (l.sz + r.sz) - 1) :: (pre r (o + l.sz) ++ pre l o)
theorem pre_rev : ∀ (t : T) (o : Nat), (pre t o).reverse = rowsOf t o
  | .lf, _ => rfl
  | .nd l r, o => by simp [pre, rowsOf, pre_rev l o, pre_rev r (o + l.sz)]
inductive Fit : List (Nat × Nat) → List T → Prop
  | nil : Fit [] []
  | cons {a b : Nat} {t : T} {S : List (Nat × Nat)} {ts : List T} : a + t.sz = b + 1 → Fit S ts → Fit ((a, b) :: S) (t :: ts)
def preAll : List (Nat × Nat) → List T → List Row
  | (a, _) :: S, t :: ts => pre t a ++ preAll S ts
  | _, _ => []
def cnt (S : List (Nat × Nat)) : Nat := (S.map fun p => 2 * (p.2 - p.1) + 1).sum
structure Grow (many : Nat) (S : List (Nat × Nat)) (acc : List Row) (i : Nat) : Prop where
  told : ∀ ts, Fit S ts → ∃ t : T, t.sz = many ∧ acc ++ preAll S ts = pre t 0
  left : cnt S + i = 2 * many - 1
  ok : ∀ p ∈ S, p.1 ≤ p.2 ∧ p.2 < many
theorem grow_start {many : Nat} (h : 0 < many) : Grow many [(0, many - 1)] [] 0 := by
  refine ⟨fun ts f => ?_, by simp [cnt]; omega, fun p hp => ?_⟩
  · cases f with
    | @cons _ _ t _ _ e f =>
      cases f
      exact ⟨t, by omega, by simp [preAll]⟩
  · have : p = (0, many - 1) := by simpa using hp
    subst this; simp; omega
theorem grow_leaf {many a b i : Nat} {S : List (Nat × Nat)} {acc : List Row} (g : Grow many ((a, b) :: S) acc i) (h : ¬ a < b) : Grow many S acc (i + 1) := by
  have hab := (g.ok (a, b) List.mem_cons_self).1
  have e : a = b := by simp at hab; omega
  subst e
  refine ⟨fun ts f => ?_, ?_, fun p hp => g.ok p (List.mem_cons_of_mem _ hp)⟩
  · obtain ⟨t, h1, h2⟩ := g.told (.lf :: ts) (.cons (by simp [T.sz]) f)
    exact ⟨t, h1, by simpa [preAll, pre] using h2⟩
  · have := g.left
    simp only [cnt, List.map_cons, List.sum_cons] at this ⊢
    omega
theorem grow_fork {many a b f i : Nat} {S : List (Nat × Nat)} {acc : List Row} (g : Grow many ((a, b) :: S) acc i) (h1 : a ≤ f) (h2 : f < b) : Grow many ((f + 1, b) :: (a, f) :: S) (acc ++ [(f, a, b)]) (i + 1) := by
  have hab := g.ok (a, b) List.mem_cons_self
  refine ⟨fun ts q => ?_, ?_, fun p hp => ?_⟩
  · cases q with
    | @cons _ _ tr _ ts2 e1 q =>
      cases q with
      | @cons _ _ tl _ ts3 e2 q =>
        obtain ⟨t, h3, h4⟩ := g.told (.nd tl tr :: ts3) (.cons (by simp only [T.sz]; omega) q)
        refine ⟨t, h3, ?_⟩
        rw [← h4]
        simp only [preAll, pre]
        rw [show a + tl.sz - 1 = f by omega, show a + (tl.sz + tr.sz) - 1 = b by omega, show a + tl.sz = f + 1 by omega]
        simp
  · have := g.left
    simp only [cnt, List.map_cons, List.sum_cons] at this ⊢
    omega
  · simp at hab
    rcases List.mem_cons.mp hp with rfl | hp
    · simp; omega
    rcases List.mem_cons.mp hp with rfl | hp
    · simp; omega
    · exact g.ok p (List.mem_cons_of_mem _ hp)
theorem grow_more {many i : Nat} {S : List (Nat × Nat)} {acc : List Row} (g : Grow many S acc i) (h : i < 2 * many - 1) : S ≠ [] := by
  intro e
  have := g.left
  rw [e] at this
  simp [cnt] at this
  omega
theorem grow_end {many i : Nat} {S : List (Nat × Nat)} {acc : List Row} (g : Grow many S acc i) (h : i = 2 * many - 1) : ∃ t : T, t.sz = many ∧ acc.reverse = rowsOf t 0 := by
  have e : S = [] := by
    cases S with
    | nil => rfl
    | cons p S =>
      have := g.left
      simp only [cnt, List.map_cons, List.sum_cons] at this
      omega
  subst e
  obtain ⟨t, h1, h2⟩ := g.told [] .nil
  exact ⟨t, h1, by rw [← pre_rev, ← h2]; simp [preAll]⟩
theorem grow_len {many i : Nat} {S : List (Nat × Nat)} {acc : List Row} (g : Grow many S acc i) : S.length ≤ 2 * many := by
  have h : ∀ S : List (Nat × Nat), S.length ≤ cnt S := by
    intro S
    induction S with
    | nil => exact Nat.le_refl _
    | cons p S ih => simp only [cnt, List.map_cons, List.sum_cons, List.length_cons] at *; omega
  have := h S
  have := g.left
  omega
/-! ### the text of the rows -/
def stepT (ps : List (List Nat)) (r : Row) : List (List Nat) :=
  let q := ps.set r.2.1 (40 :: ps.getD r.2.1 [])
  q.set r.2.2 (q.getD r.2.2 [] ++ [41])
def partsOf (t : T) : List (List Nat) := (rowsOf t 0).foldl stepT (List.replicate t.sz [46])
def textOk (t : T) : Bool := (partsOf t).flatten == signs t && (rowsOf t 0).all (fun r => decide (r.2.1 < t.sz) && decide (r.2.2 < t.sz) && decide (r.1 + 1 < t.sz) && decide (r.2.1 ≤ r.1) && decide (r.1 < r.2.2)) &&
  (List.range (t.sz + 1)).all fun i => ((((rowsOf t 0).take i).foldl stepT (List.replicate t.sz [46])).all fun p => decide (p.length ≤ 20)) && (((rowsOf t 0).take i).foldl stepT (List.replicate t.sz [46])).length == t.sz
theorem text_ok {t : T} (h : t.sz ≤ 5) : textOk t = true := all_small (p := textOk) (by decide +kernel) h
theorem rowsOf_len : ∀ (t : T) (o : Nat), (rowsOf t o).length + 1 = t.sz
  | .lf, _ => rfl
  | .nd l r, o => by
    have h1 := rowsOf_len l o
    have h2 := rowsOf_len r (o + l.sz)
    simp only [rowsOf, T.sz, List.length_append, List.length_cons, List.length_nil]
    omega
theorem text_is {t : T} (h : t.sz ≤ 5) : (partsOf t).flatten = signs t := by
  have := text_ok h
  simp only [textOk, Bool.and_eq_true, beq_iff_eq] at this
  exact this.1.1
theorem rows_in {t : T} (h : t.sz ≤ 5) : ∀ r ∈ rowsOf t 0, r.2.1 < t.sz ∧ r.2.2 < t.sz ∧ r.1 + 1 < t.sz ∧ r.2.1 ≤ r.1 ∧ r.1 < r.2.2 := by
  have := text_ok h
  simp only [textOk, Bool.and_eq_true] at this
  intro r hr
  have := List.all_eq_true.mp this.1.2 r hr
  simp only [Bool.and_eq_true, decide_eq_true_eq] at this
  exact ⟨this.1.1.1.1, this.1.1.1.2, this.1.1.2, this.1.2, this.2⟩
theorem parts_in {t : T} (h : t.sz ≤ 5) {i : Nat} (hi : i ≤ t.sz) : (((rowsOf t 0).take i).foldl stepT (List.replicate t.sz [46])).length = t.sz ∧ ∀ p ∈ ((rowsOf t 0).take i).foldl stepT (List.replicate t.sz [46]), p.length ≤ 20 := by
  have := text_ok h
  simp only [textOk, Bool.and_eq_true] at this
  have := List.all_eq_true.mp this.2 i (List.mem_range.mpr (by omega))
  simp only [Bool.and_eq_true, beq_iff_eq] at this
  exact ⟨this.2, fun p hp => by simpa using List.all_eq_true.mp this.1 p hp⟩
end M

/-! The law's search, in plain Lean. -/
namespace M
def agreeP (s e : List Ch) : Bool := (List.range e.length).all fun i => agrees (fnOf s i) (fnOf e i)
abbrev Mv := List (List Nat × Nat)
abbrev Sst := Nat × Nat
abbrev Tab := List (List (Option Nat))
def firstOne (ev : List (List Bool)) (mv : Mv) (s : List Ch) (kind : Bool) (k : Nat) : List Sst :=
  if agreeP ((ev.getD k []).map chOf) s then (if kind then [((mv.getD k ([], 0)).1.getD (mv.getD k ([], 0)).2 0, 2 ^ (mv.getD k ([], 0)).2)] else (mv.getD k ([], 0)).1.map fun p => (p, 0)) else []
def firstL (ev : List (List Bool)) (mv : Mv) (s : List Ch) (kind : Bool) (n : Nat) : List Sst := (List.range n).flatMap (firstOne ev mv s kind)
def succL (mv : Mv) (s : Sst) : List Sst :=
  (mv.getD s.1 ([], 0)).1.map (fun p => (p, s.2)) ++ (if s.2 / 2 ^ (mv.getD s.1 ([], 0)).2 % 2 = 0 then [((mv.getD s.1 ([], 0)).1.getD (mv.getD s.1 ([], 0)).2 0, s.2 + 2 ^ (mv.getD s.1 ([], 0)).2)] else [])
def getT (b : Tab) (s : Sst) : Option Nat := (b.getD s.1 []).getD s.2 none
def setT (b : Tab) (s : Sst) (c : Nat) : Tab := b.set s.1 ((b.getD s.1 []).set s.2 (some c))
def visit (mv : Mv) (c : Nat) (a : Tab × List Sst) (s : Sst) : Tab × List Sst := if getT a.1 s = none then (setT a.1 s c, a.2 ++ succL mv s) else a
def levelL (mv : Mv) (c : Nat) (b : Tab) (st : List Sst) : Tab × List Sst := st.foldl (visit mv c) (b, [])
def bfs (mv : Mv) : Nat → Nat → Tab → List Sst → Tab
  | 0, _, b, _ => b
  | f + 1, c, b, st => if (levelL mv c b st).2 = [] then (levelL mv c b st).1 else bfs mv f (c + 1) (levelL mv c b st).1 (levelL mv c b st).2
def tab0 (n : Nat) : Tab := List.replicate (2 ^ (n - 1)) (List.replicate (2 ^ n) none)
def mvOf (t : T) : Mv := movesL (rowsOf t 0) t.sz
def evOf (t : T) : List (List Bool) := everyL (t.sz - 1)
def startL (t : T) (s : List Ch) (kind : Bool) : List Sst := firstL (evOf t) (mvOf t) s kind (2 ^ (t.sz - 1))
def searchL (t : T) (s : List Ch) (kind : Bool) : Tab := bfs (mvOf t) 599 1 (tab0 t.sz) (startL t s kind)

/-! ### the tables are right in size -/
structure MvOk (n : Nat) (mv : Mv) : Prop where
  len : mv.length = 2 ^ (n - 1)
  all : ∀ h ∈ mv, h.1.length = n ∧ h.2 < n ∧ ∀ x ∈ h.1, x < 2 ^ (n - 1)
def mvOkB (n : Nat) (mv : Mv) : Bool := mv.length == 2 ^ (n - 1) && mv.all fun h => h.1.length == n && decide (h.2 < n) && h.1.all fun x => decide (x < 2 ^ (n - 1))
theorem mv_ok {t : T} (h : t.sz ≤ 5) : MvOk t.sz (mvOf t) := by
  have := all_small (p := fun t => mvOkB t.sz (mvOf t)) (by decide +kernel) h
  simp only [mvOkB, Bool.and_eq_true, beq_iff_eq] at this
  refine ⟨this.1, fun h hh => ?_⟩
  have q := List.all_eq_true.mp this.2 h hh
  simp only [Bool.and_eq_true, beq_iff_eq, decide_eq_true_eq] at q
  exact ⟨q.1.1, q.1.2, fun x hx => by simpa using List.all_eq_true.mp q.2 x hx⟩
/-- the victims are there, turned flags are among all, by their number -/
def movesOkB (t : T) : Bool := (evOf t).all fun now => (victimsL (rowsOf t 0) t.sz now) != [] && (List.range t.sz).all fun x => (evOf t)[numOf (turnedL (rowsOf t 0) now x)]? == some (turnedL (rowsOf t 0) now x)
theorem moves_ok {t : T} (h : t.sz ≤ 5) : ∀ now ∈ evOf t, victimsL (rowsOf t 0) t.sz now ≠ [] ∧ ∀ x < t.sz, (evOf t)[numOf (turnedL (rowsOf t 0) now x)]? = some (turnedL (rowsOf t 0) now x) := by
  have := all_small (p := movesOkB) (by decide +kernel) h
  intro now hn
  have := List.all_eq_true.mp this now hn
  simp only [Bool.and_eq_true] at this
  exact ⟨by simpa using this.1, fun x hx => by simpa using List.all_eq_true.mp this.2 x (List.mem_range.mpr hx)⟩
theorem every_nodup : ∀ n ≤ 4, (everyL n).Nodup := by decide +kernel
def InR (n : Nat) (s : Sst) : Prop := s.1 < 2 ^ (n - 1) ∧ s.2 < 2 ^ n
structure TabOk (n : Nat) (b : Tab) : Prop where
  len : b.length = 2 ^ (n - 1)
  all : ∀ r ∈ b, r.length = 2 ^ n
theorem tab0_ok (n : Nat) : TabOk n (tab0 n) := ⟨by simp [tab0], fun r hr => by have := (List.mem_replicate.mp hr).2; subst this; simp⟩
theorem mv_at {n : Nat} {mv : Mv} (o : MvOk n mv) {p : Nat} (hp : p < 2 ^ (n - 1)) : mv[p]? = some (mv.getD p ([], 0)) ∧ (mv.getD p ([], 0)).1.length = n ∧ (mv.getD p ([], 0)).2 < n ∧ ∀ x ∈ (mv.getD p ([], 0)).1, x < 2 ^ (n - 1) := by
  have hl : p < mv.length := by rw [o.len]; exact hp
  have e : mv[p]? = some (mv.getD p ([], 0)) := by simp [hl]
  exact ⟨e, o.all _ (List.mem_of_getElem? e)⟩
theorem getD_at {l : List Nat} {v d : Nat} (h : v < l.length) : l[v]? = some (l.getD v d) := by simp [h]
theorem getD_mem {l : List Nat} {v d : Nat} (h : v < l.length) : l.getD v d ∈ l := List.mem_of_getElem? (getD_at h)
theorem add_bit : ∀ m < 32, ∀ v < 5, ∀ n < 6, (v < n ∧ m < 2 ^ n ∧ m / 2 ^ v % 2 = 0) → m + 2 ^ v < 2 ^ n := by decide +kernel
theorem pow_le32 {n : Nat} (h : n ≤ 5) : 2 ^ n ≤ 32 := Nat.pow_le_pow_right (by decide : 0 < 2) h
theorem succ_ok {n : Nat} {mv : Mv} (o : MvOk n mv) (h5 : n ≤ 5) {s : Sst} (hs : InR n s) : (∀ u ∈ succL mv s, InR n u) ∧ (succL mv s).length ≤ 6 := by
  obtain ⟨_, h1, h2, h3⟩ := mv_at o hs.1
  have h32 := pow_le32 h5
  have hs2 := hs.2
  refine ⟨fun u hu => ?_, ?_⟩
  · unfold succL at hu
    rcases List.mem_append.mp hu with hu | hu
    · obtain ⟨p, hp, rfl⟩ := List.mem_map.mp hu
      exact ⟨h3 p hp, hs.2⟩
    · split at hu
      · next hb =>
        rcases List.mem_singleton.mp hu with rfl
        refine ⟨h3 _ ?_, add_bit s.2 (by omega) _ (by omega) n (by omega) ⟨h2, hs.2, hb⟩⟩
        exact getD_mem (by omega)
      · simp at hu
  · unfold succL
    rw [List.length_append, List.length_map, h1]
    split <;> simp <;> omega
/-- the entries that are not told yet -/
def nn (b : Tab) : Nat := (b.map fun r => r.count none).sum
theorem count_set : ∀ (r : List (Option Nat)) (m : Nat) (c : Nat), r[m]? = some none → (r.set m (some c)).count none + 1 = r.count none
  | [], m, c, h => by simp at h
  | x :: r, 0, c, h => by
    have : x = none := by simpa using h
    subst this
    simp
  | x :: r, m + 1, c, h => by
    have h : r[m]? = some none := by simpa using h
    have := count_set r m c h
    rw [List.set_cons_succ, List.count_cons, List.count_cons]
    omega
theorem nn_set : ∀ (b : Tab) (p : Nat) (r r' : List (Option Nat)), b[p]? = some r → r'.count none + 1 = r.count none → nn (b.set p r') + 1 = nn b
  | [], p, r, r', h, _ => by simp at h
  | x :: b, 0, r, r', h, e => by
    have : x = r := by simpa using h
    subst this
    simp only [nn, List.set_cons_zero, List.map_cons, List.sum_cons]
    omega
  | x :: b, p + 1, r, r', h, e => by
    have := nn_set b p r r' (by simpa using h) e
    simp only [nn, List.set_cons_succ, List.map_cons, List.sum_cons] at this ⊢
    omega
theorem tab_at {n : Nat} {b : Tab} (o : TabOk n b) {s : Sst} (hs : InR n s) : b[s.1]? = some (b.getD s.1 []) ∧ (b.getD s.1 []).length = 2 ^ n ∧ (b.getD s.1 [])[s.2]? = some (getT b s) := by
  have hl : s.1 < b.length := by rw [o.len]; exact hs.1
  have e : b[s.1]? = some (b.getD s.1 []) := by simp [hl]
  have l := o.all _ (List.mem_of_getElem? e)
  refine ⟨e, l, ?_⟩
  have hl2 : s.2 < (b.getD s.1 []).length := by rw [l]; exact hs.2
  unfold getT
  rw [List.getD_eq_getElem?_getD (l := b.getD s.1 []), List.getElem?_eq_getElem hl2]; rfl
theorem set_ok {n : Nat} {b : Tab} (o : TabOk n b) {s : Sst} (hs : InR n s) (c : Nat) : TabOk n (setT b s c) := by
  obtain ⟨e, l, _⟩ := tab_at o hs
  refine ⟨by rw [setT, List.length_set]; exact o.len, fun r hr => ?_⟩
  rcases List.mem_or_eq_of_mem_set hr with h | h
  · exact o.all r h
  · rw [h, List.length_set]; exact l
theorem nn_setT {n : Nat} {b : Tab} (o : TabOk n b) {s : Sst} (hs : InR n s) (c : Nat) (h : getT b s = none) : nn (setT b s c) + 1 = nn b := by
  obtain ⟨e, l, g⟩ := tab_at o hs
  rw [h] at g
  exact nn_set b _ _ _ e (count_set _ _ _ g)
structure LvOk (n k : Nat) (b : Tab) (l : List Sst) : Prop where
  tab : TabOk n b
  inr : ∀ s ∈ l, InR n s
  len : l.length + 6 * nn b ≤ k
theorem visit_ok {n k c : Nat} {mv : Mv} (o : MvOk n mv) (h5 : n ≤ 5) {a : Tab × List Sst} (h : LvOk n k a.1 a.2) {s : Sst} (hs : InR n s) : LvOk n k (visit mv c a s).1 (visit mv c a s).2 := by
  unfold visit
  split
  · next hg =>
    obtain ⟨h1, h2⟩ := succ_ok o h5 hs
    have h3 := nn_setT h.tab hs c hg
    have h4 := h.len
    refine ⟨set_ok h.tab hs c, fun u hu => ?_, ?_⟩
    · rcases List.mem_append.mp hu with hu | hu
      · exact h.inr u hu
      · exact h1 u hu
    · show (a.2 ++ succL mv s).length + 6 * nn (setT a.1 s c) ≤ k
      rw [List.length_append]
      omega
  · exact h
theorem fold_ok {n k c : Nat} {mv : Mv} (o : MvOk n mv) (h5 : n ≤ 5) : ∀ (st : List Sst) (a : Tab × List Sst), LvOk n k a.1 a.2 → (∀ s ∈ st, InR n s) → LvOk n k (st.foldl (visit mv c) a).1 (st.foldl (visit mv c) a).2
  | [], a, h, _ => h
  | s :: st, a, h, hs => fold_ok o h5 st _ (visit_ok o h5 h (hs s List.mem_cons_self)) fun u hu => hs u (List.mem_cons_of_mem _ hu)
theorem nn_le {n : Nat} {b : Tab} (o : TabOk n b) : nn b ≤ 2 ^ (n - 1) * 2 ^ n := by
  have : ∀ (b : Tab), (∀ r ∈ b, r.length = 2 ^ n) → nn b ≤ b.length * 2 ^ n := by
    intro b
    induction b with
    | nil => intro _; simp [nn]
    | cons r b ih =>
      intro h
      have h1 := ih fun q hq => h q (List.mem_cons_of_mem _ hq)
      have h2 := h r List.mem_cons_self
      have h3 : r.count none ≤ r.length := List.count_le_length
      simp only [nn, List.map_cons, List.sum_cons, List.length_cons] at h1 ⊢
      rw [Nat.add_mul, Nat.one_mul]
      omega
  have h := this b o.all
  rw [o.len] at h
  exact h
theorem nn_512 {n : Nat} {b : Tab} (h5 : n ≤ 5) (o : TabOk n b) : nn b ≤ 512 := by
  have h1 := nn_le o
  have h2 : 2 ^ (n - 1) ≤ 2 ^ 4 := Nat.pow_le_pow_right (by decide : 0 < 2) (show n - 1 ≤ 4 by omega)
  have h24 : (2 : Nat) ^ 4 = 16 := rfl
  rw [h24] at h2
  have h3 := pow_le32 h5
  have h4 : 2 ^ (n - 1) * 2 ^ n ≤ 16 * 32 := Nat.mul_le_mul h2 h3
  omega
theorem level_ok {n c : Nat} {mv : Mv} (o : MvOk n mv) (h5 : n ≤ 5) {b : Tab} (hb : TabOk n b) {st : List Sst} (hs : ∀ s ∈ st, InR n s) (i : Nat) : TabOk n ((st.take i).foldl (visit mv c) (b, [])).1 ∧ (∀ s ∈ ((st.take i).foldl (visit mv c) (b, [])).2, InR n s) ∧ ((st.take i).foldl (visit mv c) (b, [])).2.length ≤ 3072 := by
  have h := fold_ok (c := c) o h5 (st.take i) (b, []) (k := 3072) ⟨hb, fun s hs => by simp at hs, by have := nn_512 h5 hb; simp; omega⟩ (fun s h => hs s (List.mem_of_mem_take h))
  exact ⟨h.tab, h.inr, by have := h.len; omega⟩
theorem ev_len (t : T) : (evOf t).length = 2 ^ (t.sz - 1) := by
  have : ∀ n, (everyL n).length = 2 ^ n := by
    intro n
    induction n with
    | zero => rfl
    | succ n ih => rw [everyL, List.length_append, List.length_map, List.length_map, ih, Nat.pow_succ]; omega
  exact this _
theorem first_ok {t : T} (h5 : t.sz ≤ 5) (s : List Ch) (kind : Bool) (k : Nat) (hk : k < 2 ^ (t.sz - 1)) : (∀ u ∈ firstOne (evOf t) (mvOf t) s kind k, InR t.sz u) ∧ (firstOne (evOf t) (mvOf t) s kind k).length ≤ 5 := by
  obtain ⟨_, h1, h2, h3⟩ := mv_at (mv_ok h5) hk
  have hz := t.sz_pos
  unfold firstOne
  refine ⟨fun u hu => ?_, ?_⟩
  · split at hu
    · split at hu
      · rcases List.mem_singleton.mp hu with rfl
        refine ⟨h3 _ ?_, Nat.pow_lt_pow_right (by decide) h2⟩
        exact getD_mem (by omega)
      · obtain ⟨p, hp, rfl⟩ := List.mem_map.mp hu
        exact ⟨h3 p hp, Nat.pow_pos (by decide)⟩
    · simp at hu
  · split
    · split
      · simp
      · rw [List.length_map, h1]; exact h5
    · simp
theorem firsts_ok {t : T} (h5 : t.sz ≤ 5) (s : List Ch) (kind : Bool) (n : Nat) (hn : n ≤ 2 ^ (t.sz - 1)) : (∀ u ∈ firstL (evOf t) (mvOf t) s kind n, InR t.sz u) ∧ (firstL (evOf t) (mvOf t) s kind n).length ≤ 5 * n := by
  induction n with
  | zero => exact ⟨fun u hu => by simp [firstL] at hu, by simp [firstL]⟩
  | succ n ih =>
    obtain ⟨h1, h2⟩ := ih (by omega)
    obtain ⟨h3, h4⟩ := first_ok h5 s kind n (by omega)
    have e : firstL (evOf t) (mvOf t) s kind (n + 1) = firstL (evOf t) (mvOf t) s kind n ++ firstOne (evOf t) (mvOf t) s kind n := by
      simp [firstL, List.range_succ, List.flatMap_append]
    rw [e]
    refine ⟨fun u hu => ?_, by rw [List.length_append]; omega⟩
    rcases List.mem_append.mp hu with h | h
    · exact h1 u h
    · exact h3 u h
end M

/-! Sets of slots as numbers; what the law reads out of its search. Plain Lean. -/
namespace M
def mask (R : List Nat) : Nat := (R.map fun x => 2 ^ x).sum
theorem mask_split (p : Nat → Bool) : ∀ R : List Nat, mask R = mask (R.filter p) + mask (R.filter fun x => !p x)
  | [] => rfl
  | x :: R => by
    have ih := mask_split p R
    simp only [mask, List.map_cons, List.sum_cons] at ih ⊢
    cases h : p x <;> simp [h] <;> omega
theorem mask_top {R : List Nat} (hn : R.Nodup) (n : Nat) : mask R = mask (R.filter fun x => x != n) + (if n ∈ R then 2 ^ n else 0) := by
  rw [mask_split (fun x => x != n) R]
  congr 1
  have h1 : ∀ x ∈ R.filter (fun x => !(x != n)), x = n := fun x hx => by have := (List.mem_filter.mp hx).2; simpa using this
  have h2 : (R.filter fun x => !(x != n)).Nodup := hn.filter _
  generalize hf : (R.filter fun x => !(x != n)) = F at h1 h2
  have hm : n ∈ F ↔ n ∈ R := by rw [← hf, List.mem_filter]; simp
  match F, h1, h2 with
  | [], _, _ =>
    rw [if_neg (fun h => by have := hm.mpr h; simp at this)]; rfl
  | [x], h1, _ =>
    have : x = n := h1 x (by simp)
    subst this
    rw [if_pos (hm.mp (by simp))]
    simp [mask]
  | x :: y :: r, h1, h2 =>
    have e1 := h1 x (by simp)
    have e2 := h1 y (by simp)
    subst e1
    subst e2
    simp at h2
theorem mask_lt : ∀ (n : Nat) (R : List Nat), R.Nodup → (∀ x ∈ R, x < n) → mask R < 2 ^ n
  | 0, R, _, h => by
    have : R = [] := by
      cases R with
      | nil => rfl
      | cons x R => have := h x List.mem_cons_self; omega
    subst this
    simp [mask]
  | n + 1, R, hn, h => by
    rw [mask_top hn n]
    have := mask_lt n (R.filter fun x => x != n) (hn.filter _) fun x hx => by
      obtain ⟨h1, h2⟩ := List.mem_filter.mp hx
      have := h x h1
      have : x ≠ n := by simpa using h2
      omega
    rw [Nat.pow_succ]
    split <;> omega
theorem bit_low (m b n x : Nat) (h : x < n) : (m + b * 2 ^ n) / 2 ^ x % 2 = m / 2 ^ x % 2 := by
  have e : 2 ^ n = 2 ^ x * (2 * 2 ^ (n - x - 1)) := by
    rw [← Nat.pow_succ', ← Nat.pow_add]; congr 1; omega
  rw [e, show m + b * (2 ^ x * (2 * 2 ^ (n - x - 1))) = m + 2 ^ x * (2 * (b * 2 ^ (n - x - 1))) by rw [Nat.mul_left_comm b, Nat.mul_left_comm b], Nat.add_mul_div_left _ _ (Nat.pow_pos (by decide))]
  omega
theorem mask_bit : ∀ (n : Nat) (R : List Nat), R.Nodup → (∀ x ∈ R, x < n) → ∀ x < n, mask R / 2 ^ x % 2 = if x ∈ R then 1 else 0
  | 0, R, _, _, x, hx => by omega
  | n + 1, R, hn, h, x, hx => by
    have hR' : ∀ x ∈ R.filter (fun x => x != n), x < n := fun x hx => by
      obtain ⟨h1, h2⟩ := List.mem_filter.mp hx
      have := h x h1
      have : x ≠ n := by simpa using h2
      omega
    have hlt := mask_lt n _ (hn.filter _) hR'
    rw [mask_top hn n]
    by_cases hxn : x = n
    · subst hxn
      split
      · rw [show mask (R.filter fun y => y != x) + 2 ^ x = mask (R.filter fun y => y != x) + 2 ^ x * 1 by omega, Nat.add_mul_div_left _ _ (Nat.pow_pos (by decide)), Nat.div_eq_of_lt hlt]
      · rw [Nat.add_zero, Nat.div_eq_of_lt hlt]
    · have ih := mask_bit n _ (hn.filter (fun x => x != n)) hR' x (by omega)
      have e : (x ∈ R.filter fun y => y != n) ↔ x ∈ R := by rw [List.mem_filter]; simp [hxn]
      have e2 : (if n ∈ R then 2 ^ n else 0) = (if n ∈ R then 1 else 0) * 2 ^ n := by split <;> simp
      rw [e2, bit_low _ _ _ _ (by omega), ih]
      simp only [e]
/-- the counts that are told of a set, over the flags that agree -/
def knownL (ev : List (List Bool)) (b : Tab) (e : List Ch) (ld : Nat) : List Nat := ((List.range ev.length).filter fun k => agreeP ((ev.getD k []).map chOf) e).filterMap fun k => getT b (k, ld)
def foundN (n : Nat) (b1 b2 : Tab) (s e : List Ch) (R : List Nat) : Need :=
  ⟨R.length, smallest (knownL (everyL (n - 1)) b1 e (mask R)), smallest (knownL (everyL (n - 1)) b2 e (mask R)), R == [] && agreeP s e⟩
end M

/-! The search finds the least counts. Plain Lean. -/
namespace M
def Reach (mv : Mv) (S0 : List Sst) : Nat → Sst → Prop
  | 0, _ => False
  | 1, u => u ∈ S0
  | n + 2, u => ∃ v, Reach mv S0 (n + 1) v ∧ u ∈ succL mv v
/-- reached by so many, and not by fewer -/
def Least (mv : Mv) (S0 : List Sst) (n : Nat) (u : Sst) : Prop := Reach mv S0 n u ∧ ∀ j, j < n → ¬ Reach mv S0 j u
section
variable {mv : Mv} {S0 : List Sst} {n : Nat}
theorem reach_in (o : MvOk n mv) (h5 : n ≤ 5) (h0 : ∀ u ∈ S0, InR n u) : ∀ (m : Nat) (u : Sst), Reach mv S0 m u → InR n u
  | 0, _, h => h.elim
  | 1, u, h => h0 u h
  | m + 2, u, h => by
    obtain ⟨v, hv, hu⟩ := h
    exact (succ_ok o h5 (reach_in o h5 h0 (m + 1) v hv)).1 u hu
theorem least_pred {m : Nat} {u : Sst} (h : Least mv S0 (m + 2) u) : ∃ v, Least mv S0 (m + 1) v ∧ u ∈ succL mv v := by
  obtain ⟨⟨v, hv, hu⟩, hm⟩ := h
  refine ⟨v, ⟨hv, fun j hj hr => ?_⟩, hu⟩
  cases j with
  | zero => exact hr.elim
  | succ j => exact hm (j + 2) (by omega) ⟨v, hr, hu⟩
theorem least_of_reach {m : Nat} {u : Sst} (h : Reach mv S0 m u) : ∃ k, k ≤ m ∧ Least mv S0 k u := by
  induction m using Nat.strongRecOn with
  | _ m ih =>
    by_cases hx : ∃ j, j < m ∧ Reach mv S0 j u
    · obtain ⟨j, hj, hr⟩ := hx
      obtain ⟨k, hk, hl⟩ := ih j hj hr
      exact ⟨k, by omega, hl⟩
    · exact ⟨m, Nat.le_refl _, h, fun j hj hr => hx ⟨j, hj, hr⟩⟩
theorem least_down {c : Nat} (hc : 1 ≤ c) : ∀ (m : Nat) (u : Sst), c ≤ m → Least mv S0 m u → ∃ v, Least mv S0 c v := by
  intro m
  induction m with
  | zero => intro u h; omega
  | succ m ih =>
    intro u h hl
    by_cases e : c = m + 1
    · rw [e]; exact ⟨u, hl⟩
    · obtain ⟨m', rfl⟩ : ∃ m', m = m' + 1 := ⟨m - 1, by omega⟩
      obtain ⟨v, hv, _⟩ := least_pred hl
      exact ih v (by omega) hv
theorem least_uniq {a b : Nat} {u : Sst} (h1 : Least mv S0 a u) (h2 : Least mv S0 b u) : a = b := by
  rcases Nat.lt_trichotomy a b with h | h | h
  · exact absurd h1.1 (h2.2 a h)
  · exact h
  · exact absurd h2.1 (h1.2 b h)
theorem getT_set {b : Tab} (o : TabOk n b) {u x : Sst} (hu : InR n u) (hx : InR n x) (c : Nat) : getT (setT b u c) x = if x = u then some c else getT b x := by
  obtain ⟨e1, l1, g1⟩ := tab_at o hu
  obtain ⟨e2, l2, g2⟩ := tab_at o hx
  have hl : u.1 < b.length := by rw [o.len]; exact hu.1
  unfold getT setT
  by_cases h1 : x.1 = u.1
  · rw [h1]
    have e : (b.set u.1 ((b.getD u.1 []).set u.2 (some c))).getD u.1 [] = (b.getD u.1 []).set u.2 (some c) := by
      rw [List.getD_eq_getElem?_getD, List.getElem?_set_self hl]; rfl
    rw [e]
    by_cases h2 : x.2 = u.2
    · rw [h2, if_pos (Prod.ext h1 h2), List.getD_eq_getElem?_getD, List.getElem?_set_self (by rw [l1]; exact hu.2)]; rfl
    · rw [if_neg (fun z => h2 (by rw [z])), List.getD_eq_getElem?_getD (l := (b.getD u.1 []).set u.2 (some c)), List.getElem?_set_ne (Ne.symm h2), ← List.getD_eq_getElem?_getD]
  · have e : (b.set u.1 ((b.getD u.1 []).set u.2 (some c))).getD x.1 [] = b.getD x.1 [] := by
      rw [List.getD_eq_getElem?_getD, List.getElem?_set_ne (Ne.symm h1), List.getD_eq_getElem?_getD]
    rw [e, if_neg (fun z => h1 (by rw [z]))]
theorem fold_told {c : Nat} : ∀ (st : List Sst) (b : Tab) (l : List Sst), TabOk n b → (∀ u ∈ st, InR n u) →
    (∀ x, InR n x → getT (st.foldl (visit mv c) (b, l)).1 x = if getT b x = none ∧ x ∈ st then some c else getT b x) ∧
    (∀ v, v ∈ (st.foldl (visit mv c) (b, l)).2 ↔ v ∈ l ∨ ∃ u ∈ st, getT b u = none ∧ v ∈ succL mv u)
  | [], b, l, _, _ => ⟨fun x _ => by simp, fun v => by simp⟩
  | u :: st, b, l, o, hs => by
    have hu := hs u List.mem_cons_self
    have hs' : ∀ x ∈ st, InR n x := fun x hx => hs x (List.mem_cons_of_mem _ hx)
    rw [List.foldl_cons]
    by_cases hg : getT b u = none
    · have e : visit mv c (b, l) u = (setT b u c, l ++ succL mv u) := by unfold visit; rw [if_pos hg]
      rw [e]
      obtain ⟨h1, h2⟩ := fold_told (c := c) st (setT b u c) (l ++ succL mv u) (set_ok o hu c) hs'
      refine ⟨fun x hx => ?_, fun v => ?_⟩
      · rw [h1 x hx, getT_set o hu hx]
        by_cases hxu : x = u
        · subst hxu
          simp [hg]
        · rw [if_neg hxu]; simp [hxu]
      · rw [h2 v, List.mem_append]
        constructor
        · rintro ((h | h) | ⟨x, hx, hn, hv⟩)
          · exact .inl h
          · exact .inr ⟨u, List.mem_cons_self, hg, h⟩
          · rw [getT_set o hu (hs' x hx)] at hn
            split at hn
            · cases hn
            · exact .inr ⟨x, List.mem_cons_of_mem _ hx, hn, hv⟩
        · rintro (h | ⟨x, hx, hn, hv⟩)
          · exact .inl (.inl h)
          · by_cases hxu : x = u
            · subst hxu; exact .inl (.inr hv)
            · rcases List.mem_cons.mp hx with h | h
              · exact absurd h hxu
              · exact .inr ⟨x, h, by rw [getT_set o hu (hs' x h), if_neg hxu]; exact hn, hv⟩
    · have e : visit mv c (b, l) u = (b, l) := by unfold visit; rw [if_neg hg]
      rw [e]
      obtain ⟨h1, h2⟩ := fold_told (c := c) st b l o hs'
      refine ⟨fun x hx => ?_, fun v => ?_⟩
      · rw [h1 x hx]
        by_cases hxu : x = u
        · subst hxu; simp [hg]
        · simp only [List.mem_cons, hxu, false_or]
      · rw [h2 v]
        constructor
        · rintro (h | ⟨x, hx, hn, hv⟩)
          · exact .inl h
          · exact .inr ⟨x, List.mem_cons_of_mem _ hx, hn, hv⟩
        · rintro (h | ⟨x, hx, hn, hv⟩)
          · exact .inl h
          · rcases List.mem_cons.mp hx with h | h
            · subst h; exact absurd hn hg
            · exact .inr ⟨x, h, hn, hv⟩
/-- before level c: what has fewer than c is told, what has c stands in the list -/
structure Inv (mv : Mv) (S0 : List Sst) (n c : Nat) (b : Tab) (st : List Sst) : Prop where
  tab : TabOk n b
  inr : ∀ u ∈ st, InR n u
  told : ∀ x, InR n x → ∀ m, getT b x = some m ↔ m < c ∧ Least mv S0 m x
  st_reach : ∀ u ∈ st, Reach mv S0 c u
  st_all : ∀ u, Least mv S0 c u → u ∈ st
theorem inv_next (o : MvOk n mv) (h5 : n ≤ 5) (h0 : ∀ u ∈ S0, InR n u) {c : Nat} (hc : 1 ≤ c) {b : Tab} {st : List Sst} (I : Inv mv S0 n c b st) : Inv mv S0 n (c + 1) (levelL mv c b st).1 (levelL mv c b st).2 := by
  obtain ⟨h1, h2⟩ := fold_told (mv := mv) (c := c) st b [] I.tab I.inr
  obtain ⟨k1, k2, _⟩ := level_ok (c := c) o h5 I.tab I.inr st.length
  rw [List.take_length] at k1 k2
  have hnone : ∀ x, InR n x → (getT b x = none ↔ ∀ m, m < c → ¬ Least mv S0 m x) := fun x hx => by
    constructor
    · intro hn m hm hl
      have := (I.told x hx m).mpr ⟨hm, hl⟩
      rw [hn] at this; cases this
    · intro h
      cases hg : getT b x with
      | none => rfl
      | some m =>
        obtain ⟨hm, hl⟩ := (I.told x hx m).mp hg
        exact absurd hl (h m hm)
  have hfresh : ∀ x, InR n x → getT b x = none → x ∈ st → Least mv S0 c x := fun x hx hn hm => by
    refine ⟨I.st_reach x hm, fun j hj hr => ?_⟩
    obtain ⟨k, hk, hl⟩ := least_of_reach hr
    exact (hnone x hx).mp hn k (by omega) hl
  refine ⟨k1, k2, fun x hx m => ?_, fun v hv => ?_, fun v hv => ?_⟩
  · show getT (st.foldl (visit mv c) (b, [])).1 x = some m ↔ _
    rw [h1 x hx]
    split
    · next hh =>
      have hl := hfresh x hx hh.1 hh.2
      constructor
      · intro e
        have : c = m := Option.some.inj e
        subst this
        exact ⟨by omega, hl⟩
      · rintro ⟨_, hl2⟩
        rw [least_uniq hl hl2]
    · next hh =>
      rw [I.told x hx m]
      constructor
      · rintro ⟨a, b⟩; exact ⟨by omega, b⟩
      · rintro ⟨a, hl⟩
        refine ⟨?_, hl⟩
        by_cases e : m = c
        · subst e
          exfalso
          refine hh ⟨(hnone x hx).mpr fun j hj hl2 => ?_, I.st_all x hl⟩
          have := least_uniq hl hl2
          omega
        · omega
  · have hv : v ∈ (st.foldl (visit mv c) (b, [])).2 := hv
    rw [h2 v] at hv
    rcases hv with h | ⟨u, hu, hn, hs⟩
    · simp at h
    · obtain ⟨c', rfl⟩ : ∃ c', c = c' + 1 := ⟨c - 1, by omega⟩
      exact ⟨u, I.st_reach u hu, hs⟩
  · show v ∈ (st.foldl (visit mv c) (b, [])).2
    rw [h2 v]
    obtain ⟨c', rfl⟩ : ∃ c', c = c' + 1 := ⟨c - 1, by omega⟩
    obtain ⟨u, hu, hs⟩ := least_pred hv
    have hin := reach_in o h5 h0 _ u hu.1
    exact .inr ⟨u, I.st_all u hu, (hnone u hin).mpr fun j hj hl => by have := least_uniq hu hl; omega, hs⟩
theorem nn_level (o : MvOk n mv) (h5 : n ≤ 5) {c : Nat} {b : Tab} (hb : TabOk n b) {st : List Sst} (hs : ∀ s ∈ st, InR n s) (h : (levelL mv c b st).2 ≠ []) : nn (levelL mv c b st).1 < nn b := by
  have h1 := fold_ok (c := c) o h5 st (b, []) (k := 6 * nn b) ⟨hb, fun s hs => by simp at hs, by simp⟩ hs
  have h2 := h1.len
  have h3 : 0 < (levelL mv c b st).2.length := List.length_pos_iff.mpr h
  have h2 : (levelL mv c b st).2.length + 6 * nn (levelL mv c b st).1 ≤ 6 * nn b := h2
  omega
theorem bfs_told (o : MvOk n mv) (h5 : n ≤ 5) (h0 : ∀ u ∈ S0, InR n u) : ∀ (f c : Nat) (b : Tab) (st : List Sst), 1 ≤ c → nn b < f → Inv mv S0 n c b st →
    TabOk n (bfs mv f c b st) ∧ ∀ x, InR n x → ∀ m, getT (bfs mv f c b st) x = some m ↔ Least mv S0 m x
  | 0, c, b, st, _, h, _ => by omega
  | f + 1, c, b, st, hc, hn, I => by
    have J := inv_next o h5 h0 hc I
    unfold bfs
    by_cases hl : (levelL mv c b st).2 = []
    · rw [if_pos hl]
      refine ⟨J.tab, fun x hx m => ?_⟩
      rw [J.told x hx m]
      constructor
      · rintro ⟨_, h⟩; exact h
      · intro h
        refine ⟨?_, h⟩
        by_cases hm : m < c + 1
        · exact hm
        · exfalso
          obtain ⟨v, hv⟩ := least_down (c := c + 1) (by omega) m x (by omega) h
          have := J.st_all v hv
          rw [hl] at this
          simp at this
    · rw [if_neg hl]
      exact bfs_told o h5 h0 f (c + 1) _ _ (by omega) (by have := nn_level (c := c) o h5 I.tab I.inr hl; omega) J
end
theorem tab0_get (n : Nat) {x : Sst} (h : InR n x) : getT (tab0 n) x = none := by
  have := (tab_at (tab0_ok n) h).2.2
  have h1 := (tab_at (tab0_ok n) h).1
  have e : (tab0 n).getD x.1 [] = List.replicate (2 ^ n) none := by
    have := List.mem_of_getElem? h1
    exact (List.mem_replicate.mp this).2
  rw [e] at this
  have := List.mem_of_getElem? this
  exact (List.mem_replicate.mp this).2
theorem search_told {t : T} (h5 : t.sz ≤ 5) (s : List Ch) (kind : Bool) : TabOk t.sz (searchL t s kind) ∧ ∀ x, InR t.sz x → ∀ m, getT (searchL t s kind) x = some m ↔ Least (mvOf t) (startL t s kind) m x := by
  obtain ⟨hin, _⟩ := firsts_ok h5 s kind (2 ^ (t.sz - 1)) (Nat.le_refl _)
  refine bfs_told (mv_ok h5) h5 hin 599 1 _ _ (Nat.le_refl _) (by have := nn_512 h5 (tab0_ok t.sz); omega) ⟨tab0_ok _, hin, fun x hx m => ?_, fun u hu => hu, fun u hu => hu.1⟩
  rw [tab0_get _ hx]
  constructor
  · intro h; cases h
  · rintro ⟨hm, hl⟩
    have : m = 0 := by omega
    subst this
    exact hl.1.elim
end M

/-! The machine of flags, and the local rule. Plain Lean. -/
namespace M
inductive Fl where
  | lf
  | nd (l : Fl) (b : Bool) (r : Fl)
  deriving DecidableEq, Repr
def Fl.sz : Fl → Nat
  | .lf => 1
  | .nd l _ r => l.sz + r.sz
def hit : Fl → Nat → Fl
  | .lf, _ => .lf
  | .nd l b r, x => if x < l.sz then .nd (hit l x) true r else .nd l false (hit r (x - l.sz))
def vic : Fl → Nat
  | .lf => 0
  | .nd l b r => if b then l.sz + vic r else vic l
def RunOk : Fl → List Rq → Prop
  | _, [] => True
  | F, x :: w => (kd x = true → x.2 = vic F) ∧ RunOk (hit F x.2) w
def endF : Fl → List Rq → Fl
  | F, [] => F
  | F, x :: w => endF (hit F x.2) w
theorem hit_sz : ∀ (F : Fl) (x : Nat), (hit F x).sz = F.sz
  | .lf, _ => rfl
  | .nd l b r, x => by
    unfold hit
    split
    · simp only [Fl.sz, hit_sz l x]
    · simp only [Fl.sz, hit_sz r (x - l.sz)]
theorem Fl.sz_pos : ∀ F : Fl, 0 < F.sz
  | .lf => Nat.one_pos
  | .nd l _ r => by have := l.sz_pos; simp only [Fl.sz]; omega
theorem vic_lt : ∀ F : Fl, vic F < F.sz
  | .lf => Nat.one_pos
  | .nd l b r => by
    have := vic_lt l
    have := vic_lt r
    simp only [vic, Fl.sz]
    split <;> omega
theorem lft_cons (m : Nat) (x : Rq) (w : List Rq) : lft m (x :: w) = if x.2 < m then x :: lft m w else lft m w := by
  unfold lft
  rw [part_cons]
  simp [sdm]
theorem rgt_cons (m : Nat) (x : Rq) (w : List Rq) : rgt m (x :: w) = if x.2 < m then rgt m w else dnq m x :: rgt m w := by
  unfold rgt
  rw [part_cons]
  by_cases h : x.2 < m <;> simp [sdm, h]
theorem run_nd : ∀ (w : List Rq) (l : Fl) (c : Bool) (r : Fl), (RunOk (.nd l c r) w ↔ TalkOk kd (sdm l.sz) (chOf c) w ∧ RunOk l (lft l.sz w) ∧ RunOk r (rgt l.sz w)) ∧
    ∃ c', endF (.nd l c r) w = .nd (endF l (lft l.sz w)) c' (endF r (rgt l.sz w)) ∧ chOf c' = lastCh (sdm l.sz) (chOf c) w
  | [], l, c, r => ⟨⟨fun _ => ⟨trivial, trivial, trivial⟩, fun _ => trivial⟩, c, rfl, rfl⟩
  | x :: w, l, c, r => by
    have hvl := vic_lt l
    have hlc := lft_cons l.sz x w
    have hrc := rgt_cons l.sz x w
    by_cases hx : x.2 < l.sz
    · have hs : sdm l.sz x = true := decide_eq_true hx
      rw [if_pos hx] at hlc hrc
      have eh : hit (.nd l c r) x.2 = .nd (hit l x.2) true r := by rw [hit, if_pos hx]
      obtain ⟨h1, c', h2, h3⟩ := run_nd w (hit l x.2) true r
      rw [hit_sz] at h1 h2 h3
      refine ⟨?_, c', ?_, ?_⟩
      · rw [RunOk, eh, h1, hlc, hrc]
        show _ ↔ ((kd x = true → chOf c ≠ chOf (sdm l.sz x)) ∧ TalkOk kd (sdm l.sz) (chOf (sdm l.sz x)) w) ∧ ((kd x = true → x.2 = vic l) ∧ RunOk (hit l x.2) (lft l.sz w)) ∧ RunOk r (rgt l.sz w)
        rw [hs]
        have key : (x.2 = vic (.nd l c r)) ↔ (chOf c ≠ chOf true ∧ x.2 = vic l) := by
          cases c with
          | true => simp only [vic, if_true]; constructor
                    · intro h; omega
                    · rintro ⟨h, _⟩; exact absurd rfl h
          | false => simp only [vic]; constructor
                     · intro h; exact ⟨by decide, by simpa using h⟩
                     · rintro ⟨_, h⟩; simpa using h
        rw [key]
        constructor
        · rintro ⟨a, b, d, e⟩; exact ⟨⟨fun k => (a k).1, b⟩, ⟨fun k => (a k).2, d⟩, e⟩
        · rintro ⟨⟨a, b⟩, ⟨a2, d⟩, e⟩; exact ⟨fun k => ⟨a k, a2 k⟩, b, d, e⟩
      · rw [endF, eh, h2, hlc, hrc]; rfl
      · rw [h3]
        show _ = lastCh (sdm l.sz) (chOf (sdm l.sz x)) w
        rw [hs]
    · have hs : sdm l.sz x = false := decide_eq_false hx
      rw [if_neg hx] at hlc hrc
      have eh : hit (.nd l c r) x.2 = .nd l false (hit r (x.2 - l.sz)) := by rw [hit, if_neg hx]
      obtain ⟨h1, c', h2, h3⟩ := run_nd w l false (hit r (x.2 - l.sz))
      refine ⟨?_, c', ?_, ?_⟩
      · rw [RunOk, eh, h1, hlc, hrc]
        show _ ↔ ((kd x = true → chOf c ≠ chOf (sdm l.sz x)) ∧ TalkOk kd (sdm l.sz) (chOf (sdm l.sz x)) w) ∧ RunOk l (lft l.sz w) ∧ ((kd x = true → x.2 - l.sz = vic r) ∧ RunOk (hit r (x.2 - l.sz)) (rgt l.sz w))
        rw [hs]
        have key : (x.2 = vic (.nd l c r)) ↔ (chOf c ≠ chOf false ∧ x.2 - l.sz = vic r) := by
          cases c with
          | true => simp only [vic, if_true]; constructor
                    · intro h; exact ⟨by decide, by omega⟩
                    · rintro ⟨_, h⟩; omega
          | false => simp only [vic]; constructor
                     · intro h; have h : x.2 = vic l := by simpa using h
                       omega
                     · rintro ⟨h, _⟩; exact absurd rfl h
        rw [key]
        constructor
        · rintro ⟨a, b, d, e⟩; exact ⟨⟨fun k => (a k).1, b⟩, d, ⟨fun k => (a k).2, e⟩⟩
        · rintro ⟨⟨a, b⟩, d, a2, e⟩; exact ⟨fun k => ⟨a k, a2 k⟩, b, d, e⟩
      · rw [endF, eh, h2, hlc, hrc]; rfl
      · rw [h3]
        show _ = lastCh (sdm l.sz) (chOf (sdm l.sz x)) w
        rw [hs]
def FitS : Fl → G → Prop
  | .lf, .lf _ => True
  | .nd l c r, .nd l' a _ r' => FitS l l' ∧ agrees (chOf c) a = true ∧ FitS r r'
  | _, _ => False
def FitE : Fl → G → Prop
  | .lf, .lf _ => True
  | .nd l c r, .nd l' _ b r' => FitE l l' ∧ agrees (chOf c) b = true ∧ FitE r r'
  | _, _ => False
def Ld : G → List Rq → Prop
  | .lf r, w => (∀ x ∈ w, x.2 = 0) ∧ lds kd w = if r then 1 else 0
  | .nd l _ _ r, w => Ld l (lft l.sz w) ∧ Ld r (rgt l.sz w)
theorem fit_sz : ∀ (F : Fl) (g : G), FitS F g → F.sz = g.sz
  | .lf, .lf _, _ => rfl
  | .nd l c r, .nd l' a b r', h => by
    obtain ⟨h1, _, h2⟩ := h
    simp only [Fl.sz, G.sz, fit_sz l l' h1, fit_sz r r' h2]
  | .lf, .nd _ _ _ _, h => h.elim
  | .nd _ _ _, .lf _, h => h.elim
theorem talk_joint (sd : Rq → Bool) (a b : Ch) (w : List Rq) : (TalkOk kd sd a w ∧ agrees (lastCh sd a w) b = true) ↔ ∃ c, agrees (chOf c) a = true ∧ TalkOk kd sd (chOf c) w ∧ agrees (lastCh sd (chOf c) w) b = true := by
  cases w with
  | nil =>
    simp only [TalkOk, lastCh, true_and]
    constructor
    · intro h
      cases a <;> cases b <;> first | (exact absurd h (by decide)) | exact ⟨true, by decide, by decide⟩ | exact ⟨false, by decide, by decide⟩
    · rintro ⟨c, h1, h2⟩
      cases a <;> cases b <;> cases c <;> first | rfl | (exact absurd h1 (by decide)) | (exact absurd h2 (by decide))
  | cons x w =>
    show (((kd x = true → a ≠ chOf (sd x)) ∧ TalkOk kd sd (chOf (sd x)) w) ∧ agrees (lastCh sd (chOf (sd x)) w) b = true) ↔ ∃ c, agrees (chOf c) a = true ∧ ((kd x = true → chOf c ≠ chOf (sd x)) ∧ TalkOk kd sd (chOf (sd x)) w) ∧ agrees (lastCh sd (chOf (sd x)) w) b = true
    constructor
    · rintro ⟨⟨h1, h2⟩, h3⟩
      have : ∃ c, agrees (chOf c) a = true ∧ (kd x = true → chOf c ≠ chOf (sd x)) := by
        cases a with
        | L => exact ⟨true, by decide, h1⟩
        | R => exact ⟨false, by decide, h1⟩
        | Q =>
          cases sd x with
          | true => exact ⟨false, by decide, fun _ => by decide⟩
          | false => exact ⟨true, by decide, fun _ => by decide⟩
      obtain ⟨c, hc1, hc2⟩ := this
      exact ⟨c, hc1, ⟨hc2, h2⟩, h3⟩
    · rintro ⟨c, hc1, ⟨hc2, h2⟩, h3⟩
      refine ⟨⟨fun k e => ?_, h2⟩, h3⟩
      have hn := hc2 k
      rw [e] at hc1
      cases c <;> cases hsx : sd x <;> rw [hsx] at hc1 hn <;> first | exact hn rfl | exact absurd hc1 (by decide)
theorem endF_lf : ∀ w : List Rq, endF .lf w = .lf
  | [] => rfl
  | _ :: w => endF_lf w
theorem val_run : ∀ (g : G) (w : List Rq), Val g w ↔ ∃ F, FitS F g ∧ RunOk F w ∧ FitE (endF F w) g ∧ Ld g w
  | .lf r, w => by
    constructor
    · intro h
      refine ⟨.lf, trivial, ?_, ?_, h⟩
      · have h0 := h.1
        clear h
        induction w with
        | nil => trivial
        | cons x w ih => exact ⟨fun _ => h0 x List.mem_cons_self, ih fun y hy => h0 y (List.mem_cons_of_mem _ hy)⟩
      · rw [endF_lf w]; trivial
    · rintro ⟨F, _, _, _, h⟩; exact h
  | .nd l a b r, w => by
    show (TalkOk kd (sdm l.sz) a w ∧ agrees (lastCh (sdm l.sz) a w) b = true ∧ Val l (lft l.sz w) ∧ Val r (rgt l.sz w)) ↔ _
    rw [val_run l, val_run r]
    constructor
    · rintro ⟨h1, h2, ⟨Fl', a1, a2, a3, a4⟩, ⟨Fr, b1, b2, b3, b4⟩⟩
      obtain ⟨c, c1, c2, c3⟩ := (talk_joint _ a b w).mp ⟨h1, h2⟩
      have hz := fit_sz _ _ a1
      obtain ⟨k1, c', k2, k3⟩ := run_nd w Fl' c Fr
      rw [hz] at k1 k2 k3
      refine ⟨.nd Fl' c Fr, ⟨a1, c1, b1⟩, k1.mpr ⟨c2, a2, b2⟩, ?_, a4, b4⟩
      rw [k2]
      exact ⟨a3, by rw [k3]; exact c3, b3⟩
    · rintro ⟨F, h1, h2, h3, h4, h5⟩
      cases F with
      | lf => exact h1.elim
      | nd Fl' c Fr =>
        obtain ⟨a1, c1, b1⟩ := h1
        have hz := fit_sz _ _ a1
        obtain ⟨k1, c', k2, k3⟩ := run_nd w Fl' c Fr
        rw [hz] at k1 k2 k3
        rw [k2] at h3
        obtain ⟨a3, c3, b3⟩ := h3
        rw [k3] at c3
        obtain ⟨c2, a2, b2⟩ := k1.mp h2
        obtain ⟨h1, h2⟩ := (talk_joint _ a b w).mpr ⟨c, c1, c2, c3⟩
        exact ⟨h1, h2, ⟨Fl', a1, a2, a3, h4⟩, ⟨Fr, b1, b2, b3, h5⟩⟩
/-! ### loads, slot by slot -/
def ldc (i : Nat) (w : List Rq) : Nat := (w.filter fun x => x.1 && x.2 == i).length
theorem ldc_cons (i : Nat) (x : Rq) (w : List Rq) : ldc i (x :: w) = (if x.1 = true ∧ x.2 = i then 1 else 0) + ldc i w := by
  unfold ldc
  rw [List.filter_cons]
  by_cases h : x.1 = true ∧ x.2 = i
  · rw [if_pos h, if_pos (by simp [h.1, h.2]), List.length_cons]; omega
  · rw [if_neg h, if_neg (fun z => h (by simpa using z))]; omega
theorem ldc_lft (m i : Nat) (hi : i < m) : ∀ w : List Rq, ldc i (lft m w) = ldc i w
  | [] => rfl
  | x :: w => by
    rw [lft_cons]
    split
    · rw [ldc_cons, ldc_cons, ldc_lft m i hi w]
    · next h => rw [ldc_cons, ldc_lft m i hi w, if_neg (fun z => h (by rw [z.2]; exact hi))]; omega
theorem ldc_rgt (m i : Nat) : ∀ w : List Rq, ldc i (rgt m w) = ldc (m + i) w
  | [] => rfl
  | x :: w => by
    rw [rgt_cons]
    split
    · next h => rw [ldc_cons, ldc_rgt m i w, if_neg (fun z => by omega)]; omega
    · next h =>
      rw [ldc_cons, ldc_cons, ldc_rgt m i w]
      congr 1
      have : (dnq m x).1 = x.1 := rfl
      have : (dnq m x).2 = x.2 - m := rfl
      by_cases hh : x.1 = true ∧ x.2 = m + i
      · rw [if_pos hh, if_pos ⟨hh.1, by omega⟩]
      · rw [if_neg hh, if_neg (fun z => hh ⟨z.1, by omega⟩)]
theorem mem_lft {m : Nat} {x : Rq} {w : List Rq} : x ∈ lft m w ↔ x ∈ w ∧ x.2 < m := by
  induction w with
  | nil => simp [lft, part]
  | cons y w ih =>
    rw [lft_cons]
    split
    · next h => rw [List.mem_cons, List.mem_cons, ih]; constructor
                · rintro (rfl | ⟨a, b⟩)
                  · exact ⟨.inl rfl, h⟩
                  · exact ⟨.inr a, b⟩
                · rintro ⟨rfl | a, b⟩
                  · exact .inl rfl
                  · exact .inr ⟨a, b⟩
    · next h => rw [List.mem_cons, ih]; constructor
                · rintro ⟨a, b⟩; exact ⟨.inr a, b⟩
                · rintro ⟨rfl | a, b⟩
                  · exact absurd b h
                  · exact ⟨a, b⟩
theorem mem_rgt {m : Nat} {x : Rq} {w : List Rq} : x ∈ rgt m w ↔ ∃ y ∈ w, m ≤ y.2 ∧ x = dnq m y := by
  induction w with
  | nil => simp [rgt, part]
  | cons y w ih =>
    rw [rgt_cons]
    split
    · next h => rw [ih]; constructor
                · rintro ⟨z, a, b⟩; exact ⟨z, List.mem_cons_of_mem _ a, b⟩
                · rintro ⟨z, a, b, c⟩
                  rcases List.mem_cons.mp a with rfl | a
                  · omega
                  · exact ⟨z, a, b, c⟩
    · next h => rw [List.mem_cons, ih]; constructor
                · rintro (rfl | ⟨z, a, b⟩)
                  · exact ⟨y, List.mem_cons_self, by omega, rfl⟩
                  · exact ⟨z, List.mem_cons_of_mem _ a, b⟩
                · rintro ⟨z, a, b, c⟩
                  rcases List.mem_cons.mp a with rfl | a
                  · exact .inl c
                  · exact .inr ⟨z, a, b, c⟩
theorem lds_ldc : ∀ w : List Rq, (∀ x ∈ w, x.2 = 0) → lds kd w = ldc 0 w
  | [], _ => rfl
  | x :: w, h => by
    rw [lds_cons, ldc_cons, lds_ldc w fun y hy => h y (List.mem_cons_of_mem _ hy)]
    have := h x List.mem_cons_self
    by_cases hx : x.1 = true
    · rw [if_pos (show kd x = true from hx), if_pos ⟨hx, this⟩]
    · rw [if_neg (show ¬ kd x = true from hx), if_neg (fun z => hx z.1)]
theorem ld_iff : ∀ (t : T) (s e : Nat → Ch) (R : Nat → Bool) (o : Nat) (w : List Rq), Ld (gOf t s e R o) w ↔ (∀ x ∈ w, x.2 < t.sz) ∧ ∀ i, i < t.sz → ldc i w = if R (o + i) then 1 else 0
  | .lf, s, e, R, o, w => by
    show ((∀ x ∈ w, x.2 = 0) ∧ lds kd w = if R o then 1 else 0) ↔ _
    constructor
    · rintro ⟨h1, h2⟩
      refine ⟨fun x hx => by rw [h1 x hx]; exact Nat.one_pos, fun i hi => ?_⟩
      have : i = 0 := by simp only [T.sz] at hi; omega
      subst this
      rw [← lds_ldc w h1, h2, Nat.add_zero]
    · rintro ⟨h1, h2⟩
      have h0 : ∀ x ∈ w, x.2 = 0 := fun x hx => by have := h1 x hx; simp only [T.sz] at this; omega
      exact ⟨h0, by rw [lds_ldc w h0, h2 0 Nat.one_pos, Nat.add_zero]⟩
  | .nd l r, s, e, R, o, w => by
    show (Ld (gOf l s e R o) (lft (gOf l s e R o).sz w) ∧ Ld (gOf r s e R (o + l.sz)) (rgt (gOf l s e R o).sz w)) ↔ _
    rw [gOf_sz, ld_iff l, ld_iff r]
    constructor
    · rintro ⟨⟨h1, h2⟩, h3, h4⟩
      refine ⟨fun x hx => ?_, fun i hi => ?_⟩
      · simp only [T.sz]
        by_cases hlt : x.2 < l.sz
        · omega
        · have := h3 _ (mem_rgt.mpr ⟨x, hx, by omega, rfl⟩)
          have e : (dnq l.sz x).2 = x.2 - l.sz := rfl
          omega
      · simp only [T.sz] at hi
        by_cases hlt : i < l.sz
        · rw [← h2 i hlt, ldc_lft _ _ hlt]
        · have := h4 (i - l.sz) (by omega)
          rw [ldc_rgt, show l.sz + (i - l.sz) = i by omega, show o + l.sz + (i - l.sz) = o + i by omega] at this
          exact this
    · rintro ⟨h1, h2⟩
      simp only [T.sz] at h1 h2
      refine ⟨⟨fun x hx => (mem_lft.mp hx).2, fun i hi => ?_⟩, fun x hx => ?_, fun i hi => ?_⟩
      · rw [ldc_lft _ _ hi]; exact h2 i (by omega)
      · obtain ⟨y, hy, hle, rfl⟩ := mem_rgt.mp hx
        have := h1 y hy
        show y.2 - l.sz < r.sz
        omega
      · rw [ldc_rgt, h2 _ (by omega), Nat.add_assoc]
end M

/-! The law's reading of its search is the cost rule. Plain Lean. -/
namespace M
def ofK : T → Nat → Nat → Fl
  | .lf, _, _ => .lf
  | .nd l r, o, k => .nd (ofK l o k) (bit k (o + l.sz - 1)) (ofK r (o + l.sz) k)
def allFl : T → List Fl
  | .lf => [.lf]
  | .nd l r => (allFl l).flatMap fun a => (allFl r).flatMap fun b => [.nd a true b, .nd a false b]
theorem mem_allFl : ∀ (t : T) (s e : Nat → Ch) (R : Nat → Bool) (o : Nat) (F : Fl), FitS F (gOf t s e R o) → F ∈ allFl t
  | .lf, s, e, R, o, .lf, _ => by simp [allFl]
  | .lf, s, e, R, o, .nd _ _ _, h => h.elim
  | .nd l r, s, e, R, o, .lf, h => h.elim
  | .nd l r, s, e, R, o, .nd a c b, h => by
    obtain ⟨h1, _, h2⟩ := h
    have e1 := mem_allFl l _ _ _ _ a h1
    have e2 := mem_allFl r _ _ _ _ b h2
    refine List.mem_flatMap.mpr ⟨a, e1, List.mem_flatMap.mpr ⟨b, e2, ?_⟩⟩
    cases c <;> simp
theorem fitS_iff : ∀ (t : T) (s e : Nat → Ch) (R : Nat → Bool) (o k : Nat), FitS (ofK t o k) (gOf t s e R o) ↔ ∀ i, o ≤ i → i + 1 < o + t.sz → agrees (chOf (bit k i)) (s i) = true
  | .lf, s, e, R, o, k => ⟨fun _ i h1 h2 => by simp only [T.sz] at h2; omega, fun _ => trivial⟩
  | .nd l r, s, e, R, o, k => by
    show (FitS (ofK l o k) (gOf l s e R o) ∧ _ ∧ FitS (ofK r (o + l.sz) k) (gOf r s e R (o + l.sz))) ↔ _
    rw [fitS_iff l, fitS_iff r]
    have hl := l.sz_pos
    have hr := r.sz_pos
    simp only [T.sz]
    constructor
    · rintro ⟨h1, h2, h3⟩ i a b
      by_cases e1 : i + 1 < o + l.sz
      · exact h1 i a e1
      · by_cases e2 : i = o + l.sz - 1
        · rw [e2]; exact h2
        · exact h3 i (by omega) (by omega)
    · intro h
      exact ⟨fun i a b => h i a (by omega), h _ (by omega) (by omega), fun i a b => h i (by omega) (by omega)⟩
theorem fitE_iff : ∀ (t : T) (s e : Nat → Ch) (R : Nat → Bool) (o k : Nat), FitE (ofK t o k) (gOf t s e R o) ↔ ∀ i, o ≤ i → i + 1 < o + t.sz → agrees (chOf (bit k i)) (e i) = true
  | .lf, s, e, R, o, k => ⟨fun _ i h1 h2 => by simp only [T.sz] at h2; omega, fun _ => trivial⟩
  | .nd l r, s, e, R, o, k => by
    show (FitE (ofK l o k) (gOf l s e R o) ∧ _ ∧ FitE (ofK r (o + l.sz) k) (gOf r s e R (o + l.sz))) ↔ _
    rw [fitE_iff l, fitE_iff r]
    have hl := l.sz_pos
    have hr := r.sz_pos
    simp only [T.sz]
    constructor
    · rintro ⟨h1, h2, h3⟩ i a b
      by_cases e1 : i + 1 < o + l.sz
      · exact h1 i a e1
      · by_cases e2 : i = o + l.sz - 1
        · rw [e2]; exact h2
        · exact h3 i (by omega) (by omega)
    · intro h
      exact ⟨fun i a b => h i a (by omega), h _ (by omega) (by omega), fun i a b => h i (by omega) (by omega)⟩
theorem em_iff : ∀ (t : T) (s e : Nat → Ch) (R : Nat → Bool) (o : Nat), (need (gOf t s e R o)).em = true ↔ (∀ i, i < t.sz → R (o + i) = false) ∧ ∀ i, o ≤ i → i + 1 < o + t.sz → agrees (s i) (e i) = true
  | .lf, s, e, R, o => by
    show (leafNeed (R o)).em = true ↔ _
    constructor
    · intro h
      refine ⟨fun i hi => ?_, fun i h1 h2 => by simp only [T.sz] at h2; omega⟩
      have : i = 0 := by simp only [T.sz] at hi; omega
      subst this
      cases hR : R o with
      | false => rfl
      | true => rw [hR] at h; cases h
    · rintro ⟨h, _⟩
      have := h 0 Nat.one_pos
      rw [Nat.add_zero] at this
      rw [this]; rfl
  | .nd l r, s, e, R, o => by
    show ((need (gOf l s e R o)).em && (need (gOf r s e R (o + l.sz))).em && agrees _ _) = true ↔ _
    rw [Bool.and_eq_true, Bool.and_eq_true, em_iff l, em_iff r]
    have hl := l.sz_pos
    have hr := r.sz_pos
    simp only [T.sz]
    constructor
    · rintro ⟨⟨⟨h1, h2⟩, h3, h4⟩, h5⟩
      refine ⟨fun i hi => ?_, fun i a b => ?_⟩
      · by_cases hlt : i < l.sz
        · exact h1 i hlt
        · have := h3 (i - l.sz) (by omega)
          rw [show o + l.sz + (i - l.sz) = o + i by omega] at this
          exact this
      · by_cases e1 : i + 1 < o + l.sz
        · exact h2 i a e1
        · by_cases e2 : i = o + l.sz - 1
          · rw [e2]; exact h5
          · exact h4 i (by omega) (by omega)
    · rintro ⟨h1, h2⟩
      exact ⟨⟨⟨fun i hi => h1 i (by omega), fun i a b => h2 i a (by omega)⟩, fun i hi => by rw [Nat.add_assoc]; exact h1 _ (by omega), fun i a b => h2 i (by omega) (by omega)⟩, h2 _ (by omega) (by omega)⟩
theorem p_count : ∀ (t : T) (s e : Nat → Ch) (R : Nat → Bool) (o : Nat), (need (gOf t s e R o)).p = ((List.range t.sz).filter fun i => R (o + i)).length
  | .lf, s, e, R, o => by
    show (leafNeed (R o)).p = _
    cases h : R o <;> simp [T.sz, leafNeed, List.range_succ, h]
  | .nd l r, s, e, R, o => by
    show (need (gOf l s e R o)).p + (need (gOf r s e R (o + l.sz))).p = _
    rw [p_count l, p_count r]
    simp only [T.sz]
    rw [List.range_add, List.filter_append, List.length_append, List.filter_map, List.length_map]
    congr 2
    exact List.filter_congr fun i _ => by simp [Nat.add_assoc]

/-! ### the tables of the law are the machine's -/
def codeOk (t : T) : Bool := (List.range (2 ^ (t.sz - 1))).all fun p =>
  ((mvOf t).getD p ([], 0)).2 == vic (ofK t 0 p) && ((List.range t.sz).all fun x => ofK t 0 (((mvOf t).getD p ([], 0)).1.getD x 0) == hit (ofK t 0 p) x) && (evOf t).getD p [] == bitsOf (t.sz - 1) p &&
  (List.range (2 ^ (t.sz - 1))).all fun q => ofK t 0 p != ofK t 0 q || p == q
theorem code_ok {t : T} (h : t.sz ≤ 5) : codeOk t = true := all_small (p := codeOk) (by decide +kernel) h
def ontoOk (t : T) : Bool := (allFl t).all fun F => (List.range (2 ^ (t.sz - 1))).any fun p => ofK t 0 p == F
theorem onto_ok {t : T} (h : t.sz ≤ 5) : ontoOk t = true := all_small (p := ontoOk) (by decide +kernel) h
theorem code_at {t : T} (h : t.sz ≤ 5) {p : Nat} (hp : p < 2 ^ (t.sz - 1)) : ((mvOf t).getD p ([], 0)).2 = vic (ofK t 0 p) ∧ (∀ x < t.sz, ofK t 0 (((mvOf t).getD p ([], 0)).1.getD x 0) = hit (ofK t 0 p) x) ∧ (evOf t).getD p [] = bitsOf (t.sz - 1) p ∧
    ∀ q < 2 ^ (t.sz - 1), ofK t 0 p = ofK t 0 q → p = q := by
  have := List.all_eq_true.mp (code_ok h) p (List.mem_range.mpr hp)
  simp only [Bool.and_eq_true, beq_iff_eq] at this
  obtain ⟨⟨⟨h1, h2⟩, h3⟩, h4⟩ := this
  refine ⟨h1, fun x hx => by simpa using List.all_eq_true.mp h2 x (List.mem_range.mpr hx), h3, fun q hq e => ?_⟩
  have := List.all_eq_true.mp h4 q (List.mem_range.mpr hq)
  simpa [e] using this
theorem code_onto {t : T} (h : t.sz ≤ 5) {F : Fl} (hF : F ∈ allFl t) : ∃ p, p < 2 ^ (t.sz - 1) ∧ ofK t 0 p = F := by
  obtain ⟨p, hp, e⟩ := List.any_eq_true.mp (List.all_eq_true.mp (onto_ok h) F hF)
  exact ⟨p, List.mem_range.mp hp, by simpa using e⟩
theorem agree_iff {t : T} (h : t.sz ≤ 5) {p : Nat} (hp : p < 2 ^ (t.sz - 1)) {s : List Ch} (hs : s.length + 1 = t.sz) : agreeP (((evOf t).getD p []).map chOf) s = true ↔ ∀ i, 0 ≤ i → i + 1 < 0 + t.sz → agrees (chOf (bit p i)) (fnOf s i) = true := by
  rw [(code_at h hp).2.2.1]
  have hf : ∀ i, i < t.sz - 1 → fnOf ((bitsOf (t.sz - 1) p).map chOf) i = chOf (bit p i) := fun i hi => by simp [fnOf, bitsOf, hi]
  unfold agreeP
  rw [List.all_eq_true]
  constructor
  · intro g i _ hi
    have := g i (List.mem_range.mpr (by omega))
    rw [hf i (by omega)] at this
    exact this
  · intro g i hi
    have hi := List.mem_range.mp hi
    rw [hf i (by omega)]
    exact g i (by omega) (by omega)

/-! ### runs -/
theorem run_snoc : ∀ (w : List Rq) (F : Fl) (x : Rq), (RunOk F (w ++ [x]) ↔ RunOk F w ∧ (kd x = true → x.2 = vic (endF F w))) ∧ endF F (w ++ [x]) = hit (endF F w) x.2
  | [], F, x => ⟨⟨fun h => ⟨trivial, h.1⟩, fun h => ⟨h.2, trivial⟩⟩, rfl⟩
  | y :: w, F, x => by
    obtain ⟨h1, h2⟩ := run_snoc w (hit F y.2) x
    refine ⟨?_, h2⟩
    show (_ ∧ RunOk (hit F y.2) (w ++ [x])) ↔ (_ ∧ RunOk (hit F y.2) w) ∧ _
    rw [h1]
    exact ⟨fun ⟨a, b, c⟩ => ⟨⟨a, b⟩, c⟩, fun ⟨⟨a, b⟩, c⟩ => ⟨a, b, c⟩⟩
theorem ldc_snoc (i : Nat) (w : List Rq) (x : Rq) : ldc i (w ++ [x]) = ldc i w + if x.1 = true ∧ x.2 = i then 1 else 0 := by
  induction w with
  | nil => rw [List.nil_append, ldc_cons]; show _ + 0 = 0 + _; omega
  | cons y w ih => rw [List.cons_append, ldc_cons, ldc_cons, ih]; omega
theorem bits_add : ∀ m < 32, ∀ v < 5, m / 2 ^ v % 2 = 0 → ∀ i < 5, (m + 2 ^ v) / 2 ^ i % 2 = if i = v then 1 else m / 2 ^ i % 2 := by decide +kernel
theorem bits_sub : ∀ m < 32, ∀ v < 5, m / 2 ^ v % 2 = 1 → 2 ^ v ≤ m ∧ ∀ i < 5, (m - 2 ^ v) / 2 ^ i % 2 = if i = v then 0 else m / 2 ^ i % 2 := by decide +kernel
theorem bits_eq {n m m' : Nat} (h1 : m < 2 ^ n) (h2 : m' < 2 ^ n) (h : ∀ i < n, m / 2 ^ i % 2 = m' / 2 ^ i % 2) : m = m' := by
  refine Nat.eq_of_testBit_eq fun i => ?_
  rw [Nat.testBit_eq_decide_div_mod_eq, Nat.testBit_eq_decide_div_mod_eq]
  by_cases hi : i < n
  · rw [h i hi]
  · have hle : 2 ^ n ≤ 2 ^ i := Nat.pow_le_pow_right (by decide) (by omega)
    rw [Nat.div_eq_of_lt (by omega), Nat.div_eq_of_lt (by omega)]
theorem bits_pow : ∀ v < 5, ∀ i < 5, 2 ^ v / 2 ^ i % 2 = if i = v then 1 else 0 := by decide +kernel
structure Run (t : T) (s : List Ch) (kind : Bool) (n : Nat) (u : Sst) (p0 : Nat) (w : List Rq) : Prop where
  hp0 : p0 < 2 ^ (t.sz - 1)
  ag : agreeP (((evOf t).getD p0 []).map chOf) s = true
  len : w.length = n
  head : w.head?.map kd = some kind
  ok : RunOk (ofK t 0 p0) w
  sl : ∀ x ∈ w, x.2 < t.sz
  fin : endF (ofK t 0 p0) w = ofK t 0 u.1
  inr : InR t.sz u
  ld : ∀ i < t.sz, ldc i w = u.2 / 2 ^ i % 2
theorem end_code {t : T} (h5 : t.sz ≤ 5) : ∀ (w : List Rq) (p : Nat), p < 2 ^ (t.sz - 1) → (∀ x ∈ w, x.2 < t.sz) → ∃ q, q < 2 ^ (t.sz - 1) ∧ endF (ofK t 0 p) w = ofK t 0 q
  | [], p, hp, _ => ⟨p, hp, rfl⟩
  | x :: w, p, hp, hs => by
    have hx := hs x List.mem_cons_self
    obtain ⟨_, m1, m2, m3⟩ := mv_at (mv_ok h5) hp
    have e := (code_at h5 hp).2.1 x.2 hx
    have hq := m3 _ (getD_mem (d := 0) (show x.2 < ((mvOf t).getD p ([], 0)).1.length by omega))
    obtain ⟨q, h1, h2⟩ := end_code h5 w _ hq fun y hy => hs y (List.mem_cons_of_mem _ hy)
    exact ⟨q, h1, by rw [endF, ← e]; exact h2⟩
theorem mem_succ {t : T} {p p' : Nat} {ld ld' : Nat} : (p', ld') ∈ succL (mvOf t) (p, ld) ↔ (p' ∈ ((mvOf t).getD p ([], 0)).1 ∧ ld' = ld) ∨ (ld / 2 ^ ((mvOf t).getD p ([], 0)).2 % 2 = 0 ∧ p' = ((mvOf t).getD p ([], 0)).1.getD ((mvOf t).getD p ([], 0)).2 0 ∧ ld' = ld + 2 ^ ((mvOf t).getD p ([], 0)).2) := by
  unfold succL
  rw [List.mem_append, List.mem_map]
  constructor
  · rintro (⟨q, hq, e⟩ | h)
    · cases e; exact .inl ⟨hq, rfl⟩
    · split at h
      · next hb =>
        have e := List.mem_singleton.mp h
        cases e
        exact .inr ⟨hb, rfl, rfl⟩
      · simp at h
  · rintro (⟨h1, rfl⟩ | ⟨h1, rfl, rfl⟩)
    · exact .inl ⟨p', h1, rfl⟩
    · exact .inr (by rw [if_pos h1]; exact List.mem_singleton.mpr rfl)
theorem mem_first {t : T} {s : List Ch} {kind : Bool} {p' ld' : Nat} : (p', ld') ∈ startL t s kind ↔ ∃ p < 2 ^ (t.sz - 1), agreeP (((evOf t).getD p []).map chOf) s = true ∧
    if kind then p' = ((mvOf t).getD p ([], 0)).1.getD ((mvOf t).getD p ([], 0)).2 0 ∧ ld' = 2 ^ ((mvOf t).getD p ([], 0)).2 else p' ∈ ((mvOf t).getD p ([], 0)).1 ∧ ld' = 0 := by
  unfold startL firstL
  rw [List.mem_flatMap]
  constructor
  · rintro ⟨p, hp, h⟩
    refine ⟨p, List.mem_range.mp hp, ?_⟩
    unfold firstOne at h
    split at h
    · next hag =>
      refine ⟨hag, ?_⟩
      cases kind with
      | true =>
        have e := List.mem_singleton.mp h
        cases e
        exact ⟨rfl, rfl⟩
      | false =>
        obtain ⟨q, hq, e⟩ := List.mem_map.mp h
        cases e
        exact ⟨hq, rfl⟩
    · simp at h
  · rintro ⟨p, hp, hag, h⟩
    refine ⟨p, List.mem_range.mpr hp, ?_⟩
    unfold firstOne
    rw [if_pos hag]
    cases kind with
    | true =>
      obtain ⟨rfl, rfl⟩ : _ ∧ _ := h
      exact List.mem_singleton.mpr rfl
    | false =>
      obtain ⟨h1, rfl⟩ : _ ∧ _ := h
      exact List.mem_map.mpr ⟨p', h1, rfl⟩
theorem head_snoc {w : List Rq} {x : Rq} {k : Bool} (h : w.head?.map kd = some k) : (w ++ [x]).head?.map kd = some k := by
  cases w with
  | nil => cases h
  | cons y w => exact h
theorem hits_idx {t : T} (h5 : t.sz ≤ 5) {p q : Nat} (hp : p < 2 ^ (t.sz - 1)) (hq : q ∈ ((mvOf t).getD p ([], 0)).1) : ∃ x, x < t.sz ∧ q = ((mvOf t).getD p ([], 0)).1.getD x 0 := by
  obtain ⟨_, m1, m2, m3⟩ := mv_at (mv_ok h5) hp
  obtain ⟨x, hx⟩ := List.getElem?_of_mem hq
  have hl := (List.getElem?_eq_some_iff.mp hx).1
  refine ⟨x, by omega, ?_⟩
  have := getD_at (d := 0) hl
  rw [hx] at this
  exact Option.some.inj this
theorem reach_run {t : T} (h5 : t.sz ≤ 5) (s : List Ch) (kind : Bool) : ∀ (n : Nat) (u : Sst), Reach (mvOf t) (startL t s kind) n u → ∃ p0 w, Run t s kind n u p0 w
  | 0, _, h => h.elim
  | 1, (p', ld'), h => by
    have hin := (firsts_ok h5 s kind (2 ^ (t.sz - 1)) (Nat.le_refl _)).1 (p', ld') h
    obtain ⟨p, hp, hag, hk⟩ := mem_first.mp h
    obtain ⟨_, m1, m2, m3⟩ := mv_at (mv_ok h5) hp
    obtain ⟨c1, c2, c3, c4⟩ := code_at h5 hp
    cases kind with
    | true =>
      obtain ⟨e1, e2⟩ : _ ∧ _ := hk
      subst e1
      subst e2
      refine ⟨p, [(true, ((mvOf t).getD p ([], 0)).2)], hp, hag, rfl, rfl, ⟨fun _ => c1, trivial⟩, fun x hx => ?_, ?_, hin, fun i hi => ?_⟩
      · have := List.mem_singleton.mp hx; subst this; exact m2
      · exact (c2 _ m2).symm
      · rw [ldc_cons]
        have hb := bits_pow ((mvOf t).getD p ([], 0)).2 (by omega) i (by omega)
        show _ + 0 = 2 ^ ((mvOf t).getD p ([], 0)).2 / 2 ^ i % 2
        rw [hb]
        by_cases e : i = ((mvOf t).getD p ([], 0)).2
        · rw [if_pos ⟨rfl, e.symm⟩, if_pos e]
        · rw [if_neg (fun z => e z.2.symm), if_neg e]
    | false =>
      obtain ⟨e1, e2⟩ : _ ∧ _ := hk
      subst e2
      obtain ⟨x, hx, e⟩ := hits_idx h5 hp e1
      subst e
      refine ⟨p, [(false, x)], hp, hag, rfl, rfl, ⟨fun h => (by cases h), trivial⟩, fun y hy => ?_, ?_, hin, fun i hi => ?_⟩
      · have := List.mem_singleton.mp hy; subst this; exact hx
      · exact (c2 _ hx).symm
      · rw [ldc_cons]; simp [ldc]
  | n + 2, (p', ld'), h => by
    obtain ⟨⟨p, ld⟩, hv, hu⟩ := h
    obtain ⟨p0, w, R⟩ := reach_run h5 s kind (n + 1) (p, ld) hv
    have hin := (succ_ok (mv_ok h5) h5 R.inr).1 _ hu
    have hp : p < 2 ^ (t.sz - 1) := R.inr.1
    have h32 := pow_le32 h5
    have hl2 : ld < 2 ^ t.sz := R.inr.2
    obtain ⟨_, m1, m2, m3⟩ := mv_at (mv_ok h5) hp
    obtain ⟨c1, c2, c3, c4⟩ := code_at h5 hp
    have hfin : endF (ofK t 0 p0) w = ofK t 0 p := R.fin
    have hld : ∀ i < t.sz, ldc i w = ld / 2 ^ i % 2 := R.ld
    rcases mem_succ.mp hu with ⟨h1, rfl⟩ | ⟨h1, rfl, rfl⟩
    · obtain ⟨x, hx, e⟩ := hits_idx h5 hp h1
      subst e
      obtain ⟨r1, r2⟩ := run_snoc w (ofK t 0 p0) (false, x)
      refine ⟨p0, w ++ [(false, x)], R.hp0, R.ag, by simp [R.len], head_snoc R.head, r1.mpr ⟨R.ok, fun h => by cases h⟩, fun y hy => ?_, ?_, hin, fun i hi => ?_⟩
      · rcases List.mem_append.mp hy with h | h
        · exact R.sl y h
        · have := List.mem_singleton.mp h; subst this; exact hx
      · rw [r2, hfin]; exact (c2 x hx).symm
      · rw [ldc_snoc, hld i hi]; simp
    · obtain ⟨r1, r2⟩ := run_snoc w (ofK t 0 p0) (true, ((mvOf t).getD p ([], 0)).2)
      refine ⟨p0, w ++ [(true, ((mvOf t).getD p ([], 0)).2)], R.hp0, R.ag, by simp [R.len], head_snoc R.head, r1.mpr ⟨R.ok, fun _ => by rw [hfin]; exact c1⟩, fun y hy => ?_, ?_, hin, fun i hi => ?_⟩
      · rcases List.mem_append.mp hy with h | h
        · exact R.sl y h
        · have := List.mem_singleton.mp h; subst this; exact m2
      · rw [r2, hfin]; exact (c2 _ m2).symm
      · rw [ldc_snoc, hld i hi]
        show _ = (ld + 2 ^ ((mvOf t).getD p ([], 0)).2) / 2 ^ i % 2
        rw [bits_add ld (by omega) ((mvOf t).getD p ([], 0)).2 (by omega) h1 i (by omega)]
        by_cases e : i = ((mvOf t).getD p ([], 0)).2
        · rw [if_pos ⟨rfl, e.symm⟩, if_pos e, e, h1]
        · rw [if_neg (fun z => e z.2.symm), if_neg e]; omega
theorem run_reach {t : T} (h5 : t.sz ≤ 5) (s : List Ch) (kind : Bool) : ∀ (n : Nat) (u : Sst) (p0 : Nat) (w : List Rq), Run t s kind n u p0 w → Reach (mvOf t) (startL t s kind) n u
  | 0, u, p0, w, R => by
    have : w = [] := List.eq_nil_of_length_eq_zero R.len
    have h := R.head
    rw [this] at h
    cases h
  | 1, (p', ld'), p0, w, R => by
    obtain ⟨x, rfl⟩ : ∃ x, w = [x] := by
      have := R.len
      match w, this with
      | [x], _ => exact ⟨x, rfl⟩
    obtain ⟨kx, sx⟩ := x
    have hk : kx = kind := by have := R.head; simpa [kd] using this
    subst hk
    have hsx : sx < t.sz := R.sl _ List.mem_cons_self
    obtain ⟨_, m1, m2, m3⟩ := mv_at (mv_ok h5) R.hp0
    obtain ⟨c1, c2, c3, c4⟩ := code_at h5 R.hp0
    have h32 := pow_le32 h5
    have hin := m3 _ (getD_mem (d := 0) (show sx < ((mvOf t).getD p0 ([], 0)).1.length by omega))
    have hp' : ((mvOf t).getD p0 ([], 0)).1.getD sx 0 = p' := by
      refine (code_at h5 hin).2.2.2 p' R.inr.1 ?_
      rw [c2 sx hsx]
      exact R.fin
    have hld : ∀ i < t.sz, ldc i [(kx, sx)] = ld' / 2 ^ i % 2 := R.ld
    refine mem_first.mpr ⟨p0, R.hp0, R.ag, ?_⟩
    cases kx with
    | true =>
      have hv : sx = vic (ofK t 0 p0) := R.ok.1 rfl
      rw [← c1] at hv
      refine ⟨by rw [← hv]; exact hp'.symm, ?_⟩
      refine bits_eq R.inr.2 (Nat.pow_lt_pow_right (by decide) m2) fun i hi => ?_
      show ld' / 2 ^ i % 2 = _
      rw [← hld i hi, ldc_cons]
      have hb := bits_pow ((mvOf t).getD p0 ([], 0)).2 (by omega) i (by omega)
      show _ + 0 = _
      rw [hb, ← hv]
      by_cases e : i = sx
      · rw [if_pos ⟨rfl, e.symm⟩, if_pos e]
      · rw [if_neg (fun z => e z.2.symm), if_neg e]
    | false =>
      refine ⟨by rw [← hp']; exact getD_mem (by omega), ?_⟩
      refine bits_eq R.inr.2 (Nat.pow_pos (by decide)) fun i hi => ?_
      show ld' / 2 ^ i % 2 = _
      rw [← hld i hi, ldc_cons]
      simp [ldc]
  | n + 2, (p', ld'), p0, w, R => by
    have hne : w ≠ [] := fun z => by have := R.len; rw [z] at this; simp at this
    obtain ⟨w', x, rfl⟩ : ∃ w' x, w = w' ++ [x] := ⟨w.dropLast, w.getLast hne, (List.dropLast_concat_getLast hne).symm⟩
    obtain ⟨kx, sx⟩ := x
    have hlen : w'.length = n + 1 := by have := R.len; simpa using this
    have hw' : w' ≠ [] := fun z => by rw [z] at hlen; simp at hlen
    obtain ⟨r1, r2⟩ := run_snoc w' (ofK t 0 p0) (kx, sx)
    obtain ⟨k1, k2⟩ := r1.mp R.ok
    have hsx : sx < t.sz := R.sl _ (List.mem_append_right _ List.mem_cons_self)
    have hsl : ∀ y ∈ w', y.2 < t.sz := fun y hy => R.sl y (List.mem_append_left _ hy)
    obtain ⟨p, hp, hpe⟩ := end_code h5 w' p0 R.hp0 hsl
    obtain ⟨_, m1, m2, m3⟩ := mv_at (mv_ok h5) hp
    obtain ⟨c1, c2, c3, c4⟩ := code_at h5 hp
    have h32 := pow_le32 h5
    have hl2 : ld' < 2 ^ t.sz := R.inr.2
    have hin := m3 _ (getD_mem (d := 0) (show sx < ((mvOf t).getD p ([], 0)).1.length by omega))
    have hp' : ((mvOf t).getD p ([], 0)).1.getD sx 0 = p' := by
      refine (code_at h5 hin).2.2.2 p' R.inr.1 ?_
      rw [c2 sx hsx, ← hpe, ← r2]
      exact R.fin
    have hhead : w'.head?.map kd = some kind := by
      have := R.head
      cases w' with
      | nil => exact absurd rfl hw'
      | cons y w' => exact this
    have hld : ∀ i < t.sz, ldc i (w' ++ [(kx, sx)]) = ld' / 2 ^ i % 2 := R.ld
    cases kx with
    | false =>
      refine ⟨(p, ld'), run_reach h5 s kind (n + 1) (p, ld') p0 w' ⟨R.hp0, R.ag, hlen, hhead, k1, hsl, hpe, ⟨hp, hl2⟩, fun i hi => ?_⟩, mem_succ.mpr (.inl ⟨by rw [← hp']; exact getD_mem (by omega), rfl⟩)⟩
      have := hld i hi
      rw [ldc_snoc] at this
      simpa using this
    | true =>
      have hv : sx = ((mvOf t).getD p ([], 0)).2 := by rw [c1, ← hpe]; exact k2 rfl
      have hb : ld' / 2 ^ sx % 2 = 1 ∧ ldc sx w' = 0 := by
        have := hld sx hsx
        rw [ldc_snoc, if_pos ⟨rfl, rfl⟩] at this
        omega
      obtain ⟨b1, b2⟩ := bits_sub ld' (by omega) sx (by omega) hb.1
      have hpos : 0 < 2 ^ sx := Nat.pow_pos (by decide)
      refine ⟨(p, ld' - 2 ^ sx), run_reach h5 s kind (n + 1) (p, ld' - 2 ^ sx) p0 w' ⟨R.hp0, R.ag, hlen, hhead, k1, hsl, hpe, ⟨hp, by show ld' - 2 ^ sx < _; omega⟩, fun i hi => ?_⟩, mem_succ.mpr (.inr ⟨?_, ?_, ?_⟩)⟩
      · show _ = (ld' - 2 ^ sx) / 2 ^ i % 2
        rw [b2 i (by omega)]
        have := hld i hi
        rw [ldc_snoc] at this
        by_cases e : i = sx
        · subst e; rw [if_pos rfl]; exact hb.2
        · rw [if_neg e]
          rw [if_neg (fun z => e z.2.symm)] at this
          omega
      · rw [← hv, b2 sx (by omega), if_pos rfl]
      · rw [← hv]; exact hp'.symm
      · rw [← hv]; omega
end M

/-! What the law finds is what the cost rule says; subtrees. Plain Lean. -/
namespace M
theorem smallest_is {l : List Nat} {c : Nat} (hc : c ∈ l) (hl : ∀ n ∈ l, c ≤ n) : smallest l = some c := by
  cases l with
  | nil => simp at hc
  | cons x r =>
    obtain ⟨h1, h2, h3⟩ := foldl_min_le r x
    show some (r.foldl min x) = some c
    congr 1
    have g1 : c ≤ r.foldl min x := hl _ (by rcases h3 with h | h <;> simp [h])
    have g2 : r.foldl min x ≤ c := by
      rcases List.mem_cons.mp hc with h | h
      · rw [h]; exact h1
      · exact h2 c h
    omega
theorem runs_reach {t : T} (h5 : t.sz ≤ 5) {s e : List Ch} (hs : s.length + 1 = t.sz) (he : e.length + 1 = t.sz) {R : List Nat} (hn : R.Nodup) (hR : ∀ x ∈ R, x < t.sz) (k : Bool) (n : Nat) :
    (∃ w, Val (askOf t s e R) w ∧ w.length = n ∧ w.head?.map kd = some k) ↔ ∃ p, p < 2 ^ (t.sz - 1) ∧ agreeP (((evOf t).getD p []).map chOf) e = true ∧ Reach (mvOf t) (startL t s k) n (p, mask R) := by
  have hml := mask_lt t.sz R hn hR
  have hbit : ∀ i, i < t.sz → (if inOf R (0 + i) then 1 else 0) = mask R / 2 ^ i % 2 := fun i hi => by
    rw [mask_bit t.sz R hn hR i hi, Nat.zero_add, inOf]
    by_cases h : i ∈ R <;> simp [h]
  constructor
  · rintro ⟨w, hv, hl, hh⟩
    obtain ⟨F, f1, f2, f3, f4⟩ := (val_run _ _).mp hv
    obtain ⟨p0, hp0, rfl⟩ := code_onto h5 (mem_allFl t _ _ _ _ F f1)
    obtain ⟨q1, q2⟩ := (ld_iff t _ _ _ _ _).mp f4
    obtain ⟨p, hp, hpe⟩ := end_code h5 w p0 hp0 q1
    rw [hpe] at f3
    have g1 := (agree_iff h5 hp0 hs).mpr ((fitS_iff t _ _ _ _ _).mp f1)
    have g2 := (agree_iff h5 hp he).mpr ((fitE_iff t _ _ _ _ _).mp f3)
    exact ⟨p, hp, g2, run_reach h5 s k n (p, mask R) p0 w ⟨hp0, g1, hl, hh, f2, q1, hpe, ⟨hp, hml⟩, fun i hi => by rw [q2 i hi, hbit i hi]⟩⟩
  · rintro ⟨p, hp, hag, hr⟩
    obtain ⟨p0, w, Q⟩ := reach_run h5 s k n _ hr
    refine ⟨w, (val_run _ _).mpr ⟨ofK t 0 p0, ?_, Q.ok, ?_, ?_⟩, Q.len, Q.head⟩
    · exact (fitS_iff t _ _ _ _ _).mpr ((agree_iff h5 Q.hp0 hs).mp Q.ag)
    · rw [Q.fin]
      exact (fitE_iff t _ _ _ _ _).mpr ((agree_iff h5 hp he).mp hag)
    · exact (ld_iff t _ _ _ _ _).mpr ⟨Q.sl, fun i hi => by rw [hbit i hi]; exact Q.ld i hi⟩
theorem mem_known {t : T} {b : Tab} {e : List Ch} {ld n : Nat} : n ∈ knownL (evOf t) b e ld ↔ ∃ p, p < 2 ^ (t.sz - 1) ∧ agreeP (((evOf t).getD p []).map chOf) e = true ∧ getT b (p, ld) = some n := by
  unfold knownL
  rw [List.mem_filterMap]
  constructor
  · rintro ⟨p, hp, hg⟩
    obtain ⟨h1, h2⟩ := List.mem_filter.mp hp
    exact ⟨p, by rw [← ev_len]; exact List.mem_range.mp h1, h2, hg⟩
  · rintro ⟨p, hp, h2, hg⟩
    exact ⟨p, List.mem_filter.mpr ⟨List.mem_range.mpr (by rw [ev_len]; exact hp), h2⟩, hg⟩
theorem found_one {t : T} (h5 : t.sz ≤ 5) {s e : List Ch} (hs : s.length + 1 = t.sz) (he : e.length + 1 = t.sz) {R : List Nat} (hn : R.Nodup) (hR : ∀ x ∈ R, x < t.sz) (k : Bool) :
    smallest (knownL (evOf t) (searchL t s k) e (mask R)) = (need (askOf t s e R)).of k := by
  have hml := mask_lt t.sz R hn hR
  have told := (search_told h5 s k).2
  have S := fun n => (runs_reach h5 hs he hn hR k n).symm.trans (runs_iff (askOf t s e R) k n)
  have up : ∀ n ∈ knownL (evOf t) (searchL t s k) e (mask R), ∃ c, (need (askOf t s e R)).of k = some c ∧ c ≤ n := fun n hm => by
    obtain ⟨p, hp, hag, hg⟩ := mem_known.mp hm
    have hl := (told (p, mask R) ⟨hp, hml⟩ n).mp hg
    exact (S n).mp ⟨p, hp, hag, hl.1⟩
  cases hc : (need (askOf t s e R)).of k with
  | none =>
    cases hk : knownL (evOf t) (searchL t s k) e (mask R) with
    | nil => rfl
    | cons x r =>
      obtain ⟨c, h1, _⟩ := up x (by rw [hk]; exact List.mem_cons_self)
      rw [hc] at h1; cases h1
  | some c =>
    obtain ⟨p, hp, hag, hr⟩ := (S c).mpr ⟨c, hc, Nat.le_refl _⟩
    obtain ⟨k0, hk0, hl⟩ := least_of_reach hr
    obtain ⟨c', h1, h2⟩ := (S k0).mp ⟨p, hp, hag, hl.1⟩
    rw [hc] at h1
    have : c = c' := Option.some.inj h1
    have e0 : k0 = c := by omega
    subst e0
    refine smallest_is (mem_known.mpr ⟨p, hp, hag, (told (p, mask R) ⟨hp, hml⟩ k0).mpr hl⟩) fun n hm => ?_
    obtain ⟨c2, g1, g2⟩ := up n hm
    rw [hc] at g1
    have := Option.some.inj g1
    omega
theorem same_len {A B : List Nat} (ha : A.Nodup) (hb : B.Nodup) (h : ∀ x, x ∈ A ↔ x ∈ B) : A.length = B.length :=
  ((List.perm_ext_iff_of_nodup ha hb).mpr h).length_eq
theorem found_is {t : T} (h5 : t.sz ≤ 5) {s e : List Ch} (hs : s.length + 1 = t.sz) (he : e.length + 1 = t.sz) {R : List Nat} (hn : R.Nodup) (hR : ∀ x ∈ R, x < t.sz) :
    foundN t.sz (searchL t s true) (searchL t s false) s e R = need (askOf t s e R) := by
  have h1 : smallest (knownL (everyL (t.sz - 1)) (searchL t s true) e (mask R)) = (need (askOf t s e R)).ld := found_one h5 hs he hn hR true
  have h2 : smallest (knownL (everyL (t.sz - 1)) (searchL t s false) e (mask R)) = (need (askOf t s e R)).ht := found_one h5 hs he hn hR false
  have h3 : R.length = (need (askOf t s e R)).p := by
    rw [askOf, p_count]
    refine same_len hn (List.nodup_range.filter _) fun x => ?_
    rw [List.mem_filter, List.mem_range, Nat.zero_add, inOf]
    constructor
    · intro h; exact ⟨hR x h, by simpa using h⟩
    · rintro ⟨_, h⟩; simpa using h
  have h4 : (R == [] && agreeP s e) = (need (askOf t s e R)).em := by
    rw [Bool.eq_iff_iff, askOf, em_iff, Bool.and_eq_true]
    constructor
    · rintro ⟨a, b⟩
      have a : R = [] := by simpa using a
      subst a
      refine ⟨fun i _ => rfl, fun i _ hi => ?_⟩
      exact List.all_eq_true.mp b i (List.mem_range.mpr (by omega))
    · rintro ⟨a, b⟩
      refine ⟨?_, List.all_eq_true.mpr fun i hi => ?_⟩
      · cases R with
        | nil => rfl
        | cons x R =>
          have := a x (hR x List.mem_cons_self)
          simp [inOf] at this
      · have := List.mem_range.mp hi
        exact b i (by omega) (by omega)
  unfold foundN
  rw [h1, h2, h3, h4]

/-! ### subtrees -/
theorem gOf_shift : ∀ (u : T) (s e s' e' : Nat → Ch) (R R' : Nat → Bool) (o o' : Nat), (∀ i, i + 1 < u.sz → s (o + i) = s' (o' + i)) → (∀ i, i + 1 < u.sz → e (o + i) = e' (o' + i)) → (∀ i, i < u.sz → R (o + i) = R' (o' + i)) →
    gOf u s e R o = gOf u s' e' R' o'
  | .lf, s, e, s', e', R, R', o, o', _, _, hR => by
    have := hR 0 Nat.one_pos
    simp only [gOf]
    rw [show o = o + 0 by omega, this]; rfl
  | .nd l r, s, e, s', e', R, R', o, o', hs, he, hR => by
    have hl := l.sz_pos
    have hr := r.sz_pos
    simp only [T.sz] at hs he hR
    simp only [gOf]
    rw [gOf_shift l s e s' e' R R' o o' (fun i hi => hs i (by omega)) (fun i hi => he i (by omega)) (fun i hi => hR i (by omega)),
      gOf_shift r s e s' e' R R' (o + l.sz) (o' + l.sz) (fun i hi => by rw [Nat.add_assoc, Nat.add_assoc]; exact hs _ (by omega)) (fun i hi => by rw [Nat.add_assoc, Nat.add_assoc]; exact he _ (by omega)) (fun i hi => by rw [Nat.add_assoc, Nat.add_assoc]; exact hR _ (by omega)),
      show o + l.sz - 1 = o + (l.sz - 1) by omega, show o' + l.sz - 1 = o' + (l.sz - 1) by omega, hs _ (by omega), he _ (by omega)]
/-- a pattern's part, the slots within -/
def cutP (l : List Ch) (o n : Nat) : List Ch := (l.drop o).take n
def within (R : List Nat) (lo hi : Nat) : List Nat := (R.filter fun x => decide (lo ≤ x) && decide (x ≤ hi)).map fun x => x - lo
theorem cutP_at {l : List Ch} {o n i : Nat} (hi : i < n) (hl : o + n ≤ l.length) : fnOf (cutP l o n) i = fnOf l (o + i) := by
  simp only [fnOf, cutP, List.getD_eq_getElem?_getD]
  rw [List.getElem?_take, if_pos hi, List.getElem?_drop]
theorem within_mem {R : List Nat} {lo hi i : Nat} : i ∈ within R lo hi ↔ lo + i ∈ R ∧ lo + i ≤ hi := by
  unfold within
  rw [List.mem_map]
  constructor
  · rintro ⟨x, hx, rfl⟩
    obtain ⟨h1, h2⟩ := List.mem_filter.mp hx
    simp only [Bool.and_eq_true, decide_eq_true_eq] at h2
    rw [show lo + (x - lo) = x by omega]
    exact ⟨h1, h2.2⟩
  · rintro ⟨h1, h2⟩
    exact ⟨lo + i, List.mem_filter.mpr ⟨h1, by simp; exact h2⟩, by omega⟩
theorem within_nodup {R : List Nat} (h : R.Nodup) (lo hi : Nat) : (within R lo hi).Nodup := by
  unfold within
  have := h.filter (fun x => decide (lo ≤ x) && decide (x ≤ hi))
  refine List.pairwise_map.mpr (List.Pairwise.imp_of_mem (fun {a b} ha hb hne e => hne ?_) this)
  have h1 := (List.mem_filter.mp ha).2
  have h2 := (List.mem_filter.mp hb).2
  simp only [Bool.and_eq_true, decide_eq_true_eq] at h1 h2
  omega
theorem sub_need {t : T} {u : T × Nat} {s e : List Ch} {R : List Nat} (hu : u.2 + u.1.sz ≤ t.sz) (hs : s.length + 1 = t.sz) (he : e.length + 1 = t.sz) :
    need (askOf u.1 (cutP s u.2 (u.1.sz - 1)) (cutP e u.2 (u.1.sz - 1)) (within R u.2 (u.2 + u.1.sz - 1))) = need (gOf u.1 (fnOf s) (fnOf e) (inOf R) u.2) := by
  unfold askOf
  have hz := u.1.sz_pos
  congr 1
  refine gOf_shift u.1 _ _ _ _ _ _ 0 u.2 (fun i hi => ?_) (fun i hi => ?_) (fun i hi => ?_)
  · rw [Nat.zero_add]; exact cutP_at (by omega) (by omega)
  · rw [Nat.zero_add]; exact cutP_at (by omega) (by omega)
  · rw [Nat.zero_add, inOf, inOf, Bool.eq_iff_iff]
    simp only [List.contains_iff_mem]
    rw [within_mem]
    constructor
    · rintro ⟨h, _⟩; exact h
    · intro h; exact ⟨h, by omega⟩
/-- the rows of a subtree are those that lie within, moved -/
def belowL (rows : List Row) (lo hi : Nat) : List Row := (rows.filter fun r => decide (lo ≤ r.2.1) && decide (r.2.2 ≤ hi)).map fun r => (r.1 - lo, r.2.1 - lo, r.2.2 - lo)
def belowOk (t : T) : Bool := (List.range (subs t 0).length).all fun i => match (subs t 0)[i]? with
  | some u => (rowsOf t 0)[i]? == some (forkOf u.1 u.2, u.2, u.2 + u.1.sz - 1) && belowL (rowsOf t 0) u.2 (u.2 + u.1.sz - 1) == rowsOf u.1 0 && decide (u.2 + u.1.sz ≤ t.sz)
  | none => false
theorem below_ok {t : T} (h5 : t.sz ≤ 5) {i : Nat} {u : T × Nat} (hu : (subs t 0)[i]? = some u) : (rowsOf t 0)[i]? = some (forkOf u.1 u.2, u.2, u.2 + u.1.sz - 1) ∧ belowL (rowsOf t 0) u.2 (u.2 + u.1.sz - 1) = rowsOf u.1 0 ∧ u.2 + u.1.sz ≤ t.sz := by
  have h := all_small (p := belowOk) (by decide +kernel) h5
  have := List.all_eq_true.mp h i (List.mem_range.mpr (List.getElem?_eq_some_iff.mp hu).1)
  rw [hu] at this
  simp only [Bool.and_eq_true, beq_iff_eq, decide_eq_true_eq] at this
  exact ⟨this.1.1, this.1.2, this.2⟩
end M

set_option Elab.async false
set_option maxRecDepth 100000
set_option maxHeartbeats 4000000
/-! A run that is told of a state whose sleeping generators can't be woken is a run of the state with the true ones, and it leaves them as they are. -/
namespace Gx
open PySem
open Sem (wp)

def susp : GenState → Bool
  | .suspended .. => true
  | _ => false
/-- put to a sleep without end: it looks as before, but nothing wakes it -/
def psn : GenState → GenState
  | .suspended _ l c p fs cl => .suspended (fun _ => .unsupported "") l c p fs cl
  | x => x
def clean : GenState → Prop
  | .suspended _ _ _ _ fs _ => splitAtGen fs = none
  | _ => True
theorem ne_psn {x y : GenState} (h2 : susp y = true) (hx : susp x = false) (h3 : x = psn y) : False := by
  cases y with
  | suspended k l c p fs cl => subst h3; cases hx
  | _ => cases h2
theorem psn_seen (x : GenState) : (psn x).seen = x.seen := by cases x <;> rfl
/-- gens with the sleeping ones of G put back -/
def heal (G gens : Array GenState) : Array GenState := gens.mapIdx fun i x => match G[i]? with
  | some y => if susp y then y else x
  | none => x
structure Good (G gens : Array GenState) : Prop where
  size : G.size ≤ gens.size
  at_ : ∀ (i : Nat) x, gens[i]? = some x → (∃ y, G[i]? = some y ∧ susp y = true ∧ x = psn y) ∨ ((∀ y, G[i]? = some y → susp y = false) ∧ clean x)
def healS (G : Array GenState) (s : Shared) : Shared := { s with gens := heal G s.gens }
theorem heal_size (G gens : Array GenState) : (heal G gens).size = gens.size := by simp [heal]
theorem heal_get (G gens : Array GenState) (i : Nat) : (heal G gens)[i]? = (gens[i]?).map fun x => match G[i]? with
  | some y => if susp y then y else x
  | none => x := by
  unfold heal
  rw [Array.getElem?_mapIdx]
theorem heal_other {G gens : Array GenState} {i : Nat} {x : GenState} (h : gens[i]? = some x) (n : ∀ y, G[i]? = some y → susp y = false) : (heal G gens)[i]? = some x := by
  rw [heal_get, h]
  cases e : G[i]? with
  | none => simp
  | some y => simp [n y e]
theorem heal_own {G gens : Array GenState} {i : Nat} {x y : GenState} (h : gens[i]? = some x) (e : G[i]? = some y) (hs : susp y = true) : (heal G gens)[i]? = some y := by
  rw [heal_get, h, e]
  simp [hs]
theorem heal_set {G gens : Array GenState} {g : Nat} {x : GenState} (n : ∀ y, G[g]? = some y → susp y = false) : heal G (gens.setIfInBounds g x) = (heal G gens).setIfInBounds g x := by
  apply Array.ext_getElem?
  intro i
  rw [heal_get, Array.getElem?_setIfInBounds, Array.getElem?_setIfInBounds, heal_get, heal_size]
  by_cases hi : g = i
  · subst hi
    by_cases hl : g < gens.size
    · simp only [hl, if_true, Option.map_some]
      cases e : G[g]? with
      | none => simp
      | some y => simp [n y e]
    · simp [hl]
  · simp [hi]
theorem heal_push {G gens : Array GenState} {x : GenState} (h : G.size ≤ gens.size) : heal G (gens.push x) = (heal G gens).push x := by
  apply Array.ext_getElem?
  intro i
  rw [heal_get, Array.getElem?_push, Array.getElem?_push, heal_size, heal_get]
  by_cases hi : i = gens.size
  · subst hi
    have : G[gens.size]? = none := Array.getElem?_eq_none h
    simp [this]
  · simp [hi]
theorem healS_setGen {G : Array GenState} {s : Shared} {g : Nat} {x : GenState} (n : ∀ y, G[g]? = some y → susp y = false) : healS G (s.setGen g x) = (healS G s).setGen g x := by
  show { s with gens := heal G (s.gens.setIfInBounds g x) } = { s with gens := (heal G s.gens).setIfInBounds g x }
  rw [heal_set n]
theorem Good.set {G : Array GenState} {s : Shared} {g : Nat} {x : GenState} (h : Good G s.gens) (n : ∀ y, G[g]? = some y → susp y = false) (hx : clean x) : Good G (s.setGen g x).gens := by
  refine ⟨?_, fun i z hz => ?_⟩
  · show G.size ≤ (s.gens.setIfInBounds g x).size
    rw [Array.size_setIfInBounds]; exact h.size
  · have hz : (s.gens.setIfInBounds g x)[i]? = some z := hz
    rw [Array.getElem?_setIfInBounds] at hz
    by_cases hi : g = i
    · subst hi
      rw [if_pos rfl] at hz
      split at hz
      · cases hz; exact .inr ⟨n, hx⟩
      · cases hz
    · rw [if_neg hi] at hz; exact h.at_ i z hz
theorem Good.push {G gens : Array GenState} {c : Code} (h : Good G gens) : Good G (gens.push (.fresh c)) := by
  refine ⟨?_, fun i z hz => ?_⟩
  · rw [Array.size_push]; exact Nat.le_succ_of_le h.size
  · rw [Array.getElem?_push] at hz
    by_cases hi : i = gens.size
    · rw [if_pos hi] at hz; cases hz
      refine .inr ⟨fun y hy => ?_, trivial⟩
      have : G[i]? = none := Array.getElem?_eq_none (by rw [hi]; exact h.size)
      rw [this] at hy; cases hy
    · rw [if_neg hi] at hz; exact h.at_ i z hz

/-- nothing comes of it -/
theorem no_run {M : Model} : ∀ {Γ : Ctx} {p : Pos} {t : Sem PySem.Fin} {fs : List Frame} {s : Shared} {e : End} {s' : Shared}, Runs M Γ p t fs s e s' → (∃ w, t = .unsupported w) → False := by
  intro Γ p t fs s e s' h
  induction h with
  | segRet _ _ ih _ => exact ih
  | segGen _ _ ih _ => exact ih
  | segSuspOut _ _ ih => exact ih
  | segSuspGen _ _ _ _ ih _ => exact ih
  | _ => rintro ⟨w, e⟩; cases e

def cleanE : End → Prop
  | .ret _ => True
  | .susp _ _ _ _ _ _ fs => splitAtGen fs = none
theorem cleanE.state {e : End} (h : cleanE e) : clean e.genState := by
  cases e with
  | ret r => trivial
  | susp v g l k c p fs => exact h
theorem split_append : ∀ {a b : List Frame}, splitAtGen a = none → splitAtGen b = none → splitAtGen (a ++ b) = none
  | [], _, _, hb => hb
  | .gen .. :: _, _, ha, _ => by cases ha
  | .ret k hd gd lv c p kp :: a, b, ha, hb => by
    have ha : (splitAtGen a).map (fun x => (Frame.ret k hd gd lv c p kp :: x.1, x.2.1, x.2.2)) = none := ha
    have h1 : splitAtGen a = none := by
      cases q : splitAtGen a with
      | none => rfl
      | some z => rw [q] at ha; cases ha
    show (splitAtGen (a ++ b)).map _ = none
    rw [split_append h1 hb]; rfl
theorem split_tail {f : Frame} {fs : List Frame} (h : splitAtGen (f :: fs) = none) : splitAtGen fs = none ∧ ∀ g k l c p, f ≠ .gen g k l c p := by
  cases f with
  | gen g k l c p => cases h
  | ret k hd gd lv c p kp =>
    refine ⟨?_, fun g k l c p e => by cases e⟩
    cases q : splitAtGen fs with
    | none => rfl
    | some z =>
      have h : (splitAtGen fs).map (fun x => (Frame.ret k hd gd lv c p kp :: x.1, x.2.1, x.2.2)) = none := h
      rw [q] at h; cases h

theorem sim {M : Model} {G : Array GenState} : ∀ {Γ : Ctx} {p : Pos} {t : Sem PySem.Fin} {fs : List Frame} {s : Shared} {e : End} {s' : Shared}, Runs M Γ p t fs s e s' → Good G s.gens → splitAtGen fs = none →
    Runs M Γ p t fs (healS G s) e (healS G s') ∧ Good G s'.gens ∧ cleanE e := by
  intro Γ p t fs s e s' h
  induction h with
  | done => intro g _; exact ⟨.done, g, trivial⟩
  | raise => intro g _; exact ⟨.raise, g, trivial⟩
  | again hq _ ih => intro g f; obtain ⟨a, b, c⟩ := ih g f; exact ⟨.again hq a, b, c⟩
  | rule _ ih => intro g f; obtain ⟨a, b, c⟩ := ih g f; exact ⟨.rule a, b, c⟩
  | «at» _ ih => intro g f; obtain ⟨a, b, c⟩ := ih g f; exact ⟨.at a, b, c⟩
  | load ho _ ih => intro g f; obtain ⟨a, b, c⟩ := ih g f; exact ⟨.load ho a, b, c⟩
  | update ho _ ih => intro g f; obtain ⟨a, b, c⟩ := ih g f; exact ⟨.update ho a, b, c⟩
  | loadIfAlive _ ih => intro g f; obtain ⟨a, b, c⟩ := ih g f; exact ⟨.loadIfAlive a, b, c⟩
  | point _ ih => intro g f; obtain ⟨a, b, c⟩ := ih g f; exact ⟨.point a, b, c⟩
  | alloc _ ih => intro g f; obtain ⟨a, b, c⟩ := ih g f; exact ⟨.alloc a, b, c⟩
  | fresh _ ih => intro g f; obtain ⟨a, b, c⟩ := ih g f; exact ⟨.fresh a, b, c⟩
  | ask _ ih => intro g f; obtain ⟨a, b, c⟩ := ih g f; exact ⟨.ask a, b, c⟩
  | choose hn _ ih => intro g f; obtain ⟨a, b, c⟩ := ih g f; exact ⟨.choose hn a, b, c⟩
  | os _ ih => intro g f; obtain ⟨a, b, c⟩ := ih g f; exact ⟨.os a, b, c⟩
  | handled _ ih => intro g f; obtain ⟨a, b, c⟩ := ih g f; exact ⟨.handled a, b, c⟩
  | genState hst _ ih =>
    intro g f
    obtain ⟨a, b, c⟩ := ih g f
    refine ⟨?_, b, c⟩
    rcases g.at_ _ _ hst with ⟨y, h1, h2, h3⟩ | ⟨h1, _⟩
    · refine .genState (heal_own hst h1 h2) ?_
      rw [h3, psn_seen] at a
      exact a
    · exact .genState (heal_other hst h1) a
  | stack _ ih => intro g f; obtain ⟨a, b, c⟩ := ih g f; exact ⟨.stack a, b, c⟩
  | thread _ ih => intro g f; obtain ⟨a, b, c⟩ := ih g f; exact ⟨.thread a, b, c⟩
  | @newGen Γ p k s ee s' c _ ih =>
    intro g f
    obtain ⟨a, b, c'⟩ := ih g.push f
    refine ⟨.newGen ?_, b, c'⟩
    have e1 : (healS G s).gens.size = s.gens.size := heal_size _ _
    rw [e1]
    have e2 : healS G { s with gens := s.gens.push (.fresh c) } = { healS G s with gens := (healS G s).gens.push (.fresh c) } := by
      show { s with gens := heal G (s.gens.push (.fresh c)) } = { s with gens := (heal G s.gens).push (.fresh c) }
      rw [heal_push g.size]
    rw [← e2]
    exact a
  | call _ _ ih1 ih2 =>
    intro g f
    obtain ⟨a, b, _⟩ := ih1 g rfl
    obtain ⟨a2, b2, c2⟩ := ih2 b f
    exact ⟨.call a a2, b2, c2⟩
  | callSusp _ ih =>
    intro g f
    obtain ⟨a, b, c⟩ := ih g rfl
    exact ⟨.callSusp a, b, split_append c rfl⟩
  | yield => intro g _; exact ⟨.yield, g, rfl⟩
  | resumeFresh hst _ hq _ ih1 ih2 =>
    intro g f
    rcases g.at_ _ _ hst with ⟨y, h1, h2, h3⟩ | ⟨h1, _⟩
    · exact (ne_psn h2 rfl h3).elim
    · obtain ⟨a, b, c⟩ := ih1 (g.set h1 trivial) rfl
      obtain ⟨a2, b2, c2⟩ := ih2 (b.set h1 c.state) f
      rw [healS_setGen h1] at a a2
      exact ⟨.resumeFresh (heal_other hst h1) a hq a2, b2, c2⟩
  | resumeSuspended hst hr hq _ ih1 ih2 =>
    intro g f
    rcases g.at_ _ _ hst with ⟨y, h1, h2, h3⟩ | ⟨h1, hc⟩
    · cases y with
      | suspended k l c p fs cl =>
        cases h3
        exact (no_run hr ⟨_, rfl⟩).elim
      | _ => cases h2
    · obtain ⟨a, b, c⟩ := ih1 (g.set h1 trivial) hc
      obtain ⟨a2, b2, c2⟩ := ih2 (b.set h1 c.state) f
      rw [healS_setGen h1] at a a2
      exact ⟨.resumeSuspended (heal_other hst h1) a hq a2, b2, c2⟩
  | resumeJustStarted hst hv _ ih =>
    intro g f
    obtain ⟨a, b, c⟩ := ih g f
    rcases g.at_ _ _ hst with ⟨y, h1, h2, h3⟩ | ⟨h1, _⟩
    · exact (ne_psn h2 rfl h3).elim
    · exact ⟨.resumeJustStarted (heal_other hst h1) hv a, b, c⟩
  | resumeThrowFresh hst _ ih =>
    intro g f
    rcases g.at_ _ _ hst with ⟨y, h1, h2, h3⟩ | ⟨h1, _⟩
    · exact (ne_psn h2 rfl h3).elim
    · obtain ⟨a, b, c⟩ := ih (g.set h1 trivial) f
      rw [healS_setGen h1] at a
      exact ⟨.resumeThrowFresh (heal_other hst h1) a, b, c⟩
  | resumeRunning hst _ ih =>
    intro g f
    obtain ⟨a, b, c⟩ := ih g f
    rcases g.at_ _ _ hst with ⟨y, h1, h2, h3⟩ | ⟨h1, _⟩
    · exact (ne_psn h2 rfl h3).elim
    · exact ⟨.resumeRunning (heal_other hst h1) a, b, c⟩
  | resumeFinished hst _ ih =>
    intro g f
    obtain ⟨a, b, c⟩ := ih g f
    rcases g.at_ _ _ hst with ⟨y, h1, h2, h3⟩ | ⟨h1, _⟩
    · exact (ne_psn h2 rfl h3).elim
    · exact ⟨.resumeFinished (heal_other hst h1) a, b, c⟩
  | segRet _ _ ih1 ih2 =>
    intro g f
    obtain ⟨a, b, _⟩ := ih1 g rfl
    obtain ⟨a2, b2, c2⟩ := ih2 b (split_tail f).1
    exact ⟨.segRet a a2, b2, c2⟩
  | segGen _ _ _ _ => intro _ f; cases f
  | segSuspOut hf _ ih =>
    intro g f
    obtain ⟨a, b, c⟩ := ih g rfl
    exact ⟨.segSuspOut hf a, b, split_append c f⟩
  | segSuspGen hf _ _ _ _ _ => intro _ f; rw [f] at hf; cases hf

theorem sim_wakes {M : Model} {G : Array GenState} {Γ : Ctx} {p : Pos} {g : Nat} {r : Resume} {s s' : Shared} {res : GenResult} (h : Wakes M Γ p g r s res s') (gd : Good G s.gens) : Wakes M Γ p g r (healS G s) res (healS G s') ∧ Good G s'.gens := by
  unfold Wakes at h ⊢
  cases hst : s.gens[g]? with
  | none => rw [hst] at h; exact h.elim
  | some x =>
    rw [hst] at h
    rcases gd.at_ _ _ hst with ⟨y, h1, h2, h3⟩ | ⟨h1, hc⟩
    · cases y with
      | suspended k l c q fs cl =>
        subst h3
        obtain ⟨_, _, hr, _⟩ := h
        exact (no_run hr ⟨_, rfl⟩).elim
      | _ => cases h2
    · rw [show (healS G s).gens[g]? = some x from heal_other hst h1]
      cases x with
      | fresh c =>
        cases r with
        | send v =>
          cases v with
          | none =>
            obtain ⟨e₁, s₁, hr, hq, e1, e2⟩ := h
            obtain ⟨a, b, c⟩ := sim hr (gd.set h1 trivial) rfl
            rw [healS_setGen h1] at a
            exact ⟨⟨e₁, _, a, hq, e1, by rw [e2, healS_setGen h1]⟩, by rw [e2]; exact b.set h1 c.state⟩
          | _ => exact ⟨⟨h.1, by rw [h.2]⟩, by rw [h.2]; exact gd⟩
        | throw y => exact ⟨⟨h.1, by rw [h.2, healS_setGen h1]⟩, by rw [h.2]; exact gd.set h1 trivial⟩
      | suspended k l c q fs cl =>
        obtain ⟨e₁, s₁, hr, hq, e1, e2⟩ := h
        obtain ⟨a, b, c⟩ := sim hr (gd.set h1 trivial) hc
        rw [healS_setGen h1] at a
        exact ⟨⟨e₁, _, a, hq, e1, by rw [e2, healS_setGen h1]⟩, by rw [e2]; exact b.set h1 c.state⟩
      | running => exact ⟨⟨h.1, by rw [h.2]⟩, by rw [h.2]; exact gd⟩
      | finished => exact ⟨⟨h.1, by rw [h.2]⟩, by rw [h.2]; exact gd⟩

theorem sim_wp {α : Type} (M : Model) (G : Array GenState) (Γ : Ctx) (t : Sem α) : ∀ (Q : α → Pos → Shared → Prop) (E : Value → Pos → Shared → Prop) (p : Pos) (s : Shared), Good G s.gens → wp M Γ t Q E p s →
    wp M Γ t (fun a p' s' => ∃ z, s' = healS G z ∧ Good G z.gens ∧ Q a p' z) (fun e p' s' => ∃ z, s' = healS G z ∧ Good G z.gens ∧ E e p' z) p (healS G s) := by
  induction t with
  | pure a => intro Q E p s hn h; exact ⟨s, rfl, hn, h⟩
  | raise e => intro Q E p s hn h; exact ⟨s, rfl, hn, h⟩
  | unsupported _ => intro Q E p s _ h; exact h
  | finish _ => intro Q E p s _ h; exact h
  | rule _ k ih => intro Q E p s hn h; exact ih () Q E p s hn h
  | «at» p' k ih => intro Q E p s hn h; exact ih () Q E p' s hn h
  | load a _ k ih => intro Q E p s hn h; obtain ⟨o, ho, h⟩ := h; exact ⟨o, ho, ih o Q E p s hn h⟩
  | update a _ f k ih => intro Q E p s hn h; exact ⟨h.1, ih () Q E p { s with heap := s.heap.update a f } hn h.2⟩
  | loadIfAlive a k ih => intro Q E p s hn h; exact ih _ Q E p s hn h
  | point _ k ih => intro Q E p s hn h; exact ih () Q E p s hn h
  | register _ _ => intro Q E p s _ h; exact h
  | alloc o k ih => intro Q E p s hn h; exact ih _ Q E p { s with heap := s.heap.push o } hn h
  | fresh k ih => intro Q E p s hn h; exact ih _ Q E p { s with toks := s.toks + 1 } hn h
  | ask k ih => intro Q E p s hn h; exact ih _ Q E p s hn h
  | choose src m k ih => intro Q E p s hn h; exact ⟨h.1, ih _ Q E p { s with drawn := s.drawn.bump src } hn h.2⟩
  | os q _ k ih => intro Q E p s hn h; exact ih _ Q E p { s with os := (Os.step s.os q).1 } hn h
  | call c hd _ _ k ih =>
    intro Q E p s hn h
    obtain ⟨r, s', hr, h⟩ := h
    obtain ⟨a, b, _⟩ := sim hr hn rfl
    exact ⟨r, healS G s', a, ih r Q E p s' b h⟩
  | handled own k ih => intro Q E p s hn h; exact ih _ Q E p s hn h
  | genState g k ih =>
    intro Q E p s hn h
    obtain ⟨st, hs, h⟩ := h
    have q := ih st.seen Q E p s hn h
    rcases hn.at_ _ _ hs with ⟨y, h1, h2, h3⟩ | ⟨h1, _⟩
    · refine ⟨y, heal_own hs h1 h2, ?_⟩
      rw [h3, psn_seen] at q
      exact q
    · exact ⟨st, heal_other hs h1, q⟩
  | newGen c k ih =>
    intro Q E p s hn h
    have q := ih s.gens.size Q E p { s with gens := s.gens.push (.fresh c) } hn.push h
    show wp M Γ (k (heal G s.gens).size) _ _ p { s with gens := (heal G s.gens).push (.fresh c) }
    rw [heal_size, ← heal_push hn.size]
    exact q
  | resume g r _ k ih =>
    intro Q E p s hn h
    obtain ⟨res, s', hw, h⟩ := h
    obtain ⟨a, b⟩ := sim_wakes hw hn
    exact ⟨res, healS G s', a, ih res Q E p s' b h⟩
  | yield _ _ _ _ => intro Q E p s _ h; exact h
  | stack k ih => intro Q E p s hn h; exact ih _ Q E p s hn h
  | fork _ _ => intro Q E p s _ h; exact h
  | thread k ih => intro Q E p s hn h; exact ih _ Q E p s hn h
  | await _ _ _ _ _ => intro Q E p s _ h; exact h

/-- all sleeping generators out of reach -/
def hush (G : Array GenState) : Array GenState := G.map psn
theorem hush_good (G : Array GenState) : Good G (hush G) := by
  refine ⟨by simp [hush], fun i x hx => ?_⟩
  unfold hush at hx
  rw [Array.getElem?_map] at hx
  cases e : G[i]? with
  | none => rw [e] at hx; cases hx
  | some y =>
    rw [e] at hx
    cases hx
    cases hs : susp y with
    | true => exact .inl ⟨y, rfl, hs, rfl⟩
    | false =>
      refine .inr ⟨fun z hz => by cases hz; exact hs, ?_⟩
      cases y with
      | suspended => cases hs
      | _ => trivial
theorem heal_hush (G : Array GenState) : heal G (hush G) = G := by
  apply Array.ext_getElem?
  intro i
  rw [heal_get]
  unfold hush
  rw [Array.getElem?_map]
  cases e : G[i]? with
  | none => rfl
  | some y =>
    simp only [Option.map_some]
    cases y <;> rfl
/-- THE FRAME RULE of generators -/
theorem wpAny_hush {α : Type} {M : Model} {A : Around} {t : Sem α} {Q : α → Shared → Prop} {E : Value → Shared → Prop} {s : Shared} (h : wpAny M A t Q E { s with gens := hush s.gens }) :
    wpAny M A t (fun a s' => ∃ z, s' = healS s.gens z ∧ Good s.gens z.gens ∧ Q a z) (fun e s' => ∃ z, s' = healS s.gens z ∧ Good s.gens z.gens ∧ E e z) s := fun Γ p hΓ => by
  have q := sim_wp M s.gens Γ t _ _ p { s with gens := hush s.gens } (hush_good _) (h Γ p hΓ)
  have e : healS s.gens { s with gens := hush s.gens } = s := by
    show { s with gens := heal s.gens (hush s.gens) } = s
    rw [heal_hush]
  rw [e] at q
  exact q
end Gx

set_option Elab.async false
set_option maxRecDepth 100000
set_option maxHeartbeats 4000000
/-! A for over a generator that yields from a tuple: the generator's own steps. -/
namespace Gx
open PySem PySem.Spec PyProof.Rows L2 GenW

/-- the code of the yielding loop -/
abbrev yfc (it : Addr) : Code := .builtin "proto.yield_from" ⟨[.ref it, .bool false, .none], []⟩
def TupX (h : Heap) (t : Addr) (xs : List V) : Prop := ∃ its : List Value, Vals xs its ∧ IsTup h t its.toArray
theorem TupX.ext {h h' : Heap} {t it : Addr} {xs : List V} (x : TupX h t xs) (ne : t ≠ it) (k : ∀ b o, b ≠ it → h.get? b = some o → h'.get? b = some o) : TupX h' t xs := by
  obtain ⟨its, r, o, ho, q⟩ := x
  exact ⟨its, r, o, k t o ne ho, q⟩
structure Kept (it : Addr) (s s' : Shared) : Prop where
  os : s'.os = s.os
  gens : s'.gens = s.gens
  keep : ∀ b o, b ≠ it → s.heap.get? b = some o → s'.heap.get? b = some o
theorem Kept.refl (it : Addr) (s : Shared) : Kept it s s := ⟨rfl, rfl, fun _ _ _ e => e⟩
theorem Kept.trans {it : Addr} {s s1 s2 : Shared} (a : Kept it s s1) (b : Kept it s1 s2) : Kept it s s2 :=
  ⟨b.os.trans a.os, b.gens.trans a.gens, fun c o h e => b.keep c o h (a.keep c o h e)⟩
/-- what is handed out, and how it may be woken -/
def YW (it t : Addr) (xs : List V) : Protocol := fun n s₀ v s kap => ∃ j x, xs[j]? = some x ∧ n + 1 + j = xs.length ∧ RelV x v ∧ IsTupIter s.heap it t (j + 1) ∧ TupX s.heap t xs ∧ Kept it s₀ s ∧
  ∀ s'', IsTupIter s''.heap it t (j + 1) → TupX s''.heap t xs → kap (.send .none) s''
def EW (it : Addr) : GenEnd := fun n s₀ r s => r = .ok (.ret .none) ∧ n = 0 ∧ Kept it s₀ s

section
variable {P : Program} {w : World}
theorem den_yfc {it : Addr} : (model P w).den (yfc it) = Builtin.«proto.yield_from» ⟨[.ref it, .bool false, .none], []⟩ := by
  show (match entryFor table "proto.yield_from" with | some b => b ⟨[.ref it, .bool false, .none], []⟩ | none => unsupported ((withoutEnding? "proto.yield_from" "#data").getD "proto.yield_from")) = _
  rw [entry_yf]
theorem ti_ty {h : Heap} {it t : Addr} {j : Nat} (x : IsTupIter h it t j) : ∃ o, h.get? it = some o ∧ o.cls = .type "tuple_iterator" := let ⟨o, a, b, _⟩ := x; ⟨o, a, b⟩
theorem sleeps {A : Around} {E : Value → Shared → Prop} {s : Shared} {it t : Addr} {j : Nat} {b : Bool} {Q : Unit → Shared → Prop} (x : IsTupIter s.heap it t j) (h : Q () s) : wpAny (model P w) A (Builtin.Generator.sleptOver (.ref it) b) Q E s := by
  obtain ⟨o, ho, hc⟩ := ti_ty x
  exact wpAny_sleptOver ho hc (by decide) h

/-- the loop, from its j-th turn on -/
theorem seg_rest {A : Around} {fs : List Frame} {it t : Addr} {xs : List V} (hne : t ≠ it) (hh : (A.over (yfc it) fs).handled = none) (hsp : splitAtGen fs = none) (hgd : fs.any Frame.guarded = false)
    (hend : ∀ (s₀ s : Shared), Kept it s₀ s → Seg (model P w) A (EW it) (YW it t xs) 0 s₀ (yfc it) (.pure (.done (.ret .none))) fs s) :
    ∀ (r j n : Nat) (s₀ s : Shared), j + r = xs.length → n + j = xs.length → IsTupIter s.heap it t j → TupX s.heap t xs → Kept it s₀ s →
      Seg (model P w) A (EW it) (YW it t xs) n s₀ (yfc it) ((model P w).den (yfc it)) fs s := by
  intro r
  induction r with
  | zero =>
    intro j n s₀ s hj hn hi ht hk
    obtain ⟨its, rv, hT⟩ := ht
    have hl := rv.length
    have hno : its.toArray[j]? = none := by
      have : its[j]? = none := List.getElem?_eq_none_iff.mpr (by omega)
      simpa using this
    have n0 : n = 0 := by omega
    subst n0
    rw [den_yfc]
    unfold Builtin.«proto.yield_from»
    try dsimp only
    refine seg_bind (wpAny_pure ?_)
    try dsimp only
    refine seg_bind (wpAny_attempt (wpAny_holding ?_))
    rw [if_neg Bool.false_ne_true, if_pos (show (Value.none == Value.none) = true from rfl)]
    refine wpAny_bind (wpAny_rule (wpAny_bind ?_))
    refine special_tup_end hh hi hT hno fun e h' hS hx => ?_
    obtain ⟨a, o, vs, rfl, hoa, hcls, hdat, h5⟩ := hS
    try dsimp only
    refine seg_bind (wpAny_endsTurn hoa hcls ?_)
    try dsimp only
    rw [if_pos rfl]
    first
      | refine seg_bind (wpAny_rule ?_)
      | (rw [if_neg Bool.false_ne_true]; refine seg_bind (wpAny_rule ?_))
      | (rw [if_neg Bool.false_ne_true]; refine seg_bind (wpAny_pure ?_); refine seg_bind (wpAny_rule ?_))
    refine seg_bind (wpAny_field hoa hdat h5 ?_)
    exact hend _ _ (hk.trans ⟨rfl, rfl, fun b o hb e => hx b o hb e⟩)
  | succ r ih =>
    intro j n s₀ s hj hn hi ht hk
    obtain ⟨n, rfl⟩ : ∃ m, n = m + 1 := ⟨n - 1, by omega⟩
    obtain ⟨x, hx⟩ : ∃ x, xs[j]? = some x := ⟨xs[j]'(by omega), List.getElem?_eq_getElem (by omega)⟩
    obtain ⟨its, rv, hT⟩ := id ht
    obtain ⟨u, hu, ru⟩ := rv.get hx
    rw [den_yfc]
    unfold Builtin.«proto.yield_from»
    try dsimp only
    refine seg_bind (wpAny_pure ?_)
    try dsimp only
    refine seg_bind (wpAny_attempt (wpAny_holding ?_))
    rw [if_neg Bool.false_ne_true, if_pos (show (Value.none == Value.none) = true from rfl)]
    refine wpAny_bind (wpAny_rule (wpAny_bind ?_))
    refine special_tup_item hi hT (x := u) (by simpa using hu) fun h' hi' hs => ?_
    obtain ⟨o1, ho1, hc1⟩ := ti_ty hi'
    have hk1 : Kept it s₀ { s with heap := h' } := hk.trans ⟨rfl, rfl, fun b o hb e => hs.extBut b o hb e⟩
    have ht1 : TupX h' t xs := ht.ext hne fun b o hb e => hs.extBut b o hb e
    refine wpAny_pure ?_
    try dsimp only
    refine seg_bind (wpAny_typeOf (T := "tuple_iterator") ⟨o1, ho1, hc1⟩ ?_)
    try dsimp only
    first
      | (refine seg_bind (wpAny_of_eq close_tup ?_); refine seg_bind (wpAny_pure ?_))
      | refine seg_bind (wpAny_bind (wpAny_of_eq close_tup (wpAny_pure ?_)))
      | refine seg_bind (wpAny_of_eq close_tup ?_)
    try dsimp only
    refine seg_bind (sleeps (s := { s with heap := h' }) hi' ?_)
    refine seg_yield hsp rfl hgd ?_
    refine ⟨j, x, hx, by omega, ru, hi', ht1, hk1, fun s'' hi2 ht2 => ?_⟩
    show Seg _ _ _ _ n s'' _ (Builtin.Generator.sleptOver (.ref it) false >>= fun _ => _) fs s''
    refine seg_bind (sleeps hi2 ?_)
    try dsimp only
    refine seg_bind (wpAny_pure ?_)
    exact seg_again (plainId_quiet plain_yf _) (ih (j + 1) n s'' s'' (by omega) (by omega) hi2 ht2 (Kept.refl _ _))
end

section
variable {M : Model}
/-- woken, told that what sleeps again is a sleeping one -/
theorem wakeW {A : Around} {R : GenEnd} {Y : Protocol} {n : Nat} {E : Value → Shared → Prop} {s : Shared} {g : Nat} {st : GenState} {r : Resume} {l : List Value} {α : Type} {k : GenResult → Sem α} {Q : α → Shared → Prop}
    (hst : s.gens[g]? = some st) (go : st.Goes M A R Y n r (s.setGen g .running))
    (fin : ∀ x s1, R n (s.setGen g .running) x s1 → wpAny M A (k (End.ret x).result) Q E (s1.setGen g .finished))
    (nap : ∀ v s1 st', susp st' = true → st'.bare = true → Y (n - 1) (s.setGen g .running) v s1 (fun r' s2 => match n with | 0 => False | m + 1 => st'.Goes M A R Y m r' s2) → wpAny M A (k (.yielded v)) Q E (s1.setGen g st')) :
    wpAny M A (.resume g r l k) Q E s := fun Γ p hΓ => by
  rw [Sem.wp_resume]
  have all : ∀ e1 s1, SegEnd R Y n (Seg.next M A R Y n) (s.setGen g .running) e1 s1 →
      e1.quiet = true ∧ Sem.wp M Γ (k e1.result) (fun a _ z => Q a z) (fun e _ z => E e z) p (s1.setGen g e1.genState) := by
    intro e1 s1 h
    cases e1 with
    | ret x => exact ⟨rfl, fin x s1 h Γ p hΓ⟩
    | susp v g0 l0 k0 c0 p0 fs0 =>
      refine ⟨h.1, nap v s1 _ rfl (End.bare_of_quiet h.1) ?_ Γ p hΓ⟩
      cases n with
      | zero => exact h.2
      | succ m => exact h.2
  cases st with
  | running => exact go.elim
  | finished => exact go.elim
  | fresh c =>
    obtain ⟨rfl, hs⟩ := go
    obtain ⟨e1, s1, hr, h⟩ := seg_iff.mp hs (Γ.wake c p) p rfl (hΓ.wake c p)
    obtain ⟨q, z⟩ := all e1 s1 h
    refine ⟨_, _, ?_, z⟩
    unfold Wakes
    rw [hst]
    exact ⟨e1, s1, hr, q, rfl, rfl⟩
  | suspended k0 l0 c0 p0 fs0 cl =>
    obtain ⟨e1, s1, hr, h⟩ := seg_iff.mp go (Γ.wake c0 p) p0 rfl (hΓ.wake c0 p)
    obtain ⟨q, z⟩ := all e1 s1 h
    refine ⟨_, _, ?_, z⟩
    unfold Wakes
    rw [hst]
    exact ⟨e1, s1, hr, q, rfl, rfl⟩
end

section
variable {P : Program} {w : World} {A : Around} {E : Value → Shared → Prop} {s : Shared}
/-- next of the generator: an item -/
theorem next_item {a it t : Addr} {g m : Nat} {st : GenState} {xs : List V} {Q : Option Value → Shared → Prop} (hl : s.heap.NoLimit) (room : A.depth < recursionLimit) (hg : s.heap.IsGen a g) (hst : s.gens[g]? = some st)
    (go : st.Goes (model P w) A.in1 (EW it) (YW it t xs) (m + 1) (.send .none) (s.setGen g .running))
    (h : ∀ v s1 st', susp st' = true → st'.bare = true → YW it t xs m (s.setGen g .running) v s1 (fun r' s2 => st'.Goes (model P w) A.in1 (EW it) (YW it t xs) m r' s2) → Q (some v) (s1.setGen g st')) :
    wpAny (model P w) A (pyNext (.ref a)) Q E s := by
  unfold pyNext
  refine wpAny_bind (wpAny_attempt (wpAny_callSpecial?_slot (name := Str.ofString "__next__") hg.typeIs slot_gen_next (wpAny_call_entry slot_gen_next hg.typeIs entry_gen_next ?_ (args_gen_next _))))
  show wpAny _ A.in1 (Builtin.Generator.genWake (.ref a) (.send .none)) _ _ s
  unfold Builtin.Generator.genWake
  refine wpAny_bind (wpAny_holding (wpAny_genNumber hg (wpAny_bind (wpAny_genState hst ?_))))
  cases st with
  | running => exact go.elim
  | finished => exact go.elim
  | _ =>
    refine wpAny_bind (wpAny_roomToWake hl room ?_)
    show wpAny _ A.in1 (.resume g (.send .none) [] _) _ _ s
    refine wakeW hst go (fun x s1 hx => absurd hx.2.1 (Nat.succ_ne_zero m)) fun v s1 st' h1 h2 h3 => ?_
    exact wpAny_pure ⟨v, rfl, wpAny_pure (h v s1 st' h1 h2 h3)⟩
/-- next of the generator: its end -/
theorem next_end {a it t : Addr} {g : Nat} {st : GenState} {xs : List V} {Q : Option Value → Shared → Prop} (hh : A.handled = none) (hl : s.heap.NoLimit) (room : A.depth < recursionLimit) (hg : s.heap.IsGen a g) (hst : s.gens[g]? = some st)
    (go : st.Goes (model P w) A.in1 (EW it) (YW it t xs) 0 (.send .none) (s.setGen g .running))
    (h : ∀ s1, Kept it (s.setGen g .running) s1 → ∀ h', (∀ b o, s1.heap.get? b = some o → h'.get? b = some o) → Q none { s1.setGen g .finished with heap := h' }) :
    wpAny (model P w) A (pyNext (.ref a)) Q E s := by
  unfold pyNext
  refine wpAny_bind (wpAny_attempt (wpAny_callSpecial?_slot (name := Str.ofString "__next__") hg.typeIs slot_gen_next (wpAny_call_entry slot_gen_next hg.typeIs entry_gen_next ?_ (args_gen_next _))))
  show wpAny _ A.in1 (Builtin.Generator.genWake (.ref a) (.send .none)) _ _ s
  unfold Builtin.Generator.genWake
  refine wpAny_bind (wpAny_holding (wpAny_genNumber hg (wpAny_bind (wpAny_genState hst ?_))))
  cases st with
  | running => exact go.elim
  | finished => exact go.elim
  | _ =>
    refine wpAny_bind (wpAny_roomToWake hl room ?_)
    show wpAny _ A.in1 (.resume g (.send .none) [] _) _ _ s
    refine wakeW hst go (fun x s1 hx => ?_) fun v s1 st' _ _ h3 => ?_
    · obtain ⟨rfl, _, hk⟩ := hx
      show wpAny _ A.in1 (newExc (.type "StopIteration") [] >>= _) _ _ _
      refine wpAny_bind ?_
      simp only [newExc, newTuple]
      refine wpAny_bind (wpAny_newObj_type ?_ (by size_fits))
      refine wpAny_bind (m := firstArgMember _ _) (wpAny_of_eq (a := Value.none) (by first | rfl | (simp only [firstArgMember]; rfl)) ?_)
      refine wpAny_newObj_type ?_ (by size_fits)
      simp only [raiseNew]
      refine wpAny_bind (wpAny_bind (wpAny_handled ?_))
      first | rw [show A.in1.handled = none from hh] | rw [hh]
      refine wpAny_throw ?_
      refine wpAny_bind (wpAny_isInstance (T := "StopIteration") (b := true) ⟨_, Heap.get?_push_size _ rfl, rfl⟩ isSubtype_stop ?_)
      exact wpAny_pure (h s1 hk _ fun b o hb => Heap.get?_push_of_some _ (Heap.get?_push_of_some _ hb))
    · obtain ⟨j, x, _, _, _, q1, q2, _, q3⟩ := h3
      exact False.elim (q3 s1 q1 q2)
end
end Gx

set_option Elab.async false
set_option maxRecDepth 100000
set_option maxHeartbeats 4000000
/-! The generator's first step. -/
namespace Gx
open PySem PySem.Spec PyProof.Rows L2 GenW
section
variable {P : Program} {w : World}
theorem seg_first {A : Around} {env : Env} {test e : Expr} {els : List Stmt} {yp pos ip : Pos} {t : Addr} {xs : List V} {s : Shared}
    (h1 : wpAny (model P w) (A.deeper env) (isTrue test env (eval test env)) (fun b s1 => b = true ∧ s1 = s) (fun _ _ => False) s)
    (h2 : wpAny (model P w) (A.deeper env) (eval e env) (fun v s1 => v = .ref t ∧ s1.heap = s.heap ∧ s1.gens = s.gens ∧ s1.os = s.os) (fun _ _ => False) s)
    (ht : TupX s.heap t xs) (hh : (A.deeper env).handled = none) (hi : interactive env = false) :
    Seg (model P w) A (EW s.heap.objs.size) (YW s.heap.objs.size t xs) xs.length s (.func [.If test [.Expr (.YieldFrom e yp) pos] els ip] env) ((model P w).den (.func [.If test [.Expr (.YieldFrom e yp) pos] els ip] env)) [] s := by
  refine seg_func (seg_execs_cons ?_)
  rw [exec_If]
  refine seg_bind_wrap (wpAny_standAt ?_)
  refine seg_bind_wrap ?_
  rw [over_func]
  refine wpAny_mono h1 (fun b s1 q => ?_) fun _ _ (q : False) => q.elim
  obtain ⟨rfl, rfl⟩ := q
  try dsimp only
  rw [if_pos rfl]
  refine seg_execs_cons ?_
  rw [exec_Expr env _ pos hi rfl]
  refine seg_at ?_
  refine segw_bind2 ?_
  rw [over_func]
  refine wpAny_mono h2 (fun v s2 q => ?_) fun _ _ (q : False) => q.elim
  obtain ⟨rfl, e1, e2, e3⟩ := q
  have ht2 : TupX s2.heap t xs := by rw [e1]; exact ht
  obtain ⟨its, rv, hT⟩ := id ht2
  refine seg_bind_wrap (wpAny_standAt ?_)
  unfold yieldFrom
  refine seg_bind_wrap (wpAny_typeOf hT.typeIs ?_)
  rw [if_neg (by decide)]
  refine seg_bind_wrap (wpAny_holding ?_)
  refine iter_tuple hT ?_
  refine seg_call fun p => ?_
  have lt : t < s1.heap.objs.size := by rw [← e1]; exact hT.lt
  have ne : t ≠ s1.heap.objs.size := Nat.ne_of_lt lt
  have hi0 : IsTupIter (s2.heap.push { cls := .type "tuple_iterator", data := .fields #[.ref t, .int 0 0] }) s2.heap.objs.size t 0 := ⟨_, Heap.get?_push_size _ rfl, rfl, rfl⟩
  have hT0 : TupX (s2.heap.push { cls := .type "tuple_iterator", data := .fields #[.ref t, .int 0 0] }) t xs := ⟨its, rv, hT.push _⟩
  have hk0 : Kept s1.heap.objs.size s1 { s2 with heap := s2.heap.push { cls := .type "tuple_iterator", data := .fields #[.ref t, .int 0 0] } } := ⟨e3, e2, fun b o _ eb => Heap.get?_push_of_some _ (show s2.heap.get? b = some o by rw [e1]; exact eb)⟩
  rw [e1] at hi0
  have ea : s2.heap.objs.size = s1.heap.objs.size := by rw [e1]
  rw [ea]
  refine seg_rest ne ?_ rfl rfl (fun s₀ s' hk => ?_) xs.length 0 xs.length s1 _ (Nat.zero_add _) (Nat.add_zero _) (by rw [e1]; exact hi0) hT0 hk0
  · show (A.over (.func [.If test [.Expr (.YieldFrom e yp) pos] els ip] env) []).handled = none
    rw [over_func]; exact hh
  · refine seg_leaf (.ok (.ret .none)) ?_
    exact seg_end (.ok (.ret .none)) ⟨rfl, rfl, hk⟩
end
end Gx

set_option Elab.async false
set_option maxRecDepth 100000
set_option maxHeartbeats 4000000
/-! THE RULE: for x in o.walk(last=True), a generator method that yields from the object's tuple. -/
namespace Gx
open PySem PySem.Spec PyProof.Rows L2 GenW

section
variable {X : Cx} {pins : List (Addr × Obj)} {σ : L2.St} {H : Hp} {s : Shared}
theorem hush_bare {G : Array GenState} (h : AllBare G) : AllBare (hush G) := fun y hy => by
  unfold hush at hy
  obtain ⟨x, hx, rfl⟩ := Array.mem_map.mp hy
  have := h x hx
  cases x <;> exact this
theorem heal_bare {G gens : Array GenState} (h : AllBare G) (h' : AllBare gens) : AllBare (heal G gens) := fun y hy => by
  obtain ⟨i, hi, e⟩ := Array.mem_iff_getElem.mp hy
  have e' : (heal G gens)[i]? = some y := by rw [Array.getElem?_eq_getElem hi, e]
  rw [heal_get] at e'
  cases q : gens[i]? with
  | none => rw [q] at e'; cases e'
  | some x =>
    rw [q] at e'
    have hx := h' x (Array.mem_of_getElem? q)
    cases r : G[i]? with
    | none =>
      rw [r] at e'
      simp only [Option.map_some, Option.some.injEq] at e'
      rw [← e']; exact hx
    | some z =>
      rw [r] at e'
      simp only [Option.map_some, Option.some.injEq] at e'
      split at e'
      · rw [← e']; exact h z (Array.mem_of_getElem? r)
      · rw [← e']; exact hx
/-- other generators, a moved iterator: the rest stands -/
theorem inv_moved {h' : Heap} {g' : Array GenState} {d' : Drawn} {t' : Nat} {it : Addr} (I : Inv X pins σ H s) (k : ∀ b o, b ≠ it → s.heap.get? b = some o → h'.get? b = some o) (hg : AllBare g')
    (hf : s.heap.objs.size ≤ it ∨ FpOk X pins H it) : Inv X pins σ H { s with heap := h', gens := g', drawn := d', toks := t' } := by
  rcases hf with hf | ⟨f0, f1, _, f3, f4, f5⟩
  · have k' : ∀ b o, s.heap.get? b = some o → h'.get? b = some o := fun b o e => k b o (Nat.ne_of_lt (Nat.lt_of_lt_of_le (Heap.lt_size e) hf)) e
    refine I.step (ch := []) (fun b hb => by simp at hb) (fun b o _ _ _ e _ => k' b o e) (fun b o _ _ _ e _ => ⟨o.slots, k' b o e⟩) (fun _ _ _ _ n => n) (fun b o _ e => ⟨o, k' b o e⟩) (fun _ _ e => e) (fun _ _ _ e => e) (fun b ps e => ⟨#[], by rw [e]; simp⟩) (fun m hm => hm.keeps k') (I.hok.kept k') hg
  · have nit : ∀ b u, H b = some u → b ≠ it := fun b u e z => by rw [z, f0] at e; cases e
    refine I.step (ch := [it]) (fun b hb => ?_) (fun b o _ _ hc e _ => k b o (fun z => hc (by simp [z])) e) (fun b o _ _ hc e _ => ⟨o.slots, k b o (fun z => hc (by simp [z])) e⟩) (fun _ _ _ _ n => n) (fun b o hc e => ⟨o, k b o (fun z => hc (by simp [z])) e⟩)
      (fun _ _ e => e) (fun _ _ _ e => e) (fun b ps e => ⟨#[], by rw [e]; simp⟩) (fun m hm => ?_) (fun b u e => ?_) hg
    · rw [List.mem_singleton.mp hb]; exact ⟨f3, f1, f4, f5⟩
    · obtain ⟨o, es, ep, ho, r⟩ := hm
      exact ⟨o, es, ep, k _ o (Ne.symm f1) ho, r⟩
    · refine (I.hok b u e).stay (fun c v hc q => k c v ?_ q) (fun _ q => q) fun _ _ q => q
      rcases hc with z | z
      · rw [z]; exact nit b u e
      · exact nit c _ z
theorem inv_gens {g' : Array GenState} (I : Inv X pins σ H s) (hg : AllBare g') : Inv X pins σ H { s with gens := g' } :=
  inv_moved (it := s.heap.objs.size) (t' := s.toks) (d' := s.drawn) I (fun _ _ _ e => e) hg (.inl (Nat.le_refl _))
/-- a step told of the hushed state -/
theorem hushed {α : Type} {M : Model} {A : Around} {t : Sem α} {q : α → L2.St → Hp → Shared → Prop} {E : Value → Shared → Prop} {pins' : List (Addr × Obj)} (hb : AllBare s.gens)
    (h : wpAny M A t (fun a z => ∃ σ' H', Inv X pins' σ' H' z ∧ q a σ' H' z) (fun _ _ => False) { s with gens := hush s.gens }) :
    wpAny M A t (fun a s' => ∃ σ' H' z, Inv X pins' σ' H' s' ∧ s'.heap = z.heap ∧ q a σ' H' z ∧ ∀ (g : Nat) (st : GenState), s.gens[g]? = some st → susp st = true → s'.gens[g]? = some st) E s := by
  refine wpAny_mono (wpAny_hush h) (fun a s' hs => ?_) fun _ _ ⟨_, _, _, z⟩ => z.elim
  obtain ⟨z, rfl, gd, σ', H', I, hq⟩ := hs
  refine ⟨σ', H', z, inv_gens I (heal_bare hb I.bare), rfl, hq, fun g st hg hs => ?_⟩
  have hlt : g < z.gens.size := Nat.lt_of_lt_of_le (Array.getElem?_eq_some_iff.mp hg).1 gd.size
  exact heal_own (Array.getElem?_eq_getElem hlt) hg hs

/-- a local's truth, the state as it was -/
theorem test_var {A : Around} {E : Value → Shared → Prop} {i : Nat} {x : Str} {b : Bool} {pos : Pos} (I : Inv X pins σ H s) (hN : X.N[i]? = some x) (hv : Vis X.env.scope x) (e : σ[i]? = some (some (.bl b)))
    (hd : (x == ("__debug__" : Str)) = false := by decide) (hcd : (x == ("__classdict__" : Str)) = false := by decide) :
    wpAny (model X.prog X.w) A (isTrue (.Name x pos) X.env (eval (.Name x pos) X.env)) (fun c s1 => c = b ∧ s1 = s) E s := by
  obtain ⟨m, hn, hl⟩ := I.loc
  obtain ⟨u, r, l⟩ := hl i x _ hN e hv
  obtain rfl : u = Value.bool b := r
  have fin : wpAny (model X.prog X.w) A (truthy (.bool b)) (fun c s1 => c = b ∧ s1 = s) E s := wpAny_truthy_bool ⟨rfl, rfl⟩
  refine isTrue_plain ?_ rfl
  rcases l with ⟨hk, hm⟩ | ⟨hk, c, hc, hcell⟩
  · exact wpAny_Name (wpAny_loadName_local I.ok.kind hk hn hm fin) hd
  · rcases hk with hk | hk
    · exact wpAny_Name (wpAny_loadName_cell I.ok.kind hk hc hcell fin) hd
    · exact wpAny_Name (wpAny_loadName_free I.ok.kind hk hc hcell fin hcd) hd
/-- a field of a local, the heap as it was -/
theorem fld_var {E : Value → Shared → Prop} {i : Nat} {x f : Str} {a C dx : Addr} {fs : List (Str × V)} {v : V} {p pos : Pos} (I : Inv X pins σ H s) (hN : X.N[i]? = some x) (hv : Vis X.env.scope x) (e : σ[i]? = some (some (.ref a)))
    (ha : H a = some (.ins C dx fs)) (c : Cls X.K C) (n : NoAttr X.K C f) (l : fs.lookup f = some v)
    (hb : attributeBase (.Name x p) f X.env (eval (.Name x p) X.env) = eval (.Name x p) X.env) (hd : (x == ("__debug__" : Str)) = false := by decide) (hcd : (x == ("__classdict__" : Str)) = false := by decide) :
    wpAny (model X.prog X.w) X.A (eval (.Attribute (.Name x p) f pos) X.env) (fun u s1 => RelV v u ∧ s1.heap = s.heap ∧ s1.gens = s.gens ∧ s1.os = s.os) E s := by
  refine attr_of hb ?_
  obtain ⟨m, hn, hl⟩ := I.loc
  obtain ⟨u, r, lk⟩ := hl i x _ hN e hv
  obtain rfl : u = Value.ref a := r
  have fin : wpAny (model X.prog X.w) X.A (getAttr (.ref a) f true) (fun u s1 => RelV v u ∧ s1.heap = s.heap ∧ s1.gens = s.gens ∧ s1.os = s.os) E s := by
    obtain ⟨mA, O, ro, _, _, _⟩ := ins_get I.hok ha
    obtain ⟨u, hu, ru⟩ := RelO.some_of (v := v) (o := mA f) (by rw [← l]; exact ro f)
    exact get_map I.kIn O (c.get f) c.hd n hu (handed_of ru) ⟨ru, rfl, rfl, rfl⟩
  rcases lk with ⟨hk, hm⟩ | ⟨hk, c, hc, hcell⟩
  · exact wpAny_Name (wpAny_loadName_local I.ok.kind hk hn hm fin) hd
  · rcases hk with hk | hk
    · exact wpAny_Name (wpAny_loadName_cell I.ok.kind hk hc hcell fin) hd
    · exact wpAny_Name (wpAny_loadName_free I.ok.kind hk hc hcell fin hcd) hd
end

/-- what is known of the generator method: its object, and how one keyword is bound -/
structure WalkFn (K : PySem.W.Frag) (m kw : Str) (f : Addr) (fd : FuncData) (qual : Str) (scope : Scope) (body : List Stmt) : Prop where
  ex : ∃ (name : Str) (params : Arguments) (dV kV doc pm : Value) (an : Option Addr) (cdv ct oc : Value) (od : Option Addr) (osl : Array (Option Value)),
    fd = PySem.W.fnOf name qual params body scope dV kV doc pm an cdv ct ∧ K.lookup f = some ⟨oc, od, .func fd, osl⟩ ∧ PySem.W.codeIn K cdv qual = true
  bind : ∀ (s : Shared) (u v : Value), K.In s.heap → BindsTo s fd ⟨[u], [(kw, v)]⟩ [("self", u), (kw, v)]
  sc : GScope ["self", kw] ["self", kw] scope

def tForW (C : Addr) (m fld : Str) (ta : TE) (g : TG) (tb : TS) : TS := fun D σ H => ta σ H fun x H1 => ∃ a dx fs t xs, x = .ref a ∧ H1 a = some (.ins C dx fs) ∧ fs.lookup m = none ∧ fs.lookup fld = some (.ref t) ∧
  ∃ W : Nat → Nat → L2.St → Hp → Prop, (∃ m, W 0 m σ H1) ∧ ∀ i m σ H, W i m σ H → H t = some (.tup xs) ∧
    ((i = xs.length ∧ D.nx σ H) ∨ ∃ x, xs[i]? = some x ∧ ∃ N : L2.St → Hp → Prop, (∀ σ' H', N σ' H' → ∃ m', m' < m ∧ W (i + 1) m' σ' H') ∧ g x σ H fun σ2 H2 => tb { D with nx := N, ct := N, bk := D.nx } σ2 H2)

section
variable {X : Cx}
theorem ps_forW {o : Expr} {ta : TE} {g : TG} {tb : TS} {tg : Expr} {body els : List Stmt} {m kw fld : Str} {C f : Addr} {fd : FuncData} {qual : Str} {scope : Scope} {apos cpos kpos pos p0 p1 p2 p3 p4 p5 p6 : Pos} {j0 k : Nat} {pl : Sem Bool}
    (hE : X.xe = fun _ _ => False) (hc : X.calm = true) (ho : PE X o ta) (c : Cls X.K C) (hm : Meth X.K C m f) (nf : NoAttr X.K C fld)
    (WF : WalkFn X.K m kw f fd qual scope [.If (.Name kw p1) [.Expr (.YieldFrom (.Attribute (.Name "self" p2) fld p3) p4) p5] els p0]) (hr : Room (k + 2) X.A) (hg : PG X tg g) (hb : PSs X body tb)
    (hkw : (kw == ("__debug__" : Str)) = false) (hkw2 : (kw == ("__classdict__" : Str)) = false) (hls : scope.names.lookup ("self" : Str) = some .local) (hlk : scope.names.lookup kw = some .local)
    (hab : ∀ env : Env, env.scope = scope → attributeBase (.Name "self" p2) fld env (eval (.Name "self" p2) env) = eval (.Name "self" p2) env)
    (hall : (backToKw cpos (keywordEach [⟨some kw, .Constant (.bool true) j0 apos, kpos⟩] X.env)).all (·.1.isSome) = true := by rfl)
    (hks : (backToKw cpos (keywordEach [⟨some kw, .Constant (.bool true) j0 apos, kpos⟩] X.env)).filterMap (·.1) = [kw] := by rfl)
    (hpl : ((backTo cpos (starEach [] X.env)).any (·.1) || (backToKw cpos (keywordEach [⟨some kw, .Constant (.bool true) j0 apos, kpos⟩] X.env)).any (·.1.isNone)) = false := by rfl)
    (ht : eval (.Call (.Attribute o m p6) [] [⟨some kw, .Constant (.bool true) j0 apos, kpos⟩] cpos) X.env = (do
      let ov ← eval o X.env
      standAt p6.atName
      let (f, first) ← holding [ov] (getMethod ov m pl)
      callWith cpos f first (backTo cpos (starEach [] X.env)) (backToKw cpos (keywordEach [⟨some kw, .Constant (.bool true) j0 apos, kpos⟩] X.env))) := by rfl)
    (hs : ∀ x, foldedSetIterable (.Call (.Attribute o m p6) [] [⟨some kw, .Constant (.bool true) j0 apos, kpos⟩] cpos) X.env x = pure x := by intro _; rfl) :
    PS X (.For tg (.Call (.Attribute o m p6) [] [⟨some kw, .Constant (.bool true) j0 apos, kpos⟩] cpos) body [] pos) (tForW C m fld ta g tb) := by
  have hp : PassesOwn (model X.prog X.w) X.A X.env X.xe := by rw [hE]; exact PassesOwn.never
  refine ⟨fun pins s σ H D I h => ?_⟩
  refine wpAny_For (PySem.W.methodCall_KW (pl := pl) (thn (ho.run pins s σ H _ I h) fun u s1 ⟨x, H1, I1, rx, a, dx, fs, t, xs, ex, ea, l1, l2, W, ⟨m0, w0⟩, turn⟩ => ?_) ht) hs
  subst ex
  obtain rfl : u = Value.ref a := rx
  refine getmeth_ok I1 ea c hm l1 ?_
  refine PySem.W.callWith_KW0 (h₀ := X.base) (first := [.ref a]) I1.ok.mod.kin hm.kp hall (thn ((pk_cons pe_bl pk_nil).run cpos pins s1 σ H1 (fun vs H2 => vs = [.bl true] ∧ H2 = H1) I1 ⟨rfl, rfl⟩) fun ws s2 ⟨zs, H2, I2, rz, ez, eH⟩ => ⟨I2.kIn, ?_⟩) hpl
  subst ez eH
  obtain ⟨wv, rfl, rw1⟩ : ∃ wv, ws = [wv] ∧ RelV (.bl true) wv := by
    cases rz with
    | cons r1 r2 => cases r2; exact ⟨_, rfl, r1⟩
  obtain rfl : wv = Value.bool true := rw1
  rw [hks]
  obtain ⟨name, params, dV, kV, doc, pm, an, cdv, ct, oc, od, osl, rfl, lk, hcd⟩ := WF.ex
  have S := WF.sc
  -- the call
  refine wpAny_call (codeAny_call_generator (by have := hr.dp; omega) (I2.kIn _ _ lk) rfl S.co S.gen rfl (PySem.W.codeRec_of I2.kIn hcd) (WF.bind s2 _ _ I2.kIn _ _ _ _ ?_))
  refine wpAny_newFunctionEnv_cells S.kind (fun y hy => ?_) fun env he s3 x3 => ?_
  · rcases List.mem_cons.mp hy with rfl | hy
    · exact .inl hls
    · rw [List.mem_singleton.mp hy]; exact .inl hlk
  subst he
  obtain ⟨h3, tk3, es3, hk3⟩ := x3.done
  have os3 : s3.os = s2.os := by rw [es3]
  have gen3 : s3.gens = s2.gens := by rw [es3]
  have kp3 : ∀ b ob, s2.heap.get? b = some ob → s3.heap.get? b = some ob := x3.toInCall.keep
  have lim3 : s3.heap.NoLimit := I2.nolimit.keeps kp3
  refine ⟨lim3, ?_⟩
  have hcalm : X.A.handled = none := I2.ok.hd hc
  have tupOf : ∀ {σ' : L2.St} {H' : Hp} {s' : Shared} {ps : List (Addr × Obj)}, Inv X ps σ' H' s' → H' t = some (.tup xs) → TupX s'.heap t xs := fun {σ' H' s' ps} J e => by
    obtain ⟨_, its, rv, hT⟩ := J.hok t _ e
    exact ⟨its, rv, hT⟩
  have main : ∀ (go : Obj) (nm qn : Value) (tk : Nat), go.cls = .type "generator" → go.data = .fields #[.int s3.gens.size 0, nm, qn] → go.slots = #[] → (s3.heap.push go).get? s3.heap.objs.size = some go →
      wpAny (model X.prog X.w) X.A (pyIter (.ref s3.heap.objs.size)) (fun itv sx => codeAny (model X.prog X.w) X.A (.forLoop tg itv body [] X.env) (fun r s' => match r with | .ok fl => SP X pins D fl s' | .error e => cameBackBy (model X.prog X.w) X.A X.env X.xe e s') sx) X.xe
        { s3 with gens := s3.gens.push (.fresh (.func [.If (.Name kw p1) [.Expr (.YieldFrom (.Attribute (.Name "self" p2) fld p3) p4) p5] els p0] (envOfC qual scope s2.heap.objs.size f cdv))), toks := tk, heap := s3.heap.push go } := by
    intro go nm qn tk gc gdt gsl gat
    have gen_of : ∀ {h : Heap}, h.get? s3.heap.objs.size = some go → h.IsGen s3.heap.objs.size s3.gens.size := fun {h} e => ⟨go, nm, qn, e, gc, gdt, gsl⟩
    have ncell : ∀ v, go.data ≠ .cell v := fun v q => by rw [gdt] at q; cases q
    have kpG : ∀ b ob, s2.heap.get? b = some ob → (s3.heap.push go).get? b = some ob := fun b ob e => Heap.get?_push_of_some _ (kp3 b ob e)
    have sz23 : s2.heap.objs.size < s3.heap.objs.size := x3.toInCall.ns.lt
    have bareG : AllBare (s3.gens.push (.fresh (.func [.If (.Name kw p1) [.Expr (.YieldFrom (.Attribute (.Name "self" p2) fld p3) p4) p5] els p0] (envOfC qual scope s2.heap.objs.size f cdv)))) := AllBare.push (by rw [gen3]; exact I2.bare) rfl
    refine wpAny_pyIter_gen (gen_of gat) ?_
    -- the generator's own state at its first step
    have Ig0 := inv_startG (E := E0) S (A := X.A.in1) hcalm I2.env0.in1 (vs := [.ref a, .bl true]) rfl (.cons rfl (.cons rfl .nil)) x3
    have Ig := inv_moved (it := s3.heap.objs.size) (t' := tk) (d' := s3.drawn) (h' := s3.heap.push go)
      (g' := (s3.gens.push (.fresh (.func [.If (.Name kw p1) [.Expr (.YieldFrom (.Attribute (.Name "self" p2) fld p3) p4) p5] els p0] (envOfC qual scope s2.heap.objs.size f cdv)))).setIfInBounds s3.gens.size .running)
      Ig0 (fun b ob _ e => Heap.get?_push_of_some _ e) (allBare_setGen (s := { s3 with gens := _ }) bareG rfl) (.inl (Nat.le_refl _))
    have ht0 : TupX (s3.heap.push go) t xs := by
      obtain ⟨its, rv, hT⟩ := tupOf I2 (turn 0 m0 σ H2 w0).1
      exact ⟨its, rv, hT.keeps kpG⟩
    let eG : Env := envOfC qual scope s2.heap.objs.size f cdv
    let cG : Code := .func [.If (.Name kw p1) [.Expr (.YieldFrom (.Attribute (.Name "self" p2) fld p3) p4) p5] els p0] eG
    let sG : Shared := { s3 with gens := s3.gens.push (.fresh cG), toks := tk, heap := s3.heap.push go }
    have Ig' : Inv (gcxOf X.prog X.w X.K X.mg X.base ["self", kw] qual scope f cdv X.A.in1 X.stack s2 H2 E0 []) [] (start ["self", kw] [.ref a, .bl true]) H2 (sG.setGen s3.gens.size .running) := Ig
    have q1 : wpAny (model X.prog X.w) (X.A.in1.deeper eG) (isTrue (.Name kw p1) eG (eval (.Name kw p1) eG)) (fun b s1 => b = true ∧ s1 = sG.setGen s3.gens.size .running) (fun _ _ => False) (sG.setGen s3.gens.size .running) :=
      test_var Ig' (i := 1) rfl (.inl hlk) rfl hkw hkw2
    have q2 : wpAny (model X.prog X.w) (X.A.in1.deeper eG) (eval (.Attribute (.Name "self" p2) fld p3) eG) (fun v s1 => v = .ref t ∧ s1.heap = (sG.setGen s3.gens.size .running).heap ∧ s1.gens = (sG.setGen s3.gens.size .running).gens ∧ s1.os = (sG.setGen s3.gens.size .running).os) (fun _ _ => False) (sG.setGen s3.gens.size .running) :=
      wpAny_mono (fld_var (pos := p3) Ig' (i := 0) rfl (.inl hls) rfl ea c nf l2 (hab eG rfl)) (fun u z q => q) fun _ _ q => q
    have first := seg_first (els := els) (yp := p4) (pos := p5) (ip := p0) (xs := xs) q1 q2 ht0 hcalm Ig'.quiet
    have szG : sG.heap.objs.size = s3.heap.objs.size + 1 := Heap.size_push ..
    let it : Addr := sG.heap.objs.size
    have fpA : FpOk X pins H2 s3.heap.objs.size := I2.fpOk (Nat.le_of_lt sz23) (I2.hok.fresh (Nat.le_of_lt sz23))
    -- what holds between two turns
    refine codeAny_forLoop_any (fun n s' => ∃ i σ' H', Inv X pins σ' H' s' ∧ FpOk X pins H' s3.heap.objs.size ∧ s'.heap.get? s3.heap.objs.size = some go ∧
      (∃ st, s'.gens[s3.gens.size]? = some st ∧ st.Goes (model X.prog X.w) X.A.in1 (EW it) (YW it t xs) (xs.length - i) (.send .none) (s'.setGen s3.gens.size .running)) ∧ (s'.heap.objs.size ≤ it ∨ FpOk X pins H' it) ∧ i ≤ xs.length ∧ W i n σ' H') ?_ m0 ?_
    · rintro n s4 ⟨i, σ4, H4, I4, fA4, eA4, ⟨st, est, go4⟩, fI4, hi4, w4⟩
      obtain ⟨hT4, tn⟩ := turn i n σ4 H4 w4
      have stat : ∀ {H' : Hp} {b : Addr}, FpOk X pins H4 b → H' b = none → FpOk X pins H' b := fun f n => ⟨n, f.2⟩
      rcases tn with ⟨rfl, hD⟩ | ⟨x, hx, N, hN, step⟩
      · rw [Nat.sub_self] at go4
        refine next_end hcalm I4.nolimit (by have := hr.dp; omega) (gen_of eA4) est go4 fun s5 hk h' hh' => ?_
        have I5 := inv_moved (it := it) (h' := h') (g' := (s5.setGen s3.gens.size .finished).gens) (d' := s5.drawn) (t' := s5.toks) I4 (fun b ob nb e => hh' b ob (hk.keep b ob nb e))
          (allBare_setGen (s := s5) (by rw [hk.gens]; exact allBare_setGen I4.bare rfl) rfl) fI4
        have e5 : ({ s5.setGen s3.gens.size .finished with heap := h' } : Shared) = { s4 with heap := h', gens := (s5.setGen s3.gens.size .finished).gens, drawn := s5.drawn, toks := s5.toks } := by
          show ({ heap := h', gens := _, drawn := s5.drawn, toks := s5.toks, os := s5.os } : Shared) = { heap := h', gens := _, drawn := s5.drawn, toks := s5.toks, os := s4.os }
          rw [show s5.os = s4.os from hk.os]
        rw [e5]
        exact wpAny_execs_nil ⟨σ4, H4, I5, hD⟩
      · have hlt : i < xs.length := (List.getElem?_eq_some_iff.mp hx).1
        obtain ⟨m, hm⟩ : ∃ m, xs.length - i = m + 1 := ⟨xs.length - i - 1, by omega⟩
        rw [hm] at go4
        refine next_item I4.nolimit (by have := hr.dp; omega) (gen_of eA4) est go4 fun v s5 st5 hsus hbare hY => ?_
        obtain ⟨j, x', hx', hj, rv, hi5, hT5, hk, kap⟩ := hY
        obtain rfl : j = i := by omega
        obtain rfl : x' = x := by rw [hx] at hx'; exact (Option.some.inj hx').symm
        have gl : s3.gens.size < s5.gens.size := by
          rw [hk.gens]
          show _ < (s4.gens.setIfInBounds _ _).size
          rw [Array.size_setIfInBounds]
          exact (Array.getElem?_eq_some_iff.mp est).1
        have bare6 : AllBare (s5.setGen s3.gens.size st5).gens := allBare_setGen (s := s5) (by rw [hk.gens]; exact allBare_setGen I4.bare rfl) hbare
        have I6 := inv_moved (it := it) (h' := s5.heap) (g' := (s5.setGen s3.gens.size st5).gens) (d' := s5.drawn) (t' := s5.toks) I4 (fun b ob nb e => hk.keep b ob nb e) bare6 fI4
        have e6 : s5.setGen s3.gens.size st5 = { s4 with heap := s5.heap, gens := (s5.setGen s3.gens.size st5).gens, drawn := s5.drawn, toks := s5.toks } := by
          show ({ heap := s5.heap, gens := _, drawn := s5.drawn, toks := s5.toks, os := s5.os } : Shared) = { heap := s5.heap, gens := _, drawn := s5.drawn, toks := s5.toks, os := s4.os }
          rw [show s5.os = s4.os from hk.os]
          rfl
        rw [← e6] at I6
        have gst : (s5.setGen s3.gens.size st5).gens[s3.gens.size]? = some st5 := setGen_at gl
        have nIA : s3.heap.objs.size ≠ it := by
          show s3.heap.objs.size ≠ sG.heap.objs.size
          rw [szG]; exact Nat.ne_of_lt (Nat.lt_succ_self _)
        have eA5 : s5.heap.get? s3.heap.objs.size = some go := hk.keep _ _ nIA eA4
        have fI5 : FpOk X pins H4 it := fI4.elim (fun z => I4.fpOk z (I4.hok.fresh z)) id
        obtain ⟨io, eI5, cI5, dI5⟩ := id hi5
        have ncI : ∀ v, io.data ≠ .cell v := fun v q => by rw [dI5] at q; cases q
        have I6p := I6.pinned (fp := [s3.heap.objs.size, it]) (fun b hb => by
            rcases List.mem_cons.mp hb with rfl | hb
            · exact fA4
            · rw [List.mem_singleton.mp hb]; exact fI5)
          (fun b hb => by
            rcases List.mem_cons.mp hb with rfl | hb
            · exact ⟨go, eA5, ncell⟩
            · rw [List.mem_singleton.mp hb]; exact ⟨io, eI5, ncI⟩)
        generalize hpins : pins ++ pinsAt [s3.heap.objs.size, it] (s5.setGen s3.gens.size st5).heap = pins' at I6p
        have pA : (s3.heap.objs.size, go) ∈ pins' := by rw [← hpins]; exact List.mem_append_right _ (mem_pinsAt (by simp) eA5)
        have pI : (it, io) ∈ pins' := by rw [← hpins]; exact List.mem_append_right _ (mem_pinsAt (by simp) eI5)
        have unp : ∀ {σ' : L2.St} {H' : Hp} {s' : Shared}, Inv X pins' σ' H' s' → Inv X pins σ' H' s' := fun {σ' H' s'} J => by rw [← hpins] at J; exact J.unpinned
        refine go_of (s := s5.setGen s3.gens.size st5) eA5 gc gdt (by decide) ?_
        refine wpAny_passesOwn hp (wpAny_mono (hushed (X := X) (pins' := pins') (q := fun _ σ' H' _ => tb { D with nx := N, ct := N, bk := D.nx } σ' H') (E := X.xe) I6.bare ?_) (fun _ s7 q7 => ?_) fun _ _ q => q)
        · have q := hg.run pins' { s5.setGen s3.gens.size st5 with gens := hush (s5.setGen s3.gens.size st5).gens } σ4 H4 x' v _ (inv_gens I6p (hush_bare I6.bare)) rv step
          rw [hE] at q
          exact q
        obtain ⟨σ7, H7, z7, I7, _, b7, g7⟩ := q7
        refine wpAny_passesOwn hp (wpAny_mono (hushed (X := X) (pins' := pins') (E := X.xe) (q := fun fl σ' H' _ => match fl with
          | .next => N σ' H'
          | .cont => N σ' H'
          | .brk => D.nx σ' H'
          | .ret u => ∃ y, RelV y u ∧ D.rt y H') I7.bare ?_) (fun fl s8 q8 => ?_) fun _ _ q => q)
        · have q := hb.run pins' { s7 with gens := hush s7.gens } σ7 H7 { D with nx := N, ct := N, bk := D.nx } (inv_gens I7 (hush_bare I7.bare)) b7
          rw [hE] at q
          refine wpAny_mono q (fun fl z hz => ?_) fun _ _ q => q
          cases fl with
          | next => exact hz
          | cont => exact hz
          | brk => exact hz
          | ret u => obtain ⟨y, σ', H', a1, a2, a3⟩ := hz; exact ⟨σ', H', a1, y, a2, a3⟩
        obtain ⟨σ8, H8, z8, I8, _, b8, g8⟩ := q8
        have again : N σ8 H8 → ∃ m, m < n ∧ ∃ i σ' H', Inv X pins σ' H' s8 ∧ FpOk X pins H' s3.heap.objs.size ∧ s8.heap.get? s3.heap.objs.size = some go ∧
            (∃ st, s8.gens[s3.gens.size]? = some st ∧ st.Goes (model X.prog X.w) X.A.in1 (EW it) (YW it t xs) (xs.length - i) (.send .none) (s8.setGen s3.gens.size .running)) ∧ (s8.heap.objs.size ≤ it ∨ FpOk X pins H' it) ∧ i ≤ xs.length ∧ W i m σ' H' := fun hN8 => by
          obtain ⟨m', hm', w8⟩ := hN σ8 H8 hN8
          obtain ⟨pA1, pA2, _⟩ := I8.pin _ (List.mem_append_right _ pA)
          obtain ⟨pI1, pI2, _⟩ := I8.pin _ (List.mem_append_right _ pI)
          have est8 := g8 _ _ (g7 _ _ gst hsus) hsus
          have eTI : IsTupIter s8.heap it t (j + 1) := ⟨io, pI1, cI5, dI5⟩
          have eTX : TupX s8.heap t xs := tupOf I8 (turn (j + 1) m' σ8 H8 w8).1
          have em : xs.length - (j + 1) = m := by omega
          refine ⟨m', hm', j + 1, σ8, H8, unp I8, ⟨pA2, fA4.2⟩, pA1, ⟨st5, est8, ?_⟩, .inr ⟨pI2, fI5.2⟩, hlt, w8⟩
          rw [em]
          exact kap (s8.setGen s3.gens.size .running) eTI eTX
        cases fl with
        | next => exact again b8
        | cont => exact again b8
        | brk => exact ⟨σ8, H8, unp I8, b8⟩
        | ret u => obtain ⟨y, r1, r2⟩ := b8; exact ⟨y, σ8, H8, unp I8, r1, r2⟩
    · have I0 := inv_moved (it := s2.heap.objs.size) (h' := s3.heap.push go) (g' := s3.gens.push (.fresh cG)) (d' := s3.drawn) (t' := tk) I2 (fun b ob _ e => kpG b ob e) bareG (.inl (Nat.le_refl _))
      have e0 : sG = { s2 with heap := s3.heap.push go, gens := s3.gens.push (.fresh cG), drawn := s3.drawn, toks := tk } := by
        show ({ heap := s3.heap.push go, gens := _, drawn := s3.drawn, toks := tk, os := s3.os } : Shared) = { heap := s3.heap.push go, gens := _, drawn := s3.drawn, toks := tk, os := s2.os }
        rw [os3]
      rw [← e0] at I0
      exact ⟨0, σ, H2, I0, fpA, gat, ⟨.fresh cG, Array.getElem?_push_size .., rfl, first⟩, .inl (Nat.le_refl _), Nat.zero_le _, w0⟩
  exact main _ _ _ _ rfl rfl rfl (Heap.get?_push_size _ rfl)
end
end Gx

set_option Elab.async false
set_option maxRecDepth 100000
set_option maxHeartbeats 4000000
/-! Rules of our own over the hand layer, and what a def is known by. -/
namespace My
open PySem PySem.Spec PyProof.Rows L2

/-! ### a def by its promise -/
structure Def (P : Program) (w : World) (K : PySem.W.Frag) (mg : Str → Option Value) (base : Heap) (x : Str) (ps : List Str) (k : Nat) (sp : Sp) : Prop where
  ex : ∃ f fd, mg x = some (.ref f) ∧ PySem.W.keepIn K (.ref f) = true ∧ Binds K fd ps [] ∧ FnOk P w K mg base CX0 k f fd ps sp
theorem pe_def {X : Cx} {x : Str} {ps : List Str} {k n : Nat} {sp : Sp} {e : Expr} {es : List Expr} {p pos : Pos} {t : TA} (d : Def X.prog X.w X.K X.mg X.base x ps k sp) (hr : Room n X.A) (hg : Gl X x) (ha : PA X (e :: es) t) (hk : k ≤ n := by decide)
    (hdb : (x == ("__debug__" : Str)) = false := by decide) (he : starEach (e :: es) X.env = (false, eval e X.env) :: starEach es X.env := by rfl) (hpl : (backTo pos (starEach es X.env)).any (·.1) = false := by rfl) :
    PE X (.Call (.Name x p) (e :: es) [] pos) (tCall sp [] E0 t) := by
  obtain ⟨f, fd, h1, h2, h3, h4⟩ := d.ex
  exact pe_call h4 (hr.mono hk) hg h1 h2 h3 .nil pass0 ha hdb he hpl
/-- where a def of the top stands -/
structure FunAt (K : PySem.W.Frag) (mg : Str → Option Value) (x : Str) (st : Stmt) : Prop where
  ex : ∃ f fd, Fun K x x st f fd ∧ mg x = some (.ref f)
section
variable {P : Program} {w : World} {K : PySem.W.Frag} {mg : Str → Option Value} {base : Heap}
theorem mk_def {x : Str} {st : Stmt} {N ps : List Str} {k : Nat} {sp : Sp} (F : FunAt K mg x st) (S : FnScope N ps (defScope st))
    (hb : ∀ (kV doc pm : Value) (an : Option Addr) (cdv ct : Value) (us : List Value), us.length = ps.length → bindArgs (PySem.W.fnOf x x (defArgs st) (defBody st) (defScope st) .none kV doc pm an cdv ct) ⟨us, []⟩ = pure (ps.zip us))
    (len : ∀ vs H Q E, sp vs H Q E → vs.length = ps.length)
    (body : ∀ (f : Addr) (cdv : Value) (A : Around) (outer : List Env) (s : Shared) (H : Hp) (vs : List V) (Q : VK) (E : XK), Room k (A.deeper (envOfC x (defScope st) s.heap.objs.size f cdv)) → sp vs H Q E →
      ∃ t, PSs (cxOf CX0 P w K mg base N x (defScope st) f cdv A outer s H E).nox (defBody st) t ∧ t { nx := fun _ H' => Q .non H', rt := Q } (start N vs) H) : Def P w K mg base x ps (k + 1) sp := by
  obtain ⟨f, fd, F, hm⟩ := F.ex
  exact ⟨f, fd, hm, F.kp, F.binds hb, F.ok S len (body f)⟩
theorem Def.mono {x : Str} {ps : List Str} {j k : Nat} {sp : Sp} (d : Def P w K mg base x ps j sp) (h : j ≤ k) : Def P w K mg base x ps k sp := by
  obtain ⟨f, fd, h1, h2, h3, h4⟩ := d.ex
  exact ⟨f, fd, h1, h2, h3, h4.mono h⟩
theorem Def.imp {x : Str} {ps : List Str} {k : Nat} {sp sp' : Sp} (d : Def P w K mg base x ps k sp) (h : ∀ vs H Q E, sp' vs H Q E → sp vs H Q E) : Def P w K mg base x ps k sp' := by
  obtain ⟨f, fd, h1, h2, h3, h4⟩ := d.ex
  exact ⟨f, fd, h1, h2, h3, h4.imp h⟩
end

/-! ### o.f as a target -/
def gFld (K : PySem.W.Frag) (ta : TE) (f : Str) : TG := fun v σ H Q => ta σ H fun x H1 => ∃ a C dx fs, x = .ref a ∧ H1 a = some (.ins C dx fs) ∧ Cls K C ∧ NoAttr K C f ∧ fs.length < 1000 ∧ Q σ (upd H1 a (.ins C dx (putF f v fs)))
theorem pg_fld {X : Cx} {o : Expr} {f : Str} {pos : Pos} {ta : TE} (ho : PE X o ta) : PG X (.Attribute o f pos) (gFld X.K ta f) := by
  refine ⟨fun pins s σ H v u Q I r h => ?_⟩
  refine PySem.W.kas_attr (thn (ho.run pins s σ H _ I h) fun ov s1 ⟨x, H1, I1, rx, a, C, dx, fs, ex, ea, c, n, l, q⟩ => ?_)
  subst ex
  obtain rfl : ov = Value.ref a := rx
  exact setattr_ok I1 ea c n l r fun s2 I2 => ⟨σ, _, I2, q⟩

/-! ### len(o), o an instance whose class has a __len__ -/
def rLenO (C : Addr) (sp : Sp) : List V → Hp → VK → Prop := fun xs H Q => ∃ a dx fs, xs = [.ref a] ∧ H a = some (.ins C dx fs) ∧ sp [.ref a] H (fun v H' => ∃ n : Int, v = .int n ∧ 0 ≤ n ∧ n < 2 ^ 63 ∧ Q (.int n) H') E0
theorem call_lenO {X : Cx} {C g : Addr} {fd : FuncData} {ps : List Str} {k : Nat} {sp : Sp} (hm : Meth X.K C "__len__" g) (F : FnOk X.prog X.w X.K X.mg X.base CX0 k g fd ps sp) (hr : Room (k + 1) X.A) (hb : Binds X.K fd ps []) : CallR X (.builtin "len") (rLenO C sp) := by
  intro pins s σ H xs us Q I r h
  obtain ⟨a, dx, fs, rfl, ea, q⟩ := h
  obtain ⟨u, rfl, ru⟩ := vals1 r
  obtain rfl : u = Value.ref a := ru
  obtain ⟨mA, O, _, _, _, _⟩ := ins_get I.hok ea
  obtain ⟨od, J, _⟩ := O.look
  obtain ⟨m, F0⟩ := I.fr
  have hl : ([Value.ref a] ++ []).length = ps.length := (F.len _ _ _ _ q)
  refine PySem.W.len_K F0 I.ok.mod.kin J hm.at_ hm.fn (wpAny_call ?_)
  refine codeAny_mono (F.run X.A.in1 X.stack s H ⟨[.ref a], []⟩ [.ref a] [.ref a] _ E0 hr.in1 I.env0.in1 (by have := hb s [.ref a] I.kIn hl; simpa using this) (.cons rfl .nil) q) fun r s' hq => ?_
  cases r with
  | error er => exact hq.elim
  | ok fl =>
    cases fl with
    | ret u =>
      obtain ⟨v, H', I3, rv, n, ev, h0, h1, q3⟩ := I.after hq
      subst ev
      obtain ⟨t, rfl⟩ := rv
      exact ⟨⟨h0, h1⟩, .int n, H', I3.tok _, ⟨_, rfl⟩, q3⟩
    | next => exact hq.elim
    | brk => exact hq.elim
    | cont => exact hq.elim

/-! ### list(text) -/
/-- the signs of a text -/
def sigV (x : Str) : List V := x.cps.toList.map fun c => V.str ⟨#[c]⟩
theorem vals_sig {x : Str} {acc : Array Value} (h : ItemsOf (SignAt x) acc x.cps.size) : Vals (sigV x) acc.toList := by
  have hl : acc.toList.length = x.cps.toList.length := by rw [Array.length_toList, Array.length_toList]; exact h.1
  have go : ∀ (cs : List Nat) (us : List Value), us.length = cs.length → (∀ (j : Nat) u, us[j]? = some u → ∃ c t, cs[j]? = some c ∧ u = Value.str ⟨#[c]⟩ t) → Vals (cs.map fun c => V.str ⟨#[c]⟩) us := by
    intro cs
    induction cs with
    | nil => intro us e _; cases us with
      | nil => exact .nil
      | cons _ _ => cases e
    | cons c r ih =>
      intro us e hu
      cases us with
      | nil => cases e
      | cons u us =>
        obtain ⟨c', t, e1, e2⟩ := hu 0 u rfl
        have : c = c' := by simpa using e1
        subst this
        exact .cons ⟨t, e2⟩ (ih us (Nat.succ.inj e) fun j u' hj => hu (j + 1) u' hj)
  refine go _ _ hl fun j u hj => ?_
  obtain ⟨c, t, hc, rfl⟩ := h.2 j u (by rw [← hj, Array.getElem?_toList])
  exact ⟨c, t, by rw [← hc, Array.getElem?_toList], rfl⟩
theorem call_list_str {X : Cx} (hc : X.calm = true) : CallR X (.type "list") (fun xs H Q => ∃ x, xs = [.str x] ∧ x.cps.size ≤ sizeLine ∧ ∀ p, H p = none → Q (.ref p) (upd H p (.lst (sigV x)))) := by
  intro pins s σ H xs us Q I r h
  obtain ⟨x, rfl, hz, q⟩ := h
  obtain ⟨u, rfl, t, rfl⟩ := vals1 r
  refine PySem.call_list_str (I.ok.hd hc) x t (hn := hz) fun h' tk acc c hk hS hacc => ?_
  have hl : (sigV x).length ≤ sizeLine := by unfold sigV; rw [List.length_map, Array.length_toList]; exact hz
  exact ⟨.ref s.heap.objs.size, upd H s.heap.objs.size (.lst (sigV x)), I.laid (t' := tk) hk (Nat.le_refl _) (show ObjOk X.prog X.w _ _ _ (.lst (sigV x)) from ⟨hl, acc.toList, c, vals_sig hacc, by rw [Array.toArray_toList]; exact hS⟩), rfl, q _ (I.hok.fresh (Nat.le_refl _))⟩

/-! ### sorted of tuples with different first ints -/
def rSortedR (K : PySem.W.Frag) : List V → Hp → VK → Prop := fun vs H Q => ∃ (a : Addr) (xs : List V) (k : V → Int), vs = [V.ref a] ∧ SqL K H a xs ∧ (∀ x ∈ xs, ∃ t rest, x = V.ref t ∧ H t = some (.tup (.int (k x) :: rest))) ∧
  (∀ x ∈ xs, ∀ y ∈ xs, k x = k y → x = y) ∧ ∀ ys p, ys.Perm xs → ys.Pairwise (fun x y => k x ≤ k y) → H p = none → Q (.ref p) (upd H p (.lst ys))
def IsRow (h : Heap) (v : Value) (x : Int) : Prop := ∃ a o t its n, v = .ref a ∧ h.get? a = some o ∧ o.cls = .type "tuple" ∧ o.data = .seq (Value.int x t :: its).toArray n
theorem IsRow.keeps {h h' : Heap} {v : Value} {x : Int} (p : IsRow h v x) (k : ∀ b o, h.get? b = some o → o.cls = .type "tuple" → h'.get? b = some o) : IsRow h' v x := by
  obtain ⟨a, o, t, its, n, e, ho, hc, hd⟩ := p
  exact ⟨a, o, t, its, n, e, k _ _ ho hc, hc, hd⟩
theorem swo_int {α : Type} (k : α → Int) : SrtO.Swo fun v u => decide (k v < k u) := by
  refine ⟨fun x y h => ?_, fun x y z h1 h2 => ?_⟩
  · have := of_decide_eq_true h; exact decide_eq_false (by omega)
  · have a := of_decide_eq_false h1; have b := of_decide_eq_false h2; exact decide_eq_false (by omega)
section
variable {prog : Program} {w : World} {A : Around} {s : Shared}
theorem kat_same {Q : Bool → Shared → Prop} (h : Q false s) : ∀ (l : List Value) (i : Nat), PySem.W.KatLex prog w A true false Q (l.zip l) i s := by
  intro l
  induction l with
  | nil => intro i; exact h
  | cons v r ih =>
    intro i
    exact PySem.W.kat_cons (SeqAt.EqAt.same v prog w _ _ (PySem.W.kat_yes (ih (i + 1))))
theorem row_cmp {vs : List Value} {k : Value → Int} (hp : ∀ v ∈ vs, IsRow s.heap v (k v)) (hi : ∀ v ∈ vs, ∀ u ∈ vs, k v = k u → v = u) : SrtO.Cmp prog w A s (tuples' true) (fun p => p.1 ∈ vs) (SrtO.lt2 fun v u => decide (k v < k u)) := by
  intro p q hm hm'
  have h1 := hp _ hm
  have h2 := hp _ hm'
  show wpAny (model prog w) A (keyLt' (tuples' true) p.1 q.1) (fun r s' => s' = s ∧ r = decide (k p.1 < k q.1)) (fun _ _ => False) s
  by_cases e : k p.1 = k q.1
  · have ev := hi _ hm _ hm' e
    rw [← ev]
    obtain ⟨a, o, t, its, n, e1, ho, hc, hd⟩ := h1
    rw [e1]
    refine PySem.W.kat_lt ho hd ho hd ?_
    have hz : decide ((Value.int (k p.1) t :: its).toArray.size < (Value.int (k p.1) t :: its).toArray.size) = false := decide_eq_false (Nat.lt_irrefl _)
    rw [hz]
    exact kat_same ⟨rfl, (decide_eq_false (Int.lt_irrefl _)).symm⟩ _ 0
  · generalize k p.1 = x at h1 e ⊢
    generalize k q.1 = y at h2 e ⊢
    obtain ⟨a, o, t, its, n, e1, ho, hc, hd⟩ := h1
    obtain ⟨a', o', t', its', n', e2, ho', hc', hd'⟩ := h2
    rw [e1, e2]
    refine PySem.W.kat_lt ho hd ho' hd' ?_
    refine PySem.W.kat_cons (SeqAt.EqAt.int_int x t y t' prog w _ _ ?_)
    refine PySem.W.kat_go (fun e3 => absurd (by simpa using e3) e) fun _ => ?_
    exact PySem.W.kat_no (oneLt_int ⟨rfl, rfl⟩)
theorem row_firsts {h : Heap} : ∀ {vs : List Value}, (∀ v ∈ vs, ∃ x, IsRow h v x) → ∃ fs : List Value, PySem.W.KatTups h vs fs ∧ fs.length = vs.length ∧ ∀ f ∈ fs, ∃ x t, f = Value.int x t
  | [], _ => ⟨[], PySem.W.KatTups.nil, rfl, fun _ hm => by simp at hm⟩
  | v :: vs, hp => by
    obtain ⟨fs, h1, h2, h3⟩ := row_firsts (vs := vs) fun v' hm => hp v' (List.mem_cons_of_mem _ hm)
    obtain ⟨x, a, o, t, its, n, e, ho, hc, hd⟩ := hp v List.mem_cons_self
    subst e
    refine ⟨.int x t :: fs, PySem.W.KatTups.cons ho hc hd (by simp) h1, by simp [h2], fun f hm => ?_⟩
    rcases List.mem_cons.mp hm with e | hm
    · exact ⟨x, t, e⟩
    · exact h3 f hm
theorem rows_sortable {a : Addr} {vs : List Value} {k : Value → Int} (h0 : 0 < vs.length) (hp : ∀ v ∈ vs, IsRow s.heap v (k v)) (hi : ∀ v ∈ vs, ∀ u ∈ vs, k v = k u → v = u) (ha : ∀ o, s.heap.get? a = some o → o.cls ≠ .type "tuple") :
    SrtO.SortableO prog w A s a vs fun v u => decide (k v < k u) := by
  intro h' keep
  have hp' : ∀ v ∈ vs, IsRow h' v (k v) := fun v hm => (hp v hm).keeps fun b o e c => keep b o (fun z => by subst z; exact ha o e c) e
  obtain ⟨fs, h1, h2, h3⟩ := row_firsts fun v hm => ⟨_, hp' v hm⟩
  refine ⟨tuples' true, fun Q E hq => ?_, row_cmp hp' hi⟩
  refine PySem.W.kat_kind (T := .type "int") h1 (by omega) (fun f hm => ?_) (by rfl) ?_
  · obtain ⟨x, t, rfl⟩ := h3 f hm
    exact PySem.W.Looks.now
  · rw [show (Value.type "int" != Value.type "tuple") = true by decide]
    exact hq
end
theorem cr_sortedR {X : Cx} : CallR X (.builtin "sorted") (rSortedR X.K) := by
  intro pins s σ H vs us Q I r h
  obtain ⟨a, xs, k, rfl, hs, hx, hk, q⟩ := h
  obtain ⟨its, rv, hl, hz⟩ := I.list hs
  obtain ⟨u, rfl, ru⟩ := vals1 r
  obtain rfl : u = Value.ref a := ru
  obtain ⟨e1, e2⟩ := refs_back rv fun x m => by
    obtain ⟨t, rest, e, _⟩ := hx x m
    exact ⟨t, e⟩
  have back : ∀ v ∈ its, backV v ∈ xs := fun v hv => by rw [e1]; exact List.mem_map.mpr ⟨v, hv, rfl⟩
  have rows : ∀ v ∈ its, IsRow s.heap v (k (backV v)) := fun v hv => by
    obtain ⟨t, rfl⟩ := e2 v hv
    obtain ⟨t', rest, e, ht⟩ := hx _ (back _ hv)
    have e : V.ref t = V.ref t' := e
    cases e
    obtain ⟨_, its2, r2, o, ho, hc, n, hd⟩ := I.hok _ _ ht
    cases r2 with
    | cons r3 r4 =>
      obtain ⟨t1, rfl⟩ := r3
      exact ⟨t, o, t1, _, n, rfl, ho, hc, hd⟩
  have inj : ∀ v ∈ its, ∀ u ∈ its, k (backV v) = k (backV u) → v = u := fun v hv u hu e => by
    obtain ⟨t, rfl⟩ := e2 v hv
    obtain ⟨t', rfl⟩ := e2 u hu
    have := hk _ (back _ hv) _ (back _ hu) e
    cases this
    rfl
  refine SrtO.sorted_ord (swo_int fun v => k (backV v)) hl.isList (by rw [← rv.length]; exact hz) (fun h2 h₁ a ha kk => ?_) fun out hs hb => ?_
  · refine rows_sortable (s := { s with heap := h₁ }) (by omega) (fun v hm => (rows v hm).keeps fun b o e _ => (kk b o e).2) inj fun o e => ?_
    have e' : some o = some (seqObj "list" its.toArray 0) := e.symm.trans ha
    cases e'
    intro c
    exact absurd (Value.type.inj c) (by decide)
  · have h3 : ∀ u ∈ out, ∃ a, u = Value.ref a := fun u hu => e2 u (hb.perm.mem_iff.mp hu)
    obtain ⟨n, hn⟩ := sortedAll_at s.heap its out.toArray
    have hp : (out.map backV).Perm xs := by rw [e1]; exact hb.perm.map backV
    refine ⟨.ref (s.heap.objs.size + 1), upd H (s.heap.objs.size + 1) (.lst (out.map backV)), I.laid (t' := s.toks) (fun b o e => sortedAll_old e) (Nat.le_succ _) (show ObjOk X.prog X.w _ _ _ (.lst (out.map backV)) from ⟨by rw [hp.length_eq]; exact hz, out, n, vals_back h3, hn⟩), rfl,
      q _ _ hp ?_ (I.hok.fresh (Nat.le_succ _))⟩
    rw [List.pairwise_map]
    refine hs.imp fun {x y} h => ?_
    have := of_decide_eq_false h
    omega

/-! ### for i, c in enumerate(text) -/
def Iten (x : Str) : It := ⟨fun i _ => i < x.cps.size, fun i H v H' => ∃ T c, v = .ref T ∧ H T = none ∧ H' = upd H T (.tup [.int (i : Nat), .str ⟨#[c]⟩]) ∧ x.cps[i]? = some c, fun i _ => x.cps.size ≤ i⟩
theorem turn_enumS {P : Program} {w : World} {K : PySem.W.Frag} {elts : List Expr} {kk : Nat} {tpos : Pos} (x : Str) (t : Tok) (e it : Addr) :
    Turn P w K (.Tuple elts kk tpos) (Iten x) [e, it] e (fun i h => (∃ old, IsEnum h e it ((i : Nat) : Int) old) ∧ h.IsStrIter it (strIterType x) x t i ∧ e ≠ it ∧ i ≤ x.cps.size) where
  mem := by simp
  obj := fun i h st b hb => by
    obtain ⟨⟨old, he⟩, ⟨o, ho, hc, hd⟩, _⟩ := st
    have e' : b = e ∨ b = it := by simpa using hb
    rcases e' with z | z
    · rw [z]; exact ⟨_, he, fun v q => nomatch q⟩
    · rw [z]; exact ⟨o, ho, fun v q => by rw [hd] at q; cases q⟩
  keep := fun i h h' st k => by
    obtain ⟨⟨old, he⟩, hi, hne, hle⟩ := st
    obtain ⟨o, q1, q2, q3⟩ := hi
    exact ⟨⟨old, k e (by simp) _ he⟩, ⟨o, k it (by simp) o q1, q2, q3⟩, hne, hle⟩
  item := by
    intro X hP hw hK hc i pins s σ H E I hf st hg
    subst hP hw hK
    obtain ⟨⟨old, he⟩, hit, hne, hle⟩ := st
    have hel : e < s.heap.objs.size := Heap.lt_size he
    have hil : it < s.heap.objs.size := by obtain ⟨_, q, _⟩ := hit; exact Heap.lt_size q
    refine wpAny_pyNext_enum_itemC (Draws.text (A := X.A.in1) (I.ok.hd hc) it x t) he hit hg hne (by simpa using hne) fun y h' tk hP ho hit' hT hsz hk => ?_
    obtain ⟨c, u, hcx, rfl⟩ := hP
    refine ⟨_, rfl, wpAny_letOwnedTupleGo_enum (s := { s with heap := h', toks := tk + 1 }) ho fun h'' he' sb => ?_⟩
    have hT2 : h''.get? s.heap.objs.size = some { cls := .type "tuple", data := .seq #[.int i tk, .str ⟨#[c]⟩ u] } := (sb.2 _ (Nat.ne_of_gt hel)).trans hT
    have new : ObjOk X.prog X.w (upd H s.heap.objs.size (.tup [.int (i : Nat), .str ⟨#[c]⟩])) h'' s.heap.objs.size (.tup [.int (i : Nat), .str ⟨#[c]⟩]) :=
      ⟨by show 2 ≤ sizeLine; decide, [.int i tk, .str ⟨#[c]⟩ u], .cons ⟨_, rfl⟩ (.cons ⟨_, rfl⟩ .nil), ⟨_, hT2, rfl, _, rfl⟩⟩
    have I1 : Inv X pins σ (upd H s.heap.objs.size (.tup [.int (i : Nat), .str ⟨#[c]⟩])) { s with heap := h'', toks := tk + 1 } :=
      I.turnedNew (ch := [e, it]) (fun b ob hb q => (sb.2 b (fun z => hb (by simp [z]))).trans (hk b ob (fun z => hb (by simp [z])) (fun z => hb (by simp [z])) q)) hf (Nat.le_refl _) new
    refine ⟨.ref s.heap.objs.size, _, I1, rfl, ⟨_, c, rfl, I.hok.fresh (Nat.le_refl _), rfl, hcx⟩, ⟨⟨.str ⟨#[c]⟩ u, ?_⟩, (let ⟨o, q1, q2, q3⟩ := hit'; ⟨o, (sb.2 it (Ne.symm hne)).trans q1, q2, q3⟩), hne, hg⟩, fun b hb => ?_⟩
    · have e1 : ((i + 1 : Nat) : Int) = (i : Int) + 1 := by omega
      rw [e1]; exact he'
    · have hb' : b < s.heap.objs.size := by
        have e' : b = e ∨ b = it := by simpa using hb
        rcases e' with z | z
        · rw [z]; exact hel
        · rw [z]; exact hil
      rw [upd_ne (Nat.ne_of_lt hb')]
      exact (hf b hb).1
  done := by
    intro X hP hw hK hc i pins s σ H E I hf st hg
    subst hP hw hK
    obtain ⟨⟨old, he⟩, hit, hne, hle⟩ := st
    obtain ⟨f0, f1, f2, f3, f4, f5⟩ := hf it (by simp)
    obtain rfl : i = x.cps.size := Nat.le_antisymm hle hg
    exact wpAny_pyNext_enum_endD (Draws.text (A := X.A.in1) (I.ok.hd hc) it x t) he hit fun h' eb => ⟨rfl, I.turned (t' := s.toks) (fun b o hb q => eb b o hb q) f0 f1 f3 f4 f5⟩
  self := fun A i s Q E st h => by
    obtain ⟨⟨_, he⟩, _⟩ := st
    exact wpAny_pyIter_enum he h
def iEnumS (te : TE) : TI := fun σ H R => te σ H fun v H1 => ∃ x, v = .str x ∧ R (Iten x) H1
theorem pi_enumS {X : Cx} {e : Expr} {te : TE} {p pos tpos : Pos} {elts : List Expr} {kk : Nat} (hg : Gl X "enumerate") (hm : X.mg "enumerate" = none) (ha : PE X e te) (hs : starEach [e] X.env = (false, eval e X.env) :: starEach [] X.env := by rfl) :
    PI X (.Tuple elts kk tpos) (.Call (.Name "enumerate" p) [e] [] pos) (iEnumS te) := by
  refine ⟨fun pins s σ H R I h => ?_⟩
  refine Call_ (ld_blt I hg hm boot_enumerate (PyProof.Rows.callWith_type1 (one_arg ha I h (fun u s1 y H1 I1 r1 q1 => ?_) hs) hs))
  obtain ⟨x, rfl, q⟩ := q1
  obtain ⟨t, rfl⟩ := r1
  refine call_enumerate_str fun h' he hit hsz hk => wpAny_pyIter_enum he ?_
  have I2 : Inv X pins σ H1 { s1 with heap := h' } := I1.kept (t' := s1.toks) hk
  refine ⟨s1.heap.objs.size + 1, [s1.heap.objs.size + 1, s1.heap.objs.size], _, _, H1, rfl, I2, turn_enumS x t (s1.heap.objs.size + 1) s1.heap.objs.size, ⟨⟨.none, he⟩, hit, Nat.succ_ne_self _, Nat.zero_le _⟩, fun b hb => ?_, q⟩
  have e' : b = s1.heap.objs.size + 1 ∨ b = s1.heap.objs.size := by simpa using hb
  have hle : s1.heap.objs.size ≤ b := by
    rcases e' with z | z
    · rw [z]; exact Nat.le_add_right _ _
    · rw [z]; exact Nat.le_refl _
  exact I1.fpOk hle (I1.hok.fresh hle)
theorem walk_enumS {x : Str} : Walk (Iten x) x.cps.size (fun _ => True) (fun i H v H' => ∃ T c, v = .ref T ∧ H T = none ∧ H' = upd H T (.tup [.int (i : Nat), .str ⟨#[c]⟩]) ∧ x.cps[i]? = some c) :=
  ⟨fun _ _ hi _ => hi, fun _ _ => Nat.le_refl _, fun _ _ _ _ _ _ y => y⟩
end My

set_option Elab.async false
set_option maxRecDepth 100000
set_option maxHeartbeats 4000000
namespace My
open PySem PySem.Spec PyProof.Rows L2
def top (i : Nat) : Stmt := PySem.Challenge.pw_lastside_k17_whole_least_by_search.main.body.getD i (.Pass ⟨0, 0, 0, 0⟩)

/-! ### heaps -/
section
variable {H H0 H1 : Hp} {l p a : Addr} {o u : HO} {xs : List V} {K : PySem.W.Frag}
theorem upd_old (h : H l = some o) (n : H p = none) : upd H p u l = some o := by rw [upd_ne (ne_of_none h n)]; exact h
theorem upd_far (h : H l = some o) (n : l ≠ p) : upd H p u l = some o := by rw [upd_ne n]; exact h
theorem same_new (n : H p = none) : Same H (upd H p u) := fun _ _ h => upd_old h n
theorem same_put (s : Same H0 H) (n : H0 p = none) : Same H0 (upd H p u) := fun b q h => by rw [upd_ne (ne_of_none h n)]; exact s b q h
theorem same_add (s : Same H0 H) (n : H p = none) : Same H0 (upd H p u) := same_put s (s.free n)
theorem same_tup (e : Same H H1) (h : SqT K H a xs) : SqT K H1 a xs := by
  rcases h with (h | ⟨o, h⟩) | h
  · exact .inl (.inl (e _ _ h))
  · exact .inl (.inr ⟨o, e _ _ h⟩)
  · exact .inr h
end

/-! ### the builtins that the text uses -/
structure Tx (K : PySem.W.Frag) (mg : Str → Option Value) : Prop where
  b_len : mg "len" = none
  b_range : mg "range" = none
  b_int : mg "int" = none
  b_bool : mg "bool" = none
  b_str : mg "str" = none
  b_list : mg "list" = none
  b_tuple : mg "tuple" = none
  b_sum : mg "sum" = none
  b_min : mg "min" = none
  b_max : mg "max" = none
  b_all : mg "all" = none
  b_sorted : mg "sorted" = none
  b_isinstance : mg "isinstance" = none
  b_enumerate : mg "enumerate" = none

/-! ### isinstance -/
theorem isi_ok {K : PySem.W.Frag} {H : Hp} {x : V} {T n : String} {b : Bool} {Q : VK} (t : TyX K H x (.type T)) (h : kitB T n = some b) (q : Q (.bl b) H) : rIsi K [x, .ty n] H Q :=
  ⟨x, .ty n, .type T, .type n, b, rfl, .ty n, t, kit_ty h, q⟩

/-! ### texts -/
open M (Ch Need)
def cn : Ch → Nat
  | .L => 76
  | .R => 82
  | .Q => 63
theorem cn_inj {a b : Ch} (h : cn a = cn b) : a = b := by cases a <;> cases b <;> first | rfl | cases h
def sg (c : Nat) : Str := ⟨#[c]⟩
def chS (c : Ch) : Str := sg (cn c)
def patS (l : List Ch) : Str := ⟨(l.map cn).toArray⟩
theorem patS_len (l : List Ch) : (patS l).cps.size = l.length := by simp [patS]
theorem patS_get (l : List Ch) (i : Nat) : (patS l).cps.toList[i]? = (l[i]?).map cn := by simp [patS]
theorem sg_inj {a b : Nat} (h : sg a = sg b) : a = b := by
  have h := congrArg (fun s : Str => s.cps.toList) h
  simpa [sg] using h
theorem chS_inj {a b : Ch} (h : chS a = chS b) : a = b := cn_inj (sg_inj h)
theorem chS_ne {a b : Ch} (h : a ≠ b) : chS a ≠ chS b := fun e => h (chS_inj e)
theorem sz_le {n : Nat} (h : n ≤ 100000) : n ≤ sizeLine := by unfold sizeLine; omega
theorem szl {n : Nat} (h : Nat.ble n 100000 = true := by rfl) : n ≤ sizeLine := sz_le (Nat.le_of_ble_eq_true h)
theorem sz_lt {n : Nat} (h : n < 100000) : n < sizeLine := by unfold sizeLine; omega

/-! ### two lists in step -/
structure Al {α β : Type} (R : α → β → Prop) (xs : List α) (ys : List β) : Prop where
  len : xs.length = ys.length
  at_ : ∀ (i : Nat) (h : i < xs.length) (h' : i < ys.length), R xs[i] ys[i]
section
variable {α β : Type} {R S : α → β → Prop} {xs : List α} {ys : List β}
theorem Al.nil : Al R [] [] := ⟨rfl, fun i h => absurd h (by simp)⟩
theorem Al.push (a : Al R xs ys) {x : α} {y : β} (h : R x y) : Al R (xs ++ [x]) (ys ++ [y]) := by
  refine ⟨by simp [a.len], fun i h1 h2 => ?_⟩
  by_cases hi : i < xs.length
  · rw [List.getElem_append_left hi, List.getElem_append_left (by rw [← a.len]; exact hi)]; exact a.at_ i hi _
  · have e : i = xs.length := by simp at h1; omega
    subst e
    have e2 : (ys ++ [y])[xs.length] = y := by simp [a.len]
    rw [e2]; simpa using h
theorem Al.imp (a : Al R xs ys) (h : ∀ x y, R x y → S x y) : Al S xs ys := ⟨a.len, fun i h1 h2 => h _ _ (a.at_ i h1 h2)⟩
theorem Al.get (a : Al R xs ys) {i : Nat} {x : α} (h : xs[i]? = some x) : ∃ y, ys[i]? = some y ∧ R x y := by
  obtain ⟨h1, rfl⟩ := List.getElem?_eq_some_iff.mp h
  exact ⟨ys[i]'(by rw [← a.len]; exact h1), by simp [← a.len, h1], a.at_ i h1 _⟩
theorem Al.get' (a : Al R xs ys) {i : Nat} {y : β} (h : ys[i]? = some y) : ∃ x, xs[i]? = some x ∧ R x y := by
  obtain ⟨h1, rfl⟩ := List.getElem?_eq_some_iff.mp h
  exact ⟨xs[i]'(by rw [a.len]; exact h1), by simp [a.len, h1], a.at_ i _ h1⟩
end

/-! ### a new object that grows, the old ones as they were -/
structure Gw (H0 : Hp) (D : Addr) (o : HO) (H : Hp) : Prop where
  same : Same H0 H
  new : H0 D = none
  at_ : H D = some o
section
variable {H0 H H' : Hp} {D p l : Addr} {o o' u : HO}
theorem Gw.start (n : H0 D = none) : Gw H0 D o (upd H0 D o) := ⟨same_new n, n, upd_same⟩
theorem Gw.put (g : Gw H0 D o H) : Gw H0 D o' (upd H D o') := ⟨same_put g.same g.new, g.new, upd_same⟩
theorem Gw.more (g : Gw H0 D o H) (s : Same H H') : Gw H0 D o H' := ⟨g.same.trans s, g.new, s _ _ g.at_⟩
theorem Gw.add (g : Gw H0 D o H) (n : H p = none) : Gw H0 D o (upd H p u) := g.more (same_new n)
theorem Gw.ne (g : Gw H0 D o H) (h : H0 l = some u) : l ≠ D := ne_of_none h g.new
end
theorem Gw.push {acc acc' : List V} {y : V} (g : Gw H0 D (.lst acc) H) (l : acc.length < 100000) (e : acc' = acc ++ [y]) : ∃ ac, H D = some (.lst ac) ∧ ac.length < sizeLine ∧ Gw H0 D (.lst acc') (upd H D (.lst (ac ++ [y]))) :=
  ⟨acc, g.at_, sz_lt l, by rw [e]; exact g.put⟩
/-- a comprehension that makes plain values: acc i is made after i turns -/
theorem lc_acc {J : It} {n : Nat} {G : Hp → Prop} {Y : Nat → Hp → V → Hp → Prop} (w : Walk J n G Y) {g : TG} {tt : TT} {te : TE} {vs : List Nat} {σ : L2.St} {H1 : Hp} {D : Addr} {Qd : Hp → Prop} (acc : Nat → List V) (new : H1 D = none) (z : acc 0 = []) (hG : ∀ H, Same H1 H → G H)
    (hs : ∀ i x H H', i < n → Gw H1 D (.lst (acc i)) H → Y i H x H' → g x (wipe σ vs) H' fun σ2 H2 => wipe σ2 vs = wipe σ vs ∧ tt σ2 H2 fun b H3 =>
      if b = true then te σ2 H3 fun y H4 => ∃ ac, H4 D = some (.lst ac) ∧ ac.length < sizeLine ∧ Gw H1 D (.lst (acc (i + 1))) (upd H4 D (.lst (ac ++ [y]))) else Gw H1 D (.lst (acc (i + 1))) H3) (hd : ∀ H, Gw H1 D (.lst (acc n)) H → Qd H) :
    ∃ W : Nat → Nat → Hp → Prop, (∃ m, W 0 m (upd H1 D (.lst []))) ∧ ∀ i m H, W i m H →
      (J.stop i H ∧ Qd H) ∨ (J.go i H ∧ ∃ Nx : Hp → Prop, (∀ H', Nx H' → ∃ m', m' < m ∧ W (i + 1) m' H') ∧ ∀ x H', J.yld i H x H' → g x (wipe σ vs) H' fun σ2 H2 => wipe σ2 vs = wipe σ vs ∧ tt σ2 H2 fun b H3 =>
        if b = true then te σ2 H3 fun y H4 => ∃ acc, H4 D = some (.lst acc) ∧ acc.length < sizeLine ∧ Nx (upd H4 D (.lst (acc ++ [y]))) else Nx H3) :=
  lc_it w (fun i H => Gw H1 D (.lst (acc i)) H) (by rw [z]; exact Gw.start new) (fun i H _ p => hG H p.same) hs hd
theorem take_snoc {α : Type} {xs : List α} {i : Nat} {x : α} (h : xs[i]? = some x) : xs.take (i + 1) = xs.take i ++ [x] := by
  rw [List.take_add_one, h]; rfl
theorem all_take {α : Type} (xs : List α) : xs.take xs.length = xs := List.take_length
/-- a list of numbers -/
def nV (ns : List Nat) : List V := ns.map fun n : Nat => V.int n
theorem nV_len (ns : List Nat) : (nV ns).length = ns.length := by simp [nV]
theorem nV_get (ns : List Nat) (i : Nat) : (nV ns)[i]? = (ns[i]?).map fun n : Nat => V.int n := by simp [nV]
theorem nV_int (ns : List Nat) : nV ns = (ns.map fun n : Nat => (n : Int)).map V.int := by simp [nV]
theorem nV_flat (ns : List Nat) : (nV ns).all flatV = true := by
  rw [List.all_eq_true]
  intro v h
  obtain ⟨n, _, rfl⟩ := List.mem_map.mp h
  rfl
theorem inV_nV (n : Nat) (ns : List Nat) : inV (.int (n : Int)) (nV ns) = decide (n ∈ ns) := by
  unfold inV nV
  rw [List.any_map, Bool.eq_iff_iff, List.any_eq_true, decide_eq_true_iff]
  constructor
  · rintro ⟨m, hm, e⟩
    have e : (m : Int) = n := by simpa [eqV] using e
    have : m = n := by omega
    rw [← this]; exact hm
  · intro h
    exact ⟨n, h, by simp [eqV]⟩
theorem nodup_idx {α : Type} {xs : List α} {i j : Nat} {a : α} (n : xs.Nodup) (hi : xs[i]? = some a) (hj : xs[j]? = some a) : i = j := by
  obtain ⟨h1, e1⟩ := List.getElem?_eq_some_iff.mp hi
  obtain ⟨h2, e2⟩ := List.getElem?_eq_some_iff.mp hj
  have p := List.pairwise_iff_getElem.mp n
  rcases Nat.lt_trichotomy i j with h | h | h
  · exact absurd (e1.trans e2.symm) (p i j h1 h2 h)
  · exact h
  · exact absurd (e2.trans e1.symm) (p j i h2 h1 h)
/-- None, or a number -/
def oV : Option Nat → V
  | none => .non
  | some n => .int (n : Nat)
theorem max2 (i j : Nat) : (if (j : Int) > (i : Int) then (j : Int) else (i : Int)) = ((max i j : Nat) : Int) := by
  split <;> omega
theorem nV_app (a b : List Nat) : nV a ++ nV b = nV (a ++ b) := by simp [nV]
theorem nV_snoc (a : List Nat) (n : Nat) : nV a ++ [.int (n : Int)] = nV (a ++ [n]) := by simp [nV]
/-- (renewals, by load, by hit, may be empty) -/
def needV (o : Need) : List V := [.int (o.p : Nat), oV o.ld, oV o.ht, .bl o.em]
theorem in_tup {x y z : Str} {b : Bool} (h : (decide (y = x) || decide (z = x)) = b) : inV (.str x) [.str y, .str z] = b := by
  rw [← h]
  simp only [inV, List.any_cons, List.any_nil, Bool.or_false, eqV]
  congr 1 <;> (rw [Bool.eq_iff_iff]; simp)
theorem chS_dec (a b : Ch) : decide (chS a = chS b) = (a == b) := by cases a <;> cases b <;> decide +kernel
theorem chV_dec (a b : Ch) : decide (V.str (chS a) = V.str (chS b)) = (a == b) := by cases a <;> cases b <;> decide +kernel
/-! ### readings -/
section
variable {s t u : TS} {D : Ends} {σ : L2.St} {H : Hp} {c d : TT} {a b : Bool}
theorem gName_at {i : Nat} {v : V} {Q : L2.St → Hp → Prop} (h : Q (σ.set i (some v)) H) : gName i v σ H Q := h
/-- the rest is said once -/
theorem cut_if (W : L2.St → Hp → Prop) (h : (∀ σ' H', W σ' H' → t D σ' H') → tIfS c s u { D with nx := t D } σ H) (k : ∀ σ' H', W σ' H' → t D σ' H') : tSeq (tIfS c s u) t D σ H := h k
/-- a test that changes nothing -/
def TP (c : TT) (σ : L2.St) (H : Hp) (b : Bool) : Prop := ∀ Q : Bool → Hp → Prop, Q b H → c σ H Q
/-- a value that changes nothing -/
def VP (e : TE) (σ : L2.St) (H : Hp) (v : V) : Prop := ∀ Q : VK, Q v H → e σ H Q
theorem asg_pure {e : TE} {g : TG} {v : V} (hv : VP e σ H v) (h : g v σ H (t D)) : tSeq (tAsg e g) t D σ H := hv _ h
theorem andV_pure {e e' : TE} (h1 : VP e σ H (.bl a)) (h2 : VP e' σ H (.bl b)) : VP (tAndV e e') σ H (.bl (a && b)) := fun Q q => h1 _ (by
  refine ⟨a, rfl, ?_⟩
  cases a with
  | true => exact iteT (h2 Q (by simpa using q))
  | false => exact iteF (by simpa using q))
theorem orV_pure {e e' : TE} (h1 : VP e σ H (.bl a)) (h2 : VP e' σ H (.bl b)) : VP (tOrV e e') σ H (.bl (a || b)) := fun Q q => h1 _ (by
  refine ⟨a, rfl, ?_⟩
  cases a with
  | true => exact iteT (by simpa using q)
  | false => exact iteF (h2 Q (by simpa using q)))
theorem ifS_pure (hc : TP c σ H b) (h : if b = true then t D σ H else u D σ H) : tIfS c t u D σ H := hc _ h
theorem and_pure (h1 : TP c σ H a) (h2 : TP d σ H b) : TP (tAnd c d) σ H (a && b) := fun Q q => h1 _ (by
  cases a with
  | true => exact iteT (h2 Q (by simpa using q))
  | false => exact iteF (by simpa using q))
theorem or_pure (h1 : TP c σ H a) (h2 : TP d σ H b) : TP (tOr c d) σ H (a || b) := fun Q q => h1 _ (by
  cases a with
  | true => exact iteT (by simpa using q)
  | false => exact iteF (h2 Q (by simpa using q)))
theorem not_pure (h1 : TP c σ H a) : TP (tNot c) σ H (!a) := fun Q q => h1 _ q
end
end My

set_option Elab.async false
set_option maxRecDepth 100000
set_option maxHeartbeats 4000000
/-! The class, and the constants. -/
namespace My
open PySem PySem.Spec PyProof.Rows L2
open M (Ch Need T)
structure Gk (K : PySem.W.Frag) (mg : Str → Option Value) (ra oa : Addr) : Prop where
  g_RENEWED_NEED : mg "RENEWED_NEED" = some (.ref ra)
  g_OTHER_NEED : mg "OTHER_NEED" = some (.ref oa)
  sr : ∀ H, SqT K H ra (needV (M.leafNeed true))
  so : ∀ H, SqT K H oa (needV (M.leafNeed false))
structure Tz (K : PySem.W.Frag) (mg : Str → Option Value) (C : Addr) : Prop where
  mgC : mg "Tree" = some (.ref C)
  cl : Cls K C
  n_text : NoAttr K C "text"
  n_lefts : NoAttr K C "lefts"
  n_rights : NoAttr K C "rights"
  n_spans : NoAttr K C "spans"
  n_bounds : NoAttr K C "bounds"
  n_postorder : NoAttr K C "postorder"
  n_root : NoAttr K C "root"
  n_preorder : NoAttr K C "preorder"
  n_ways : NoAttr K C "ways"
  most : ∃ u, Con K C "MOST" (.int 64) u
/-- where a method stands -/
def MFun (K : PySem.W.Frag) (C : Addr) (x q : Str) (st : Stmt) : Prop := ∃ g fd, Fun K x q st g fd ∧ Meth K C x g
def PFun (K : PySem.W.Frag) (C : Addr) (x q : Str) (st : Stmt) : Prop := ∃ p g fd, Fun K x q st g fd ∧ PropOf K C x p g
def IFun (K : PySem.W.Frag) (C : Addr) (q : Str) (st : Stmt) : Prop := ∃ g fd, Fun K "__init__" q st g fd ∧ Mk K C g
section
variable (P : Program) (w : World) (K : PySem.W.Frag) (mg : Str → Option Value) (base : Heap) (C : Addr)
structure MDef (x : Str) (ps : List Str) (k : Nat) (sp : Sp) : Prop where
  ex : ∃ g fd, Meth K C x g ∧ Binds K fd ps [] ∧ FnOk P w K mg base CX0 k g fd ps sp
structure PDef (x : Str) (ps : List Str) (k : Nat) (sp : Sp) : Prop where
  ex : ∃ p g fd, PropOf K C x p g ∧ Binds K fd ps [] ∧ FnOk P w K mg base CX0 k g fd ps sp
structure IDef (ps : List Str) (k : Nat) (sp : Sp) : Prop where
  ex : ∃ g fd, Mk K C g ∧ Binds K fd ps [] ∧ FnOk P w K mg base CX0 k g fd ps sp
end
section
variable {P : Program} {w : World} {K : PySem.W.Frag} {mg : Str → Option Value} {base : Heap} {C : Addr}
theorem mk_run {x q : Str} {st : Stmt} {N ps : List Str} {k : Nat} {sp : Sp} {g : Addr} {fd : FuncData} (F : Fun K x q st g fd) (S : FnScope N ps (defScope st))
    (hb : ∀ (kV doc pm : Value) (an : Option Addr) (cdv ct : Value) (us : List Value), us.length = ps.length → bindArgs (PySem.W.fnOf x q (defArgs st) (defBody st) (defScope st) .none kV doc pm an cdv ct) ⟨us, []⟩ = pure (ps.zip us))
    (len : ∀ vs H Q E, sp vs H Q E → vs.length = ps.length)
    (body : ∀ (f : Addr) (cdv : Value) (A : Around) (outer : List Env) (s : Shared) (H : Hp) (vs : List V) (Q : VK) (E : XK), Room k (A.deeper (envOfC q (defScope st) s.heap.objs.size f cdv)) → sp vs H Q E →
      ∃ t, PSs (cxOf CX0 P w K mg base N q (defScope st) f cdv A outer s H E).nox (defBody st) t ∧ t { nx := fun _ H' => Q .non H', rt := Q } (start N vs) H) : Binds K fd ps [] ∧ FnOk P w K mg base CX0 (k + 1) g fd ps sp :=
  ⟨F.binds hb, F.ok S len (body g)⟩
end
section
variable {X : Cx} {C : Addr}
theorem call_lenD {k n : Nat} {sp : Sp} {ps : List Str} (m : MDef X.prog X.w X.K X.mg X.base C "__len__" ps k sp) (hr : Room n X.A) (hk : k + 1 ≤ n := by decide) : CallR X (.builtin "len") (rLenO C sp) := by
  obtain ⟨g, fd, h1, h2, h3⟩ := m.ex
  exact call_lenO h1 h3 (hr.mono hk) h2
theorem pe_propD {x : Str} {k n : Nat} {sp : Sp} {ps : List Str} {e : Expr} {te : TE} {pos : Pos} (he : PE X e te) (c : Cls X.K C) (m : PDef X.prog X.w X.K X.mg X.base C x ps k sp) (hr : Room n X.A)
    (hab : attributeBase e x X.env (eval e X.env) = eval e X.env) (hk : k + 1 ≤ n := by decide) : PE X (.Attribute e x pos) (tProp C sp [] E0 te) := by
  obtain ⟨p, g, fd, h1, h2, h3⟩ := m.ex
  exact pe_prop he c h1 h3 (hr.mono hk) h2 .nil pass0 hab
theorem pe_makeT {x : Str} {k n : Nat} {sp : Sp} {ps : List Str} {e : Expr} {es : List Expr} {t : TA} {p pos : Pos} (hm : X.mg x = some (.ref C)) (m : IDef X.prog X.w X.K X.mg X.base C ps k sp) (hr : Room n X.A) (hg : Gl X x) (ha : PA X (e :: es) t)
    (hk : k + 1 ≤ n := by decide) (hdb : (x == ("__debug__" : Str)) = false := by decide) (he : starEach (e :: es) X.env = (false, eval e X.env) :: starEach es X.env := by rfl) (hpl : (backTo pos (starEach es X.env)).any (·.1) = false := by rfl) :
    PE X (.Call (.Name x p) (e :: es) [] pos) (tMake C sp [] E0 t) := by
  obtain ⟨g, fd, h1, h2, h3⟩ := m.ex
  exact pe_make h1 h3 (hr.mono hk) hg hm h2 .nil pass0 ha hdb he hpl
end
/-! ### what a tree is -/
def wordS (b : Bool) : Str := if b then "fork" else "slot"
def NodeAt (H : Hp) (v : V) (n : Bool × Nat) : Prop := ∃ p, v = .ref p ∧ H p = some (.tup [.str (wordS n.1), .int (n.2 : Nat)])
structure TreeAt (C : Addr) (H : Hp) (a : Addr) (t : T) : Prop where
  ex : ∃ (dx : Addr) (fs : List (Str × V)) (lp rp sp pp wp : Addr) (ls rs ss ws : List V), H a = some (.ins C dx fs) ∧ fs.lookup ("walk" : Str) = none ∧ fs.lookup ("lefts" : Str) = some (.ref lp) ∧ fs.lookup ("rights" : Str) = some (.ref rp) ∧
    fs.lookup ("spans" : Str) = some (.ref sp) ∧ fs.lookup ("postorder" : Str) = some (.ref pp) ∧ fs.lookup ("ways" : Str) = some (.ref wp) ∧
    H lp = some (.tup ls) ∧ Al (NodeAt H) ls ((M.kids t 0).map (·.1)) ∧ H rp = some (.tup rs) ∧ Al (NodeAt H) rs ((M.kids t 0).map (·.2)) ∧ H sp = some (.tup ss) ∧ ss.length + 1 = t.sz ∧
    H pp = some (.tup (nV (M.post t))) ∧ H wp = some (.tup ws) ∧ ws.length = t.sz
theorem NodeAt.more {H H' : Hp} (s : Same H H') {v : V} {n : Bool × Nat} (h : NodeAt H v n) : NodeAt H' v n := by
  obtain ⟨p, e, h⟩ := h
  exact ⟨p, e, s _ _ h⟩
theorem TreeAt.more {C : Addr} {H H' : Hp} {a : Addr} {t : T} (s : Same H H') (h : TreeAt C H a t) : TreeAt C H' a t := by
  obtain ⟨dx, fs, lp, rp, sp, pp, wp, ls, rs, ss, ws, h1, h2, h3, h4, h5, h6, h7, h8, h9, h10, h11, h12, h13, h14, h15, h16⟩ := h.ex
  exact ⟨dx, fs, lp, rp, sp, pp, wp, ls, rs, ss, ws, s _ _ h1, h2, h3, h4, h5, h6, h7, s _ _ h8, h9.imp fun _ _ => NodeAt.more s, s _ _ h10, h11.imp fun _ _ => NodeAt.more s, s _ _ h12, h13, s _ _ h14, s _ _ h15, h16⟩
/-! ### tuples that stay, two lists that grow -/
def KT (H H' : Hp) : Prop := ∀ a xs, H a = some (.tup xs) → H' a = some (.tup xs)
section
variable {H H' H'' H0 : Hp} {p s l : Addr} {u : HO} {ys vs us vs' us' : List V}
theorem KT.refl (H : Hp) : KT H H := fun _ _ h => h
theorem KT.trans (a : KT H H') (b : KT H' H'') : KT H H'' := fun z xs h => b z xs (a z xs h)
theorem kt_same (s : Same H H') : KT H H' := fun a _ h => s a _ h
theorem kt_new (n : H p = none) : KT H (upd H p u) := kt_same (same_new n)
theorem kt_lst (n : H p = some (.lst ys)) : KT H (upd H p u) := fun a xs h => upd_far h (fun z => by rw [z, n] at h; cases h)
theorem kt_dk {kvs : List (Key × V)} (n : H p = some (.dK kvs)) : KT H (upd H p u) := fun a xs h => upd_far h (fun z => by rw [z, n] at h; cases h)
theorem NodeAt.kt (k : KT H H') {v : V} {n : Bool × Nat} (h : NodeAt H v n) : NodeAt H' v n := by
  obtain ⟨p, e, h⟩ := h
  exact ⟨p, e, k _ _ h⟩
structure Tw (H0 : Hp) (s l : Addr) (vs us : List V) (H : Hp) : Prop where
  same : Same H0 H
  ns : H0 s = none
  nl : H0 l = none
  ne : s ≠ l
  hs : H s = some (.lst vs)
  hl : H l = some (.lst us)
theorem Tw.start (ns : H0 s = none) (nl : upd H0 s (.lst []) l = none) : Tw H0 s l [] [] (upd (upd H0 s (.lst [])) l (.lst [])) :=
  ⟨(same_new ns).trans (same_new nl), ns, (same_new ns).free nl, fun z => (by rw [← z, upd_same] at nl; cases nl), upd_old upd_same nl, upd_same⟩
theorem Tw.more (t : Tw H0 s l vs us H) (k : Same H H') : Tw H0 s l vs us H' := ⟨t.same.trans k, t.ns, t.nl, t.ne, k _ _ t.hs, k _ _ t.hl⟩
theorem Tw.add (t : Tw H0 s l vs us H) (n : H p = none) : Tw H0 s l vs us (upd H p u) := t.more (same_new n)
theorem Tw.putS (t : Tw H0 s l vs us H) : Tw H0 s l vs' us (upd H s (.lst vs')) := ⟨same_put t.same t.ns, t.ns, t.nl, t.ne, upd_same, upd_far t.hl (Ne.symm t.ne)⟩
theorem Tw.putL (t : Tw H0 s l vs us H) : Tw H0 s l vs us' (upd H l (.lst us')) := ⟨same_put t.same t.nl, t.ns, t.nl, t.ne, upd_far t.hs t.ne, upd_same⟩
theorem Tw.kS (t : Tw H0 s l vs us H) : KT H (upd H s u) := kt_lst t.hs
theorem Tw.kL (t : Tw H0 s l vs us H) : KT H (upd H l u) := kt_lst t.hl
end
theorem Al.pop {α β : Type} {R : α → β → Prop} {xs : List α} {ys : List β} {y : β} (a : Al R xs (ys ++ [y])) : ∃ pre x, xs = pre ++ [x] ∧ Al R pre ys ∧ R x y := by
  have hl : xs.length = ys.length + 1 := by have := a.len; simpa using this
  have hn : xs ≠ [] := fun z => by rw [z] at hl; simp at hl
  refine ⟨xs.dropLast, xs.getLast hn, (List.dropLast_concat_getLast hn).symm, ⟨by rw [List.length_dropLast]; omega, fun i h1 h2 => ?_⟩, ?_⟩
  · have := a.at_ i (by rw [List.length_dropLast] at h1; omega) (by simp; omega)
    rw [List.getElem_append_left h2] at this
    rw [List.getElem_dropLast]
    exact this
  · have := a.at_ ys.length (by omega) (by simp)
    rw [List.getLast_eq_getElem]
    have e : xs.length - 1 = ys.length := by omega
    simp only [e]
    simpa using this
end My

set_option Elab.async false
set_option maxRecDepth 100000
set_option maxHeartbeats 4000000
namespace My
open PySem PySem.Spec PyProof.Rows L2
open M (Ch Need T)
abbrev s_is_integer : Stmt := top 9
abbrev N_is_integer : List Str := ["value"]
theorem sc_is_integer : FnScope N_is_integer ["value"] (defScope s_is_integer) := ⟨rfl, rfl, rfl, by decide +kernel, rfl, by decide +kernel, by decide +kernel⟩
abbrev s_is_place : Stmt := top 10
abbrev N_is_place : List Str := ["many", "value"]
theorem sc_is_place : FnScope N_is_place ["many", "value"] (defScope s_is_place) := ⟨rfl, rfl, rfl, by decide +kernel, rfl, by decide +kernel, by decide +kernel⟩
abbrev s_is_made_of : Stmt := top 11
abbrev N_is_made_of : List Str := ["value", "signs", "sign"]
theorem sc_is_made_of : FnScope N_is_made_of ["value", "signs"] (defScope s_is_made_of) := ⟨rfl, rfl, rfl, by decide +kernel, rfl, by decide +kernel, by decide +kernel⟩
abbrev s_different_slots : Stmt := top 14
abbrev N_different_slots : List Str := ["many", "slots", "found", "slot"]
theorem sc_different_slots : FnScope N_different_slots ["many", "slots"] (defScope s_different_slots) := ⟨rfl, rfl, rfl, by decide +kernel, rfl, by decide +kernel, by decide +kernel⟩
abbrev s_agrees : Stmt := top 17
abbrev N_agrees : List Str := ["character", "other"]
theorem sc_agrees : FnScope N_agrees ["character", "other"] (defScope s_agrees) := ⟨rfl, rfl, rfl, by decide +kernel, rfl, by decide +kernel, by decide +kernel⟩
abbrev s_smallest : Stmt := top 28
abbrev N_smallest : List Str := ["costs"]
theorem sc_smallest : FnScope N_smallest ["costs"] (defScope s_smallest) := ⟨rfl, rfl, rfl, by decide +kernel, rfl, by decide +kernel, by decide +kernel⟩
section
variable {P : Program} {w : World} {K : PySem.W.Frag} {mg : Str → Option Value} {base : Heap}
def sp_is_integer : Sp := fun vs H Q _ => ∃ i : Int, vs = [.int i] ∧ Q (.bl true) H
theorem d_is_integer (T : Tx K mg) (F : FunAt K mg "is_integer" s_is_integer) : Def P w K mg base "is_integer" ["value"] 1 sp_is_integer := by
  refine mk_def F sc_is_integer (fun _ _ _ _ _ _ us hl => match us, hl with | [_], _ => rfl) (fun vs H Q E h => ?_) (fun f cdv A outer s H vs Q E hr h => ?_)
  · obtain ⟨i, rfl, _⟩ := h; rfl
  · obtain ⟨i, rfl, k⟩ := h
    refine ⟨_, (pss_one (ps_ret (pe_and (pe_callB call_isi (by rfl) T.b_isinstance (by decide +kernel) (pa_cons (pv 0) (pa_cons (pe_bltn (v := .ty "int") (by rfl) T.b_int (by decide +kernel) rfl) pa_nil))) (pe_one (pe_not (pe_callB call_isi (by rfl) T.b_isinstance (by decide +kernel) (pa_cons (pv 0) (pa_cons (pe_bltn (v := .ty "bool") (by rfl) T.b_bool (by decide +kernel) rfl) pa_nil)))))))), ?_⟩
    refine ⟨_, rfl, _, _, _, _, true, rfl, .ty _, .base (.int i), kit_ty (by decide +kernel), _, rfl, iteT ?_⟩
    exact ⟨_, rfl, _, _, _, _, false, rfl, .ty _, .base (.int i), kit_ty (by decide +kernel), _, rfl, k⟩

/-- 0 <= i < n -/
def sp_is_place : Sp := fun vs H Q _ => ∃ n i : Int, vs = [.int n, .int i] ∧ Q (.bl (decide (0 ≤ i ∧ i < n))) H
theorem d_is_place (T : Tx K mg) (F : FunAt K mg "is_place" s_is_place) (d_is_integer : Def P w K mg base "is_integer" ["value"] 1 sp_is_integer) : Def P w K mg base "is_place" ["many", "value"] 2 sp_is_place := by
  refine mk_def F sc_is_place (fun _ _ _ _ _ _ us hl => match us, hl with | [_, _], _ => rfl) (fun vs H Q E h => ?_) (fun f cdv A outer s H vs Q E hr h => ?_)
  · obtain ⟨n, i, rfl, _⟩ := h; rfl
  · obtain ⟨n, i, rfl, k⟩ := h
    refine ⟨_, (pss_one (ps_ret (pe_and (pe_def d_is_integer hr (by rfl) (pa_cons (pv 1) pa_nil)) (pe_one (pe_chain op_le op_lt pe_int (pv 1) (pv 0)))))), ?_⟩
    refine ⟨_, rfl, i, rfl, ?_⟩
    refine ⟨_, rfl, iteT ⟨_, rfl, _, _, rfl, rfl, _, rfl, ?_⟩⟩
    refine ite2 (fun h => ?_) (fun h => ?_)
    · refine ⟨_, rfl, _, _, rfl, rfl, ?_⟩
      show Q (.bl (decide (i < n))) H
      have h := of_decide_eq_true h
      have e : decide (i < n) = decide (0 ≤ i ∧ i < n) := by simp [h]
      rw [e]; exact k
    · have e : decide (0 ≤ i ∧ i < n) = false := by
        have h : ¬ (0 ≤ i) := fun z => h (decide_eq_true z)
        exact decide_eq_false fun z => h z.1
      rw [e] at k; exact k

/-- a text of L, R, ? -/
def sp_is_made_of : Sp := fun vs H Q _ => ∃ l : List Ch, vs = [.str (patS l), .str "LR?"] ∧ l.length ≤ 1000 ∧ ∀ H', Same H H' → Q (.bl true) H'
theorem d_is_made_of (T : Tx K mg) (F : FunAt K mg "is_made_of" s_is_made_of) : Def P w K mg base "is_made_of" ["value", "signs"] 1 sp_is_made_of := by
  refine mk_def F sc_is_made_of (fun _ _ _ _ _ _ us hl => match us, hl with | [_, _], _ => rfl) (fun vs H Q E h => ?_) (fun f cdv A outer s H vs Q E hr h => ?_)
  · obtain ⟨n, rfl, _⟩ := h; rfl
  · obtain ⟨l, rfl, hl, k⟩ := h
    refine ⟨_, (pss_one (ps_ret (pe_and (pe_callB call_isi (by rfl) T.b_isinstance (by decide +kernel) (pa_cons (pv 0) (pa_cons (pe_bltn (v := .ty "str") (by rfl) T.b_str (by decide +kernel) rfl) pa_nil))) (pe_one (pe_callB (cr_all rfl) (by rfl) T.b_all (by decide +kernel) (pa_cons (pe_lc (own := [("sign", 2)]) rfl sc_is_made_of.nd (pi_str (pv 0)) (blkOk_by (own := [("sign", 2)]) (N := N_is_made_of) (sc := defScope s_is_made_of) (by decide +kernel)) (fun _ _ _ _ _ => (pg_name (i := 2) sc_is_made_of.nd rfl (Or.inl rfl))) (fun _ _ _ _ _ => pts_nil) (fun _ _ _ _ _ => (pe_cmpR op_in_sign (pv 2) (pv 1) (by rfl)))) pa_nil)))))), ?_⟩
    refine ⟨_, rfl, _, _, _, _, true, rfl, .ty _, .base (.str _), kit_ty (by decide +kernel), _, rfl, iteT ?_⟩
    refine ⟨_, rfl, _, rfl, fun D hD => lc_acc walk_str (fun i => List.replicate i (.bl true)) hD rfl (fun _ _ => trivial) (fun i x H1 H2 hi g y => ?_) (fun H1 g => ?_)⟩
    · obtain ⟨rfl, c, hc, rfl⟩ := y
      refine ⟨rfl, _, rfl, _, rfl, c, _, rfl, rfl, ?_⟩
      refine g.push (by simp; rw [patS_len] at hi; omega) ?_
      have hm : c ∈ ("LR?" : Str).cps.toList := by
        have hc : (patS l).cps.toList[i]? = some c := by rw [Array.getElem?_toList]; exact hc
        rw [patS_get] at hc
        obtain ⟨d, _, rfl⟩ := Option.map_eq_some_iff.mp hc
        cases d <;> decide +kernel
      rw [decide_eq_true hm, List.replicate_succ']
    · refine ⟨D, List.replicate (patS l).cps.size true, rfl, SqL.of (by rw [List.map_replicate]; exact g.at_), ?_⟩
      have e : (List.replicate (patS l).cps.size true).all id = true := by simp
      rw [e]
      exact k _ g.same

/-- the list again -/
def sp_agrees : Sp := fun vs H Q _ => ∃ a b : Ch, vs = [.str (chS a), .str (chS b)] ∧ Q (.bl (M.agrees a b)) H
theorem d_agrees (T : Tx K mg) (F : FunAt K mg "agrees" s_agrees) : Def P w K mg base "agrees" ["character", "other"] 1 sp_agrees := by
  refine mk_def F sc_agrees (fun _ _ _ _ _ _ us hl => match us, hl with | [_, _], _ => rfl) (fun vs H Q E h => ?_) (fun f cdv A outer s H vs Q E hr h => ?_)
  · obtain ⟨n, i, rfl, _⟩ := h; rfl
  · obtain ⟨a, b, rfl, k⟩ := h
    refine ⟨_, (pss_one (ps_ret (pe_or (pe_cmpR op_eq (pv 0) (pv 1) (nomark _)) (pe_or (pe_cmpR op_eq (pv 0) pe_str (nomark _)) (pe_one (pe_cmpR op_eq (pv 1) pe_str (nomark _))))))), ?_⟩
    refine ⟨_, rfl, _, rfl, rfl, _, rfl, ?_⟩
    refine ite2 (fun h => ?_) (fun h => ?_)
    · have h : a = b := chS_inj (by simpa using of_decide_eq_true h)
      have e : M.agrees a b = true := by rw [h]; cases b <;> rfl
      rw [← e]; exact k
    · have h : a ≠ b := fun z => h (decide_eq_true (by rw [z]))
      refine ⟨_, rfl, rfl, _, rfl, ?_⟩
      refine ite2 (fun h2 => ?_) (fun h2 => ?_)
      · have h2 : a = .Q := chS_inj (b := .Q) (V.str.inj (of_decide_eq_true h2))
        have e : M.agrees a b = true := by rw [h2]; cases b <;> rfl
        rw [← e]; exact k
      · have h2 : a ≠ .Q := fun z => h2 (decide_eq_true (by rw [z]; rfl))
        refine ⟨_, rfl, rfl, ?_⟩
        have e : decide (V.str (chS b) = V.str "?") = M.agrees a b := by
          cases a <;> cases b <;> first | exact absurd rfl h | exact absurd rfl h2 | decide +kernel
        show Q (.bl (decide (V.str (chS b) = V.str "?"))) H
        rw [e]; exact k

def sp_smallest (K : PySem.W.Frag) : Sp := fun vs H Q _ => ∃ (a : Addr) (ns : List Nat), vs = [.ref a] ∧ SqL K H a (nV ns) ∧ Q (oV (M.smallest ns)) H
theorem d_smallest (T : Tx K mg) (F : FunAt K mg "smallest" s_smallest) : Def P w K mg base "smallest" ["costs"] 1 (sp_smallest K) := by
  refine mk_def F sc_smallest (fun _ _ _ _ _ _ us hl => match us, hl with | [_], _ => rfl) (fun vs H Q E h => ?_) (fun f cdv A outer s H vs Q E hr h => ?_)
  · obtain ⟨n, i, rfl, _⟩ := h; rfl
  · obtain ⟨a, ns, rfl, hs, k⟩ := h
    refine ⟨_, (pss_cons (ps_if (pt_cmpR op_eq (pe_callB call_len_seq (by rfl) T.b_len (by decide +kernel) (pa_cons (pv 0) pa_nil)) pe_int (nomark _)) (pss_one (ps_ret pe_non)) pss_nil)
      (pss_one (ps_ret (pe_callB (cr_min rfl) (by rfl) T.b_min (by decide +kernel) (pa_cons (pv 0) pa_nil))))), ?_⟩
    refine ⟨_, rfl, _, _, rfl, .inl hs, rfl, _, rfl, ?_⟩
    refine ite2 (fun h => ?_) (fun h => ?_)
    · have h : ((nV ns).length : Int) = 0 := by simpa using of_decide_eq_true h
      rw [nV_len] at h
      have e : ns = [] := List.eq_nil_of_length_eq_zero (by omega)
      subst e
      exact k
    · have h : ¬ ((nV ns).length : Int) = 0 := fun z => h (decide_eq_true (by rw [z]))
      rw [nV_len] at h
      cases ns with
      | nil => exact absurd rfl h
      | cons n r =>
        refine ⟨_, rfl, a, (n :: r).map fun n : Nat => (n : Int), rfl, by rw [← nV_int]; exact hs, by simp, fun m hm hl => ?_⟩
        obtain ⟨j, hj, rfl⟩ := List.mem_map.mp hm
        obtain ⟨h1, h2, h3⟩ := M.foldl_min_le r n
        have e : j = r.foldl min n := by
          have g1 : (j : Int) ≤ (r.foldl min n : Nat) := hl _ (List.mem_map.mpr ⟨_, by rcases h3 with z | z <;> simp [z], rfl⟩)
          have g2 : r.foldl min n ≤ j := by
            rcases List.mem_cons.mp hj with z | z
            · rw [z]; exact h1
            · exact h2 j z
          omega
        rw [e]
        exact k

def sp_different_slots : Sp := fun vs H Q _ => ∃ (n : Nat) (a : Addr) (R : List Nat), vs = [.int n, .ref a] ∧ H a = some (.lst (nV R)) ∧ R.Nodup ∧ (∀ x ∈ R, x < n) ∧ R.length ≤ 1000 ∧ ∀ H' p, Gw H p (.lst (nV R)) H' → Q (.ref p) H'
theorem d_different_slots (T : Tx K mg) (F : FunAt K mg "different_slots" s_different_slots) (d_is_place : Def P w K mg base "is_place" ["many", "value"] 2 sp_is_place) : Def P w K mg base "different_slots" ["many", "slots"] 3 sp_different_slots := by
  refine mk_def F sc_different_slots (fun _ _ _ _ _ _ us hl => match us, hl with | [_, _], _ => rfl) (fun vs H Q E h => ?_) (fun f cdv A outer s H vs Q E hr h => ?_)
  · obtain ⟨n, i, R, rfl, _⟩ := h; rfl
  · obtain ⟨n, a, R, rfl, ha, hn, hb, hl, k⟩ := h
    refine ⟨_, (pss_cons (ps_if (pt_not (pt_val (pe_callB call_isi (by rfl) T.b_isinstance (by decide +kernel) (pa_cons (pv 1) (pa_cons (pe_bltn (v := .ty "list") (by rfl) T.b_list (by decide +kernel) rfl) pa_nil))))) (pss_one ps_never) pss_nil)
      (pss_cons (ps_set (i := 2) sc_different_slots.nd rfl (Or.inl rfl) (pe_lst pa_nil))
      (pss_cons (ps_for PassesOwn.never rfl (pi_list (pv 1)) (pg_name (i := 3) sc_different_slots.nd rfl (Or.inl rfl)) (pss_cons (ps_if (PW.pt (pw_or (pt_not (pt_val (pe_def d_is_place hr (by rfl) (pa_cons (pv 0) (pa_cons (pv 3) pa_nil))))) (pw_or1 (pt_cmpR op_in_seq (pv 3) (pv 2) (by rfl))))) (pss_one ps_never) pss_nil)
      (pss_one (ps_expr (pe_bm PySem.F.plainAttrs_list PySem.F.slot_list_append PySem.F.type_list_append mt_append (pv 2) (pa_cons (pv 3) pa_nil))))))
      (pss_one (ps_ret (pv 2)))))), ?_⟩
    refine ⟨_, rfl, _, _, _, _, true, rfl, .ty _, .base (.lst ha), kit_ty (by decide +kernel), _, rfl, ?_⟩
    refine iteF ?_
    refine ⟨sz_le (by decide), fun D hD => ?_⟩
    refine ⟨_, rfl, a, rfl, ⟨_, SqL.of (same_new hD _ _ ha)⟩, for_list (xs := nV R) (fun i σ H1 => (∃ x, σ = [some (.int n), some (.ref a), some (.ref D), x]) ∧ Gw H D (.lst (nV (R.take i))) H1) ⟨⟨_, rfl⟩, Gw.start hD⟩ (fun i σ H1 _ p => SqL.of (p.2.same _ _ ha)) (fun i x σ H1 hx p => ?_) (fun σ H1 p => ?_)⟩
    · obtain ⟨⟨x0, rfl⟩, g⟩ := p
      rw [nV_get] at hx
      obtain ⟨y, hy, rfl⟩ := Option.map_eq_some_iff.mp hx
      have hm : y ∈ R := List.mem_of_getElem? hy
      have hlt : i < R.length := (List.getElem?_eq_some_iff.mp hy).1
      have hy2 : y < n := hb y hm
      refine ⟨_, rfl, _, rfl, n, y, rfl, true, congrArg V.bl (decide_eq_true ⟨by omega, by omega⟩), ?_⟩
      refine iteF ⟨_, rfl, _, rfl, D, _, rfl, .inl (SqL.of g.at_), rfl, nV_flat _, _, rfl, ?_⟩
      have e : inV (.int (y : Int)) (nV (R.take i)) = false := by
        rw [inV_nV]
        refine decide_eq_false fun z => ?_
        obtain ⟨j, hj⟩ := List.getElem?_of_mem z
        rw [List.getElem?_take] at hj
        split at hj
        · next hji =>
          have := nodup_idx hn hj hy
          omega
        · cases hj
      rw [show (if false = true then !inV (.int (y : Int)) (nV (R.take i)) else inV (.int (y : Int)) (nV (R.take i))) = false by rw [e]; rfl]
      refine iteF ?_
      refine ⟨_, rfl, .inl ⟨rfl, _, SqL.of g.at_⟩, _, rfl, D, _, _, rfl, rfl, g.at_, by rw [nV_len, List.length_take]; exact sz_lt (by omega), ⟨_, rfl⟩, ?_⟩
      have e2 : nV (R.take i) ++ [.int (y : Int)] = nV (R.take (i + 1)) := by rw [take_snoc hy]; simp [nV]
      rw [e2]
      exact g.put
    · obtain ⟨⟨x0, rfl⟩, g⟩ := p
      rw [nV_len, all_take] at g
      exact ⟨_, rfl, k _ _ g⟩
end
end My

set_option Elab.async false
set_option maxRecDepth 100000
set_option maxHeartbeats 4000000
namespace My
open PySem PySem.Spec PyProof.Rows L2
open M (Ch Need T)
abbrev s_talk_costs : Stmt := top 27
abbrev N_talk_costs : List Str := ["side", "wanted", "lines", "blocks", "other", "renewals", "by_load", "by_hit", "may_be_empty", "may_stay", "may_turn", "costs", "other_lines", "other_blocks"]
theorem sc_talk_costs : FnScope N_talk_costs ["side", "wanted", "lines", "blocks", "other"] (defScope s_talk_costs) := ⟨rfl, rfl, rfl, by decide +kernel, rfl, by decide +kernel, by decide +kernel⟩
section
variable {P : Program} {w : World} {K : PySem.W.Frag} {mg : Str → Option Value} {base : Heap}
def sp_talk_costs (K : PySem.W.Frag) : Sp := fun vs H Q _ => ∃ (s u : Ch) (n b : Nat) (a : Addr) (o : Need), vs = [.str (chS s), .str (chS u), .int n, .int b, .ref a] ∧ SqT K H a (needV o) ∧ ∀ H' p, Gw H p (.lst (nV (M.talkCosts s u n b o))) H' → Q (.ref p) H'
theorem stays_in (sd u : Ch) : inV (.str (chS u)) [.str "?", .str (chS sd)] = M.stays sd u := by
  refine in_tup ?_
  cases sd <;> cases u <;> decide +kernel
theorem turns_ne (sd u : Ch) : (!decide (V.str (chS u) = V.str (chS sd))) = M.turns sd u := by
  cases sd <;> cases u <;> decide +kernel
theorem one_dec (b : Nat) : decide (V.int (b : Int) = V.int 1) = (b == 1) := by
  rw [Bool.eq_iff_iff, decide_eq_true_iff, beq_iff_eq]
  constructor
  · intro h; have := V.int.inj h; omega
  · intro h; rw [h]; rfl
theorem max_pred (ol b : Nat) : (if ((b : Int) - 1) > (ol : Int) then ((b : Int) - 1) else (ol : Int)) = ((max ol (b - 1) : Nat) : Int) := by split <;> omega
theorem max_succ (i j : Nat) : (if ((j : Int) + 1) > (i : Int) then ((j : Int) + 1) else (i : Int)) = ((max i (j + 1) : Nat) : Int) := by split <;> omega
theorem oneCost_len (st tu : Bool) (n b : Nat) (ol : Option Nat) (ob : Nat) : (M.oneCost st tu n b ol ob).length ≤ 2 := by
  cases ol with
  | none => exact Nat.zero_le _
  | some c => cases st <;> cases tu <;> simp [M.oneCost]
theorem d_talk_costs (T : Tx K mg) (F : FunAt K mg "talk_costs" s_talk_costs) : Def P w K mg base "talk_costs" ["side", "wanted", "lines", "blocks", "other"] 1 (sp_talk_costs K) := by
  refine mk_def F sc_talk_costs (fun _ _ _ _ _ _ us hl => match us, hl with | [_, _, _, _, _], _ => rfl) (fun vs H Q E h => ?_) (fun f cdv A outer s H vs Q E hr h => ?_)
  · obtain ⟨_, _, _, _, _, _, rfl, _⟩ := h; rfl
  · obtain ⟨sd, u, n, b, a, o, rfl, ha, k⟩ := h
    refine ⟨_, (pss_cons (ps_asg (pv 4) (pg_tup rfl (pgs_cons (pg_name (i := 5) sc_talk_costs.nd rfl (Or.inl rfl)) (pgs_cons (pg_name (i := 6) sc_talk_costs.nd rfl (Or.inl rfl)) (pgs_cons (pg_name (i := 7) sc_talk_costs.nd rfl (Or.inl rfl)) (pgs_cons (pg_name (i := 8) sc_talk_costs.nd rfl (Or.inl rfl)) pgs_nil))))))
      (pss_cons (ps_set (i := 9) sc_talk_costs.nd rfl (Or.inl rfl) (pe_cmpR op_in_seq (pv 1) (pe_tup (pa_cons pe_str (pa_cons (pv 0) pa_nil))) (by rfl)))
      (pss_cons (ps_set (i := 10) sc_talk_costs.nd rfl (Or.inl rfl) (pe_cmpR op_ne (pv 1) (pv 0) (nomark _)))
      (pss_cons (ps_set (i := 11) sc_talk_costs.nd rfl (Or.inl rfl) (pe_lst pa_nil))
      (pss_cons (ps_if (PW.pt (pw_and (pt_val (pv 8)) (pw_and (pt_val (pv 9)) (pw_and1 (pt_cmpR op_eq (pv 3) pe_int (nomark _)))))) (pss_one (ps_expr (pe_bm PySem.F.plainAttrs_list PySem.F.slot_list_append PySem.F.type_list_append mt_append (pv 11) (pa_cons (pv 2) pa_nil)))) pss_nil)
      (pss_cons (ps_for PassesOwn.never rfl (pi_tup (pe_tup (pa_cons (pe_tup (pa_cons (pv 6) (pa_cons (pv 5) pa_nil))) (pa_cons (pe_tup (pa_cons (pv 7) (pa_cons (pe_op op_add (pv 5) pe_int) pa_nil))) pa_nil)))) (pg_tup rfl (pgs_cons (pg_name (i := 12) sc_talk_costs.nd rfl (Or.inl rfl)) (pgs_cons (pg_name (i := 13) sc_talk_costs.nd rfl (Or.inl rfl)) pgs_nil))) (pss_one (ps_if (pt_cmpR op_notN (pv 12) pe_non (nomark _)) (pss_cons (ps_if (pt_val (pv 10)) (pss_one (ps_expr (pe_bm PySem.F.plainAttrs_list PySem.F.slot_list_append PySem.F.type_list_append mt_append (pv 11) (pa_cons (pe_op op_add (pe_callB (call_max2 rfl) (by rfl) T.b_max (by decide +kernel) (pa_cons (pv 2) (pa_cons (pv 13) pa_nil))) (pe_callB (call_max2 rfl) (by rfl) T.b_max (by decide +kernel) (pa_cons (pv 12) (pa_cons (pv 3) pa_nil)))) pa_nil)))) pss_nil)
      (pss_one (ps_if (pt_val (pv 9)) (pss_one (ps_expr (pe_bm PySem.F.plainAttrs_list PySem.F.slot_list_append PySem.F.type_list_append mt_append (pv 11) (pa_cons (pe_op op_add (pe_callB (call_max2 rfl) (by rfl) T.b_max (by decide +kernel) (pa_cons (pv 2) (pa_cons (pe_op op_add (pv 13) pe_int) pa_nil))) (pe_callB (call_max2 rfl) (by rfl) T.b_max (by decide +kernel) (pa_cons (pv 12) (pa_cons (pe_op op_sub (pv 3) pe_int) pa_nil)))) pa_nil)))) pss_nil))) pss_nil)))
      (pss_one (ps_ret (pv 11))))))))), ?_⟩
    refine ⟨_, rfl, a, _, rfl, ha, rfl, _, _, rfl, _, _, rfl, _, _, rfl, _, _, rfl, rfl, ?_⟩
    refine ⟨_, rfl, _, rfl, szl, fun t0 ht0 => ⟨t0, _, rfl, .inr (SqT.of upd_same), rfl, rfl, ?_⟩⟩
    refine ⟨_, rfl, _, rfl, rfl, szl, fun D hD => ?_⟩
    have s0 : Same H (upd H t0 (.tup [.str "?", .str (chS sd)])) := same_new ht0
    have hD0 : H D = none := s0.free hD
    have g0 : Gw H D (.lst (nV [])) (upd (upd H t0 (.tup [.str "?", .str (chS sd)])) D (.lst [])) := ⟨s0.trans (same_new hD), hD0, upd_same⟩
    generalize upd (upd H t0 (.tup [.str "?", .str (chS sd)])) D (.lst []) = H1 at g0 ⊢
    have e1 : (if false = true then !inV (.str (chS u)) [.str "?", .str (chS sd)] else inV (.str (chS u)) [.str "?", .str (chS sd)]) = M.stays sd u := by rw [stays_in]; rfl
    rw [e1, turns_ne sd u]
    refine gName_at ?_
    dsimp only
    refine cut_if (fun σ' H' => σ' = [some (.str (chS sd)), some (.str (chS u)), some (.int n), some (.int b), some (.ref a), some (.int o.p), some (oV o.ld), some (oV o.ht), some (.bl o.em), some (.bl (M.stays sd u)), some (.bl (M.turns sd u)), some (.ref D), none, none] ∧
      Gw H D (.lst (nV (if o.em && M.stays sd u && b == 1 then [n] else []))) H') (fun key => ?_) (fun σ' H' h => ?_)
    · refine ifS_pure (and_pure (fun Q q => ⟨_, rfl, _, rfl, q⟩) (and_pure (fun Q q => ⟨_, rfl, _, rfl, q⟩) (fun Q q => ⟨_, rfl, rfl, _, rfl, q⟩))) ?_
      rw [one_dec, ← Bool.and_assoc]
      cases hc : (o.em && M.stays sd u && b == 1) with
      | true =>
        refine iteT ⟨_, rfl, .inl ⟨rfl, _, SqL.of g0.at_⟩, _, rfl, D, _, _, rfl, rfl, g0.at_, sz_lt (by decide), ?_⟩
        refine key _ _ ⟨rfl, ?_⟩
        rw [hc]
        exact g0.put
      | false =>
        refine iteF (key _ _ ⟨rfl, ?_⟩)
        rw [hc]
        exact g0
    · obtain ⟨rfl, g⟩ := h
      generalize hA : (if o.em && M.stays sd u && b == 1 then [n] else []) = A at g
      have hAl : A.length ≤ 1 := by rw [← hA]; split <;> simp
      refine ⟨_, rfl, _, rfl, szl, fun t1 ht1 => ⟨_, rfl, _, rfl, _, _, rfl, rfl, szl, fun t2 ht2 => ⟨szl, fun t3 ht3 => ⟨t3, rfl, ⟨_, SqT.of upd_same⟩, ?_⟩⟩⟩⟩
      have n1 : t1 ≠ D := fun z => by rw [z, g.at_] at ht1; cases ht1
      have n2 : t2 ≠ D := fun z => by rw [z, upd_old g.at_ ht1] at ht2; cases ht2
      have n3 : t3 ≠ D := fun z => by rw [z, upd_old (upd_old g.at_ ht1) ht2] at ht3; cases ht3
      have g3 := ((g.add (u := .tup [oV o.ld, .int (o.p : Nat)]) ht1).add (u := .tup [oV o.ht, .int ((o.p : Int) + 1)]) ht2).add (u := .tup [.ref t1, .ref t2]) ht3
      have a3 : (upd (upd (upd H' t1 (.tup [oV o.ld, .int (o.p : Nat)])) t2 (.tup [oV o.ht, .int ((o.p : Int) + 1)])) t3 (.tup [.ref t1, .ref t2])) t3 = some (.tup [.ref t1, .ref t2]) := upd_same
      have a2 : (upd (upd (upd H' t1 (.tup [oV o.ld, .int (o.p : Nat)])) t2 (.tup [oV o.ht, .int ((o.p : Int) + 1)])) t3 (.tup [.ref t1, .ref t2])) t2 = some (.tup [oV o.ht, .int ((o.p : Int) + 1)]) := upd_old upd_same ht3
      have a1 : (upd (upd (upd H' t1 (.tup [oV o.ld, .int (o.p : Nat)])) t2 (.tup [oV o.ht, .int ((o.p : Int) + 1)])) t3 (.tup [.ref t1, .ref t2])) t1 = some (.tup [oV o.ld, .int (o.p : Nat)]) := upd_old (upd_old upd_same ht2) ht3
      generalize upd (upd (upd H' t1 (.tup [oV o.ld, .int (o.p : Nat)])) t2 (.tup [oV o.ht, .int ((o.p : Int) + 1)])) t3 (.tup [.ref t1, .ref t2]) = H3 at g3 a1 a2 a3 ⊢
      refine for_tup (xs := [.ref t1, .ref t2]) (fun i σ H2 => (∃ x y, σ = [some (.str (chS sd)), some (.str (chS u)), some (.int n), some (.int b), some (.ref a), some (.int o.p), some (oV o.ld), some (oV o.ht), some (.bl o.em), some (.bl (M.stays sd u)), some (.bl (M.turns sd u)), some (.ref D), x, y]) ∧
        Gw H D (.lst (nV (A ++ (if i = 0 then [] else M.oneCost (M.stays sd u) (M.turns sd u) n b o.ld o.p) ++ (if i = 2 then M.oneCost (M.stays sd u) (M.turns sd u) n b o.ht (o.p + 1) else [])))) H2 ∧ H2 t1 = some (.tup [oV o.ld, .int (o.p : Nat)]) ∧ H2 t2 = some (.tup [oV o.ht, .int ((o.p : Int) + 1)]) ∧ H2 t3 = some (.tup [.ref t1, .ref t2]))
        ⟨⟨_, _, rfl⟩, by simpa using g3, a1, a2, a3⟩ (fun i σ H2 _ p => SqT.of p.2.2.2.2) (fun i x σ H2 hx p => ?_) (fun σ H2 p => ?_)
      · obtain ⟨⟨x0, y0, rfl⟩, gg, b1, b2, b3⟩ := p
        have hi : i = 0 ∨ i = 1 := by
          have := (List.getElem?_eq_some_iff.mp hx).1
          simp at this; omega
        obtain ⟨t, ol, ob, acc, rfl, hp, hl, hacc, hnow, nt⟩ : ∃ t ol ob, ∃ acc : List Nat, x = .ref t ∧ H2 t = some (.tup [oV ol, .int (ob : Nat)]) ∧ acc.length ≤ 3 ∧
            (A ++ (if i + 1 = 0 then [] else M.oneCost (M.stays sd u) (M.turns sd u) n b o.ld o.p) ++ (if i + 1 = 2 then M.oneCost (M.stays sd u) (M.turns sd u) n b o.ht (o.p + 1) else [])) = acc ++ M.oneCost (M.stays sd u) (M.turns sd u) n b ol ob ∧
            (A ++ (if i = 0 then [] else M.oneCost (M.stays sd u) (M.turns sd u) n b o.ld o.p) ++ (if i = 2 then M.oneCost (M.stays sd u) (M.turns sd u) n b o.ht (o.p + 1) else [])) = acc ∧ t ≠ D := by
          rcases hi with rfl | rfl
          · exact ⟨t1, o.ld, o.p, A, (by simpa using hx.symm), b1, by omega, by simp, by simp, n1⟩
          · have := oneCost_len (M.stays sd u) (M.turns sd u) n b o.ld o.p
            exact ⟨t2, o.ht, o.p + 1, A ++ M.oneCost (M.stays sd u) (M.turns sd u) n b o.ld o.p, (by simpa using hx.symm), by rw [b2]; simp, by rw [List.length_append]; omega, by simp, by simp, n2⟩
        rw [hnow] at gg
        rw [hacc]
        clear hacc hnow hx hi
        refine ⟨t, _, rfl, SqT.of hp, rfl, _, _, rfl, _, _, rfl, rfl, ?_⟩
        cases ol with
        | none =>
          refine ⟨_, rfl, rfl, _, rfl, iteF ?_⟩
          exact ⟨⟨_, _, rfl⟩, by simpa [M.oneCost] using gg, b1, b2, b3⟩
        | some c =>
          refine ⟨_, rfl, rfl, _, rfl, iteT ?_⟩
          dsimp only
          refine cut_if (fun σ' H' => σ' = [some (.str (chS sd)), some (.str (chS u)), some (.int n), some (.int b), some (.ref a), some (.int o.p), some (oV o.ld), some (oV o.ht), some (.bl o.em), some (.bl (M.stays sd u)), some (.bl (M.turns sd u)), some (.ref D), some (.int (c : Nat)), some (.int (ob : Nat))] ∧
            Gw H D (.lst (nV (acc ++ (if M.turns sd u then [max n ob + max c b] else [])))) H' ∧ H' t1 = some (.tup [oV o.ld, .int (o.p : Nat)]) ∧ H' t2 = some (.tup [oV o.ht, .int ((o.p : Int) + 1)]) ∧ H' t3 = some (.tup [.ref t1, .ref t2])) (fun key => ?_) (fun σ' H' h => ?_)
          · refine ⟨_, rfl, _, rfl, ?_⟩
            refine ite2 (fun h => ?_) (fun h => ?_)
            · refine ⟨_, rfl, .inl ⟨rfl, _, SqL.of gg.at_⟩, _, rfl, _, rfl, _, _, rfl, _, rfl, _, rfl, _, _, rfl, _, _, rfl, rfl, D, _, _, rfl, rfl, gg.at_, sz_lt (by rw [nV_len]; omega), key _ _ ⟨rfl, ?_, upd_far b1 n1, upd_far b2 n2, upd_far b3 n3⟩⟩
              rw [max2, max2, if_pos h, ← nV_snoc]
              exact gg.put
            · refine key _ _ ⟨rfl, ?_, b1, b2, b3⟩
              rw [if_neg h, List.append_nil]
              exact gg
          · obtain ⟨rfl, gg, b1, b2, b3⟩ := h
            generalize hB : (if M.turns sd u then [max n ob + max c b] else []) = B at gg
            have hBl : B.length ≤ 1 := by rw [← hB]; split <;> simp
            have e : acc ++ M.oneCost (M.stays sd u) (M.turns sd u) n b (some c) ob = acc ++ B ++ (if M.stays sd u then [max n (ob + 1) + max c (b - 1)] else []) := by rw [← hB, List.append_assoc]; rfl
            rw [e]
            refine ⟨_, rfl, _, rfl, ?_⟩
            refine ite2 (fun h => ?_) (fun h => ?_)
            · refine ⟨_, rfl, .inl ⟨rfl, _, SqL.of gg.at_⟩, _, rfl, _, rfl, _, _, rfl, rfl, _, _, rfl, _, rfl, _, rfl, _, _, rfl, rfl, _, _, rfl, _, _, rfl, rfl, D, _, _, rfl, rfl, gg.at_, sz_lt (by rw [nV_len, List.length_append]; omega), ⟨_, _, rfl⟩, ?_, upd_far b1 n1, upd_far b2 n2, upd_far b3 n3⟩
              rw [max_succ, max_pred, if_pos h, ← nV_snoc]
              exact gg.put
            · refine ⟨⟨_, _, rfl⟩, ?_, b1, b2, b3⟩
              rw [if_neg h, List.append_nil]
              exact gg
      · obtain ⟨⟨x0, y0, rfl⟩, gg, _⟩ := p
        refine ⟨_, rfl, k _ _ ?_⟩
        have e : M.talkCosts sd u n b o = A ++ M.oneCost (M.stays sd u) (M.turns sd u) n b o.ld o.p ++ M.oneCost (M.stays sd u) (M.turns sd u) n b o.ht (o.p + 1) := by
          rw [← hA, List.append_assoc]; rfl
        rw [e]
        exact gg
end
end My

set_option Elab.async false
set_option maxRecDepth 100000
set_option maxHeartbeats 4000000
namespace My
open PySem PySem.Spec PyProof.Rows L2
open M (Ch Need T)
abbrev s_fork_need : Stmt := top 26
abbrev N_fork_need : List Str := ["left", "right", "before", "wanted", "load_costs", "hit_costs", "side", "first", "other", "renewals", "by_load", "by_hit", "_", "may_be_empty"]
theorem sc_fork_need : FnScope N_fork_need ["left", "right", "before", "wanted"] (defScope s_fork_need) := ⟨rfl, rfl, rfl, by decide +kernel, rfl, by decide +kernel, by decide +kernel⟩
section
variable {P : Program} {w : World} {K : PySem.W.Frag} {mg : Str → Option Value} {base : Heap}
def sp_fork_need (K : PySem.W.Frag) : Sp := fun vs H Q _ => ∃ (al ar : Addr) (l r : Need) (b u : Ch), vs = [.ref al, .ref ar, .str (chS b), .str (chS u)] ∧ SqT K H al (needV l) ∧ SqT K H ar (needV r) ∧ ∀ H' p, Same H H' → H' p = some (.tup (needV (M.forkNeed l r b u))) → Q (.ref p) H'
theorem talk_len (s u : Ch) (n b : Nat) (o : Need) : (M.talkCosts s u n b o).length ≤ 5 := by
  unfold M.talkCosts
  rw [List.length_append, List.length_append]
  have h1 := oneCost_len (M.stays s u) (M.turns s u) n b o.ld o.p
  have h2 := oneCost_len (M.stays s u) (M.turns s u) n b o.ht (o.p + 1)
  have h3 : (if o.em && M.stays s u && b == 1 then [n] else []).length ≤ 1 := by split <;> simp
  omega
theorem load_len (s b u : Ch) (f o : Need) : (M.loadCosts s b u f o).length ≤ 5 := by
  unfold M.loadCosts
  split
  · simp
  · split
    · exact talk_len ..
    · simp
theorem hit_len (s u : Ch) (f o : Need) : (M.hitCosts s u f o).length ≤ 5 := by
  unfold M.hitCosts
  split
  · simp
  · exact talk_len ..
theorem notN_oV (o : Option Nat) : (!decide (oV o = .non)) = o.isSome := by cases o <;> rfl
theorem ne_chS (a b : Ch) : (!decide (V.str (chS a) = V.str (chS b))) = (a != b) := by cases a <;> cases b <;> decide +kernel
theorem d_fork_need (T : Tx K mg) (F : FunAt K mg "fork_need" s_fork_need) (d_talk_costs : Def P w K mg base "talk_costs" ["side", "wanted", "lines", "blocks", "other"] 1 (sp_talk_costs K)) (d_smallest : Def P w K mg base "smallest" ["costs"] 1 (sp_smallest K))
    (d_agrees : Def P w K mg base "agrees" ["character", "other"] 1 sp_agrees) : Def P w K mg base "fork_need" ["left", "right", "before", "wanted"] 2 (sp_fork_need K) := by
  refine mk_def F sc_fork_need (fun _ _ _ _ _ _ us hl => match us, hl with | [_, _, _, _], _ => rfl) (fun vs H Q E h => ?_) (fun f cdv A outer s H vs Q E hr h => ?_)
  · obtain ⟨_, _, _, _, _, _, rfl, _⟩ := h; rfl
  · obtain ⟨al, ar, l, r, b, u, rfl, hal, har, k⟩ := h
    refine ⟨_, (pss_cons (ps_set (i := 4) sc_fork_need.nd rfl (Or.inl rfl) (pe_lst pa_nil))
      (pss_cons (ps_set (i := 5) sc_fork_need.nd rfl (Or.inl rfl) (pe_lst pa_nil))
      (pss_cons (ps_for PassesOwn.never rfl (pi_tup (pe_tup (pa_cons (pe_tup (pa_cons pe_str (pa_cons (pv 0) (pa_cons (pv 1) pa_nil)))) (pa_cons (pe_tup (pa_cons pe_str (pa_cons (pv 1) (pa_cons (pv 0) pa_nil)))) pa_nil)))) (pg_tup rfl (pgs_cons (pg_name (i := 6) sc_fork_need.nd rfl (Or.inl rfl)) (pgs_cons (pg_name (i := 7) sc_fork_need.nd rfl (Or.inl rfl)) (pgs_cons (pg_name (i := 8) sc_fork_need.nd rfl (Or.inl rfl)) pgs_nil)))) (pss_cons (ps_asg (pv 7) (pg_tup rfl (pgs_cons (pg_name (i := 9) sc_fork_need.nd rfl (Or.inl rfl)) (pgs_cons (pg_name (i := 10) sc_fork_need.nd rfl (Or.inl rfl)) (pgs_cons (pg_name (i := 11) sc_fork_need.nd rfl (Or.inl rfl)) (pgs_cons (pg_name (i := 12) sc_fork_need.nd rfl (Or.inl rfl)) pgs_nil))))))
      (pss_cons (ps_if (PW.pt (pw_and (pt_cmpR op_notN (pv 10) pe_non (nomark _)) (pw_and1 (pt_cmpR op_ne (pv 2) (pv 6) (nomark _))))) (pss_one (ps_set (i := 4) sc_fork_need.nd rfl (Or.inl rfl) (pe_op op_cat (pv 4) (pe_def d_talk_costs hr (by rfl) (pa_cons (pv 6) (pa_cons (pv 3) (pa_cons (pv 10) (pa_cons (pv 9) (pa_cons (pv 8) pa_nil))))))))) pss_nil)
      (pss_one (ps_if (pt_cmpR op_notN (pv 11) pe_non (nomark _)) (pss_one (ps_set (i := 5) sc_fork_need.nd rfl (Or.inl rfl) (pe_op op_cat (pv 5) (pe_def d_talk_costs hr (by rfl) (pa_cons (pv 6) (pa_cons (pv 3) (pa_cons (pv 11) (pa_cons (pe_op op_add (pv 9) pe_int) (pa_cons (pv 8) pa_nil))))))))) pss_nil)))))
      (pss_cons (ps_set (i := 13) sc_fork_need.nd rfl (Or.inl rfl) (pe_and (pe_ix ix_tup (pv 0) pe_int (fun _ _ => rfl)) (pe_and (pe_ix ix_tup (pv 1) pe_int (fun _ _ => rfl)) (pe_one (pe_def d_agrees hr (by rfl) (pa_cons (pv 2) (pa_cons (pv 3) pa_nil)))))))
      (pss_one (ps_ret (pe_tup (pa_cons (pe_op op_add (pe_ix ix_tup (pv 0) pe_int (fun _ _ => rfl)) (pe_ix ix_tup (pv 1) pe_int (fun _ _ => rfl))) (pa_cons (pe_def d_smallest hr (by rfl) (pa_cons (pv 4) pa_nil)) (pa_cons (pe_def d_smallest hr (by rfl) (pa_cons (pv 5) pa_nil)) (pa_cons (pv 13) pa_nil))))))))))), ?_⟩
    refine ⟨szl, fun D1 hD1 => ⟨szl, fun D2 hD2 => ?_⟩⟩
    refine ⟨_, rfl, _, rfl, szl, fun t1 ht1 => ⟨_, rfl, _, rfl, szl, fun t2 ht2 => ⟨szl, fun t3 ht3 => ⟨t3, rfl, ⟨_, SqT.of upd_same⟩, ?_⟩⟩⟩⟩
    have s1 := ((same_new (u := .lst []) hD1).trans ((same_new (u := .lst []) hD2).trans ((same_new (u := .tup [.str "L", .ref al, .ref ar]) ht1).trans ((same_new (u := .tup [.str "R", .ref ar, .ref al]) ht2).trans (same_new (u := .tup [.ref t1, .ref t2]) ht3)))))
    have a1 := upd_old (u := .tup [.ref t1, .ref t2]) (upd_old (u := .tup [.str "R", .ref ar, .ref al]) (upd_same (H := upd (upd H D1 (.lst [])) D2 (.lst [])) (a := t1) (o := .tup [.str "L", .ref al, .ref ar])) ht2) ht3
    have a2 := upd_old (u := .tup [.ref t1, .ref t2]) (upd_same (H := upd (upd (upd H D1 (.lst [])) D2 (.lst [])) t1 (.tup [.str "L", .ref al, .ref ar])) (a := t2) (o := .tup [.str "R", .ref ar, .ref al])) ht3
    have c2 := upd_old (u := .tup [.ref t1, .ref t2]) (upd_old (u := .tup [.str "R", .ref ar, .ref al]) (upd_old (u := .tup [.str "L", .ref al, .ref ar]) (upd_same (H := upd H D1 (.lst [])) (a := D2) (o := .lst [])) ht1) ht2) ht3
    have c1 := upd_old (u := .tup [.ref t1, .ref t2]) (upd_old (u := .tup [.str "R", .ref ar, .ref al]) (upd_old (u := .tup [.str "L", .ref al, .ref ar]) (upd_old (u := .lst []) (upd_same (H := H) (a := D1) (o := .lst [])) hD2) ht1) ht2) ht3
    have a3 := upd_same (H := upd (upd (upd (upd H D1 (.lst [])) D2 (.lst [])) t1 (.tup [.str "L", .ref al, .ref ar])) t2 (.tup [.str "R", .ref ar, .ref al])) (a := t3) (o := .tup [.ref t1, .ref t2])
    generalize upd (upd (upd (upd (upd H D1 (.lst [])) D2 (.lst [])) t1 (.tup [.str "L", .ref al, .ref ar])) t2 (.tup [.str "R", .ref ar, .ref al])) t3 (.tup [.ref t1, .ref t2]) = H5 at s1 a1 a2 a3 c1 c2 ⊢
    have hal5 := same_tup s1 hal
    have har5 := same_tup s1 har
    refine for_tup (xs := [.ref t1, .ref t2]) (fun i σ H' => (∃ E1 E2 x6 x7 x8 x9 x10 x11 x12 x13, σ = [some (.ref al), some (.ref ar), some (.str (chS b)), some (.str (chS u)), some (.ref E1), some (.ref E2), x6, x7, x8, x9, x10, x11, x12, x13] ∧
      H' E1 = some (.lst (nV ((if i = 0 then [] else M.loadCosts .L b u l r) ++ (if i = 2 then M.loadCosts .R b u r l else [])))) ∧
      H' E2 = some (.lst (nV ((if i = 0 then [] else M.hitCosts .L u l r) ++ (if i = 2 then M.hitCosts .R u r l else []))))) ∧ Same H5 H')
      ⟨⟨_, _, _, _, _, _, _, _, _, _, rfl, c1, c2⟩, Same.refl _⟩ (fun i σ H' _ p => SqT.of (p.2 _ _ a3)) (fun i x σ H' hx p => ?_) (fun σ H' p => ?_)
    · obtain ⟨⟨E1, E2, x6, x7, x8, x9, x10, x11, x12, x13, rfl, hE1, hE2⟩, s2⟩ := p
      have hi : i = 0 ∨ i = 1 := by
        have := (List.getElem?_eq_some_iff.mp hx).1
        simp at this; omega
      obtain ⟨t, sd, af, ao, f, o, A, B, rfl, ht, hf, ho, hAl, hBl, eA, eA', eB, eB'⟩ : ∃ t sd af ao f o, ∃ A B : List Nat, x = .ref t ∧ H' t = some (.tup [.str (chS sd), .ref af, .ref ao]) ∧ SqT K H' af (needV f) ∧ SqT K H' ao (needV o) ∧ A.length ≤ 5 ∧ B.length ≤ 5 ∧
          ((if i = 0 then [] else M.loadCosts .L b u l r) ++ (if i = 2 then M.loadCosts .R b u r l else [])) = A ∧
          ((if i + 1 = 0 then [] else M.loadCosts .L b u l r) ++ (if i + 1 = 2 then M.loadCosts .R b u r l else [])) = A ++ M.loadCosts sd b u f o ∧
          ((if i = 0 then [] else M.hitCosts .L u l r) ++ (if i = 2 then M.hitCosts .R u r l else [])) = B ∧
          ((if i + 1 = 0 then [] else M.hitCosts .L u l r) ++ (if i + 1 = 2 then M.hitCosts .R u r l else [])) = B ++ M.hitCosts sd u f o := by
        rcases hi with rfl | rfl
        · exact ⟨t1, .L, al, ar, l, r, [], [], (by simpa using hx.symm), s2 _ _ a1, same_tup s2 hal5, same_tup s2 har5, by simp, by simp, by simp, by simp, by simp, by simp⟩
        · have := load_len .L b u l r
          have := hit_len .L u l r
          exact ⟨t2, .R, ar, al, r, l, M.loadCosts .L b u l r, M.hitCosts .L u l r, (by simpa using hx.symm), s2 _ _ a2, same_tup s2 har5, same_tup s2 hal5, by omega, by omega, by simp, by simp, by simp, by simp⟩
      rw [eA] at hE1
      rw [eB] at hE2
      rw [eA', eB']
      clear eA eA' eB eB' hx hi
      refine ⟨t, _, rfl, SqT.of ht, rfl, _, _, rfl, _, _, rfl, _, _, rfl, rfl, ?_⟩
      refine ⟨_, rfl, af, _, rfl, hf, rfl, _, _, rfl, _, _, rfl, _, _, rfl, _, _, rfl, rfl, ?_⟩
      dsimp only
      refine cut_if (fun σ' H'' => ∃ E1', σ' = [some (.ref al), some (.ref ar), some (.str (chS b)), some (.str (chS u)), some (.ref E1'), some (.ref E2), some (.str (chS sd)), some (.ref af), some (.ref ao), some (.int f.p), some (oV f.ld), some (oV f.ht), some (.bl f.em), x13] ∧
        H'' E1' = some (.lst (nV (A ++ M.loadCosts sd b u f o))) ∧ Same H' H'') (fun key => ?_) (fun σ' H'' h => ?_)
      · refine ifS_pure (and_pure (fun Q q => ⟨_, rfl, rfl, _, rfl, q⟩) (fun Q q => ⟨_, rfl, _, rfl, rfl, _, rfl, q⟩)) ?_
        rw [notN_oV, ne_chS]
        cases f with
        | mk fp fl fh fe =>
        cases fl with
        | none =>
          refine iteF (key _ _ ⟨E1, rfl, ?_, Same.refl _⟩)
          rw [hE1]; simp [M.loadCosts]
        | some n =>
          cases hb : (b != sd) with
          | false =>
            refine iteF (key _ _ ⟨E1, rfl, ?_, Same.refl _⟩)
            rw [hE1]; simp [M.loadCosts, hb]
          | true =>
            refine iteT ⟨_, rfl, _, rfl, _, rfl, _, rfl, _, rfl, _, rfl, sd, u, n, fp, ao, o, rfl, ho, fun Hp p g => ?_⟩
            have hl := talk_len sd u n fp o
            refine ⟨E1, p, _, _, rfl, rfl, g.same _ _ hE1, g.at_, sz_le (by rw [nV_len, nV_len]; omega), fun q hq => key _ _ ⟨q, rfl, ?_, g.same.trans (same_new hq)⟩⟩
            rw [upd_same, nV_app]; simp [M.loadCosts, hb]
      · obtain ⟨E1', rfl, hE1', s3⟩ := h
        have hE2 := s3 _ _ hE2
        have ho := same_tup s3 ho
        cases f with
        | mk fp fl fh fe =>
        refine ⟨_, rfl, rfl, _, rfl, ?_⟩
        rw [notN_oV]
        cases fh with
        | none =>
          refine iteF ⟨⟨_, _, _, _, _, _, _, _, _, _, rfl, hE1', ?_⟩, s2.trans s3⟩
          rw [hE2]; simp [M.hitCosts]
        | some n =>
          refine iteT ⟨_, rfl, _, rfl, _, rfl, _, rfl, _, rfl, _, _, rfl, rfl, _, rfl, sd, u, n, fp + 1, ao, o, rfl, ho, fun Hp p g => ?_⟩
          have hl := talk_len sd u n (fp + 1) o
          refine ⟨E2, p, _, _, rfl, rfl, g.same _ _ hE2, g.at_, sz_le (by rw [nV_len, nV_len]; omega), fun q hq => ⟨⟨_, _, _, _, _, _, _, _, _, _, rfl, upd_old (g.same _ _ hE1') hq, ?_⟩, s2.trans (s3.trans (g.same.trans (same_new hq)))⟩⟩
          rw [upd_same, nV_app]; simp [M.hitCosts]
    · obtain ⟨⟨E1, E2, x6, x7, x8, x9, x10, x11, x12, x13, rfl, hE1, hE2⟩, s2⟩ := p
      have hal6 := same_tup s2 hal5
      have har6 := same_tup s2 har5
      dsimp only
      refine asg_pure (andV_pure (fun Q q => ⟨_, rfl, al, _, _, _, rfl, rfl, hal6, atI_nat (j := 3) rfl, q⟩) (andV_pure (fun Q q => ⟨_, rfl, ar, _, _, _, rfl, rfl, har6, atI_nat (j := 3) rfl, q⟩) (fun Q q => ⟨_, rfl, _, rfl, b, u, rfl, q⟩))) ?_
      refine ⟨_, rfl, al, _, _, _, rfl, rfl, hal6, atI_nat (j := 0) rfl, _, rfl, ar, _, _, _, rfl, rfl, har6, atI_nat (j := 0) rfl, _, _, rfl, rfl, _, rfl, E1, _, rfl, SqL.of hE1, _, rfl, E2, _, rfl, SqL.of hE2, _, rfl, szl, fun p hp => k _ _ (s1.trans (s2.trans (same_new hp))) ?_⟩
      rw [upd_same, ← Bool.and_assoc]
      rfl
end
end My

set_option Elab.async false
set_option maxRecDepth 100000
set_option maxHeartbeats 4000000
namespace My
open PySem PySem.Spec PyProof.Rows L2
open M (Ch Need T)
abbrev s_need_of : Stmt := top 25
abbrev N_need_of : List Str := ["node", "needs", "renewed", "word", "number"]
theorem sc_need_of : FnScope N_need_of ["node", "needs", "renewed"] (defScope s_need_of) := ⟨rfl, rfl, rfl, by decide +kernel, rfl, by decide +kernel, by decide +kernel⟩
abbrev s_Tree___len__ : Stmt := inClass (top 33) 3
abbrev N_Tree___len__ : List Str := ["self"]
theorem sc_Tree___len__ : FnScope N_Tree___len__ ["self"] (defScope s_Tree___len__) := ⟨rfl, rfl, rfl, by decide +kernel, rfl, by decide +kernel, by decide +kernel⟩
abbrev s_Tree_forks : Stmt := inClass (top 33) 6
abbrev N_Tree_forks : List Str := ["self"]
theorem sc_Tree_forks : FnScope N_Tree_forks ["self"] (defScope s_Tree_forks) := ⟨rfl, rfl, rfl, by decide +kernel, rfl, by decide +kernel, by decide +kernel⟩
abbrev s_checked_pattern : Stmt := top 12
abbrev N_checked_pattern : List Str := ["tree", "pattern"]
theorem sc_checked_pattern : FnScope N_checked_pattern ["tree", "pattern"] (defScope s_checked_pattern) := ⟨rfl, rfl, rfl, by decide +kernel, rfl, by decide +kernel, by decide +kernel⟩
abbrev s_checked_slots : Stmt := top 15
abbrev N_checked_slots : List Str := ["tree", "slots"]
theorem sc_checked_slots : FnScope N_checked_slots ["tree", "slots"] (defScope s_checked_slots) := ⟨rfl, rfl, rfl, by decide +kernel, rfl, by decide +kernel, by decide +kernel⟩
section
variable {P : Program} {w : World} {K : PySem.W.Frag} {mg : Str → Option Value} {base : Heap} {C : Addr}
def sp_need_of (K : PySem.W.Frag) : Sp := fun vs H Q _ => ∃ (p d b : Addr) (nd : Bool × Nat) (R : List Nat), vs = [.ref p, .ref d, .ref b] ∧ SqT K H p [.str (wordS nd.1), .int (nd.2 : Nat)] ∧ SqL K H b (nV R) ∧
  (nd.1 = true → ∃ kvs v, H d = some (.dK kvs) ∧ valV kvs (Sum.inl (nd.2 : Int)) = some v ∧ Q v H) ∧ (nd.1 = false → ∀ q, (∀ H, SqT K H q (needV (M.leafNeed (M.inOf R nd.2)))) → Q (.ref q) H)
theorem d_need_of {ra oa : Addr} (T : Tx K mg) (G : Gk K mg ra oa) (F : FunAt K mg "need_of" s_need_of) : Def P w K mg base "need_of" ["node", "needs", "renewed"] 1 (sp_need_of K) := by
  refine mk_def F sc_need_of (fun _ _ _ _ _ _ us hl => match us, hl with | [_, _, _], _ => rfl) (fun vs H Q E h => ?_) (fun f cdv A outer s H vs Q E hr h => ?_)
  · obtain ⟨_, _, _, _, _, rfl, _⟩ := h; rfl
  · obtain ⟨p, d, b, ⟨k, x⟩, R, rfl, hp, hb, h1, h2⟩ := h
    refine ⟨_, (pss_cons (ps_asg (pv 0) (pg_tup rfl (pgs_cons (pg_name (i := 3) sc_need_of.nd rfl (Or.inl rfl)) (pgs_cons (pg_name (i := 4) sc_need_of.nd rfl (Or.inl rfl)) pgs_nil))))
      (pss_cons (ps_if (pt_cmpR op_eq (pv 3) pe_str (nomark _)) (pss_one (ps_ret (pe_dget (hu_of hr) (pv 1) (pv 4) (fun _ _ => rfl)))) pss_nil)
      (pss_cons (ps_if (pt_cmpR op_in_seq (pv 4) (pv 2) (by rfl)) (pss_one (ps_ret (pe_glob (v := .ref _) (by rfl) G.g_RENEWED_NEED rfl))) pss_nil)
      (pss_one (ps_ret (pe_glob (v := .ref _) (by rfl) G.g_OTHER_NEED rfl)))))), ?_⟩
    refine ⟨_, rfl, p, _, rfl, hp, rfl, _, _, rfl, _, _, rfl, rfl, ?_⟩
    cases k with
    | true =>
      obtain ⟨kvs, v, hd, hv, q⟩ := h1 rfl
      refine ⟨_, rfl, rfl, _, rfl, iteT ⟨_, rfl, _, rfl, d, v, rfl, ?_, q⟩⟩
      have := DGet.k (k := Sum.inl (x : Int)) hd
      rw [hv] at this
      exact this
    | false =>
      have h2 := h2 rfl
      refine ⟨_, rfl, rfl, _, rfl, iteF ⟨_, rfl, _, rfl, b, _, rfl, .inl hb, rfl, nV_flat _, _, rfl, ?_⟩⟩
      have e : (if false = true then !inV (.int (x : Int)) (nV R) else inV (.int (x : Int)) (nV R)) = M.inOf R x := by
        rw [if_neg (by decide), inV_nV, M.inOf]
        simp
      rw [e]
      cases hx : M.inOf R x with
      | true =>
        refine iteT (h2 _ ?_)
        show ∀ H, SqT K H ra (needV (M.leafNeed (M.inOf R x)))
        rw [hx]; exact G.sr
      | false =>
        refine iteF (h2 _ ?_)
        show ∀ H, SqT K H oa (needV (M.leafNeed (M.inOf R x)))
        rw [hx]; exact G.so

def sp_len (C : Addr) : Sp := fun vs H Q _ => ∃ a t, vs = [.ref a] ∧ TreeAt C H a t ∧ Q (.int (t.sz : Nat)) H
theorem d_len (T : Tx K mg) (Z : Tz K mg C) (F : MFun K C "__len__" "Tree.__len__" s_Tree___len__) : MDef P w K mg base C "__len__" ["self"] 1 (sp_len C) := by
  obtain ⟨g, fd, F, m⟩ := F
  refine ⟨g, fd, m, mk_run F sc_Tree___len__ (fun _ _ _ _ _ _ us hl => match us, hl with | [_], _ => rfl) (fun vs H Q E h => ?_) (fun f cdv A outer s H vs Q E hr h => ?_)⟩
  · obtain ⟨_, _, rfl, _⟩ := h; rfl
  · obtain ⟨a, t, rfl, ht, k⟩ := h
    refine ⟨_, (pss_one (ps_ret (pe_callB call_len_seq (by rfl) T.b_len (by decide +kernel) (pa_cons (pe_fld (pv 0) rfl) pa_nil)))), ?_⟩
    obtain ⟨dx, fs, lp, rp, sp, pp, wp, ls, rs, ss, ws, h1, h2, h3, h4, h5, h6, h7, h8, h9, h10, h11, h12, h13, h14, h15, h16⟩ := ht.ex
    refine ⟨_, rfl, a, C, dx, _, _, rfl, h1, Z.cl, Z.n_ways, h7, _, _, rfl, .inr (SqT.of h15), ?_⟩
    rw [h16]; exact k
def sp_forks (C : Addr) : Sp := fun vs H Q _ => ∃ a t, vs = [.ref a] ∧ TreeAt C H a t ∧ ∀ n : Nat, n + 1 = t.sz → Q (.int n) H
theorem d_forks (T : Tx K mg) (Z : Tz K mg C) (F : PFun K C "forks" "Tree.forks" s_Tree_forks) : PDef P w K mg base C "forks" ["self"] 1 (sp_forks C) := by
  obtain ⟨p, g, fd, F, m⟩ := F
  refine ⟨p, g, fd, m, mk_run F sc_Tree_forks (fun _ _ _ _ _ _ us hl => match us, hl with | [_], _ => rfl) (fun vs H Q E h => ?_) (fun f cdv A outer s H vs Q E hr h => ?_)⟩
  · obtain ⟨_, _, rfl, _⟩ := h; rfl
  · obtain ⟨a, t, rfl, ht, k⟩ := h
    refine ⟨_, (pss_one (ps_ret (pe_callB call_len_seq (by rfl) T.b_len (by decide +kernel) (pa_cons (pe_fld (pv 0) rfl) pa_nil)))), ?_⟩
    obtain ⟨dx, fs, lp, rp, sp, pp, wp, ls, rs, ss, ws, h1, h2, h3, h4, h5, h6, h7, h8, h9, h10, h11, h12, h13, h14, h15, h16⟩ := ht.ex
    exact ⟨_, rfl, a, C, dx, _, _, rfl, h1, Z.cl, Z.n_spans, h5, _, _, rfl, .inr (SqT.of h12), k _ h13⟩

def sp_checked_pattern (C : Addr) : Sp := fun vs H Q _ => ∃ (a : Addr) (t : T) (l : List Ch), vs = [.ref a, .str (patS l)] ∧ TreeAt C H a t ∧ l.length + 1 = t.sz ∧ t.sz ≤ 5 ∧ ∀ H', Same H H' → Q (.str (patS l)) H'
theorem d_checked_pattern (T : Tx K mg) (Z : Tz K mg C) (F : FunAt K mg "checked_pattern" s_checked_pattern) (d_is_made_of : Def P w K mg base "is_made_of" ["value", "signs"] 1 sp_is_made_of) (d_forks : PDef P w K mg base C "forks" ["self"] 1 (sp_forks C)) :
    Def P w K mg base "checked_pattern" ["tree", "pattern"] 3 (sp_checked_pattern C) := by
  refine mk_def F sc_checked_pattern (fun _ _ _ _ _ _ us hl => match us, hl with | [_, _], _ => rfl) (fun vs H Q E h => ?_) (fun f cdv A outer s H vs Q E hr h => ?_)
  · obtain ⟨_, _, _, rfl, _⟩ := h; rfl
  · obtain ⟨a, t, l, rfl, ht, hl, h5, k⟩ := h
    refine ⟨_, (pss_cons (ps_if (PW.pt (pw_or (pt_not (pt_val (pe_def d_is_made_of hr (by rfl) (pa_cons (pv 1) (pa_cons pe_str pa_nil))))) (pw_or1 (pt_cmpR op_ne (pe_callB call_len_str (by rfl) T.b_len (by decide +kernel) (pa_cons (pv 1) pa_nil)) (pe_propD (pv 0) Z.cl d_forks hr rfl) (nomark _))))) (pss_one ps_never) pss_nil)
      (pss_one (ps_ret (pv 1)))), ?_⟩
    refine ⟨_, rfl, l, rfl, by omega, fun H' s1 => ⟨true, rfl, iteF ?_⟩⟩
    obtain ⟨dx, fs, lp, rp, sp, pp, wp, ls, rs, ss, ws, h1, _⟩ := (ht.more s1).ex
    refine ⟨_, rfl, _, rfl, (by rw [show (patS l).length = _ from patS_len l]; exact sz_le (by omega)), _, rfl, a, dx, fs, rfl, h1, a, t, rfl, ht.more s1, fun n hn => ⟨rfl, _, rfl, ?_⟩⟩
    have e : (patS l).length = n := by rw [show (patS l).length = _ from patS_len l]; omega
    rw [e]
    rw [show (!decide (V.int (n : Int) = V.int (n : Int))) = false by simp]
    exact iteF ⟨_, rfl, k _ s1⟩

def sp_checked_slots (C : Addr) : Sp := fun vs H Q _ => ∃ (a b : Addr) (t : T) (R : List Nat), vs = [.ref a, .ref b] ∧ TreeAt C H a t ∧ t.sz ≤ 5 ∧ H b = some (.lst (nV R)) ∧ R.Nodup ∧ (∀ x ∈ R, x < t.sz) ∧ R.length ≤ 1000 ∧ ∀ H' p, Gw H p (.lst (nV R)) H' → Q (.ref p) H'
theorem d_checked_slots (T : Tx K mg) (Z : Tz K mg C) (F : FunAt K mg "checked_slots" s_checked_slots) (d_different_slots : Def P w K mg base "different_slots" ["many", "slots"] 3 sp_different_slots) (d_len : MDef P w K mg base C "__len__" ["self"] 1 (sp_len C)) :
    Def P w K mg base "checked_slots" ["tree", "slots"] 4 (sp_checked_slots C) := by
  refine mk_def F sc_checked_slots (fun _ _ _ _ _ _ us hl => match us, hl with | [_, _], _ => rfl) (fun vs H Q E h => ?_) (fun f cdv A outer s H vs Q E hr h => ?_)
  · obtain ⟨_, _, _, _, rfl, _⟩ := h; rfl
  · obtain ⟨a, b, t, R, rfl, ht, h5, hb, hn, hx, hl, k⟩ := h
    refine ⟨_, (pss_one (ps_ret (pe_def d_different_slots hr (by rfl) (pa_cons (pe_callB (call_lenD d_len hr) (by rfl) T.b_len (by decide +kernel) (pa_cons (pv 0) pa_nil)) (pa_cons (pv 1) pa_nil))))), ?_⟩
    obtain ⟨dx, fs, lp, rp, sp, pp, wp, ls, rs, ss, ws, h1, _⟩ := ht.ex
    exact ⟨_, rfl, a, dx, fs, rfl, h1, a, t, rfl, ht, (t.sz : Int), rfl, by omega, by omega, _, rfl, t.sz, b, R, rfl, hb, hn, hx, hl, k⟩
end
end My

set_option Elab.async false
set_option maxRecDepth 100000
set_option maxHeartbeats 4000000
namespace My
open PySem PySem.Spec PyProof.Rows L2
open M (Ch Need T)
abbrev s_need_rows : Stmt := top 24
abbrev N_need_rows : List Str := ["tree", "start", "end", "renewed", "needs", "rows", "fork", "left", "right", "renewals", "by_load", "by_hit", "may_be_empty"]
theorem sc_need_rows : FnScope N_need_rows ["tree", "start", "end", "renewed"] (defScope s_need_rows) := ⟨rfl, rfl, rfl, by decide +kernel, rfl, by decide +kernel, by decide +kernel⟩
abbrev s_Tree_walk : Stmt := inClass (top 33) 15
section
variable {P : Program} {w : World} {K : PySem.W.Frag} {mg : Str → Option Value} {base : Heap} {C : Addr}
def RowAt (H : Hp) (v : V) (r : Nat × Need) : Prop := ∃ q, v = .ref q ∧ H q = some (.tup (.int (r.1 : Nat) :: needV r.2))
theorem RowAt.more {H H' : Hp} (s : Same H H') {v : V} {r : Nat × Need} (h : RowAt H v r) : RowAt H' v r := by
  obtain ⟨q, e, h⟩ := h
  exact ⟨q, e, s _ _ h⟩
def sp_need_rows (K : PySem.W.Frag) (C : Addr) : Sp := fun vs H Q _ => ∃ (a b : Addr) (t : T) (s e : List Ch) (R : List Nat), vs = [.ref a, .str (patS s), .str (patS e), .ref b] ∧ TreeAt C H a t ∧ t.sz ≤ 5 ∧ s.length + 1 = t.sz ∧ e.length + 1 = t.sz ∧ SqL K H b (nV R) ∧
  ∀ H' p us, Same H H' → H p = none → H' p = some (.lst us) → Al (RowAt H') us (M.needRows t s e R) → Q (.ref p) H'
def WalkAt (K : PySem.W.Frag) (C : Addr) : Prop := ∃ g fd, Meth K C "walk" g ∧ Gx.WalkFn K "walk" "last" g fd "Tree.walk" (defScope s_Tree_walk) (defBody s_Tree_walk)
theorem need_use {p d b : Addr} {nd : Bool × Nat} {R : List Nat} {H : Hp} {Q : VK} {n : Need} (hp : SqT K H p [.str (wordS nd.1), .int (nd.2 : Nat)]) (hb : SqL K H b (nV R))
    (h : (nd.1 = true ∧ ∃ kvs q, H d = some (.dK kvs) ∧ valV kvs (Sum.inl (nd.2 : Int)) = some (.ref q) ∧ H q = some (.tup (needV n))) ∨ (nd.1 = false ∧ n = M.leafNeed (M.inOf R nd.2))) (k : ∀ q, SqT K H q (needV n) → Q (.ref q) H) : sp_need_of K [.ref p, .ref d, .ref b] H Q E0 := by
  refine ⟨p, d, b, nd, R, rfl, hp, hb, fun e => ?_, fun e q hq => ?_⟩
  · rcases h with ⟨_, kvs, q, h1, h2, h3⟩ | ⟨h, _⟩
    · exact ⟨kvs, _, h1, h2, k _ (SqT.of h3)⟩
    · rw [e] at h; cases h
  · rcases h with ⟨h, _⟩ | ⟨_, h⟩
    · rw [e] at h; cases h
    · rw [← h] at hq; exact k _ (hq H)
theorem for_gen {t : Addr} {xs : List V} {g : TG} {tb : TS} {D : Ends} {σ : L2.St} {H : Hp} (Pv : Nat → L2.St → Hp → Prop) (h0 : Pv 0 σ H) (hl : ∀ i σ H, i ≤ xs.length → Pv i σ H → H t = some (.tup xs))
    (hs : ∀ i x σ H, xs[i]? = some x → Pv i σ H → g x σ H fun σ2 H2 => tb { D with nx := Pv (i + 1), ct := Pv (i + 1), bk := D.nx } σ2 H2) (hd : ∀ σ H, Pv xs.length σ H → D.nx σ H) :
    ∃ W : Nat → Nat → L2.St → Hp → Prop, (∃ m, W 0 m σ H) ∧ ∀ i m σ H, W i m σ H → H t = some (.tup xs) ∧
    ((i = xs.length ∧ D.nx σ H) ∨ ∃ x, xs[i]? = some x ∧ ∃ N : L2.St → Hp → Prop, (∀ σ' H', N σ' H' → ∃ m', m' < m ∧ W (i + 1) m' σ' H') ∧ g x σ H fun σ2 H2 => tb { D with nx := N, ct := N, bk := D.nx } σ2 H2) := by
  refine ⟨fun i m σ H => m = xs.length - i ∧ i ≤ xs.length ∧ Pv i σ H, ⟨xs.length, by simp, Nat.zero_le _, h0⟩, ?_⟩
  rintro i m σ H ⟨rfl, hi, p⟩
  refine ⟨hl i σ H hi p, ?_⟩
  by_cases hlt : i < xs.length
  · have hx : xs[i]? = some xs[i] := by simp [hlt]
    exact .inr ⟨xs[i], hx, Pv (i + 1), fun σ' H' p' => ⟨xs.length - (i + 1), by omega, rfl, hlt, p'⟩, hs i _ σ H hx p⟩
  · have e : i = xs.length := by omega
    subst e
    exact .inl ⟨rfl, hd σ H p⟩
def subNeed (s e : List Ch) (R : List Nat) (u : T × Nat) : Need := M.need (M.gOf u.1 (M.fnOf s) (M.fnOf e) (M.inOf R) u.2)
theorem word_of (l : T) (o : Nat) : (M.nodeOf l o).1 = (l != .lf) := by cases l <;> rfl
theorem fork_of {l : T} {o : Nat} (h : l ≠ .lf) : (M.nodeOf l o).2 = M.forkOf l o := by
  cases l with
  | lf => exact absurd rfl h
  | nd l r => rfl
theorem pat_at {l : List Ch} {i : Nat} (h : i < l.length) : atI (patS l).cps.toList (i : Int) = some (cn (M.fnOf l i)) := by
  refine atI_nat ?_
  rw [patS_get, List.getElem?_eq_getElem h, M.fnOf]
  simp [h]
theorem d_need_rows (T : Tx K mg) (Z : Tz K mg C) (WK : WalkAt K C) (F : FunAt K mg "need_rows" s_need_rows) (d_need_of : Def P w K mg base "need_of" ["node", "needs", "renewed"] 1 (sp_need_of K))
    (d_fork_need : Def P w K mg base "fork_need" ["left", "right", "before", "wanted"] 2 (sp_fork_need K)) : Def P w K mg base "need_rows" ["tree", "start", "end", "renewed"] 3 (sp_need_rows K C) := by
  obtain ⟨wg, wfd, mw, ww⟩ := WK
  refine mk_def F sc_need_rows (fun _ _ _ _ _ _ us hl => match us, hl with | [_, _, _, _], _ => rfl) (fun vs H Q E h => ?_) (fun f cdv A outer s H vs Q E hr h => ?_)
  · obtain ⟨_, _, _, _, _, _, rfl, _⟩ := h; rfl
  · obtain ⟨a, b, t, st, en, R, rfl, ht, h5, hst, hen, hb, k⟩ := h
    have hrW : Room 2 _ := hr
    refine ⟨_, (pss_cons (ps_set (i := 4) sc_need_rows.nd rfl (Or.inl rfl) pe_dnewK)
      (pss_cons (ps_set (i := 5) sc_need_rows.nd rfl (Or.inl rfl) (pe_lst pa_nil))
      (pss_cons (Gx.ps_forW rfl rfl (pv 0) Z.cl mw Z.n_postorder ww hrW (pg_name (i := 6) sc_need_rows.nd rfl (Or.inl rfl)) (pss_cons (ps_set (i := 7) sc_need_rows.nd rfl (Or.inl rfl) (pe_def d_need_of hr (by rfl) (pa_cons (pe_ix ix_tup (pe_fld (pv 0) rfl) (pv 6) (fun _ _ => rfl)) (pa_cons (pv 4) (pa_cons (pv 3) pa_nil)))))
      (pss_cons (ps_set (i := 8) sc_need_rows.nd rfl (Or.inl rfl) (pe_def d_need_of hr (by rfl) (pa_cons (pe_ix ix_tup (pe_fld (pv 0) rfl) (pv 6) (fun _ _ => rfl)) (pa_cons (pv 4) (pa_cons (pv 3) pa_nil)))))
      (pss_cons (ps_asg (pe_def d_fork_need hr (by rfl) (pa_cons (pv 7) (pa_cons (pv 8) (pa_cons (pe_ix ix_str (pv 1) (pv 6) (fun _ _ => rfl)) (pa_cons (pe_ix ix_str (pv 2) (pv 6) (fun _ _ => rfl)) pa_nil))))) (pg_tup rfl (pgs_cons (pg_name (i := 9) sc_need_rows.nd rfl (Or.inl rfl)) (pgs_cons (pg_name (i := 10) sc_need_rows.nd rfl (Or.inl rfl)) (pgs_cons (pg_name (i := 11) sc_need_rows.nd rfl (Or.inl rfl)) (pgs_cons (pg_name (i := 12) sc_need_rows.nd rfl (Or.inl rfl)) pgs_nil))))))
      (pss_cons (ps_dput (hu_of hr) (pv 4) (pv 6) (pe_tup (pa_cons (pv 9) (pa_cons (pv 10) (pa_cons (pv 11) (pa_cons (pv 12) pa_nil))))) rfl)
      (pss_one (ps_expr (pe_bm PySem.F.plainAttrs_list PySem.F.slot_list_append PySem.F.type_list_append mt_append (pv 5) (pa_cons (pe_tup (pa_cons (pv 6) (pa_cons (pv 9) (pa_cons (pv 10) (pa_cons (pv 11) (pa_cons (pv 12) pa_nil)))))) pa_nil)))))))) rfl rfl rfl rfl (fun _ _ => rfl))
      (pss_one (ps_ret (pv 5)))))), ?_⟩
    refine fun d hd => ?_
    refine ⟨szl, fun l hl => ?_⟩
    obtain ⟨dx, fs, lp, rp, sp, pp, wp, ls, rs, ss, ws, h1, h2, h3, h4, _, h6, _, h8, h9, h10, h11, _, _, h14, _, _⟩ := ht.ex
    have s1 : Same H (upd (upd H d (.dK [])) l (.lst [])) := (same_new hd).trans (same_new hl)
    have nl : H l = none := (same_new (u := .dK []) hd).free hl
    have ndl : l ≠ d := fun z => by rw [z, upd_same] at hl; cases hl
    refine ⟨_, rfl, a, dx, fs, pp, nV (M.post t), rfl, s1 _ _ h1, h2, h6, for_gen (fun i σ H' => (∃ x6 x7 x8 x9 x10 x11 x12, σ = [some (.ref a), some (.str (patS st)), some (.str (patS en)), some (.ref b), some (.ref d), some (.ref l), x6, x7, x8, x9, x10, x11, x12]) ∧ Same H H' ∧
      (∃ kvs, H' d = some (.dK kvs) ∧ kvs.length ≤ i ∧ ∀ j u, j < i → (M.subs t 0)[j]? = some u → ∃ q, valV kvs (Sum.inl (M.forkOf u.1 u.2 : Int)) = some (.ref q) ∧ H' q = some (.tup (needV (subNeed st en R u)))) ∧
      ∃ us, H' l = some (.lst us) ∧ Al (RowAt H') us ((M.needRows t st en R).take i))
      ⟨⟨_, _, _, _, _, _, _, rfl⟩, s1, ⟨[], upd_old upd_same hl, Nat.le_refl _, fun j u hj => absurd hj (by omega)⟩, [], upd_same, Al.nil⟩ (fun i σ H' _ p => p.2.1 _ _ h14) (fun i x σ H' hx p => ?_) (fun σ H' p => ?_)⟩
    · obtain ⟨⟨x6, x7, x8, x9, x10, x11, x12, rfl⟩, s2, ⟨kvs, hkv, hkl, hk⟩, us, hus, hal⟩ := p
      rw [nV_get, M.post, List.getElem?_map] at hx
      obtain ⟨fk, hfk, rfl⟩ := Option.map_eq_some_iff.mp hx
      obtain ⟨u, hu, rfl⟩ := Option.map_eq_some_iff.mp hfk
      obtain ⟨L, Rr, eu, hlt, hkid, hL, hR⟩ := M.sub_at h5 hu
      have hkl1 : ((M.kids t 0).map (·.1))[M.forkOf u.1 u.2]? = some (M.nodeOf L u.2) := by rw [List.getElem?_map, hkid]; rfl
      have hkr1 : ((M.kids t 0).map (·.2))[M.forkOf u.1 u.2]? = some (M.nodeOf Rr (u.2 + L.sz)) := by rw [List.getElem?_map, hkid]; rfl
      obtain ⟨lv, hlv, p1, rfl, hp1⟩ := h9.get' hkl1
      obtain ⟨rv, hrv, p2, rfl, hp2⟩ := h11.get' hkr1
      have caseN : ∀ (w : M.T) (o : Nat), (w = .lf ∨ ∃ j, j < i ∧ (M.subs t 0)[j]? = some (w, o)) → ((M.nodeOf w o).1 = true ∧ ∃ kvs q, H' d = some (.dK kvs) ∧ valV kvs (Sum.inl ((M.nodeOf w o).2 : Int)) = some (.ref q) ∧ H' q = some (.tup (needV (subNeed st en R (w, o))))) ∨
          ((M.nodeOf w o).1 = false ∧ subNeed st en R (w, o) = M.leafNeed (M.inOf R (M.nodeOf w o).2)) := by
        intro w o h
        by_cases hw : w = .lf
        · subst hw; exact .inr ⟨rfl, rfl⟩
        · rcases h with h | ⟨j, hj, hs⟩
          · exact absurd h hw
          · obtain ⟨q, q1, q2⟩ := hk j _ hj hs
            refine .inl ⟨by rw [word_of]; simpa using hw, kvs, q, hkv, ?_, q2⟩
            rw [fork_of hw]; exact q1
      refine ⟨_, rfl, a, C, dx, _, _, rfl, s2 _ _ h1, Z.cl, Z.n_lefts, h3, _, rfl, lp, ls, _, _, rfl, rfl, SqT.of (s2 _ _ h8), atI_nat hlv, _, rfl, _, rfl, need_use (SqT.of (s2 _ _ hp1)) (s2.seq hb) (caseN _ _ hL) (fun q1 hq1 => ?_)⟩
      refine ⟨_, rfl, a, C, dx, _, _, rfl, s2 _ _ h1, Z.cl, Z.n_rights, h4, _, rfl, rp, rs, _, _, rfl, rfl, SqT.of (s2 _ _ h10), atI_nat hrv, _, rfl, _, rfl, need_use (SqT.of (s2 _ _ hp2)) (s2.seq hb) (caseN _ _ hR) (fun q2 hq2 => ?_)⟩
      have hl1 : (patS st).length ≤ sizeLine := by rw [show (patS st).length = _ from patS_len st]; exact sz_le (by omega)
      have hl2 : (patS en).length ≤ sizeLine := by rw [show (patS en).length = _ from patS_len en]; exact sz_le (by omega)
      refine ⟨_, rfl, _, rfl, _, rfl, _, rfl, _, _, _, rfl, rfl, hl1, pat_at (by omega), _, rfl, _, rfl, _, _, _, rfl, rfl, hl2, pat_at (by omega), q1, q2, _, _, _, _, rfl, hq1, hq2, fun H2 q s3 hq => ?_⟩
      have eN : M.forkNeed (subNeed st en R (L, u.2)) (subNeed st en R (Rr, u.2 + L.sz)) (M.fnOf st (M.forkOf u.1 u.2)) (M.fnOf en (M.forkOf u.1 u.2)) = subNeed st en R u := by
        obtain ⟨u1, u2⟩ := u
        subst eu
        rfl
      rw [eN] at hq
      refine ⟨q, _, rfl, SqT.of hq, rfl, _, _, rfl, _, _, rfl, _, _, rfl, _, _, rfl, rfl, ?_⟩
      refine ⟨_, rfl, _, rfl, _, rfl, _, rfl, szl, fun t1 ht1 => ?_⟩
      have hd2 : upd H2 t1 (.tup (needV (subNeed st en R u))) d = some (.dK kvs) := upd_old (s3 _ _ hkv) ht1
      refine ⟨_, rfl, _, rfl, d, _, rfl, DPut.k (k := Sum.inl (M.forkOf u.1 u.2 : Int)) hd2 (sz_lt (by have := M.subs_len t 0; have := (List.getElem?_eq_some_iff.mp hu).1; omega)), ?_⟩
      have hl3 : upd H2 t1 (.tup (needV (subNeed st en R u))) l = some (.lst us) := upd_old (s3 _ _ hus) ht1
      have hl4 := upd_far (p := d) (u := .dK (putK kvs (Sum.inl (M.forkOf u.1 u.2 : Int)) (.ref t1))) hl3 ndl
      have ntd : t1 ≠ d := fun z => by rw [z, s3 _ _ hkv] at ht1; cases ht1
      have hlen : us.length < 100000 := by
        have e1 := hal.len
        have e2 : (M.needRows t st en R).length = (M.subs t 0).length := by simp [M.needRows]
        have e3 := M.subs_len t 0
        rw [List.length_take] at e1
        omega
      refine ⟨_, rfl, .inl ⟨rfl, _, SqL.of hl4⟩, _, rfl, _, rfl, _, rfl, _, rfl, _, rfl, szl, fun t2 ht2 => ⟨l, _, _, rfl, rfl, upd_old hl4 ht2, sz_lt hlen, ?_⟩⟩
      have ntl : t2 ≠ l := fun z => by subst z; exact absurd (hl4.symm.trans ht2) (by intro q; cases q)
      have nt2d : t2 ≠ d := fun z => by rw [z, upd_same] at ht2; cases ht2
      have sA : ∀ (z : Addr) (o : HO), H2 z = some o → z ≠ d → z ≠ l → (upd (upd (upd (upd H2 t1 (.tup (needV (subNeed st en R u)))) d (.dK (putK kvs (Sum.inl (M.forkOf u.1 u.2 : Int)) (.ref t1)))) t2 (.tup [.int (M.forkOf u.1 u.2 : Nat), .int ((subNeed st en R u).p : Nat), oV (subNeed st en R u).ld, oV (subNeed st en R u).ht, .bl (subNeed st en R u).em])) l (.lst (us ++ [.ref t2]))) z = some o := fun z o h1 h2 h3 =>
        upd_far (upd_old (upd_far (upd_old h1 ht1) h2) ht2) h3
      have hkept : ∀ (z : Addr) (o : HO), H z = some o → z ≠ d ∧ z ≠ l := fun z o h => ⟨fun e => (by rw [e, hd] at h; cases h), fun e => (by rw [e, nl] at h; cases h)⟩
      refine ⟨⟨_, _, _, _, _, _, _, rfl⟩, fun z o h => sA z o (s3 _ _ (s2 _ _ h)) (hkept z o h).1 (hkept z o h).2, ⟨_, upd_far (upd_old upd_same ht2) (Ne.symm ndl), ?_, fun j v hj hv => ?_⟩, _, upd_same, ?_⟩
      · unfold putK
        split
        · simp; omega
        · simp; omega
      · rw [valV_put]
        have hp := M.post_nodup h5
        by_cases hji : j = i
        · subst hji
          rw [hu] at hv
          cases hv
          exact ⟨t1, by rw [if_pos rfl], upd_far (upd_old (upd_far upd_same ntd) ht2) (fun z => by rw [z, s3 _ _ hus] at ht1; cases ht1)⟩
        · obtain ⟨q, hq1, hq2⟩ := hk j v (by omega) hv
          have hne : ¬ (Sum.inl (M.forkOf v.1 v.2 : Int) : Key) = Sum.inl (M.forkOf u.1 u.2 : Int) := by
            intro z
            have z : M.forkOf v.1 v.2 = M.forkOf u.1 u.2 := by have := Sum.inl.inj z; omega
            exact hji (nodup_idx (a := M.forkOf u.1 u.2) hp (by rw [M.post, List.getElem?_map, hv]; simp [z]) (by rw [M.post, List.getElem?_map, hu]; rfl))
          refine ⟨q, by rw [if_neg hne]; exact hq1, sA q _ (s3 _ _ hq2) (fun z => by rw [z, hkv] at hq2; cases hq2) (fun z => by rw [z, hus] at hq2; cases hq2)⟩
      · have hr1 : (M.needRows t st en R)[i]? = some (M.forkOf u.1 u.2, subNeed st en R u) := by rw [M.needRows, List.getElem?_map, hu]; rfl
        rw [take_snoc hr1]
        refine Al.push (hal.imp fun x y h => ?_) ⟨t2, rfl, upd_far upd_same ntl⟩
        obtain ⟨q, e, h⟩ := h
        exact ⟨q, e, sA q _ (s3 _ _ h) (fun z => by rw [z, hkv] at h; cases h) (fun z => by rw [z, hus] at h; cases h)⟩
    · obtain ⟨⟨x6, x7, x8, x9, x10, x11, x12, rfl⟩, s2, ⟨kvs, hkv, hkl, hk⟩, us, hus, hal⟩ := p
      refine ⟨_, rfl, k _ _ us s2 nl hus ?_⟩
      have e : (M.needRows t st en R).take (nV (M.post t)).length = M.needRows t st en R := by
        rw [nV_len, M.post, List.length_map]
        rw [show (M.subs t 0).length = (M.needRows t st en R).length by simp [M.needRows]]
        exact all_take _
      rw [e] at hal
      exact hal
end
end My

set_option Elab.async false
set_option maxRecDepth 100000
set_option maxHeartbeats 4000000
namespace My
open PySem PySem.Spec PyProof.Rows L2
open M (Ch Need T)
abbrev s_least_of : Stmt := top 23
abbrev N_least_of : List Str := ["tree", "start", "end", "renewed", "rows", "_", "by_load", "by_hit", "may_be_empty", "cost"]
theorem sc_least_of : FnScope N_least_of ["tree", "start", "end", "renewed"] (defScope s_least_of) := ⟨rfl, rfl, rfl, by decide +kernel, rfl, by decide +kernel, by decide +kernel⟩
abbrev s_least_requests : Stmt := top 21
abbrev N_least_requests : List Str := ["tree", "start", "end", "renewed"]
theorem sc_least_requests : FnScope N_least_requests ["tree", "start", "end", "renewed"] (defScope s_least_requests) := ⟨rfl, rfl, rfl, by decide +kernel, rfl, by decide +kernel, by decide +kernel⟩
abbrev s_need_table : Stmt := top 22
abbrev N_need_table : List Str := ["tree", "start", "end", "renewed"]
theorem sc_need_table : FnScope N_need_table ["tree", "start", "end", "renewed"] (defScope s_need_table) := ⟨rfl, rfl, rfl, by decide +kernel, rfl, by decide +kernel, by decide +kernel⟩
section
variable {P : Program} {w : World} {K : PySem.W.Frag} {mg : Str → Option Value} {base : Heap} {C : Addr}
def sp_least_of (K : PySem.W.Frag) (C : Addr) : Sp := fun vs H Q _ => ∃ (a b : Addr) (t : T) (s e : List Ch) (R : List Nat), vs = [.ref a, .str (patS s), .str (patS e), .ref b] ∧ TreeAt C H a t ∧ t.sz ≤ 5 ∧ s.length + 1 = t.sz ∧ e.length + 1 = t.sz ∧ SqL K H b (nV R) ∧ R.Nodup ∧ (∀ x ∈ R, x < t.sz) ∧
  ∀ H', Same H H' → Q (oV (M.leastN (M.need (M.askOf t s e R)))) H'
theorem need_last {t : M.T} (s e : List Ch) (R : List Nat) (h : t ≠ .lf) : (M.needRows t s e R).getLast? = some (M.forkOf t 0, M.need (M.askOf t s e R)) := by
  cases t with
  | lf => exact absurd rfl h
  | nd l r => simp [M.needRows, M.subs, M.askOf]
theorem one_slot {R : List Nat} (hn : R.Nodup) (hx : ∀ x ∈ R, x < 1) : (V.int (R.length : Int)) = oV (M.leastN (M.leafNeed (M.inOf R 0))) := by
  match R, hn, hx with
  | [], _, _ => rfl
  | [x], _, hx =>
    have : x = 0 := by have := hx x (by simp); omega
    subst this; rfl
  | x :: y :: r, hn, hx =>
    have h1 := hx x (by simp)
    have h2 := hx y (by simp)
    have : x = y := by omega
    subst this
    simp at hn
theorem d_least_of (T : Tx K mg) (F : FunAt K mg "least_of" s_least_of) (d_need_rows : Def P w K mg base "need_rows" ["tree", "start", "end", "renewed"] 3 (sp_need_rows K C)) (d_smallest : Def P w K mg base "smallest" ["costs"] 1 (sp_smallest K)) :
    Def P w K mg base "least_of" ["tree", "start", "end", "renewed"] 4 (sp_least_of K C) := by
  refine mk_def F sc_least_of (fun _ _ _ _ _ _ us hl => match us, hl with | [_, _, _, _], _ => rfl) (fun vs H Q E h => ?_) (fun f cdv A outer s H vs Q E hr h => ?_)
  · obtain ⟨_, _, _, _, _, _, rfl, _⟩ := h; rfl
  · obtain ⟨a, b, t, st, en, R, rfl, ht, h5, hst, hen, hb, hn, hx, k⟩ := h
    refine ⟨_, (pss_cons (ps_set (i := 4) sc_least_of.nd rfl (Or.inl rfl) (pe_def d_need_rows hr (by rfl) (pa_cons (pv 0) (pa_cons (pv 1) (pa_cons (pv 2) (pa_cons (pv 3) pa_nil))))))
      (pss_cons (ps_if (pt_cmpR op_eq (pe_callB call_len_seq (by rfl) T.b_len (by decide +kernel) (pa_cons (pv 4) pa_nil)) pe_int (nomark _)) (pss_one (ps_ret (pe_callB call_len_seq (by rfl) T.b_len (by decide +kernel) (pa_cons (pv 3) pa_nil)))) pss_nil)
      (pss_cons (ps_asg (pe_ix ix_list (pv 4) (pe_un un_neg pe_int) (fun _ _ => rfl)) (pg_tup rfl (pgs_cons (pg_name (i := 5) sc_least_of.nd rfl (Or.inl rfl)) (pgs_cons (pg_name (i := 5) sc_least_of.nd rfl (Or.inl rfl)) (pgs_cons (pg_name (i := 6) sc_least_of.nd rfl (Or.inl rfl)) (pgs_cons (pg_name (i := 7) sc_least_of.nd rfl (Or.inl rfl)) (pgs_cons (pg_name (i := 8) sc_least_of.nd rfl (Or.inl rfl)) pgs_nil)))))))
      (pss_cons (ps_if (pt_val (pv 8)) (pss_one (ps_ret pe_int)) pss_nil)
      (pss_one (ps_ret (pe_def d_smallest hr (by rfl) (pa_cons (pe_lc (own := [("cost", 9)]) rfl sc_least_of.nd (pi_tup (pe_tup (pa_cons (pv 6) (pa_cons (pv 7) pa_nil)))) (blkOk_by (own := [("cost", 9)]) (N := N_least_of) (sc := defScope s_least_of) (by decide +kernel)) (fun _ _ _ _ _ => (pg_name (i := 9) sc_least_of.nd rfl (Or.inl rfl))) (fun _ _ _ _ _ => (pts_one (pt_cmpR op_notN (pv 9) pe_non (nomark _)))) (fun _ _ _ _ _ => (pv 9))) pa_nil)))))))), ?_⟩
    refine ⟨_, rfl, _, rfl, _, rfl, _, rfl, a, b, t, st, en, R, rfl, ht, h5, hst, hen, hb, fun H1 p us s1 np hp hal => ?_⟩
    have hlen : us.length + 1 = t.sz := by
      rw [hal.len, M.needRows, List.length_map]
      exact M.subs_len t 0
    refine ⟨_, rfl, _, _, rfl, .inl (SqL.of hp), rfl, _, rfl, ?_⟩
    refine ite2 (fun h => ?_) (fun h => ?_)
    · have h : (us.length : Int) = 0 := by simpa using of_decide_eq_true h
      have e : t = .lf := by
        cases t with
        | lf => rfl
        | nd l r => have := l.sz_pos; have := r.sz_pos; simp only [M.T.sz] at hlen; omega
      subst e
      refine ⟨_, rfl, _, _, rfl, .inl (s1.seq hb), ?_⟩
      rw [nV_len, one_slot hn hx]
      exact k _ s1
    · have h : ¬ (us.length : Int) = 0 := fun z => h (decide_eq_true (by rw [z]))
      have hne : t ≠ .lf := fun z => by subst z; simp [M.T.sz] at hlen; rw [hlen] at h; exact h rfl
      have hlast : ∃ i v, us = i ++ [v] ∧ RowAt H1 v (M.forkOf t 0, M.need (M.askOf t st en R)) := by
        have hu : us ≠ [] := fun z => by rw [z] at h; exact h rfl
        refine ⟨us.dropLast, us.getLast hu, (List.dropLast_concat_getLast hu).symm, ?_⟩
        have e1 := need_last st en R hne
        rw [List.getLast?_eq_getElem?] at e1
        obtain ⟨x, hx1, hx2⟩ := hal.get' e1
        have e2 : us.getLast hu = x := by
          have e3 : us.getLast? = some x := by rw [List.getLast?_eq_getElem?, ← hx1, hal.len]
          rw [List.getLast?_eq_some_getLast hu] at e3
          exact Option.some.inj e3
        rw [e2]; exact hx2
      obtain ⟨i, v, rfl, q, rfl, hq⟩ := hlast
      generalize M.need (M.askOf t st en R) = N at hq k
      refine ⟨_, rfl, 1, rfl, p, _, _, _, rfl, rfl, SqL.of hp, atI_last _ _, q, _, rfl, SqT.of hq, rfl, _, _, rfl, _, _, rfl, _, _, rfl, _, _, rfl, _, _, rfl, rfl, ?_⟩
      refine ⟨_, rfl, _, rfl, ?_⟩
      cases N with
      | mk np nl nh ne =>
      cases ne with
      | true => exact iteT (k _ s1)
      | false =>
        refine iteF ?_
        refine ⟨_, rfl, _, rfl, szl, fun t0 ht0 => ⟨t0, rfl, ⟨_, SqT.of upd_same⟩, fun D hD => ?_⟩⟩
        refine lc_acc (walk_tup (K := K) (a := t0) (xs := [oV nl, oV nh])) (fun i => nV (([nl, nh].take i).filterMap id)) hD rfl (fun H' s2 => same_tup s2 (SqT.of upd_same)) (fun i x H2 H3 hi g y => ?_) (fun H2 g => ?_)
        · obtain ⟨rfl, hx⟩ := y
          obtain ⟨o, ho, rfl⟩ : ∃ o, [nl, nh][i]? = some o ∧ x = oV o := by
            have hi : i = 0 ∨ i = 1 := by simp at hi; omega
            rcases hi with rfl | rfl
            · exact ⟨nl, rfl, by simpa using hx.symm⟩
            · exact ⟨nh, rfl, by simpa using hx.symm⟩
          rw [take_snoc ho] at *
          have hl : (([nl, nh].take i).filterMap id).length ≤ 2 := Nat.le_trans (List.length_filterMap_le _ _) (by rw [List.length_take]; simp; omega)
          cases o with
          | none =>
            refine ⟨rfl, _, rfl, rfl, _, rfl, iteF ?_⟩
            simpa using g
          | some n =>
            refine ⟨rfl, _, rfl, rfl, _, rfl, iteT ⟨_, rfl, g.push (by rw [nV_len]; omega) ?_⟩⟩
            simp [nV]; rfl
        · refine ⟨D, _, rfl, SqL.of g.at_, ?_⟩
          exact k _ (s1.trans ((same_new ht0).trans g.same))

def sp_least_requests (C : Addr) : Sp := fun vs H Q _ => ∃ (a b : Addr) (t : T) (s e : List Ch) (R : List Nat), vs = [.ref a, .str (patS s), .str (patS e), .ref b] ∧ TreeAt C H a t ∧ t.sz ≤ 5 ∧ s.length + 1 = t.sz ∧ e.length + 1 = t.sz ∧ H b = some (.lst (nV R)) ∧ R.Nodup ∧ (∀ x ∈ R, x < t.sz) ∧ R.length ≤ 1000 ∧
  ∀ H', Same H H' → Q (oV (M.leastN (M.need (M.askOf t s e R)))) H'
theorem d_least_requests (F : FunAt K mg "least_requests" s_least_requests) (d_checked_pattern : Def P w K mg base "checked_pattern" ["tree", "pattern"] 3 (sp_checked_pattern C)) (d_checked_slots : Def P w K mg base "checked_slots" ["tree", "slots"] 4 (sp_checked_slots C))
    (d_least_of : Def P w K mg base "least_of" ["tree", "start", "end", "renewed"] 4 (sp_least_of K C)) : Def P w K mg base "least_requests" ["tree", "start", "end", "renewed"] 5 (sp_least_requests C) := by
  refine mk_def F sc_least_requests (fun _ _ _ _ _ _ us hl => match us, hl with | [_, _, _, _], _ => rfl) (fun vs H Q E h => ?_) (fun f cdv A outer s H vs Q E hr h => ?_)
  · obtain ⟨_, _, _, _, _, _, rfl, _⟩ := h; rfl
  · obtain ⟨a, b, t, st, en, R, rfl, ht, h5, hst, hen, hb, hn, hx, hl, k⟩ := h
    refine ⟨_, (pss_cons (ps_set (i := 1) sc_least_requests.nd rfl (Or.inl rfl) (pe_def d_checked_pattern hr (by rfl) (pa_cons (pv 0) (pa_cons (pv 1) pa_nil))))
      (pss_cons (ps_set (i := 2) sc_least_requests.nd rfl (Or.inl rfl) (pe_def d_checked_pattern hr (by rfl) (pa_cons (pv 0) (pa_cons (pv 2) pa_nil))))
      (pss_cons (ps_set (i := 3) sc_least_requests.nd rfl (Or.inl rfl) (pe_def d_checked_slots hr (by rfl) (pa_cons (pv 0) (pa_cons (pv 3) pa_nil))))
      (pss_one (ps_ret (pe_def d_least_of hr (by rfl) (pa_cons (pv 0) (pa_cons (pv 1) (pa_cons (pv 2) (pa_cons (pv 3) pa_nil)))))))))), ?_⟩
    refine ⟨_, rfl, _, rfl, a, t, st, rfl, ht, hst, h5, fun H1 s1 => ⟨_, rfl, _, rfl, a, t, en, rfl, ht.more s1, hen, h5, fun H2 s2 => ?_⟩⟩
    refine ⟨_, rfl, _, rfl, a, b, t, R, rfl, (ht.more s1).more s2, h5, s2 _ _ (s1 _ _ hb), hn, hx, hl, fun H3 p g => ?_⟩
    exact ⟨_, rfl, _, rfl, _, rfl, _, rfl, a, p, t, st, en, R, rfl, ((ht.more s1).more s2).more g.same, h5, hst, hen, SqL.of g.at_, hn, hx, fun H4 s4 => k _ (s1.trans (s2.trans (g.same.trans s4)))⟩

def sp_need_table (C : Addr) : Sp := fun vs H Q _ => ∃ (a b : Addr) (t : T) (s e : List Ch) (R : List Nat), vs = [.ref a, .str (patS s), .str (patS e), .ref b] ∧ TreeAt C H a t ∧ t.sz ≤ 5 ∧ s.length + 1 = t.sz ∧ e.length + 1 = t.sz ∧ H b = some (.lst (nV R)) ∧ R.Nodup ∧ (∀ x ∈ R, x < t.sz) ∧ R.length ≤ 1000 ∧
  ∀ H' p us, Same H H' → H p = none → H' p = some (.lst us) → Al (RowAt H') us (M.needRows t s e R) → Q (.ref p) H'
theorem d_need_table (F : FunAt K mg "need_table" s_need_table) (d_checked_pattern : Def P w K mg base "checked_pattern" ["tree", "pattern"] 3 (sp_checked_pattern C)) (d_checked_slots : Def P w K mg base "checked_slots" ["tree", "slots"] 4 (sp_checked_slots C))
    (d_need_rows : Def P w K mg base "need_rows" ["tree", "start", "end", "renewed"] 3 (sp_need_rows K C)) : Def P w K mg base "need_table" ["tree", "start", "end", "renewed"] 5 (sp_need_table C) := by
  refine mk_def F sc_need_table (fun _ _ _ _ _ _ us hl => match us, hl with | [_, _, _, _], _ => rfl) (fun vs H Q E h => ?_) (fun f cdv A outer s H vs Q E hr h => ?_)
  · obtain ⟨_, _, _, _, _, _, rfl, _⟩ := h; rfl
  · obtain ⟨a, b, t, st, en, R, rfl, ht, h5, hst, hen, hb, hn, hx, hl, k⟩ := h
    refine ⟨_, (pss_cons (ps_set (i := 1) sc_need_table.nd rfl (Or.inl rfl) (pe_def d_checked_pattern hr (by rfl) (pa_cons (pv 0) (pa_cons (pv 1) pa_nil))))
      (pss_cons (ps_set (i := 2) sc_need_table.nd rfl (Or.inl rfl) (pe_def d_checked_pattern hr (by rfl) (pa_cons (pv 0) (pa_cons (pv 2) pa_nil))))
      (pss_cons (ps_set (i := 3) sc_need_table.nd rfl (Or.inl rfl) (pe_def d_checked_slots hr (by rfl) (pa_cons (pv 0) (pa_cons (pv 3) pa_nil))))
      (pss_one (ps_ret (pe_def d_need_rows hr (by rfl) (pa_cons (pv 0) (pa_cons (pv 1) (pa_cons (pv 2) (pa_cons (pv 3) pa_nil)))))))))), ?_⟩
    refine ⟨_, rfl, _, rfl, a, t, st, rfl, ht, hst, h5, fun H1 s1 => ⟨_, rfl, _, rfl, a, t, en, rfl, ht.more s1, hen, h5, fun H2 s2 => ?_⟩⟩
    refine ⟨_, rfl, _, rfl, a, b, t, R, rfl, (ht.more s1).more s2, h5, s2 _ _ (s1 _ _ hb), hn, hx, hl, fun H3 p g => ?_⟩
    exact ⟨_, rfl, _, rfl, _, rfl, _, rfl, a, p, t, st, en, R, rfl, ((ht.more s1).more s2).more g.same, h5, hst, hen, SqL.of g.at_, fun H4 q us s4 nq hq hal => k _ q us (s1.trans (s2.trans (g.same.trans s4))) (s1.free (s2.free (g.same.free nq))) hq hal⟩
end
end My

set_option Elab.async false
set_option maxRecDepth 100000
set_option maxHeartbeats 4000000
namespace My
open PySem PySem.Spec PyProof.Rows L2
open M (Ch Need Ent RowK)
abbrev s_ends_fork : Stmt := top 30
abbrev N_ends_fork : List Str := ["stack", "node"]
theorem sc_ends_fork : FnScope N_ends_fork ["stack"] (defScope s_ends_fork) := ⟨rfl, rfl, rfl, by decide +kernel, rfl, by decide +kernel, by decide +kernel⟩
abbrev s_read_forks : Stmt := top 31
abbrev N_read_forks : List Str := ["text", "stack", "rows", "slots", "place", "sign", "right", "left", "first", "fork", "last", "start"]
theorem sc_read_forks : FnScope N_read_forks ["text"] (defScope s_read_forks) := ⟨rfl, rfl, rfl, by decide +kernel, rfl, by decide +kernel, by decide +kernel⟩
section
variable {P : Program} {w : World} {K : PySem.W.Frag} {mg : Str → Option Value} {base : Heap} {C : Addr}
def kindS (k : Nat) : Str := if k = 0 then "open" else if k = 2 then "fork" else "slot"
theorem kind_open (k : Nat) : decide (V.str (kindS k) = V.str "open") = (k == 0) := by
  unfold kindS
  by_cases h : k = 0
  · subst h; decide +kernel
  · rw [if_neg h]
    by_cases h2 : k = 2
    · subst h2; decide +kernel
    · rw [if_neg h2, show (k == 0) = false by simpa using h]; decide +kernel
def EntAt (H : Hp) (v : V) (e : Ent) : Prop := ∃ p, v = .ref p ∧ H p = some (.tup [.str (kindS e.kind), .int (e.num : Nat), .int (e.fst : Nat), .int (e.lst : Nat), .int (e.pl : Nat)])
theorem EntAt.more {H H' : Hp} (s : Same H H') {v : V} {n : Ent} (h : EntAt H v n) : EntAt H' v n := by
  obtain ⟨p, e, h⟩ := h
  exact ⟨p, e, s _ _ h⟩
theorem EntAt.kt {H H' : Hp} (k : KT H H') {v : V} {n : Ent} (h : EntAt H v n) : EntAt H' v n := by
  obtain ⟨p, e, h⟩ := h
  exact ⟨p, e, k _ _ h⟩
def textS (t : M.T) : Str := ⟨(M.signs t).toArray⟩
def RowKAt (H : Hp) (v : V) (r : RowK) : Prop := ∃ q pl pr x3 x4, v = .ref q ∧ H q = some (.tup [.int (r.1 : Nat), .ref pl, .ref pr, x3, x4]) ∧ NodeAt H (.ref pl) r.2.1 ∧ NodeAt H (.ref pr) r.2.2
theorem RowKAt.kt {H H' : Hp} (k : KT H H') {v : V} {r : RowK} (h : RowKAt H v r) : RowKAt H' v r := by
  obtain ⟨q, pl, pr, x3, x4, e, h1, h2, h3⟩ := h
  exact ⟨q, pl, pr, x3, x4, e, k _ _ h1, h2.kt k, h3.kt k⟩
/-- an open one, then two that are not -/
def sp_ends_fork : Sp := fun vs H Q _ => ∃ (b : Addr) (pre : List V) (vo vl vr : V) (o l r : Ent), vs = [.ref b] ∧ H b = some (.lst (pre ++ [vo, vl, vr])) ∧ pre.length ≤ 1000 ∧ EntAt H vo o ∧ EntAt H vl l ∧ EntAt H vr r ∧ o.kind = 0 ∧ l.kind ≠ 0 ∧ r.kind ≠ 0 ∧ ∀ H', Same H H' → Q (.bl true) H'
theorem cut3 (pre : List V) (a b c : V) : cutV (pre ++ [a, b, c]) (some (-3)) none = [a, b, c] := by
  have hl : (pre ++ [a, b, c]).length = pre.length + 3 := by simp
  have e : HT.sIx (pre ++ [a, b, c]).length 0 (some (-3)) = pre.length := by
    rw [HT.sIx, if_pos (by decide), hl]; omega
  unfold cutV
  rw [e, HT.sIx_none, List.drop_left, hl]
  simp
theorem d_ends_fork (F : FunAt K mg "ends_fork" s_ends_fork) : Def P w K mg base "ends_fork" ["stack"] 1 sp_ends_fork := by
  refine mk_def F sc_ends_fork (fun _ _ _ _ _ _ us hl => match us, hl with | [_], _ => rfl) (fun vs H Q E h => ?_) (fun f cdv A outer s H vs Q E hr h => ?_)
  · obtain ⟨_, _, _, _, _, _, _, _, rfl, _⟩ := h; rfl
  · obtain ⟨b, pre, vo, vl, vr, o, l, r, rfl, hb, hpl, ho, hl, hrr, k0, k1, k2, k⟩ := h
    refine ⟨_, (pss_one (ps_ret (pe_cmpR (op_eqD hr.units) (pe_lc (own := [("node", 1)]) rfl sc_ends_fork.nd (pi_list (pe_slice sl_list (pv 0) (po_some (pe_un un_neg pe_int)) po_none)) (blkOk_by (own := [("node", 1)]) (N := N_ends_fork) (sc := defScope s_ends_fork) (by decide +kernel)) (fun _ _ _ _ _ => (pg_name (i := 1) sc_ends_fork.nd rfl (Or.inl rfl))) (fun _ _ _ _ _ => pts_nil) (fun _ _ _ _ _ => (pe_cmpR op_eq (pe_ix (show IxR _ (rIxT K) from ix_tup) (pv 1) pe_int (fun _ _ => rfl)) pe_str (nomark _)))) (pe_lst (pa_cons pe_bl (pa_cons pe_bl (pa_cons pe_bl pa_nil)))) (nomark _)))), ?_⟩
    refine ⟨_, rfl, 3, rfl, _, rfl, b, _, rfl, SqL.of hb, fun p hp => ?_⟩
    rw [show (-(3 : Int)) = -3 from rfl, cut3]
    refine ⟨p, rfl, ⟨_, SqL.of upd_same⟩, fun D hD => ?_⟩
    have e2 : ∀ H', Same (upd H p (.lst [vo, vl, vr])) H' → Same H H' := fun H' s2 => (same_new hp).trans s2
    refine lc_acc (walk_list (K := K) (a := p) (xs := [vo, vl, vr])) (fun i => ([true, false, false].take i).map V.bl) hD rfl (fun H' s2 => s2.seq (SqL.of upd_same)) (fun i x H2 H3 hi g y => ?_) (fun H2 g => ?_)
    · obtain ⟨rfl, hx⟩ := y
      have hxe : ∃ (e : Ent) (c : Bool), EntAt H3 x e ∧ (e.kind == 0) = c ∧ [true, false, false][i]? = some c := by
        have hi : i = 0 ∨ i = 1 ∨ i = 2 := by simp at hi; omega
        rcases hi with rfl | rfl | rfl
        · have : vo = x := by simpa using hx
          subst this
          exact ⟨o, true, ho.more (e2 _ g.same), by rw [k0]; rfl, rfl⟩
        · have : vl = x := by simpa using hx
          subst this
          exact ⟨l, false, hl.more (e2 _ g.same), by simpa using k1, rfl⟩
        · have : vr = x := by simpa using hx
          subst this
          exact ⟨r, false, hrr.more (e2 _ g.same), by simpa using k2, rfl⟩
      obtain ⟨e, c, ⟨q, rfl, hq⟩, hc, hc2⟩ := hxe
      refine ⟨rfl, _, rfl, q, _, _, _, rfl, rfl, SqT.of hq, atI_nat (j := 0) rfl, rfl, ?_⟩
      rw [kind_open, hc]
      refine g.push (by simp; omega) ?_
      rw [take_snoc hc2]; simp
    · refine ⟨szl, fun p2 hp2 => ?_⟩
      refine ⟨.list [.bool true, .bool false, .bool false], .list [.bool true, .bool false, .bool false], .lst (SqL.of (upd_old g.at_ hp2)) (.cons (.bl _) (.cons (.bl _) (.cons (.bl _) .nil))), .lst (SqL.of upd_same) (.cons (.bl _) (.cons (.bl _) (.cons (.bl _) .nil))), by decide +kernel, by decide +kernel, ?_⟩
      rw [show PyData.eqv (.list [.bool true, .bool false, .bool false]) (.list [.bool true, .bool false, .bool false]) = true by decide +kernel]
      exact k _ ((e2 _ g.same).trans (same_new hp2))

theorem cut2 (a b c d e : V) : cutV [a, b, c, d, e] none (some 2) = [a, b] := rfl
theorem nwhole (a b c d e : V) : ¬ (HT.sIx [a, b, c, d, e].length 0 none = 0 ∧ HT.sIx [a, b, c, d, e].length [a, b, c, d, e].length (some 2) = [a, b, c, d, e].length) := by
  intro z
  have := z.2
  simp [HT.sIx] at this
theorem word_kind {k : Nat} (h : k ≠ 0) : kindS k = wordS (k == 2) := by
  unfold kindS wordS
  rw [if_neg h]
  by_cases h2 : k = 2
  · rw [if_pos h2, h2]; rfl
  · rw [if_neg h2, show (k == 2) = false by simpa using h2]; rfl
def sp_read_forks : Sp := fun vs H Q _ => ∃ t : M.T, vs = [.str (textS t)] ∧ t.sz ≤ 5 ∧ ∀ H' p us, Same H H' → H p = none → H' p = some (.lst us) → Al (RowKAt H') us (M.rowsK t) → Q (.ref p) H'
theorem d_read_forks (T : Tx K mg) (F : FunAt K mg "read_forks" s_read_forks) (d_ends_fork : Def P w K mg base "ends_fork" ["stack"] 1 sp_ends_fork) : Def P w K mg base "read_forks" ["text"] 2 sp_read_forks := by
  refine mk_def F sc_read_forks (fun _ _ _ _ _ _ us hl => match us, hl with | [_], _ => rfl) (fun vs H Q E h => ?_) (fun f cdv A outer s H vs Q E hr h => ?_)
  · obtain ⟨_, rfl, _⟩ := h; rfl
  · obtain ⟨t, rfl, h5, k⟩ := h
    obtain ⟨⟨x, n, hrun, hx⟩, hlen, _⟩ := M.rd_text h5
    refine ⟨_, (pss_cons (ps_set (i := 1) sc_read_forks.nd rfl (Or.inl rfl) (pe_lst pa_nil))
      (pss_cons (ps_set (i := 2) sc_read_forks.nd rfl (Or.inl rfl) (pe_lst pa_nil))
      (pss_cons (ps_set (i := 3) sc_read_forks.nd rfl (Or.inl rfl) pe_int)
      (pss_cons (ps_for PassesOwn.never rfl (pi_enumS (by rfl) T.b_enumerate (pv 0)) (pg_tup rfl (pgs_cons (pg_name (i := 4) sc_read_forks.nd rfl (Or.inl rfl)) (pgs_cons (pg_name (i := 5) sc_read_forks.nd rfl (Or.inl rfl)) pgs_nil))) (pss_one (ps_if (pt_cmpR op_eq (pv 5) pe_str (nomark _)) (pss_one (ps_expr (pe_bm PySem.F.plainAttrs_list PySem.F.slot_list_append PySem.F.type_list_append mt_append (pv 1) (pa_cons (pe_tup (pa_cons pe_str (pa_cons pe_int (pa_cons pe_int (pa_cons pe_int (pa_cons (pv 4) pa_nil)))))) pa_nil)))) (pss_one (ps_if (pt_cmpR op_eq (pv 5) pe_str (nomark _)) (pss_cons (ps_expr (pe_bm PySem.F.plainAttrs_list PySem.F.slot_list_append PySem.F.type_list_append mt_append (pv 1) (pa_cons (pe_tup (pa_cons pe_str (pa_cons (pv 3) (pa_cons (pv 3) (pa_cons (pv 3) (pa_cons (pv 4) pa_nil)))))) pa_nil)))
      (pss_one (ps_set (i := 3) sc_read_forks.nd rfl (Or.inl rfl) (pe_op op_add (pv 3) pe_int)))) (pss_one (ps_if (PW.pt (pw_and (pt_cmpR op_eq (pv 5) pe_str (nomark _)) (pw_and1 (pt_val (pe_def d_ends_fork hr (by rfl) (pa_cons (pv 1) pa_nil)))))) (pss_cons (ps_set (i := 6) sc_read_forks.nd rfl (Or.inl rfl) (pe_bm0 PySem.F.plainAttrs_list PySem.F.slot_list_pop PySem.F.type_list_pop mt_pop (pv 1)))
      (pss_cons (ps_set (i := 7) sc_read_forks.nd rfl (Or.inl rfl) (pe_bm0 PySem.F.plainAttrs_list PySem.F.slot_list_pop PySem.F.type_list_pop mt_pop (pv 1)))
      (pss_cons (ps_asg (pe_tup (pa_cons (pe_ix ix_tup (pv 7) pe_int (fun _ _ => rfl)) (pa_cons (pe_ix ix_tup (pv 7) pe_int (fun _ _ => rfl)) (pa_cons (pe_ix ix_tup (pv 6) pe_int (fun _ _ => rfl)) (pa_cons (pe_ix ix_tup (pe_bm0 PySem.F.plainAttrs_list PySem.F.slot_list_pop PySem.F.type_list_pop mt_pop (pv 1)) pe_int (fun _ _ => rfl)) pa_nil))))) (pg_tup rfl (pgs_cons (pg_name (i := 8) sc_read_forks.nd rfl (Or.inl rfl)) (pgs_cons (pg_name (i := 9) sc_read_forks.nd rfl (Or.inl rfl)) (pgs_cons (pg_name (i := 10) sc_read_forks.nd rfl (Or.inl rfl)) (pgs_cons (pg_name (i := 11) sc_read_forks.nd rfl (Or.inl rfl)) pgs_nil))))))
      (pss_cons (ps_expr (pe_bm PySem.F.plainAttrs_list PySem.F.slot_list_append PySem.F.type_list_append mt_append (pv 2) (pa_cons (pe_tup (pa_cons (pv 9) (pa_cons (pe_slice sl_tupA (pv 7) po_none (po_some pe_int)) (pa_cons (pe_slice sl_tupA (pv 6) po_none (po_some pe_int)) (pa_cons (pe_tup (pa_cons (pv 8) (pa_cons (pv 10) pa_nil))) (pa_cons (pe_tup (pa_cons (pv 11) (pa_cons (pe_op op_add (pv 4) pe_int) pa_nil))) pa_nil)))))) pa_nil)))
      (pss_one (ps_expr (pe_bm PySem.F.plainAttrs_list PySem.F.slot_list_append PySem.F.type_list_append mt_append (pv 1) (pa_cons (pe_tup (pa_cons pe_str (pa_cons (pv 9) (pa_cons (pv 8) (pa_cons (pv 10) (pa_cons (pv 11) pa_nil)))))) pa_nil)))))))) (pss_one (ps_ret pe_non)))))))))
      (pss_cons (ps_if (PW.pt (pw_or (pt_cmpR op_ne (pe_callB call_len_seq (by rfl) T.b_len (by decide +kernel) (pa_cons (pv 1) pa_nil)) pe_int (nomark _)) (pw_or1 (pt_cmpR op_eq (pe_ix ix_tup (pe_ix ix_list (pv 1) pe_int (fun _ _ => rfl)) pe_int (fun _ _ => rfl)) pe_str (nomark _))))) (pss_one (ps_ret pe_non)) pss_nil)
      (pss_one (ps_ret (pv 2)))))))), ?_⟩
    refine ⟨szl, fun s hs => ⟨szl, fun l hl => ?_⟩⟩
    have T0 := Tw.start hs hl
    refine ⟨_, rfl, _, rfl, ?_⟩
    refine for_it walk_enumS (fun i σ H' => ∃ (S : List Ent) (rows : List RowK) (m : Nat) (vs us : List V) (x4 x5 x6 x7 x8 x9 x10 x11 : Option V), σ = [some (.str (textS t)), some (.ref s), some (.ref l), some (.int m), x4, x5, x6, x7, x8, x9, x10, x11] ∧ Tw H s l vs us H' ∧
      M.rdAt (M.signs t) i = some (S, rows, m) ∧ Al (EntAt H') vs S.reverse ∧ Al (RowKAt H') us rows ∧ vs.length ≤ i ∧ us.length ≤ i) ⟨[], [], 0, [], [], _, _, _, _, _, _, _, _, rfl, T0, rfl, Al.nil, Al.nil, Nat.le_refl _, Nat.le_refl _⟩ (fun _ _ _ _ _ => trivial) (fun i y σ H1 H2 hi p hy => ?_) (fun σ H1 p => ?_)
    · obtain ⟨S, rows, m, vs, us, x4, x5, x6, x7, x8, x9, x10, x11, rfl, tw, hat, hvs, hus, hvl, hul⟩ := p
      obtain ⟨a, c, rfl, na, rfl, hc⟩ := hy
      have hc : (M.signs t)[i]? = some c := by
        have hc : (textS t).cps.toList[i]? = some c := by rw [Array.getElem?_toList]; exact hc
        simpa [textS] using hc
      have hi13 : i < 13 := by have := (List.getElem?_eq_some_iff.mp hc).1; omega
      obtain ⟨v, hv, hstep⟩ := M.rdAt_next hrun hc hat
      have k1 : KT H1 (upd H1 a (.tup [.int (i : Nat), .str ⟨#[c]⟩])) := kt_new na
      have tw1 := tw.add (u := .tup [.int (i : Nat), .str ⟨#[c]⟩]) na
      have ha : upd H1 a (.tup [.int (i : Nat), .str ⟨#[c]⟩]) a = some (.tup [.int (i : Nat), .str ⟨#[c]⟩]) := upd_same
      have hvs := hvs.imp fun _ _ => EntAt.kt k1
      have hus := hus.imp fun _ _ => RowKAt.kt k1
      generalize upd H1 a (.tup [.int (i : Nat), .str ⟨#[c]⟩]) = H2 at tw1 ha hvs hus ⊢
      clear k1 tw na
      refine ⟨a, _, rfl, SqT.of ha, rfl, _, _, rfl, _, _, rfl, rfl, ?_⟩
      unfold M.rdStep at hstep
      by_cases c40 : c = 40
      · subst c40
        rw [if_pos rfl] at hstep
        cases hstep
        refine ⟨_, rfl, rfl, _, rfl, iteT ⟨_, rfl, .inl ⟨rfl, _, SqL.of tw1.hs⟩, _, rfl, szl, fun p hp => ?_⟩⟩
        have tw2 := tw1.add (u := .tup [.str "open", .int 0, .int 0, .int 0, .int (i : Nat)]) hp
        refine ⟨s, _, _, rfl, rfl, tw2.hs, sz_lt (by omega), _, _, _, _, _, _, _, _, _, _, _, _, _, rfl, tw2.putS, hv, ?_, hus.imp fun _ _ => RowKAt.kt ((kt_new hp).trans tw2.kS), by simp; omega, by omega⟩
        rw [List.reverse_cons]
        exact (hvs.imp fun _ _ => EntAt.kt ((kt_new hp).trans tw2.kS)).push ⟨p, rfl, tw2.kS _ _ upd_same⟩
      rw [if_neg c40] at hstep
      by_cases c46 : c = 46
      · subst c46
        rw [if_pos rfl] at hstep
        cases hstep
        refine ⟨_, rfl, rfl, _, rfl, iteF ⟨_, rfl, rfl, _, rfl, iteT ⟨_, rfl, .inl ⟨rfl, _, SqL.of tw1.hs⟩, _, rfl, _, rfl, _, rfl, _, rfl, szl, fun p hp => ?_⟩⟩⟩
        have tw2 := tw1.add (u := .tup [.str "slot", .int (m : Nat), .int (m : Nat), .int (m : Nat), .int (i : Nat)]) hp
        refine ⟨s, _, _, rfl, rfl, tw2.hs, sz_lt (by omega), _, rfl, _, _, rfl, rfl, _, _, _, _, _, _, _, _, _, _, _, _, _, rfl, tw2.putS, hv, ?_, hus.imp fun _ _ => RowKAt.kt ((kt_new hp).trans tw2.kS), by simp; omega, by omega⟩
        rw [List.reverse_cons]
        exact (hvs.imp fun _ _ => EntAt.kt ((kt_new hp).trans tw2.kS)).push ⟨p, rfl, tw2.kS _ _ upd_same⟩
      rw [if_neg c46] at hstep
      by_cases c41 : c = 41
      · subst c41
        rw [if_pos rfl] at hstep
        rcases S with _ | ⟨r, _ | ⟨l0, _ | ⟨o, S'⟩⟩⟩
        · cases hstep
        · cases hstep
        · cases hstep
        have hstep : (if o.kind = 0 ∧ l0.kind ≠ 0 ∧ r.kind ≠ 0 then some (⟨2, l0.lst, l0.fst, r.lst, o.pl⟩ :: S', rows ++ [(l0.lst, (l0.kind == 2, l0.num), (r.kind == 2, r.num))], m) else none) = some v := hstep
        by_cases hk : o.kind = 0 ∧ l0.kind ≠ 0 ∧ r.kind ≠ 0
        · rw [if_pos hk] at hstep
          obtain ⟨k0, k1, k2⟩ := hk
          cases hstep
          rw [List.reverse_cons, List.reverse_cons, List.reverse_cons] at hvs
          obtain ⟨_, vr, rfl, hv1, hvr⟩ := hvs.pop
          obtain ⟨_, vl, rfl, hv2, hvl2⟩ := hv1.pop
          obtain ⟨pre, vo, rfl, hv3, hvo⟩ := hv2.pop
          have eL : pre ++ [vo] ++ [vl] ++ [vr] = pre ++ [vo, vl, vr] := by simp
          have hpl : pre.length + 3 ≤ i := by simpa using hvl
          refine ⟨_, rfl, rfl, _, rfl, iteF ⟨_, rfl, rfl, _, rfl, iteF ⟨_, rfl, rfl, _, rfl, iteT ⟨_, rfl, s, pre, vo, vl, vr, o, l0, r, rfl, by rw [← eL]; exact tw1.hs, by omega, hvo, hvl2, hvr, k0, k1, k2, fun H3 s3 => ⟨true, rfl, iteT ?_⟩⟩⟩⟩⟩
          have tw3 := tw1.more s3
          obtain ⟨pr, rfl, hpr⟩ := hvr.more s3
          obtain ⟨pq, rfl, hpq⟩ := hvl2.more s3
          obtain ⟨po, rfl, hpo⟩ := hvo.more s3
          have hv4 := hv3.imp fun _ _ => EntAt.more s3
          have hu4 := hus.imp fun _ _ => RowKAt.kt (kt_same s3)
          refine ⟨_, rfl, .inl ⟨rfl, _, SqL.of tw3.hs⟩, s, _, .ref pr, rfl, rfl, tw3.hs, by simp, ?_⟩
          rw [List.dropLast_concat]
          have tw4 := tw3.putS (vs' := pre ++ [.ref po] ++ [.ref pq])
          refine ⟨_, rfl, .inl ⟨rfl, _, SqL.of tw4.hs⟩, s, _, .ref pq, rfl, rfl, tw4.hs, by simp, ?_⟩
          rw [List.dropLast_concat]
          have tw5 := tw4.putS (vs' := pre ++ [.ref po])
          have k5 : KT H3 _ := (tw3.kS (u := .lst (pre ++ [.ref po] ++ [.ref pq]))).trans (tw4.kS (u := .lst (pre ++ [.ref po])))
          refine ⟨_, rfl, pq, _, _, _, rfl, rfl, SqT.of (k5 _ _ hpq), atI_nat (j := 2) rfl, _, rfl, pq, _, _, _, rfl, rfl, SqT.of (k5 _ _ hpq), atI_nat (j := 3) rfl, _, rfl, pr, _, _, _, rfl, rfl, SqT.of (k5 _ _ hpr), atI_nat (j := 3) rfl, ?_⟩
          refine ⟨_, rfl, .inl ⟨rfl, _, SqL.of tw5.hs⟩, s, _, .ref po, rfl, rfl, tw5.hs, by simp, ?_⟩
          rw [List.dropLast_concat]
          have tw6 := tw5.putS (vs' := pre)
          have k6 := k5.trans (tw5.kS (u := .lst pre))
          generalize upd (upd (upd H3 s (.lst (pre ++ [.ref po] ++ [.ref pq]))) s (.lst (pre ++ [.ref po]))) s (.lst pre) = H6 at tw6 k6 ⊢
          refine ⟨po, _, _, _, rfl, rfl, SqT.of (k6 _ _ hpo), atI_nat (j := 4) rfl, szl, fun t1 ht1 => ?_⟩
          refine ⟨t1, _, rfl, SqT.of upd_same, rfl, _, _, rfl, _, _, rfl, _, _, rfl, _, _, rfl, rfl, ?_⟩
          have tw7 := tw6.add (u := .tup [.int (l0.fst : Nat), .int (l0.lst : Nat), .int (r.lst : Nat), .int (o.pl : Nat)]) ht1
          have k7 := k6.trans (kt_new (u := .tup [.int (l0.fst : Nat), .int (l0.lst : Nat), .int (r.lst : Nat), .int (o.pl : Nat)]) ht1)
          generalize upd H6 t1 (.tup [.int (l0.fst : Nat), .int (l0.lst : Nat), .int (r.lst : Nat), .int (o.pl : Nat)]) = H7 at tw7 k7 ⊢
          refine ⟨_, rfl, .inl ⟨rfl, _, SqL.of tw7.hl⟩, _, rfl, _, rfl, _, rfl, pq, _, rfl, SqT.of (k7 _ _ hpq), fun z => absurd z (nwhole _ _ _ _ _), fun _ q1 hq1 => ?_⟩
          have tw8 := tw7.add (u := .tup [.str (kindS l0.kind), .int (l0.num : Nat)]) hq1
          have k8 := k7.trans (kt_new (u := .tup [.str (kindS l0.kind), .int (l0.num : Nat)]) hq1)
          have b8 : upd H7 q1 (.tup [.str (kindS l0.kind), .int (l0.num : Nat)]) q1 = some (.tup [.str (kindS l0.kind), .int (l0.num : Nat)]) := upd_same
          rw [cut2]
          generalize upd H7 q1 (.tup [.str (kindS l0.kind), .int (l0.num : Nat)]) = H8 at tw8 k8 b8 ⊢
          refine ⟨_, rfl, _, rfl, pr, _, rfl, SqT.of (k8 _ _ hpr), fun z => absurd z (nwhole _ _ _ _ _), fun _ q2 hq2 => ?_⟩
          have tw9 := tw8.add (u := .tup [.str (kindS r.kind), .int (r.num : Nat)]) hq2
          have k9 := k8.trans (kt_new (u := .tup [.str (kindS r.kind), .int (r.num : Nat)]) hq2)
          have b9 := kt_new (u := .tup [.str (kindS r.kind), .int (r.num : Nat)]) hq2 _ _ b8
          have c9 : upd H8 q2 (.tup [.str (kindS r.kind), .int (r.num : Nat)]) q2 = some (.tup [.str (kindS r.kind), .int (r.num : Nat)]) := upd_same
          rw [cut2]
          generalize upd H8 q2 (.tup [.str (kindS r.kind), .int (r.num : Nat)]) = H9 at tw9 k9 b9 c9 ⊢
          refine ⟨_, rfl, _, rfl, szl, fun q3 hq3 => ⟨_, rfl, _, rfl, _, _, rfl, rfl, szl, fun q4 hq4 => ⟨szl, fun q5 hq5 => ?_⟩⟩⟩
          have twa := ((tw9.add hq3).add hq4).add (u := .tup [.int (l0.lst : Nat), .ref q1, .ref q2, .ref q3, .ref q4]) hq5
          have ka := ((kt_new hq3).trans (kt_new hq4)).trans (kt_new (u := .tup [.int (l0.lst : Nat), .ref q1, .ref q2, .ref q3, .ref q4]) hq5)
          refine ⟨l, _, _, rfl, rfl, twa.hl, sz_lt (by omega), ?_⟩
          have twb := twa.putL (us' := us ++ [.ref q5])
          have kb := ka.trans (twa.kL (u := .lst (us ++ [.ref q5])))
          have eb := twa.kL (u := .lst (us ++ [.ref q5])) _ _ (upd_same (a := q5))
          refine ⟨_, rfl, .inl ⟨rfl, _, SqL.of twb.hs⟩, _, rfl, _, rfl, _, rfl, _, rfl, szl, fun q6 hq6 => ?_⟩
          have twc := twb.add (u := .tup [.str "fork", .int (l0.lst : Nat), .int (l0.fst : Nat), .int (r.lst : Nat), .int (o.pl : Nat)]) hq6
          have kc := (kt_new (u := .tup [.str "fork", .int (l0.lst : Nat), .int (l0.fst : Nat), .int (r.lst : Nat), .int (o.pl : Nat)]) hq6).trans (twc.kS (u := .lst (pre ++ [.ref q6])))
          refine ⟨s, _, _, rfl, rfl, twc.hs, sz_lt (by omega), _, _, _, _, _, _, _, _, _, _, _, _, _, rfl, twc.putS, hv, ?_, ?_, ?_, ?_⟩
          · rw [List.reverse_cons]
            exact (hv4.imp fun _ _ => EntAt.kt ((k9.trans kb).trans kc)).push ⟨q6, rfl, twc.kS _ _ upd_same⟩
          · refine (hu4.imp fun _ _ => RowKAt.kt ((k9.trans kb).trans kc)).push ⟨q5, q1, q2, _, _, rfl, kc _ _ eb, ⟨q1, rfl, ?_⟩, ⟨q2, rfl, ?_⟩⟩
            · rw [← word_kind k1]; exact kc _ _ (kb _ _ b9)
            · rw [← word_kind k2]; exact kc _ _ (kb _ _ c9)
          · simp; omega
          · simp; omega
        · rw [if_neg hk] at hstep; cases hstep
      · rw [if_neg c41] at hstep; cases hstep
    · obtain ⟨S, rows, m, vs, us, x4, x5, x6, x7, x8, x9, x10, x11, rfl, tw, hat, hvs, hus, hvl, hul⟩ := p
      have e : M.rdAt (M.signs t) (textS t).cps.size = some ([x], M.rowsK t, n) := by
        rw [M.rdAt, show (textS t).cps.size = (M.signs t).length by simp [textS], all_take]; exact hrun
      rw [e] at hat
      cases hat
      obtain ⟨w0, v, rfl, hv0, p, rfl, hp⟩ := Al.pop (ys := []) hvs
      obtain rfl := List.eq_nil_of_length_eq_zero hv0.len
      refine ⟨_, rfl, _, _, rfl, .inl (SqL.of tw.hs), rfl, _, rfl, ?_⟩
      refine iteF ⟨_, rfl, s, _, _, _, rfl, rfl, SqL.of tw.hs, atI_nat (j := 0) rfl, p, _, _, _, rfl, rfl, SqT.of hp, atI_nat (j := 0) rfl, rfl, _, rfl, ?_⟩
      rw [kind_open, show (x.kind == 0) = false by simpa using hx]
      exact iteF ⟨_, rfl, k _ _ _ tw.same tw.nl tw.hl hus⟩
end
end My

set_option Elab.async false
set_option maxRecDepth 100000
set_option maxHeartbeats 4000000
namespace My
open PySem PySem.Spec PyProof.Rows L2
open M (Ch Need Ent RowK)
abbrev s_lay_ways : Stmt := top 32
abbrev N_lay_ways : List Str := ["root", "lefts", "rights", "preorder", "ways", "stack", "word", "number", "way"]
theorem sc_lay_ways : FnScope N_lay_ways ["root", "lefts", "rights"] (defScope s_lay_ways) := ⟨rfl, rfl, rfl, by decide +kernel, rfl, by decide +kernel, by decide +kernel⟩
section
variable {P : Program} {w : World} {K : PySem.W.Frag} {mg : Str → Option Value} {base : Heap} {C : Addr}
structure Tr (H0 : Hp) (s l r : Addr) (vs us ws : List V) (H : Hp) : Prop where
  a : Tw H0 s l vs us H
  nr : H0 r = none
  nsr : s ≠ r
  nlr : l ≠ r
  hr : H r = some (.lst ws)
section
variable {H H' H0 : Hp} {s l r p : Addr} {u : HO} {vs us ws vs' us' ws' : List V}
theorem Tr.more (t : Tr H0 s l r vs us ws H) (k : Same H H') : Tr H0 s l r vs us ws H' := ⟨t.a.more k, t.nr, t.nsr, t.nlr, k _ _ t.hr⟩
theorem Tr.add (t : Tr H0 s l r vs us ws H) (n : H p = none) : Tr H0 s l r vs us ws (upd H p u) := t.more (same_new n)
theorem Tr.putS (t : Tr H0 s l r vs us ws H) : Tr H0 s l r vs' us ws (upd H s (.lst vs')) := ⟨t.a.putS, t.nr, t.nsr, t.nlr, upd_far t.hr (Ne.symm t.nsr)⟩
theorem Tr.putL (t : Tr H0 s l r vs us ws H) : Tr H0 s l r vs us' ws (upd H l (.lst us')) := ⟨t.a.putL, t.nr, t.nsr, t.nlr, upd_far t.hr (Ne.symm t.nlr)⟩
theorem Tr.putR (t : Tr H0 s l r vs us ws H) : Tr H0 s l r vs us ws' (upd H r (.lst ws')) := ⟨⟨same_put t.a.same t.nr, t.a.ns, t.a.nl, t.a.ne, upd_far t.a.hs t.nsr, upd_far t.a.hl t.nlr⟩, t.nr, t.nsr, t.nlr, upd_same⟩
theorem Tr.kR (t : Tr H0 s l r vs us ws H) : KT H (upd H r u) := kt_lst t.hr
theorem Tr.start (ns : H0 s = none) (nl : upd H0 s (.lst []) l = none) (nr : upd (upd H0 s (.lst [])) l (.lst []) r = none) (h : H0 = H0) : True := trivial
end
theorem catA_use {a b : Addr} {xs ys : List V} {H : Hp} {Q : VK} (ha : H a = some (.tup xs)) (hb : H b = some (.tup ys)) (hl : xs.length + ys.length ≤ 100000) (hne : ys ≠ []) (k : ∀ r H', Same H H' → H' r = some (.tup (xs ++ ys)) → Q (.ref r) H') : rCatA K (.ref a) (.ref b) H Q :=
  ⟨a, b, xs, ys, rfl, rfl, SqT.of ha, SqT.of hb, sz_le hl, fun e => k _ _ (Same.refl _) (by rw [e]; exact hb), fun _ e => absurd e hne, fun _ _ p hp => k _ _ (same_new hp) upd_same⟩
def StkAt (n : Nat) (H : Hp) (v : V) (u : M.T × Nat) : Prop := ∃ q np wp ws, v = .ref q ∧ H q = some (.tup [.ref np, .ref wp]) ∧ NodeAt H (.ref np) (M.nodeOf u.1 u.2) ∧ H wp = some (.tup ws) ∧ ws.length + u.1.sz ≤ n
theorem StkAt.kt {n : Nat} {H H' : Hp} (k : KT H H') {v : V} {u : M.T × Nat} (h : StkAt n H v u) : StkAt n H' v u := by
  obtain ⟨q, np, wp, ws, e, h1, h2, h3, h4⟩ := h
  exact ⟨q, np, wp, ws, e, k _ _ h1, h2.kt k, k _ _ h3, h4⟩
def szs (S : List (M.T × Nat)) : Nat := (S.map fun u => u.1.sz).sum
def mus (S : List (M.T × Nat)) : Nat := (S.map fun u => 2 * u.1.sz - 1).sum
def sp_lay_ways : Sp := fun vs H Q _ => ∃ (rp lp rrp : Addr) (ls rs : List V) (t : M.T), vs = [.ref rp, .ref lp, .ref rrp] ∧ H lp = some (.tup ls) ∧ Al (NodeAt H) ls ((M.kids t 0).map (·.1)) ∧ H rrp = some (.tup rs) ∧ Al (NodeAt H) rs ((M.kids t 0).map (·.2)) ∧ NodeAt H (.ref rp) (M.nodeOf t 0) ∧ t.sz ≤ 5 ∧
  ∀ H' p q1 q2 ws, Same H H' → H' p = some (.tup [.ref q1, .ref q2]) → H' q2 = some (.tup ws) → ws.length = t.sz → Q (.ref p) H'
theorem d_lay_ways (T : Tx K mg) (F : FunAt K mg "lay_ways" s_lay_ways) : Def P w K mg base "lay_ways" ["root", "lefts", "rights"] 1 sp_lay_ways := by
  refine mk_def F sc_lay_ways (fun _ _ _ _ _ _ us hl => match us, hl with | [_, _, _], _ => rfl) (fun vs H Q E h => ?_) (fun f cdv A outer s H vs Q E hr h => ?_)
  · obtain ⟨_, _, _, _, _, _, rfl, _⟩ := h; rfl
  · obtain ⟨rp, lp, rrp, ls, rs, t, rfl, hls, als, hrs, ars, hroot, h5, k⟩ := h
    refine ⟨_, (pss_cons (ps_set (i := 3) sc_lay_ways.nd rfl (Or.inl rfl) (pe_lst pa_nil))
      (pss_cons (ps_set (i := 4) sc_lay_ways.nd rfl (Or.inl rfl) (pe_lst pa_nil))
      (pss_cons (ps_set (i := 5) sc_lay_ways.nd rfl (Or.inl rfl) (pe_lst (pa_cons (pe_tup (pa_cons (pv 0) (pa_cons (pe_tup pa_nil) pa_nil))) pa_nil)))
      (pss_cons (ps_while PassesOwn.never (pt_truth (pv 5) (by intro _; rfl)) (pss_cons (ps_asg (pe_bm0 PySem.F.plainAttrs_list PySem.F.slot_list_pop PySem.F.type_list_pop mt_pop (pv 5)) (pg_tup rfl (pgs_cons (pg_tup rfl (pgs_cons (pg_name (i := 6) sc_lay_ways.nd rfl (Or.inl rfl)) (pgs_cons (pg_name (i := 7) sc_lay_ways.nd rfl (Or.inl rfl)) pgs_nil))) (pgs_cons (pg_name (i := 8) sc_lay_ways.nd rfl (Or.inl rfl)) pgs_nil))))
      (pss_one (ps_if (pt_cmpR op_eq (pv 6) pe_str (nomark _)) (pss_one (ps_expr (pe_bm PySem.F.plainAttrs_list PySem.F.slot_list_append PySem.F.type_list_append mt_append (pv 4) (pa_cons (pv 8) pa_nil)))) (pss_cons (ps_expr (pe_bm PySem.F.plainAttrs_list PySem.F.slot_list_append PySem.F.type_list_append mt_append (pv 3) (pa_cons (pv 7) pa_nil)))
      (pss_cons (ps_expr (pe_bm PySem.F.plainAttrs_list PySem.F.slot_list_append PySem.F.type_list_append mt_append (pv 5) (pa_cons (pe_tup (pa_cons (pe_ix ix_tup (pv 2) (pv 7) (fun _ _ => rfl)) (pa_cons (pe_op op_catA (pv 8) (pe_tup (pa_cons (pe_tup (pa_cons (pv 7) (pa_cons pe_str pa_nil))) pa_nil))) pa_nil))) pa_nil)))
      (pss_one (ps_expr (pe_bm PySem.F.plainAttrs_list PySem.F.slot_list_append PySem.F.type_list_append mt_append (pv 5) (pa_cons (pe_tup (pa_cons (pe_ix ix_tup (pv 1) (pv 7) (fun _ _ => rfl)) (pa_cons (pe_op op_catA (pv 8) (pe_tup (pa_cons (pe_tup (pa_cons (pv 7) (pa_cons pe_str pa_nil))) pa_nil))) pa_nil))) pa_nil))))))))))
      (pss_one (ps_ret (pe_tup (pa_cons (pe_callTy call_tuple_of (by rfl) T.b_tuple (by decide +kernel) (pa_cons (pv 3) pa_nil)) (pa_cons (pe_callTy call_tuple_of (by rfl) T.b_tuple (by decide +kernel) (pa_cons (pv 4) pa_nil)) pa_nil))))))))), ?_⟩
    refine ⟨szl, fun po hpo => ⟨szl, fun wa hwa => ?_⟩⟩
    refine ⟨_, rfl, szl, fun w0 hw0 => ⟨szl, fun q0 hq0 => ⟨szl, fun sk hsk => ?_⟩⟩⟩
    have T0 := ((Tw.start hpo hwa).add (u := .tup []) hw0).add (u := .tup [.ref rp, .ref w0]) hq0
    have T1 : Tr H po wa sk [] [] [.ref q0] _ := ⟨T0.add (u := .lst [.ref q0]) hsk, T0.same.free hsk, fun z => (by rw [← z, T0.hs] at hsk; cases hsk), fun z => (by rw [← z, T0.hl] at hsk; cases hsk), upd_same⟩
    have s0 : StkAt t.sz _ (.ref q0) (t, 0) := ⟨q0, rp, w0, [], rfl, upd_old (u := .lst [.ref q0]) (upd_same (a := q0) (o := .tup [.ref rp, .ref w0])) hsk, hroot.kt (kt_same T1.a.same), upd_old (upd_old (upd_same (a := w0) (o := .tup [])) hq0) hsk, by simp⟩
    have kids_at : ∀ (l r : M.T) (o : Nat), ((M.T.nd l r, o) ∈ M.subs t 0) → (M.kids t 0)[o + l.sz - 1]? = some (M.nodeOf l o, M.nodeOf r (o + l.sz)) ∧ (l = .lf ∨ (l, o) ∈ M.subs t 0) ∧ (r = .lf ∨ (r, o + l.sz) ∈ M.subs t 0) := by
      intro l r o hm
      obtain ⟨i, hi⟩ := List.getElem?_of_mem hm
      obtain ⟨l', r', e, _, hk, h1, h2⟩ := M.sub_at h5 hi
      cases e
      refine ⟨hk, ?_, ?_⟩
      · rcases h1 with h | ⟨j, _, hj⟩
        · exact .inl h
        · exact .inr (List.mem_of_getElem? hj)
      · rcases h2 with h | ⟨j, _, hj⟩
        · exact .inl h
        · exact .inr (List.mem_of_getElem? hj)
    have top_in : t = .lf ∨ (t, 0) ∈ M.subs t 0 := by
      cases t with
      | lf => exact .inl rfl
      | nd l r => exact .inr (by simp [M.subs])
    generalize upd (upd (upd (upd (upd H po (.lst [])) wa (.lst [])) w0 (.tup [])) q0 (.tup [.ref rp, .ref w0])) sk (.lst [.ref q0]) = H1 at T1 s0 ⊢
    refine ⟨fun m σ H' => ∃ (S : List (M.T × Nat)) (pv wv sv : List V) (x6 x7 x8 : Option V), σ = [some (.ref rp), some (.ref lp), some (.ref rrp), some (.ref po), some (.ref wa), some (.ref sk), x6, x7, x8] ∧ m = mus S ∧ Tr H po wa sk pv wv sv H' ∧ Al (StkAt t.sz H') sv S.reverse ∧
      wv.length + szs S = t.sz ∧ pv.length + mus S ≤ 9 ∧ ∀ u ∈ S, u.1 = .lf ∨ u ∈ M.subs t 0, ⟨_, [(t, 0)], [], [], [.ref q0], _, _, _, rfl, rfl, T1, Al.nil.push s0, by simp [szs], by simp [mus]; omega, fun u hu => by
        have : u = (t, 0) := by simpa using hu
        subst this; exact top_in⟩, fun m σ H' p => ?_⟩
    obtain ⟨S, pv, wv, sv, x6, x7, x8, rfl, rfl, tr, al, hw, hp, hS⟩ := p
    cases S with
    | nil =>
      have e0 : sv = [] := List.eq_nil_of_length_eq_zero al.len
      subst e0
      refine ⟨_, rfl, _, .inl ⟨_, SqL.of tr.hr, rfl⟩, iteF ?_⟩
      refine ⟨_, rfl, po, _, rfl, .inl ⟨SqL.of tr.a.hs, fun t1 ht1 => ?_⟩⟩
      refine ⟨_, rfl, wa, _, rfl, .inl ⟨SqL.of (upd_old tr.a.hl ht1), fun t2 ht2 => ?_⟩⟩
      refine ⟨szl, fun t3 ht3 => k _ t3 t1 t2 wv (((tr.a.same.trans (same_new ht1)).trans (same_new ht2)).trans (same_new ht3)) upd_same (upd_old upd_same ht3) ?_⟩
      simpa [szs] using hw
    | cons u S' =>
      rw [List.reverse_cons] at al
      obtain ⟨pre, v, rfl, al1, q, np, wp, ws, rfl, hq, hn, hwp, hlen⟩ := al.pop
      have hpl : pre.length ≤ 9 := by
        have e1 := al1.len
        rw [List.length_reverse] at e1
        have : S'.length ≤ szs S' := by
          clear hS hp hw al al1 tr e1
          induction S' with
          | nil => exact Nat.le_refl _
          | cons a r ih => have := a.1.sz_pos; simp only [szs, List.map_cons, List.sum_cons, List.length_cons] at *; omega
        simp only [szs, List.map_cons, List.sum_cons] at hw this
        omega
      refine ⟨_, rfl, _, .inl ⟨_, SqL.of tr.hr, rfl⟩, ?_⟩
      rw [show (!(pre ++ [V.ref q]).isEmpty) = true by cases pre <;> rfl]
      refine iteT ⟨_, fun _ _ h => h, ?_⟩
      refine ⟨_, rfl, .inl ⟨rfl, _, SqL.of tr.hr⟩, sk, _, .ref q, rfl, rfl, tr.hr, by simp, ?_⟩
      rw [List.dropLast_concat]
      have tr2 := tr.putR (ws' := pre)
      have k2 := tr.kR (u := .lst pre)
      generalize upd H' sk (.lst pre) = H2 at tr2 k2 ⊢
      have al2 := al1.imp fun _ _ => StkAt.kt k2
      obtain ⟨np', e, hnp⟩ := hn.kt k2
      cases e
      refine ⟨q, _, rfl, SqT.of (k2 _ _ hq), rfl, _, _, rfl, np, _, rfl, SqT.of hnp, rfl, _, _, rfl, _, _, rfl, rfl, _, _, rfl, rfl, ?_⟩
      obtain ⟨w1, o⟩ := u
      have hS2 : ∀ u ∈ S', u.1 = .lf ∨ u ∈ M.subs t 0 := fun u hu => hS u (List.mem_cons_of_mem _ hu)
      have hS1 := hS (w1, o) List.mem_cons_self
      cases w1 with
      | lf =>
        have hwl : wv.length ≤ 5 := by omega
        refine ⟨_, rfl, rfl, _, rfl, iteT ⟨_, rfl, .inl ⟨rfl, _, SqL.of tr2.a.hl⟩, _, rfl, wa, _, _, rfl, rfl, tr2.a.hl, sz_lt (by omega), _, ?_, S', pv, _, _, _, _, _, rfl, rfl, tr2.putL, al2.imp fun _ _ => StkAt.kt (tr2.a.kL), ?_, ?_, hS2⟩⟩
        · simp only [mus, List.map_cons, List.sum_cons, M.T.sz]; omega
        · simp only [szs, List.map_cons, List.sum_cons, M.T.sz, List.length_append, List.length_cons, List.length_nil] at hw ⊢; omega
        · simp only [mus, List.map_cons, List.sum_cons, M.T.sz] at hp ⊢; omega
      | nd l r =>
        obtain ⟨hk, hl1, hr1⟩ := kids_at l r o (by rcases hS1 with h | h; exact absurd h (by simp); exact h)
        refine ⟨_, rfl, rfl, _, rfl, iteF ?_⟩
        have hlz := l.sz_pos
        have hrz := r.sz_pos
        have hlen : ws.length + (l.sz + r.sz) ≤ t.sz := hlen
        have hw : wv.length + (l.sz + r.sz + szs S') = t.sz := by simpa [szs, M.T.sz] using hw
        have hp : pv.length + (2 * (l.sz + r.sz) - 1 + mus S') ≤ 9 := by simpa [mus, M.T.sz] using hp
        refine ⟨_, rfl, .inl ⟨rfl, _, SqL.of tr2.a.hs⟩, _, rfl, po, _, _, rfl, rfl, tr2.a.hs, sz_lt (by omega), ?_⟩
        have tr3 := tr2.putS (vs' := pv ++ [.int ((M.nodeOf (M.T.nd l r, o).1 (M.T.nd l r, o).2).2 : Nat)])
        have k3 := k2.trans (tr2.a.kS (u := .lst (pv ++ [.int ((M.nodeOf (M.T.nd l r, o).1 (M.T.nd l r, o).2).2 : Nat)])))
        have al3 := al2.imp fun _ _ => StkAt.kt (tr2.a.kS (u := .lst (pv ++ [.int ((M.nodeOf (M.T.nd l r, o).1 (M.T.nd l r, o).2).2 : Nat)])))
        generalize upd H2 po (.lst (pv ++ [.int ((M.nodeOf (M.T.nd l r, o).1 (M.T.nd l r, o).2).2 : Nat)])) = H3 at tr3 k3 al3 ⊢
        obtain ⟨lv, hlv, p1, rfl, hp1⟩ := als.get' (i := o + l.sz - 1) (y := M.nodeOf l o) (by rw [List.getElem?_map, hk]; rfl)
        obtain ⟨rv, hrv, p2, rfl, hp2⟩ := ars.get' (i := o + l.sz - 1) (y := M.nodeOf r (o + l.sz)) (by rw [List.getElem?_map, hk]; rfl)
        refine ⟨_, rfl, .inl ⟨rfl, _, SqL.of tr3.hr⟩, _, rfl, _, rfl, rrp, rs, _, _, rfl, rfl, SqT.of (tr3.a.same _ _ hrs), atI_nat hrv, _, rfl, _, rfl, szl, fun a1 ha1 => ⟨szl, fun a2 ha2 => ?_⟩⟩
        have k4 := (kt_new (u := .tup [.int (o + l.sz - 1 : Nat), .str "R"]) ha1).trans (kt_new (u := .tup [.ref a1]) ha2)
        have tr4 := (tr3.add (u := .tup [.int (o + l.sz - 1 : Nat), .str "R"]) ha1).add (u := .tup [.ref a1]) ha2
        refine catA_use (k4 _ _ (k3 _ _ hwp)) upd_same (by simp; omega) (by simp) (fun w1 H5 s5 hw1 => ⟨szl, fun q1 hq1 => ?_⟩)
        have k6 := (k4.trans (kt_same s5)).trans (kt_new (u := .tup [.ref p2, .ref w1]) hq1)
        have tr6 := (tr4.more s5).add (u := .tup [.ref p2, .ref w1]) hq1
        have al6 := al3.imp fun _ _ => StkAt.kt k6
        have kk6 := k3.trans k6
        have st6 : StkAt t.sz (upd H5 q1 (.tup [.ref p2, .ref w1])) (.ref q1) (r, o + l.sz) := ⟨q1, p2, w1, _, rfl, upd_same, ⟨p2, rfl, tr6.a.same _ _ hp2⟩, upd_old hw1 hq1, by simp; omega⟩
        generalize upd H5 q1 (.tup [.ref p2, .ref w1]) = H6 at tr6 k6 al6 kk6 st6 ⊢
        refine ⟨sk, _, _, rfl, rfl, tr6.hr, sz_lt (by omega), ?_⟩
        have tr7 := tr6.putR (ws' := pre ++ [.ref q1])
        have al7 := (al6.push st6).imp fun _ _ => StkAt.kt (tr6.kR (u := .lst (pre ++ [.ref q1])))
        have k7 := kk6.trans (tr6.kR (u := .lst (pre ++ [.ref q1])))
        generalize upd H6 sk (.lst (pre ++ [.ref q1])) = H7 at tr7 al7 k7 ⊢
        refine ⟨_, rfl, .inl ⟨rfl, _, SqL.of tr7.hr⟩, _, rfl, _, rfl, lp, ls, _, _, rfl, rfl, SqT.of (tr7.a.same _ _ hls), atI_nat hlv, _, rfl, _, rfl, szl, fun a3 ha3 => ⟨szl, fun a4 ha4 => ?_⟩⟩
        have k8 := (kt_new (u := .tup [.int (o + l.sz - 1 : Nat), .str "L"]) ha3).trans (kt_new (u := .tup [.ref a3]) ha4)
        have tr8 := (tr7.add (u := .tup [.int (o + l.sz - 1 : Nat), .str "L"]) ha3).add (u := .tup [.ref a3]) ha4
        refine catA_use (k8 _ _ (k7 _ _ hwp)) upd_same (by simp; omega) (by simp) (fun w2 H9 s9 hw2 => ⟨szl, fun q2 hq2 => ?_⟩)
        have k10 := (k8.trans (kt_same s9)).trans (kt_new (u := .tup [.ref p1, .ref w2]) hq2)
        have tr10 := (tr8.more s9).add (u := .tup [.ref p1, .ref w2]) hq2
        have al10 := al7.imp fun _ _ => StkAt.kt k10
        have st10 : StkAt t.sz (upd H9 q2 (.tup [.ref p1, .ref w2])) (.ref q2) (l, o) := ⟨q2, p1, w2, _, rfl, upd_same, ⟨p1, rfl, tr10.a.same _ _ hp1⟩, upd_old hw2 hq2, by simp; omega⟩
        generalize upd H9 q2 (.tup [.ref p1, .ref w2]) = H10 at tr10 k10 al10 st10 ⊢
        refine ⟨sk, _, _, rfl, rfl, tr10.hr, sz_lt (by simp; omega), _, ?_, (l, o) :: (r, o + l.sz) :: S', _, wv, _, _, _, _, rfl, rfl, tr10.putR, ?_, ?_, ?_, ?_⟩
        · simp only [mus, List.map_cons, List.sum_cons, M.T.sz]; omega
        · rw [List.reverse_cons, List.reverse_cons]
          exact (al10.push st10).imp fun _ _ => StkAt.kt tr10.kR
        · simp only [szs, List.map_cons, List.sum_cons] at hw ⊢; omega
        · simp only [mus, List.map_cons, List.sum_cons, List.length_append, List.length_cons, List.length_nil] at hp ⊢; omega
        · intro u hu
          rcases List.mem_cons.mp hu with rfl | hu
          · exact hl1
          rcases List.mem_cons.mp hu with rfl | hu
          · exact hr1
          exact hS2 u hu
end
end My

set_option Elab.async false
set_option maxRecDepth 100000
set_option maxHeartbeats 4000000
namespace My
open PySem PySem.Spec PyProof.Rows L2
open M (Ch Need Ent RowK)
abbrev s_Tree___init__ : Stmt := inClass (top 33) 1
abbrev N_Tree___init__ : List Str := ["self", "text", "rows", "ascending", "row"]
theorem sc_Tree___init__ : FnScope N_Tree___init__ ["self", "text"] (defScope s_Tree___init__) := ⟨rfl, rfl, rfl, by decide +kernel, rfl, by decide +kernel, by decide +kernel⟩
section
variable {P : Program} {w : World} {K : PySem.W.Frag} {mg : Str → Option Value} {base : Heap} {C : Addr}
def fieldV (H : Hp) (k : Nat) (v : V) : V := match v with
  | .ref q => match H q with
    | some (.tup xs) => xs.getD k .non
    | _ => .non
  | _ => .non
def keyV (H : Hp) (v : V) : Int := match fieldV H 0 v with
  | .int i => i
  | _ => 0
theorem RowKAt.field {H : Hp} {v : V} {r : RowK} (h : RowKAt H v r) : ∃ q pl pr x3 x4, v = .ref q ∧ H q = some (.tup [.int (r.1 : Nat), .ref pl, .ref pr, x3, x4]) ∧ fieldV H 0 v = .int (r.1 : Nat) ∧ fieldV H 1 v = .ref pl ∧ fieldV H 2 v = .ref pr ∧ fieldV H 3 v = x3 ∧ fieldV H 4 v = x4 ∧ keyV H v = (r.1 : Nat) ∧
    NodeAt H (.ref pl) r.2.1 ∧ NodeAt H (.ref pr) r.2.2 := by
  obtain ⟨q, pl, pr, x3, x4, rfl, h1, h2, h3⟩ := h
  refine ⟨q, pl, pr, x3, x4, rfl, h1, ?_, ?_, ?_, ?_, ?_, ?_, h2, h3⟩ <;> simp [fieldV, keyV, h1]
section
variable {H : Hp} {t : M.T} {us ys : List V}
theorem keys_post (al : Al (RowKAt H) us (M.rowsK t)) : us.map (keyV H) = (M.post t).map fun n : Nat => (n : Int) := by
  rw [← M.rowsK_post]
  refine List.ext_getElem (by simp [al.len]) fun i h1 h2 => ?_
  rw [List.length_map] at h1
  rw [List.getElem_map, List.getElem_map, List.getElem_map]
  obtain ⟨q, pl, pr, x3, x4, e, _, _, _, _, _, _, hk, _⟩ := (al.at_ i h1 (by rw [← al.len]; exact h1)).field
  exact hk
theorem posts_V (al : Al (RowKAt H) us (M.rowsK t)) : us.map (fieldV H 0) = nV (M.post t) := by
  rw [← M.rowsK_post]
  refine List.ext_getElem (by simp [al.len, nV]) fun i h1 h2 => ?_
  rw [List.length_map] at h1
  simp only [nV, List.getElem_map]
  obtain ⟨q, pl, pr, x3, x4, e, _, hk, _⟩ := (al.at_ i h1 (by rw [← al.len]; exact h1)).field
  exact hk
theorem int_nodup {l : List Nat} (h : l.Nodup) : (l.map fun n : Nat => (n : Int)).Nodup := by
  rw [List.Nodup, List.pairwise_map]
  exact h.imp fun {a b} h e => h (by omega)
theorem key_inj (h5 : t.sz ≤ 5) (al : Al (RowKAt H) us (M.rowsK t)) : ∀ x ∈ us, ∀ y ∈ us, keyV H x = keyV H y → x = y := by
  intro x hx y hy e
  obtain ⟨i, hi⟩ := List.getElem?_of_mem hx
  obtain ⟨j, hj⟩ := List.getElem?_of_mem hy
  have hn := int_nodup (M.post_nodup h5)
  rw [← keys_post al] at hn
  have := nodup_idx hn (a := keyV H x) (by rw [List.getElem?_map, hi]; rfl) (by rw [List.getElem?_map, hj, e]; rfl)
  subst this
  rw [hi] at hj
  exact Option.some.inj hj
theorem asc_row (h5 : t.sz ≤ 5) (al : Al (RowKAt H) us (M.rowsK t)) (hp : ys.Perm us) (hs : ys.Pairwise fun x y => keyV H x ≤ keyV H y) (i : Nat) (hi : i < ys.length) :
    ∃ r ∈ M.rowsK t, RowKAt H ys[i] r ∧ r.1 = i := by
  have hmem : ∀ y ∈ ys, ∃ r ∈ M.rowsK t, RowKAt H y r := fun y hy => by
    obtain ⟨j, hj⟩ := List.getElem?_of_mem (hp.mem_iff.mp hy)
    obtain ⟨r, hr, h⟩ := al.get hj
    exact ⟨r, List.mem_of_getElem? hr, h⟩
  have hn : (ys.map (keyV H)).Nodup := by
    refine (hp.map (keyV H)).nodup_iff.mpr ?_
    rw [keys_post al]
    exact int_nodup (M.post_nodup h5)
  have hlt : (ys.map (keyV H)).Pairwise (· < ·) := by
    rw [List.pairwise_map]
    rw [List.Nodup, List.pairwise_map] at hn
    rw [List.pairwise_iff_getElem] at hs hn ⊢
    intro a b ha hb hab
    have h1 := hs a b ha hb hab
    have h2 := hn a b ha hb hab
    omega
  have hlen : ys.length + 1 = t.sz := by rw [hp.length_eq, al.len]; exact M.rowsK_len t
  have h0 : ∀ x ∈ ys.map (keyV H), 0 ≤ x ∧ x < ((ys.map (keyV H)).length : Int) := by
    intro x hx
    obtain ⟨y, hy, rfl⟩ := List.mem_map.mp hx
    obtain ⟨r, hr, h⟩ := hmem y hy
    obtain ⟨q, pl, pr, x3, x4, e, _, _, _, _, _, _, hk, _⟩ := h.field
    have := ((M.rd_text h5).2.2 r hr).2
    rw [hk, List.length_map]
    omega
  have := M.rise_is hlt h0 i (by rw [List.length_map]; exact hi)
  rw [List.getElem_map] at this
  obtain ⟨r, hr, h⟩ := hmem ys[i] (List.getElem_mem hi)
  obtain ⟨q, pl, pr, x3, x4, e, _, _, _, _, _, _, hk, _⟩ := h.field
  exact ⟨r, hr, h, by rw [hk] at this; omega⟩
theorem asc_sides (h5 : t.sz ≤ 5) (al : Al (RowKAt H) us (M.rowsK t)) (hp : ys.Perm us) (hs : ys.Pairwise fun x y => keyV H x ≤ keyV H y) :
    Al (NodeAt H) (ys.map (fieldV H 1)) ((M.kids t 0).map (·.1)) ∧ Al (NodeAt H) (ys.map (fieldV H 2)) ((M.kids t 0).map (·.2)) := by
  have hlen : ys.length + 1 = t.sz := by rw [hp.length_eq, al.len]; exact M.rowsK_len t
  have hk := M.kids_len t 0
  refine ⟨⟨by simp; omega, fun i h1 h2 => ?_⟩, ⟨by simp; omega, fun i h1 h2 => ?_⟩⟩
  all_goals
    rw [List.length_map] at h1 h2
    obtain ⟨r, hr, h, e⟩ := asc_row h5 al hp hs i h1
    obtain ⟨q, pl, pr, x3, x4, ev, _, _, f1, f2, _, _, _, n1, n2⟩ := h.field
    have hkid := ((M.rd_text h5).2.2 r hr).1
    rw [e, List.getElem?_eq_getElem h2] at hkid
    have hkid := Option.some.inj hkid
    rw [List.getElem_map, List.getElem_map, hkid]
  · rw [f1]; exact n1
  · rw [f2]; exact n2
end
structure In (H0 : Hp) (C a dx : Addr) (fs : List (Str × V)) (as rw : Addr) (ys us : List V) (H : Hp) : Prop where
  same : Same H0 H
  na : H0 a = none
  ha : H a = some (.ins C dx fs)
  has : H as = some (.lst ys)
  hrw : H rw = some (.lst us)
section
variable {H0 H H' : Hp} {C a dx as rw : Addr} {fs fs' : List (Str × V)} {ys us : List V}
theorem In.more (i : In H0 C a dx fs as rw ys us H) (s : Same H H') : In H0 C a dx fs as rw ys us H' := ⟨i.same.trans s, i.na, s _ _ i.ha, s _ _ i.has, s _ _ i.hrw⟩
theorem In.put (i : In H0 C a dx fs as rw ys us H) : In H0 C a dx fs' as rw ys us (upd H a (.ins C dx fs')) :=
  ⟨same_put i.same i.na, i.na, upd_same, upd_far i.has (ne_of i.has i.ha (by intro z; cases z)), upd_far i.hrw (ne_of i.hrw i.ha (by intro z; cases z))⟩
theorem In.kt (i : In H0 C a dx fs as rw ys us H) {u : HO} : KT H (upd H a u) := fun b xs h => upd_far h (ne_of h i.ha (by intro z; cases z))
end
theorem wrong_text (t : M.T) (h5 : t.sz ≤ 5) : (textS t).length ≤ 13 := by
  have := (M.rd_text h5).2.1
  rw [show (textS t).length = (textS t).cps.size from rfl]
  simpa [textS] using this
theorem fld_cut {K : PySem.W.Frag} {ta tv : TE} {f : Str} {t : TS} {D : Ends} {σ : L2.St} {H : Hp} (R : Addr → Hp → Prop) (he : ∀ Q' : VK, (∀ p H', R p H' → Q' (.ref p) H') → tv σ H Q')
    (hk : ∀ p H', R p H' → ta σ H' fun x H2 => ∃ a C dx fs, x = .ref a ∧ H2 a = some (.ins C dx fs) ∧ Cls K C ∧ NoAttr K C f ∧ fs.length < 1000 ∧ t D σ (upd H2 a (.ins C dx (putF f (.ref p) fs)))) : tSeq (sFld K ta tv f) t D σ H :=
  he _ hk
theorem last_row {t : M.T} (h : t ≠ .lf) : ∃ x, (M.rowsK t).getLast? = some (M.forkOf t 0, x) := by
  cases t with
  | lf => exact absurd rfl h
  | nd l r => simp [M.rowsK, M.subs]
def sp_init (C : Addr) : Sp := fun vs H Q _ => ∃ (H0 : Hp) (a dx : Addr) (t : M.T), vs = [.ref a, .str (textS t)] ∧ t.sz ≤ 5 ∧ Same H0 H ∧ H0 a = none ∧ H a = some (.ins C dx []) ∧ ∀ H', Same H0 H' → TreeAt C H' a t → Q .non H'
theorem d_init (T : Tx K mg) (Z : Tz K mg C) (F : IFun K C "Tree.__init__" s_Tree___init__) (d_read_forks : Def P w K mg base "read_forks" ["text"] 2 sp_read_forks) (d_lay_ways : Def P w K mg base "lay_ways" ["root", "lefts", "rights"] 1 sp_lay_ways) :
    IDef P w K mg base C ["self", "text"] 3 (sp_init C) := by
  obtain ⟨g, fd, F, m⟩ := F
  obtain ⟨um, hmost⟩ := Z.most
  refine ⟨g, fd, m, mk_run F sc_Tree___init__ (fun _ _ _ _ _ _ us hl => match us, hl with | [_, _], _ => rfl) (fun vs H Q E h => ?_) (fun f cdv A outer s H vs Q E hr h => ?_)⟩
  · obtain ⟨_, _, _, _, rfl, _⟩ := h; rfl
  · obtain ⟨H0, a, dx, t, rfl, h5, s0, na, ha, k⟩ := h
    refine ⟨_, (pss_cons (ps_set (i := 2) sc_Tree___init__.nd rfl (Or.inl rfl) pe_non)
      (pss_cons (ps_if (PW.pt (pw_and (pt_val (pe_callB call_isi (by rfl) T.b_isinstance (by decide +kernel) (pa_cons (pv 1) (pa_cons (pe_bltn (v := .ty "str") (by rfl) T.b_str (by decide +kernel) rfl) pa_nil)))) (pw_and1 (pt_cmpR op_le (pe_callB call_len_str (by rfl) T.b_len (by decide +kernel) (pa_cons (pv 1) pa_nil)) (pe_op op_sub (pe_op op_mul pe_int (pe_con (pv 0) rfl)) pe_int) (nomark _))))) (pss_one (ps_set (i := 2) sc_Tree___init__.nd rfl (Or.inl rfl) (pe_def d_read_forks hr (by rfl) (pa_cons (pv 1) pa_nil)))) pss_nil)
      (pss_cons (ps_if (pt_cmpR op_isN (pv 2) pe_non (nomark _)) (pss_one ps_never) pss_nil)
      (pss_cons (ps_set (i := 3) sc_Tree___init__.nd rfl (Or.inl rfl) (pe_callB cr_sortedR (by rfl) T.b_sorted (by decide +kernel) (pa_cons (pv 2) pa_nil)))
      (pss_cons (ps_fld (pv 0) (pv 1) rfl)
      (pss_cons (ps_fld (pv 0) (pe_callTy call_tuple_of (by rfl) T.b_tuple (by decide +kernel) (pa_cons (pe_lc (own := [("row", 4)]) rfl sc_Tree___init__.nd (pi_list (pv 3)) (blkOk_by (own := [("row", 4)]) (N := N_Tree___init__) (sc := defScope s_Tree___init__) (by decide +kernel)) (fun _ _ _ _ _ => (pg_name (i := 4) sc_Tree___init__.nd rfl (Or.inl rfl))) (fun _ _ _ _ _ => pts_nil) (fun _ _ _ _ _ => (pe_ix (show IxR _ (rIxT K) from ix_tup) (pv 4) pe_int (fun _ _ => rfl)))) pa_nil)) rfl)
      (pss_cons (ps_fld (pv 0) (pe_callTy call_tuple_of (by rfl) T.b_tuple (by decide +kernel) (pa_cons (pe_lc (own := [("row", 4)]) rfl sc_Tree___init__.nd (pi_list (pv 3)) (blkOk_by (own := [("row", 4)]) (N := N_Tree___init__) (sc := defScope s_Tree___init__) (by decide +kernel)) (fun _ _ _ _ _ => (pg_name (i := 4) sc_Tree___init__.nd rfl (Or.inl rfl))) (fun _ _ _ _ _ => pts_nil) (fun _ _ _ _ _ => (pe_ix (show IxR _ (rIxT K) from ix_tup) (pv 4) pe_int (fun _ _ => rfl)))) pa_nil)) rfl)
      (pss_cons (ps_fld (pv 0) (pe_callTy call_tuple_of (by rfl) T.b_tuple (by decide +kernel) (pa_cons (pe_lc (own := [("row", 4)]) rfl sc_Tree___init__.nd (pi_list (pv 3)) (blkOk_by (own := [("row", 4)]) (N := N_Tree___init__) (sc := defScope s_Tree___init__) (by decide +kernel)) (fun _ _ _ _ _ => (pg_name (i := 4) sc_Tree___init__.nd rfl (Or.inl rfl))) (fun _ _ _ _ _ => pts_nil) (fun _ _ _ _ _ => (pe_ix (show IxR _ (rIxT K) from ix_tup) (pv 4) pe_int (fun _ _ => rfl)))) pa_nil)) rfl)
      (pss_cons (ps_fld (pv 0) (pe_callTy call_tuple_of (by rfl) T.b_tuple (by decide +kernel) (pa_cons (pe_lc (own := [("row", 4)]) rfl sc_Tree___init__.nd (pi_list (pv 3)) (blkOk_by (own := [("row", 4)]) (N := N_Tree___init__) (sc := defScope s_Tree___init__) (by decide +kernel)) (fun _ _ _ _ _ => (pg_name (i := 4) sc_Tree___init__.nd rfl (Or.inl rfl))) (fun _ _ _ _ _ => pts_nil) (fun _ _ _ _ _ => (pe_ix (show IxR _ (rIxT K) from ix_tup) (pv 4) pe_int (fun _ _ => rfl)))) pa_nil)) rfl)
      (pss_cons (ps_fld (pv 0) (pe_callTy call_tuple_of (by rfl) T.b_tuple (by decide +kernel) (pa_cons (pe_lc (own := [("row", 4)]) rfl sc_Tree___init__.nd (pi_list (pv 2)) (blkOk_by (own := [("row", 4)]) (N := N_Tree___init__) (sc := defScope s_Tree___init__) (by decide +kernel)) (fun _ _ _ _ _ => (pg_name (i := 4) sc_Tree___init__.nd rfl (Or.inl rfl))) (fun _ _ _ _ _ => pts_nil) (fun _ _ _ _ _ => (pe_ix (show IxR _ (rIxT K) from ix_tup) (pv 4) pe_int (fun _ _ => rfl)))) pa_nil)) rfl)
      (pss_cons (ps_fld (pv 0) (pe_ifExp (pt_truth (pv 2) (by intro _; rfl)) (pe_tup (pa_cons pe_str (pa_cons (pe_ix ix_tup (pe_ix ix_list (pv 2) (pe_un un_neg pe_int) (fun _ _ => rfl)) pe_int (fun _ _ => rfl)) pa_nil))) (pe_tup (pa_cons pe_str (pa_cons pe_int pa_nil)))) rfl)
      (pss_one (ps_asg (pe_def d_lay_ways hr (by rfl) (pa_cons (pe_fld (pv 0) rfl) (pa_cons (pe_fld (pv 0) rfl) (pa_cons (pe_fld (pv 0) rfl) pa_nil)))) (pg_tup rfl (pgs_cons (pg_fld (pv 0)) (pgs_cons (pg_fld (pv 0)) pgs_nil)))))))))))))))), ?_⟩
    refine gName_at ?_
    dsimp only
    refine cut_if (fun σ' H' => ∃ rw us, σ' = [some (.ref a), some (.str (textS t)), some (.ref rw), none, none] ∧ Same H H' ∧ H rw = none ∧ H' rw = some (.lst us) ∧ Al (RowKAt H') us (M.rowsK t)) (fun key => ?_) (fun σ' H' h => ?_)
    · refine ifS_pure (and_pure (b := true) (fun Q q => ⟨_, rfl, _, _, _, _, true, rfl, .ty _, .base (.str _), kit_ty (by decide +kernel), _, rfl, q⟩)
        (fun Q q => ⟨_, rfl, _, rfl, (sz_le (by have := wrong_text t h5; omega)), _, rfl, a, C, dx, _, _, um, rfl, ha, Z.cl, hmost, rfl, _, _, rfl, rfl, .inl ⟨by decide, by decide⟩, _, _, rfl, rfl, _, _, rfl, rfl, true, congrArg V.bl (decide_eq_true (by have := wrong_text t h5; omega)), q⟩)) ?_
      refine iteT ⟨_, rfl, t, rfl, h5, fun H' p us s1 np hp al => key _ _ ⟨p, us, rfl, s1, np, hp, al⟩⟩
    · obtain ⟨rw, us, rfl, s1, nrw, hrw, al⟩ := h
      refine ⟨_, rfl, rfl, _, rfl, iteF ?_⟩
      refine ⟨_, rfl, rw, us, keyV H', rfl, SqL.of hrw, fun x hx => ?_, key_inj h5 al, fun ys as hperm hsort has => ?_⟩
      · obtain ⟨j, hj⟩ := List.getElem?_of_mem hx
        obtain ⟨r, _, h⟩ := al.get hj
        obtain ⟨q, pl, pr, x3, x4, e, h1, _, _, _, _, _, hk, _⟩ := h.field
        exact ⟨q, _, e, by rw [hk]; exact h1⟩
      have hul : us.length ≤ 4 := by have := al.len; have := M.rowsK_len t; omega
      have hyl : ys.length ≤ 4 := by rw [hperm.length_eq]; exact hul
      have rowA : ∀ y ∈ ys, ∃ r, RowKAt H' y r := fun y hy => by
        obtain ⟨j, hj⟩ := List.getElem?_of_mem (hperm.mem_iff.mp hy)
        obtain ⟨r, _, h⟩ := al.get hj
        exact ⟨r, h⟩
      have rowU : ∀ y ∈ us, ∃ r, RowKAt H' y r := fun y hy => by
        obtain ⟨j, hj⟩ := List.getElem?_of_mem hy
        obtain ⟨r, _, h⟩ := al.get hj
        exact ⟨r, h⟩
      obtain ⟨sd1, sd2⟩ := asc_sides h5 al hperm hsort
      have hpost := posts_V al
      have IN : In H0 C a dx [] as rw ys us (upd H' as (.lst ys)) := ⟨(s0.trans s1).trans (same_new has), na, upd_old (s1 _ _ ha) has, upd_same, upd_old hrw has⟩
      have KK : KT H' (upd H' as (.lst ys)) := kt_new has
      have bigB : ∀ {fs : List (Str × V)}, fs.length ≤ 20 → fs.length < 1000 := fun h => by omega
      generalize upd H' as (.lst ys) = HA at IN KK ⊢
      refine ⟨_, rfl, _, rfl, a, C, dx, _, rfl, IN.ha, Z.cl, Z.n_text, by decide, ?_⟩
      have IN1 := IN.put (fs' := putF "text" (.str (textS t)) [])
      have KK1 := KK.trans (IN.kt (u := .ins C dx (putF "text" (.str (textS t)) [])))
      have L1 : (putF "text" (.str (textS t)) []).length ≤ 1 := length_putF _ _ _
      generalize hf1 : putF "text" (.str (textS t)) [] = fs1 at IN1 KK1 L1 ⊢
      generalize upd HA a (.ins C dx fs1) = HB1 at IN1 KK1 ⊢
      refine ⟨_, rfl, as, rfl, ⟨_, SqL.of IN1.has⟩, fun D2 hD2 => lc_acc (walk_list (K := K) (a := as) (xs := ys)) (fun i => (ys.take i).map (fieldV H' 1)) hD2 rfl (fun Hx s => s.seq (SqL.of IN1.has)) (fun i x Hx Hy hi g y => ?_) (fun HC2 gC2 => ?_)⟩
      · obtain ⟨rfl, hx⟩ := y
        obtain ⟨r, hr⟩ := rowA x (List.mem_of_getElem? hx)
        obtain ⟨q, pl, pr, x3, x4, rfl, h1, f0, f1, f2, f3, f4, _⟩ := hr.field
        refine ⟨rfl, _, rfl, q, _, _, _, rfl, rfl, SqT.of ((KK1.trans (kt_same g.same)) _ _ h1), atI_nat (j := 1) rfl, ?_⟩
        refine g.push (by rw [List.length_map, List.length_take]; omega) ?_
        rw [take_snoc hx, List.map_append, List.map_cons, List.map_nil, f1]
      rw [all_take] at gC2
      refine ⟨D2, _, rfl, .inl ⟨SqL.of gC2.at_, fun p2 hp2 => ?_⟩⟩
      have INx2 := (IN1.more gC2.same).more (same_new (u := .tup (ys.map (fieldV H' 1))) hp2)
      have KKx2 := (KK1.trans (kt_same gC2.same)).trans (kt_new (u := .tup (ys.map (fieldV H' 1))) hp2)
      have e2 : upd HC2 p2 (.tup (ys.map (fieldV H' 1))) p2 = some (.tup (ys.map (fieldV H' 1))) := upd_same
      have tr2 := (kt_same gC2.same).trans (kt_new (u := .tup (ys.map (fieldV H' 1))) hp2)
      generalize upd HC2 p2 (.tup (ys.map (fieldV H' 1))) = HE2 at INx2 KKx2 e2 tr2 ⊢
      refine ⟨_, rfl, a, C, dx, _, rfl, INx2.ha, Z.cl, Z.n_lefts, by omega, ?_⟩
      have IN2 := INx2.put (fs' := putF "lefts" (.ref p2) fs1)
      have KK2 := KKx2.trans (INx2.kt (u := .ins C dx (putF "lefts" (.ref p2) fs1)))
      have ef2 := INx2.kt (u := .ins C dx (putF "lefts" (.ref p2) fs1)) _ _ e2
      have ku2 := tr2.trans (INx2.kt (u := .ins C dx (putF "lefts" (.ref p2) fs1)))
      have L2 : (putF "lefts" (.ref p2) fs1).length ≤ 2 := Nat.le_trans (length_putF _ _ _) (by omega)
      generalize hf2 : putF "lefts" (.ref p2) fs1 = fs2 at IN2 KK2 L2 ef2 ku2 ⊢
      generalize upd HE2 a (.ins C dx fs2) = HB2 at IN2 KK2 ef2 ku2 ⊢
      refine ⟨_, rfl, as, rfl, ⟨_, SqL.of IN2.has⟩, fun D3 hD3 => lc_acc (walk_list (K := K) (a := as) (xs := ys)) (fun i => (ys.take i).map (fieldV H' 2)) hD3 rfl (fun Hx s => s.seq (SqL.of IN2.has)) (fun i x Hx Hy hi g y => ?_) (fun HC3 gC3 => ?_)⟩
      · obtain ⟨rfl, hx⟩ := y
        obtain ⟨r, hr⟩ := rowA x (List.mem_of_getElem? hx)
        obtain ⟨q, pl, pr, x3, x4, rfl, h1, f0, f1, f2, f3, f4, _⟩ := hr.field
        refine ⟨rfl, _, rfl, q, _, _, _, rfl, rfl, SqT.of ((KK2.trans (kt_same g.same)) _ _ h1), atI_nat (j := 2) rfl, ?_⟩
        refine g.push (by rw [List.length_map, List.length_take]; omega) ?_
        rw [take_snoc hx, List.map_append, List.map_cons, List.map_nil, f2]
      rw [all_take] at gC3
      refine ⟨D3, _, rfl, .inl ⟨SqL.of gC3.at_, fun p3 hp3 => ?_⟩⟩
      have INx3 := (IN2.more gC3.same).more (same_new (u := .tup (ys.map (fieldV H' 2))) hp3)
      have KKx3 := (KK2.trans (kt_same gC3.same)).trans (kt_new (u := .tup (ys.map (fieldV H' 2))) hp3)
      have e3 : upd HC3 p3 (.tup (ys.map (fieldV H' 2))) p3 = some (.tup (ys.map (fieldV H' 2))) := upd_same
      have tr3 := (kt_same gC3.same).trans (kt_new (u := .tup (ys.map (fieldV H' 2))) hp3)
      generalize upd HC3 p3 (.tup (ys.map (fieldV H' 2))) = HE3 at INx3 KKx3 e3 tr3 ⊢
      refine ⟨_, rfl, a, C, dx, _, rfl, INx3.ha, Z.cl, Z.n_rights, by omega, ?_⟩
      have IN3 := INx3.put (fs' := putF "rights" (.ref p3) fs2)
      have KK3 := KKx3.trans (INx3.kt (u := .ins C dx (putF "rights" (.ref p3) fs2)))
      have ef3 := INx3.kt (u := .ins C dx (putF "rights" (.ref p3) fs2)) _ _ e3
      have ku3 := tr3.trans (INx3.kt (u := .ins C dx (putF "rights" (.ref p3) fs2)))
      have ef2 := ku3 _ _ ef2
      have L3 : (putF "rights" (.ref p3) fs2).length ≤ 3 := Nat.le_trans (length_putF _ _ _) (by omega)
      generalize hf3 : putF "rights" (.ref p3) fs2 = fs3 at IN3 KK3 L3 ef2 ef3 ku3 ⊢
      generalize upd HE3 a (.ins C dx fs3) = HB3 at IN3 KK3 ef2 ef3 ku3 ⊢
      refine ⟨_, rfl, as, rfl, ⟨_, SqL.of IN3.has⟩, fun D4 hD4 => lc_acc (walk_list (K := K) (a := as) (xs := ys)) (fun i => (ys.take i).map (fieldV H' 3)) hD4 rfl (fun Hx s => s.seq (SqL.of IN3.has)) (fun i x Hx Hy hi g y => ?_) (fun HC4 gC4 => ?_)⟩
      · obtain ⟨rfl, hx⟩ := y
        obtain ⟨r, hr⟩ := rowA x (List.mem_of_getElem? hx)
        obtain ⟨q, pl, pr, x3, x4, rfl, h1, f0, f1, f2, f3, f4, _⟩ := hr.field
        refine ⟨rfl, _, rfl, q, _, _, _, rfl, rfl, SqT.of ((KK3.trans (kt_same g.same)) _ _ h1), atI_nat (j := 3) rfl, ?_⟩
        refine g.push (by rw [List.length_map, List.length_take]; omega) ?_
        rw [take_snoc hx, List.map_append, List.map_cons, List.map_nil, f3]
      rw [all_take] at gC4
      refine ⟨D4, _, rfl, .inl ⟨SqL.of gC4.at_, fun p4 hp4 => ?_⟩⟩
      have INx4 := (IN3.more gC4.same).more (same_new (u := .tup (ys.map (fieldV H' 3))) hp4)
      have KKx4 := (KK3.trans (kt_same gC4.same)).trans (kt_new (u := .tup (ys.map (fieldV H' 3))) hp4)
      have e4 : upd HC4 p4 (.tup (ys.map (fieldV H' 3))) p4 = some (.tup (ys.map (fieldV H' 3))) := upd_same
      have tr4 := (kt_same gC4.same).trans (kt_new (u := .tup (ys.map (fieldV H' 3))) hp4)
      generalize upd HC4 p4 (.tup (ys.map (fieldV H' 3))) = HE4 at INx4 KKx4 e4 tr4 ⊢
      refine ⟨_, rfl, a, C, dx, _, rfl, INx4.ha, Z.cl, Z.n_spans, by omega, ?_⟩
      have IN4 := INx4.put (fs' := putF "spans" (.ref p4) fs3)
      have KK4 := KKx4.trans (INx4.kt (u := .ins C dx (putF "spans" (.ref p4) fs3)))
      have ef4 := INx4.kt (u := .ins C dx (putF "spans" (.ref p4) fs3)) _ _ e4
      have ku4 := tr4.trans (INx4.kt (u := .ins C dx (putF "spans" (.ref p4) fs3)))
      have ef2 := ku4 _ _ ef2
      have ef3 := ku4 _ _ ef3
      have L4 : (putF "spans" (.ref p4) fs3).length ≤ 4 := Nat.le_trans (length_putF _ _ _) (by omega)
      generalize hf4 : putF "spans" (.ref p4) fs3 = fs4 at IN4 KK4 L4 ef2 ef3 ef4 ku4 ⊢
      generalize upd HE4 a (.ins C dx fs4) = HB4 at IN4 KK4 ef2 ef3 ef4 ku4 ⊢
      refine ⟨_, rfl, as, rfl, ⟨_, SqL.of IN4.has⟩, fun D5 hD5 => lc_acc (walk_list (K := K) (a := as) (xs := ys)) (fun i => (ys.take i).map (fieldV H' 4)) hD5 rfl (fun Hx s => s.seq (SqL.of IN4.has)) (fun i x Hx Hy hi g y => ?_) (fun HC5 gC5 => ?_)⟩
      · obtain ⟨rfl, hx⟩ := y
        obtain ⟨r, hr⟩ := rowA x (List.mem_of_getElem? hx)
        obtain ⟨q, pl, pr, x3, x4, rfl, h1, f0, f1, f2, f3, f4, _⟩ := hr.field
        refine ⟨rfl, _, rfl, q, _, _, _, rfl, rfl, SqT.of ((KK4.trans (kt_same g.same)) _ _ h1), atI_nat (j := 4) rfl, ?_⟩
        refine g.push (by rw [List.length_map, List.length_take]; omega) ?_
        rw [take_snoc hx, List.map_append, List.map_cons, List.map_nil, f4]
      rw [all_take] at gC5
      refine ⟨D5, _, rfl, .inl ⟨SqL.of gC5.at_, fun p5 hp5 => ?_⟩⟩
      have INx5 := (IN4.more gC5.same).more (same_new (u := .tup (ys.map (fieldV H' 4))) hp5)
      have KKx5 := (KK4.trans (kt_same gC5.same)).trans (kt_new (u := .tup (ys.map (fieldV H' 4))) hp5)
      have e5 : upd HC5 p5 (.tup (ys.map (fieldV H' 4))) p5 = some (.tup (ys.map (fieldV H' 4))) := upd_same
      have tr5 := (kt_same gC5.same).trans (kt_new (u := .tup (ys.map (fieldV H' 4))) hp5)
      generalize upd HC5 p5 (.tup (ys.map (fieldV H' 4))) = HE5 at INx5 KKx5 e5 tr5 ⊢
      refine ⟨_, rfl, a, C, dx, _, rfl, INx5.ha, Z.cl, Z.n_bounds, by omega, ?_⟩
      have IN5 := INx5.put (fs' := putF "bounds" (.ref p5) fs4)
      have KK5 := KKx5.trans (INx5.kt (u := .ins C dx (putF "bounds" (.ref p5) fs4)))
      have ef5 := INx5.kt (u := .ins C dx (putF "bounds" (.ref p5) fs4)) _ _ e5
      have ku5 := tr5.trans (INx5.kt (u := .ins C dx (putF "bounds" (.ref p5) fs4)))
      have ef2 := ku5 _ _ ef2
      have ef3 := ku5 _ _ ef3
      have ef4 := ku5 _ _ ef4
      have L5 : (putF "bounds" (.ref p5) fs4).length ≤ 5 := Nat.le_trans (length_putF _ _ _) (by omega)
      generalize hf5 : putF "bounds" (.ref p5) fs4 = fs5 at IN5 KK5 L5 ef2 ef3 ef4 ef5 ku5 ⊢
      generalize upd HE5 a (.ins C dx fs5) = HB5 at IN5 KK5 ef2 ef3 ef4 ef5 ku5 ⊢
      refine ⟨_, rfl, rw, rfl, ⟨_, SqL.of IN5.hrw⟩, fun D6 hD6 => lc_acc (walk_list (K := K) (a := rw) (xs := us)) (fun i => (us.take i).map (fieldV H' 0)) hD6 rfl (fun Hx s => s.seq (SqL.of IN5.hrw)) (fun i x Hx Hy hi g y => ?_) (fun HC6 gC6 => ?_)⟩
      · obtain ⟨rfl, hx⟩ := y
        obtain ⟨r, hr⟩ := rowU x (List.mem_of_getElem? hx)
        obtain ⟨q, pl, pr, x3, x4, rfl, h1, f0, f1, f2, f3, f4, _⟩ := hr.field
        refine ⟨rfl, _, rfl, q, _, _, _, rfl, rfl, SqT.of ((KK5.trans (kt_same g.same)) _ _ h1), atI_nat (j := 0) rfl, ?_⟩
        refine g.push (by rw [List.length_map, List.length_take]; omega) ?_
        rw [take_snoc hx, List.map_append, List.map_cons, List.map_nil, f0]
      rw [all_take] at gC6
      refine ⟨D6, _, rfl, .inl ⟨SqL.of gC6.at_, fun p6 hp6 => ?_⟩⟩
      have INx6 := (IN5.more gC6.same).more (same_new (u := .tup (us.map (fieldV H' 0))) hp6)
      have KKx6 := (KK5.trans (kt_same gC6.same)).trans (kt_new (u := .tup (us.map (fieldV H' 0))) hp6)
      have e6 : upd HC6 p6 (.tup (us.map (fieldV H' 0))) p6 = some (.tup (us.map (fieldV H' 0))) := upd_same
      have tr6 := (kt_same gC6.same).trans (kt_new (u := .tup (us.map (fieldV H' 0))) hp6)
      generalize upd HC6 p6 (.tup (us.map (fieldV H' 0))) = HE6 at INx6 KKx6 e6 tr6 ⊢
      refine ⟨_, rfl, a, C, dx, _, rfl, INx6.ha, Z.cl, Z.n_postorder, by omega, ?_⟩
      have IN6 := INx6.put (fs' := putF "postorder" (.ref p6) fs5)
      have KK6 := KKx6.trans (INx6.kt (u := .ins C dx (putF "postorder" (.ref p6) fs5)))
      have ef6 := INx6.kt (u := .ins C dx (putF "postorder" (.ref p6) fs5)) _ _ e6
      have ku6 := tr6.trans (INx6.kt (u := .ins C dx (putF "postorder" (.ref p6) fs5)))
      have ef2 := ku6 _ _ ef2
      have ef3 := ku6 _ _ ef3
      have ef4 := ku6 _ _ ef4
      have ef5 := ku6 _ _ ef5
      have L6 : (putF "postorder" (.ref p6) fs5).length ≤ 6 := Nat.le_trans (length_putF _ _ _) (by omega)
      generalize hf6 : putF "postorder" (.ref p6) fs5 = fs6 at IN6 KK6 L6 ef2 ef3 ef4 ef5 ef6 ku6 ⊢
      generalize upd HE6 a (.ins C dx fs6) = HB6 at IN6 KK6 ef2 ef3 ef4 ef5 ef6 ku6 ⊢
      dsimp only
      refine fld_cut (fun p Hp => Same HB6 Hp ∧ Hp p = some (.tup [.str (wordS (M.nodeOf t 0).1), .int ((M.nodeOf t 0).2 : Nat)])) (fun Q' kq => ?_) (fun p7 Hp7 h7 => ?_)
      · refine ⟨_, rfl, _, .inl ⟨_, SqL.of IN6.hrw, rfl⟩, ?_⟩
        by_cases hn : us = []
        · subst hn
          have e : t = .lf := by
            have h1 := al.len
            have h2 := M.rowsK_len t
            cases t with
            | lf => rfl
            | nd l r =>
              have := l.sz_pos
              have := r.sz_pos
              simp only [M.T.sz, List.length_nil] at h1 h2
              omega
          subst e
          exact iteF ⟨szl, fun p hp => kq _ _ ⟨same_new hp, upd_same⟩⟩
        · have hne : t ≠ .lf := fun z => by
            subst z
            exact hn (List.eq_nil_of_length_eq_zero al.len)
          obtain ⟨x, hx⟩ := last_row hne
          rw [List.getLast?_eq_getElem?] at hx
          obtain ⟨v, hv, hrv⟩ := al.get' hx
          have eu : us = us.dropLast ++ [v] := by
            have e3 : us.getLast? = some v := by rw [List.getLast?_eq_getElem?, ← hv, al.len]
            rw [List.getLast?_eq_some_getLast hn] at e3
            have e4 := Option.some.inj e3
            rw [← e4]
            exact (List.dropLast_concat_getLast hn).symm
          obtain ⟨q, pl, pr, x3, x4, rfl, h1, _⟩ := hrv.field
          have hb : (!us.isEmpty) = true := by
            cases us with
            | nil => exact absurd rfl hn
            | cons _ _ => rfl
          rw [hb]
          have hl := IN6.hrw
          rw [eu] at hl
          refine iteT ⟨_, rfl, 1, rfl, rw, _, _, _, rfl, rfl, SqL.of hl, atI_last _ _, q, _, _, _, rfl, rfl, SqT.of (KK6 _ _ h1), atI_nat (j := 0) rfl, szl, fun p hp => kq _ _ ⟨same_new hp, ?_⟩⟩
          rw [upd_same]
          cases t with
          | lf => exact absurd rfl hne
          | nd l r => rfl
      · obtain ⟨s7, hp7⟩ := h7
        have INx7 := IN6.more s7
        have trx := kt_same s7
        refine ⟨_, rfl, a, C, dx, _, rfl, INx7.ha, Z.cl, Z.n_root, by omega, ?_⟩
        have IN7 := INx7.put (fs' := putF "root" (.ref p7) fs6)
        have k7 := INx7.kt (u := .ins C dx (putF "root" (.ref p7) fs6))
        have L7 : (putF "root" (.ref p7) fs6).length ≤ 7 := Nat.le_trans (length_putF _ _ _) (by omega)
        have KK7 := (KK6.trans trx).trans k7
        have g7 := k7 _ _ hp7
        have ef2 := k7 _ _ (trx _ _ ef2)
        have ef3 := k7 _ _ (trx _ _ ef3)
        have ef4 := k7 _ _ (trx _ _ ef4)
        have ef5 := k7 _ _ (trx _ _ ef5)
        have ef6 := k7 _ _ (trx _ _ ef6)
        generalize hf7 : putF "root" (.ref p7) fs6 = fs7 at IN7 KK7 L7 g7 ef2 ef3 ef4 ef5 ef6 k7 ⊢
        generalize upd Hp7 a (.ins C dx fs7) = HB7 at IN7 KK7 g7 ef2 ef3 ef4 ef5 ef6 k7 ⊢
        refine ⟨_, rfl, a, C, dx, _, _, rfl, IN7.ha, Z.cl, Z.n_root, (by rw [← hf7, lookup_putF, if_pos rfl]), _, rfl, a, C, dx, _, _, rfl, IN7.ha, Z.cl, Z.n_lefts, (by rw [← hf7, lookup_putF, if_neg (by decide +kernel), ← hf6, lookup_putF, if_neg (by decide +kernel), ← hf5, lookup_putF, if_neg (by decide +kernel), ← hf4, lookup_putF, if_neg (by decide +kernel), ← hf3, lookup_putF, if_neg (by decide +kernel), ← hf2, lookup_putF, if_pos rfl]), _, rfl, a, C, dx, _, _, rfl, IN7.ha, Z.cl, Z.n_rights, (by rw [← hf7, lookup_putF, if_neg (by decide +kernel), ← hf6, lookup_putF, if_neg (by decide +kernel), ← hf5, lookup_putF, if_neg (by decide +kernel), ← hf4, lookup_putF, if_neg (by decide +kernel), ← hf3, lookup_putF, if_pos rfl]), ?_⟩
        refine ⟨p7, p2, p3, _, _, t, rfl, ef2, sd1.imp fun _ _ => NodeAt.kt KK7, ef3, sd2.imp fun _ _ => NodeAt.kt KK7, ⟨p7, rfl, g7⟩, h5, fun H8 p8 q1 q2 ws s8 hp8 hq2 hws => ?_⟩
        have IN8 := IN7.more s8
        refine ⟨p8, _, rfl, SqT.of hp8, rfl, _, _, rfl, _, rfl, a, C, dx, _, rfl, IN8.ha, Z.cl, Z.n_preorder, by omega, _, _, rfl, _, rfl, a, C, dx, _, rfl, upd_same, Z.cl, Z.n_ways, ?_, rfl, ?_⟩
        · exact Nat.lt_of_le_of_lt (length_putF _ _ _) (by omega)
        have IN9 := (IN8.put (fs' := putF "preorder" (.ref q1) fs7)).put (fs' := putF "ways" (.ref q2) (putF "preorder" (.ref q1) fs7))
        have k9 : KT HB7 _ := ((kt_same s8).trans (IN8.kt (u := .ins C dx (putF "preorder" (.ref q1) fs7)))).trans ((IN8.put (fs' := putF "preorder" (.ref q1) fs7)).kt (u := .ins C dx (putF "ways" (.ref q2) (putF "preorder" (.ref q1) fs7))))
        have kq9 := (IN8.kt (u := .ins C dx (putF "preorder" (.ref q1) fs7))).trans ((IN8.put (fs' := putF "preorder" (.ref q1) fs7)).kt (u := .ins C dx (putF "ways" (.ref q2) (putF "preorder" (.ref q1) fs7))))
        have q9 := kq9 _ _ hq2
        have KK9 := KK7.trans k9
        generalize hf8 : putF "preorder" (.ref q1) fs7 = fs8 at IN9 k9 q9 KK9 ⊢
        generalize hf9 : putF "ways" (.ref q2) fs8 = fs9 at IN9 k9 q9 KK9 ⊢
        refine k _ IN9.same ⟨dx, fs9, p2, p3, p4, p6, q2, _, _, _, ws, IN9.ha, (by rw [← hf9, lookup_putF, if_neg (by decide +kernel), ← hf8, lookup_putF, if_neg (by decide +kernel), ← hf7, lookup_putF, if_neg (by decide +kernel), ← hf6, lookup_putF, if_neg (by decide +kernel), ← hf5, lookup_putF, if_neg (by decide +kernel), ← hf4, lookup_putF, if_neg (by decide +kernel), ← hf3, lookup_putF, if_neg (by decide +kernel), ← hf2, lookup_putF, if_neg (by decide +kernel), ← hf1, lookup_putF, if_neg (by decide +kernel)]; rfl), (by rw [← hf9, lookup_putF, if_neg (by decide +kernel), ← hf8, lookup_putF, if_neg (by decide +kernel), ← hf7, lookup_putF, if_neg (by decide +kernel), ← hf6, lookup_putF, if_neg (by decide +kernel), ← hf5, lookup_putF, if_neg (by decide +kernel), ← hf4, lookup_putF, if_neg (by decide +kernel), ← hf3, lookup_putF, if_neg (by decide +kernel), ← hf2, lookup_putF, if_pos rfl]), (by rw [← hf9, lookup_putF, if_neg (by decide +kernel), ← hf8, lookup_putF, if_neg (by decide +kernel), ← hf7, lookup_putF, if_neg (by decide +kernel), ← hf6, lookup_putF, if_neg (by decide +kernel), ← hf5, lookup_putF, if_neg (by decide +kernel), ← hf4, lookup_putF, if_neg (by decide +kernel), ← hf3, lookup_putF, if_pos rfl]), (by rw [← hf9, lookup_putF, if_neg (by decide +kernel), ← hf8, lookup_putF, if_neg (by decide +kernel), ← hf7, lookup_putF, if_neg (by decide +kernel), ← hf6, lookup_putF, if_neg (by decide +kernel), ← hf5, lookup_putF, if_neg (by decide +kernel), ← hf4, lookup_putF, if_pos rfl]), (by rw [← hf9, lookup_putF, if_neg (by decide +kernel), ← hf8, lookup_putF, if_neg (by decide +kernel), ← hf7, lookup_putF, if_neg (by decide +kernel), ← hf6, lookup_putF, if_pos rfl]), (by rw [← hf9, lookup_putF, if_pos rfl]), k9 _ _ ef2, sd1.imp fun _ _ => NodeAt.kt KK9, k9 _ _ ef3, sd2.imp fun _ _ => NodeAt.kt KK9, k9 _ _ ef4, ?_, ?_, q9, hws⟩
        · rw [List.length_map, hperm.length_eq, al.len]; exact M.rowsK_len t
        · rw [← hpost]; exact k9 _ _ ef6
end
end My

set_option Elab.async false
set_option maxRecDepth 100000
set_option maxHeartbeats 4000000
namespace My
open PySem PySem.Spec PyProof.Rows L2
open M (Ch Need)
abbrev s__law_box : Stmt := top 35
abbrev N__law_box : List Str := ["_law_script", "_law_seed", "_law_great", "_law_cell"]
theorem sc__law_box : FnScope N__law_box ["_law_script"] (defScope s__law_box) := ⟨rfl, rfl, rfl, by decide +kernel, rfl, by decide +kernel, by decide +kernel⟩
abbrev s__law_take : Stmt := top 36
abbrev N__law_take : List Str := ["_law_box_here", "_law_size", "_law_great", "_law_cell", "_law_first", "_law_second", "_law_third"]
theorem sc__law_take : FnScope N__law_take ["_law_box_here", "_law_size"] (defScope s__law_take) := ⟨rfl, rfl, rfl, by decide +kernel, rfl, by decide +kernel, by decide +kernel⟩
/-! ### the box, and what is left alone -/
def Fr (b g : Addr) (H H' : Hp) : Prop := ∀ a o, H a = some o → a ≠ b → a ≠ g → H' a = some o
def BoxAt (b g : Addr) (H : Hp) : Prop := ∃ (gs : List Int) (seed cnt : Int), H b = some (.lst [.ref g, .int seed, .int cnt]) ∧ H g = some (.lst (gs.map V.int)) ∧ gs.length ≤ 63 ∧ b ≠ g
section
variable {b g p : Addr} {H H' H'' : Hp} {u : HO}
theorem Fr.refl : Fr b g H H := fun _ _ h _ _ => h
theorem Fr.trans (x : Fr b g H H') (y : Fr b g H' H'') : Fr b g H H'' := fun a o h h1 h2 => y a o (x a o h h1 h2) h1 h2
theorem fr_same (s : Same H H') : Fr b g H H' := fun a o h _ _ => s a o h
theorem fr_b : Fr b g H (upd H b u) := fun _ _ h h1 _ => upd_far h h1
theorem fr_g : Fr b g H (upd H g u) := fun _ _ h _ h2 => upd_far h h2
theorem BoxAt.more (x : BoxAt b g H) (s : Same H H') : BoxAt b g H' := by
  obtain ⟨gs, seed, cnt, h1, h2, h3, h4⟩ := x
  exact ⟨gs, seed, cnt, s _ _ h1, s _ _ h2, h3, h4⟩
theorem BoxAt.keep (x : BoxAt b g H) {o : HO} (hp : H p = none ∨ p ≠ b ∧ p ≠ g) : BoxAt b g (upd H p o) := by
  obtain ⟨gs, seed, cnt, h1, h2, h3, h4⟩ := x
  rcases hp with hp | ⟨n1, n2⟩
  · exact ⟨gs, seed, cnt, upd_old h1 hp, upd_old h2 hp, h3, h4⟩
  · exact ⟨gs, seed, cnt, upd_far h1 (Ne.symm n1), upd_far h2 (Ne.symm n2), h3, h4⟩
/-- a new address is none of the box -/
theorem BoxAt.new (x : BoxAt b g H) (n : H p = none) : p ≠ b ∧ p ≠ g := by
  obtain ⟨gs, seed, cnt, h1, h2, h3, h4⟩ := x
  exact ⟨fun z => (by rw [z, h1] at n; cases n), fun z => (by rw [z, h2] at n; cases n)⟩
end
theorem fmod_pos {a n : Int} (h : 0 < n) : 0 ≤ a.fmod n ∧ a.fmod n < n := ⟨Int.fmod_nonneg_of_pos a h, Int.fmod_lt_of_pos a h⟩
theorem bndF {a n : Int} (h : 0 < n) (h2 : n ≤ 4294967296) : -(2 ^ 64) < a.fmod n ∧ a.fmod n < 2 ^ 64 := by
  have := fmod_pos (a := a) h
  omega
section
variable {P : Program} {w : World} {K : PySem.W.Frag} {mg : Str → Option Value} {base : Heap} {C : Addr}
theorem cutV_all (xs : List V) (h : xs.length ≤ 63) : cutV xs none (some 63) = xs := by
  have e : HT.sIx xs.length xs.length (some 63) = xs.length := by
    rw [HT.sIx, if_neg (by decide)]
    show min 63 xs.length = xs.length
    omega
  unfold cutV
  rw [e, HT.sIx_none]
  simp
def sp_box (K : PySem.W.Frag) : Sp := fun vs H Q _ => ∃ (a : Addr) (ns : List Int), vs = [.ref a] ∧ SqL K H a (ns.map V.int) ∧ ns.length ≤ 63 ∧ ∀ H' b g, Same H H' → H b = none → H g = none → BoxAt b g H' → Q (.ref b) H'
theorem d__law_box (T : Tx K mg) (F : FunAt K mg "_law_box" s__law_box) : Def P w K mg base "_law_box" ["_law_script"] 1 (sp_box K) := by
  refine mk_def F sc__law_box (fun _ _ _ _ _ _ us hl => match us, hl with | [_], _ => rfl) (fun vs H Q E h => ?_) (fun f cdv A outer s H vs Q E hr h => ?_)
  · obtain ⟨_, _, rfl, _⟩ := h; rfl
  · obtain ⟨a, ns, rfl, hs, hl, k⟩ := h
    refine ⟨_, (pss_cons (ps_set (i := 1) sc__law_box.nd rfl (Or.inl rfl) pe_int)
      (pss_cons (ps_set (i := 2) sc__law_box.nd rfl (Or.inl rfl) (pe_lst pa_nil))
      (pss_cons (ps_for PassesOwn.never rfl (pi_list (pe_slice sl_list (pv 0) po_none (po_some pe_int))) (pg_name (i := 3) sc__law_box.nd rfl (Or.inl rfl)) (pss_cons (ps_set (i := 1) sc__law_box.nd rfl (Or.inl rfl) (pe_op op_modN (pe_callTy call_int1 (by rfl) T.b_int (by decide +kernel) (pa_cons (pe_op op_add (pe_op op_mul (pv 1) pe_int) (pv 3)) pa_nil)) pe_int))
      (pss_one (ps_if (pt_cmpR op_ge (pv 3) (pe_op op_pow pe_int pe_int) (nomark _)) (pss_one (ps_expr (pe_bm PySem.F.plainAttrs_list PySem.F.slot_list_append PySem.F.type_list_append mt_append (pv 2) (pa_cons (pv 3) pa_nil)))) pss_nil))))
      (pss_one (ps_ret (pe_lst (pa_cons (pv 2) (pa_cons (pv 1) (pa_cons pe_int pa_nil))))))))), ?_⟩
    refine ⟨szl, fun g hg => ?_⟩
    refine ⟨_, rfl, _, rfl, a, _, rfl, (same_new hg).seq hs, fun p hp => ?_⟩
    rw [cutV_all _ (by simpa using hl)]
    refine ⟨p, rfl, ⟨_, SqL.of upd_same⟩, for_list (xs := ns.map V.int) (fun i σ H1 => ∃ (seed : Int) (x : Option V) (gs : List Int), σ = [some (.ref a), some (.int seed), some (.ref g), x] ∧ Gw H g (.lst (gs.map V.int)) H1 ∧ gs.length ≤ i ∧ H1 p = some (.lst (ns.map V.int))) ?_ (fun i σ H1 _ q => ?_) (fun i x σ H1 hx q => ?_) (fun σ H1 q => ?_)⟩
    · exact ⟨46, none, [], rfl, (Gw.start hg).add hp, Nat.le_refl _, upd_same⟩
    · obtain ⟨seed, x, gs, _, _, _, h⟩ := q
      exact SqL.of h
    · obtain ⟨seed, y, gs, rfl, gw, hgl, hpl⟩ := q
      rw [List.getElem?_map] at hx
      obtain ⟨c, hc, rfl⟩ := Option.map_eq_some_iff.mp hx
      have hi : i < 63 := by have := (List.getElem?_eq_some_iff.mp hc).1; omega
      refine ⟨_, rfl, _, _, rfl, rfl, .inr ⟨by decide, by decide⟩, _, rfl, _, _, rfl, rfl, .inl ⟨_, rfl, _, _, rfl, rfl, (show (2305843009213693951 : Int) ≠ 0 by decide), ?_⟩⟩
      refine ⟨_, rfl, _, _, rfl, rfl, ⟨by decide, by decide, by decide⟩, _, _, rfl, rfl, _, rfl, ?_⟩
      have npg : p ≠ g := fun z => by rw [z, upd_same] at hp; cases hp
      refine ite2 (fun h => ?_) (fun h => ?_)
      · refine ⟨_, rfl, .inl ⟨rfl, _, SqL.of gw.at_⟩, _, rfl, g, _, _, rfl, rfl, gw.at_, sz_lt (by rw [List.length_map]; omega), _, _, gs ++ [c], rfl, ?_, by simp; omega, upd_far hpl npg⟩
        rw [List.map_append]
        exact gw.put
      · exact ⟨_, _, gs, rfl, gw, by omega, hpl⟩
    · obtain ⟨seed, y, gs, rfl, gw, hgl, hpl⟩ := q
      rw [List.length_map] at hgl
      refine ⟨_, rfl, _, rfl, szl, fun b hb => k _ b g (gw.same.trans (same_new hb)) (gw.same.free hb) hg ⟨gs, _, _, upd_same, upd_old gw.at_ hb, by omega, fun z => ?_⟩⟩
      rw [z, gw.at_] at hb; cases hb

theorem idx0 (c : Int) (r : List Int) : seqIndex? 0 ((c :: r).map V.int).length = some 0 := by simp [seqIndex?]
theorem ixn0 (c : Int) (r : List Int) : ixN ((c :: r).map V.int).length 0 = some 0 := by
  unfold ixN
  rw [if_pos (by decide), if_pos (by simp)]; rfl
def sp_take : Sp := fun vs H Q _ => ∃ (b g : Addr) (n : Nat), vs = [.ref b, .int n] ∧ BoxAt b g H ∧ 0 < n ∧ n < 1000 ∧ ∀ H' (r : Nat), BoxAt b g H' → Fr b g H H' → r < n → Q (.int r) H'
theorem d__law_take (T : Tx K mg) (F : FunAt K mg "_law_take" s__law_take) : Def P w K mg base "_law_take" ["_law_box_here", "_law_size"] 1 sp_take := by
  refine mk_def F sc__law_take (fun _ _ _ _ _ _ us hl => match us, hl with | [_, _], _ => rfl) (fun vs H Q E h => ?_) (fun f cdv A outer s H vs Q E hr h => ?_)
  · obtain ⟨_, _, _, rfl, _⟩ := h; rfl
  · obtain ⟨b, g, n, rfl, ⟨gs, seed, cnt, hb, hg, hl, hne⟩, h0, h1, k⟩ := h
    have hn : (0 : Int) < n := by omega
    have fin : ∀ (c : Int) (H' : Hp), BoxAt b g H' → Fr b g H H' → Q (.int (c.fmod n)) H' := fun c H' h1 h2 => by
      have h3 := fmod_pos (a := c) hn
      have e : c.fmod n = ((c.fmod n).toNat : Int) := (Int.toNat_of_nonneg h3.1).symm
      rw [e]
      exact k _ _ h1 h2 (by omega)
    refine ⟨_, (pss_cons (ps_set (i := 2) sc__law_take.nd rfl (Or.inl rfl) (pe_ix ix_list (pv 0) pe_int (fun _ _ => rfl)))
      (pss_cons (ps_if (pt_truth (pv 2) (by intro _; rfl)) (pss_cons (ps_set (i := 3) sc__law_take.nd rfl (Or.inl rfl) (pe_ix ix_list (pv 2) pe_int (fun _ _ => rfl)))
      (pss_cons (ps_if (pt_cmpR op_lt (pv 3) (pv 1) (nomark _)) (pss_one (ps_expr (pe_bm PySem.F.plainAttrs_list PySem.F.slot_list_pop PySem.F.type_list_pop mt_popAt (pv 2) (pa_cons pe_int pa_nil)))) (pss_one (ps_asg (pe_op op_fdivN (pv 3) (pv 1)) (pg_sub (pv 2) pe_int set_list))))
      (pss_one (ps_ret (pe_op op_modN (pe_callTy call_int1 (by rfl) T.b_int (by decide +kernel) (pa_cons (pv 3) pa_nil)) (pv 1)))))) pss_nil)
      (pss_cons (ps_asg (pe_op op_add (pe_ix ix_list (pv 0) pe_int (fun _ _ => rfl)) pe_int) (pg_sub (pv 0) pe_int set_list))
      (pss_cons (ps_set (i := 4) sc__law_take.nd rfl (Or.inl rfl) (pe_op op_modN (pe_callTy call_int1 (by rfl) T.b_int (by decide +kernel) (pa_cons (pe_op op_add (pe_ix ix_list (pv 0) pe_int (fun _ _ => rfl)) (pe_op op_mul (pe_ix ix_list (pv 0) pe_int (fun _ _ => rfl)) pe_int)) pa_nil)) pe_int))
      (pss_cons (ps_set (i := 5) sc__law_take.nd rfl (Or.inl rfl) (pe_op op_modN (pe_callTy call_int1 (by rfl) T.b_int (by decide +kernel) (pa_cons (pe_op op_add (pe_op op_add (pe_op op_mul (pv 4) (pv 4)) (pe_op op_mul (pe_ix ix_list (pv 0) pe_int (fun _ _ => rfl)) pe_int)) pe_int) pa_nil)) pe_int))
      (pss_cons (ps_set (i := 6) sc__law_take.nd rfl (Or.inl rfl) (pe_op op_modN (pe_callTy call_int1 (by rfl) T.b_int (by decide +kernel) (pa_cons (pe_op op_add (pe_op op_mul (pv 5) (pv 5)) (pe_op op_mul (pv 4) pe_int)) pa_nil)) pe_int))
      (pss_one (ps_ret (pe_op op_modN (pe_callTy call_int1 (by rfl) T.b_int (by decide +kernel) (pa_cons (pe_op op_fdivN (pv 6) pe_int) pa_nil)) (pv 1)))))))))), ?_⟩
    refine ⟨_, rfl, b, _, _, _, rfl, rfl, SqL.of hb, atI_nat (j := 0) rfl, ?_⟩
    refine ⟨_, rfl, _, .inl ⟨_, SqL.of hg, rfl⟩, ?_⟩
    cases gs with
    | cons c r =>
      refine iteT ⟨_, rfl, g, _, _, _, rfl, rfl, SqL.of hg, atI_nat (j := 0) rfl, ?_⟩
      refine gName_at ?_
      dsimp only
      refine cut_if (fun σ' H' => (∃ x4 x5 x6, σ' = [some (.ref b), some (.int n), some (.ref g), some (.int c), x4, x5, x6]) ∧ BoxAt b g H' ∧ Fr b g H H') (fun key => ?_) (fun σ' H' h => ?_)
      · refine ⟨_, rfl, _, rfl, _, _, rfl, rfl, _, rfl, ?_⟩
        refine ite2 (fun h => ?_) (fun h => ?_)
        · refine ⟨_, rfl, .inl ⟨rfl, _, SqL.of hg⟩, g, _, _, 0, _, rfl, rfl, hg, by decide, by decide, idx0 _ _, rfl, key _ _ ⟨⟨_, _, _, rfl⟩, ⟨r, seed, cnt, upd_far hb hne, upd_same, by simp at hl; omega, hne⟩, fr_g⟩⟩
        · refine ⟨_, rfl, _, rfl, _, _, rfl, rfl, ⟨by omega, by omega⟩, _, rfl, g, _, _, 0, rfl, rfl, hg, ixn0 _ _, key _ _ ⟨⟨_, _, _, rfl⟩, ⟨c.fdiv n :: r, seed, cnt, upd_far hb hne, upd_same, by simp at hl ⊢; omega, hne⟩, fr_g⟩⟩
      · obtain ⟨⟨x4, x5, x6, rfl⟩, h2, h3⟩ := h
        exact ⟨_, rfl, .inl ⟨_, rfl, _, rfl, _, _, rfl, rfl, (show ((n : Int)) ≠ 0 by omega), fin _ _ h2 h3⟩⟩
    | nil =>
      refine iteF ?_
      refine ⟨_, rfl, b, _, _, _, rfl, rfl, SqL.of hb, atI_nat (j := 2) rfl, _, _, rfl, rfl, _, rfl, b, _, _, 2, rfl, rfl, hb, rfl, ?_⟩
      have hb2 : upd H b (.lst ([V.ref g, .int seed, .int cnt].set 2 (.int (cnt + 1)))) b = some (.lst [V.ref g, .int seed, .int (cnt + 1)]) := upd_same
      have bx : BoxAt b g (upd H b (.lst ([V.ref g, .int seed, .int cnt].set 2 (.int (cnt + 1))))) := ⟨[], seed, cnt + 1, hb2, upd_far hg (Ne.symm hne), Nat.zero_le _, hne⟩
      have fr : Fr b g H (upd H b (.lst ([V.ref g, .int seed, .int cnt].set 2 (.int (cnt + 1))))) := fr_b
      generalize upd H b (.lst ([V.ref g, .int seed, .int cnt].set 2 (.int (cnt + 1)))) = H1 at hb2 bx fr ⊢
      refine ⟨_, rfl, b, _, _, _, rfl, rfl, SqL.of hb2, atI_nat (j := 1) rfl, _, rfl, b, _, _, _, rfl, rfl, SqL.of hb2, atI_nat (j := 2) rfl, _, _, rfl, rfl, .inr ⟨by decide, by decide⟩, _, _, rfl, rfl, .inl ⟨_, rfl, _, _, rfl, rfl, (show (2147483647 : Int) ≠ 0 by decide), ?_⟩⟩
      refine ⟨_, rfl, _, rfl, _, _, rfl, rfl, .inl (bndF (by decide) (by decide)), _, rfl, b, _, _, _, rfl, rfl, SqL.of hb2, atI_nat (j := 2) rfl, _, _, rfl, rfl, .inr ⟨by decide, by decide⟩, _, _, rfl, rfl, _, _, rfl, rfl, .inl ⟨_, rfl, _, _, rfl, rfl, (show (2147483629 : Int) ≠ 0 by decide), ?_⟩⟩
      refine ⟨_, rfl, _, rfl, _, _, rfl, rfl, .inl (bndF (by decide) (by decide)), _, rfl, _, _, rfl, rfl, .inl (bndF (by decide) (by decide)), _, _, rfl, rfl, .inl ⟨_, rfl, _, _, rfl, rfl, (show (998244353 : Int) ≠ 0 by decide), ?_⟩⟩
      exact ⟨_, rfl, _, _, rfl, rfl, ⟨by decide, by decide⟩, .inl ⟨_, rfl, _, rfl, _, _, rfl, rfl, (show ((n : Int)) ≠ 0 by omega), fin _ _ bx fr⟩⟩
end
end My

set_option Elab.async false
set_option maxRecDepth 100000
set_option maxHeartbeats 4000000
namespace My
open PySem PySem.Spec PyProof.Rows L2
open M (Ch Need)
abbrev s__law_rows : Stmt := top 37
abbrev N__law_rows : List Str := ["_law_box_here", "_law_many", "_law_way", "_law_rows_here", "_law_spans", "_law_k", "_law_first", "_law_last", "_law_fork"]
theorem sc__law_rows : FnScope N__law_rows ["_law_box_here", "_law_many"] (defScope s__law_rows) := ⟨rfl, rfl, rfl, by decide +kernel, rfl, by decide +kernel, by decide +kernel⟩
/-! ### two lists that grow beside the box -/
structure Bw (H0 : Hp) (b g s l : Addr) (vs us : List V) (H : Hp) : Prop where
  fr : Fr b g H0 H
  bx : BoxAt b g H
  ns : H0 s = none
  nl : H0 l = none
  ne : s ≠ l
  sb : s ≠ b ∧ s ≠ g
  lb : l ≠ b ∧ l ≠ g
  hs : H s = some (.lst vs)
  hl : H l = some (.lst us)
section
variable {H0 H H' : Hp} {b g s l p : Addr} {u : HO} {vs us vs' us' : List V}
theorem Fr.put (f : Fr b g H0 H) (n : H0 p = none) : Fr b g H0 (upd H p u) := fun a o h h1 h2 => upd_far (f a o h h1 h2) (ne_of_none h n)
theorem Fr.free (f : Fr b g H0 H) (n : H p = none) (h : p ≠ b ∧ p ≠ g) : H0 p = none := by
  cases e : H0 p with
  | none => rfl
  | some o => have := f p o e h.1 h.2; rw [n] at this; cases this
theorem fr_kt (x : BoxAt b g H) (f : Fr b g H H') : KT H H' := by
  obtain ⟨gs, seed, cnt, h1, h2, h3, h4⟩ := x
  exact fun a xs h => f a _ h (fun z => by rw [z, h1] at h; cases h) (fun z => by rw [z, h2] at h; cases h)
theorem Bw.more (t : Bw H0 b g s l vs us H) (k : Same H H') : Bw H0 b g s l vs us H' := ⟨t.fr.trans (fr_same k), t.bx.more k, t.ns, t.nl, t.ne, t.sb, t.lb, k _ _ t.hs, k _ _ t.hl⟩
theorem Bw.add (t : Bw H0 b g s l vs us H) (n : H p = none) : Bw H0 b g s l vs us (upd H p u) := t.more (same_new n)
theorem Bw.putS (t : Bw H0 b g s l vs us H) : Bw H0 b g s l vs' us (upd H s (.lst vs')) := ⟨t.fr.put t.ns, t.bx.keep (.inr t.sb), t.ns, t.nl, t.ne, t.sb, t.lb, upd_same, upd_far t.hl (Ne.symm t.ne)⟩
theorem Bw.putL (t : Bw H0 b g s l vs us H) : Bw H0 b g s l vs us' (upd H l (.lst us')) := ⟨t.fr.put t.nl, t.bx.keep (.inr t.lb), t.ns, t.nl, t.ne, t.sb, t.lb, upd_far t.hs t.ne, upd_same⟩
theorem Bw.kS (t : Bw H0 b g s l vs us H) : KT H (upd H s u) := kt_lst t.hs
theorem Bw.kL (t : Bw H0 b g s l vs us H) : KT H (upd H l u) := kt_lst t.hl
theorem Bw.take (t : Bw H0 b g s l vs us H) (x : BoxAt b g H') (f : Fr b g H H') : Bw H0 b g s l vs us H' := ⟨t.fr.trans f, x, t.ns, t.nl, t.ne, t.sb, t.lb, f _ _ t.hs t.sb.1 t.sb.2, f _ _ t.hl t.lb.1 t.lb.2⟩
end
theorem Al.rev {α β : Type} {R : α → β → Prop} {xs : List α} {ys : List β} (a : Al R xs ys) : Al R xs.reverse ys.reverse := by
  refine ⟨by simp [a.len], fun i h1 h2 => ?_⟩
  rw [List.length_reverse] at h1 h2
  rw [List.getElem_reverse, List.getElem_reverse]
  have e : ys.length - 1 - i = xs.length - 1 - i := by rw [a.len]
  simp only [e]
  exact a.at_ _ (by omega) (by omega)
def Row3At (H : Hp) (v : V) (r : M.Row) : Prop := ∃ q, v = .ref q ∧ H q = some (.tup [.int (r.1 : Nat), .int (r.2.1 : Nat), .int (r.2.2 : Nat)])
theorem Row3At.kt {H H' : Hp} (k : KT H H') {v : V} {r : M.Row} (h : Row3At H v r) : Row3At H' v r := by
  obtain ⟨q, e, h⟩ := h
  exact ⟨q, e, k _ _ h⟩
def SpanAt (H : Hp) (v : V) (r : Nat × Nat) : Prop := ∃ q, v = .ref q ∧ H q = some (.tup [.int (r.1 : Nat), .int (r.2 : Nat)])
theorem SpanAt.kt {H H' : Hp} (k : KT H H') {v : V} {r : Nat × Nat} (h : SpanAt H v r) : SpanAt H' v r := by
  obtain ⟨q, e, h⟩ := h
  exact ⟨q, e, k _ _ h⟩
section
variable {P : Program} {w : World} {K : PySem.W.Frag} {mg : Str → Option Value} {base : Heap} {C : Addr}
def sp_rows : Sp := fun vs H Q _ => ∃ (b g : Addr) (n : Nat), vs = [.ref b, .int n] ∧ BoxAt b g H ∧ 0 < n ∧ n ≤ 5 ∧ ∀ H' p us (t : M.T), BoxAt b g H' → Fr b g H H' → H p = none → p ≠ b ∧ p ≠ g → H' p = some (.lst us) → t.sz = n → Al (Row3At H') us (M.rowsOf t 0) → Q (.ref p) H'
theorem d__law_rows (T : Tx K mg) (F : FunAt K mg "_law_rows" s__law_rows) (d__law_take : Def P w K mg base "_law_take" ["_law_box_here", "_law_size"] 1 sp_take) : Def P w K mg base "_law_rows" ["_law_box_here", "_law_many"] 2 sp_rows := by
  refine mk_def F sc__law_rows (fun _ _ _ _ _ _ us hl => match us, hl with | [_, _], _ => rfl) (fun vs H Q E h => ?_) (fun f cdv A outer s H vs Q E hr h => ?_)
  · obtain ⟨_, _, _, rfl, _⟩ := h; rfl
  · obtain ⟨b, g, n, rfl, bx, h0, h5, k⟩ := h
    refine ⟨_, (pss_cons (ps_set (i := 2) sc__law_rows.nd rfl (Or.inl rfl) (pe_def d__law_take hr (by rfl) (pa_cons (pv 0) (pa_cons pe_int pa_nil))))
      (pss_cons (ps_set (i := 3) sc__law_rows.nd rfl (Or.inl rfl) (pe_lst pa_nil))
      (pss_cons (ps_set (i := 4) sc__law_rows.nd rfl (Or.inl rfl) (pe_lst (pa_cons (pe_tup (pa_cons pe_int (pa_cons (pe_op op_sub (pv 1) pe_int) pa_nil))) pa_nil)))
      (pss_cons (ps_for PassesOwn.never rfl (pi_range1 (by rfl) T.b_range (pa_cons (pe_op op_sub (pe_op op_mul pe_int (pv 1)) pe_int) pa_nil)) (pg_name (i := 5) sc__law_rows.nd rfl (Or.inl rfl)) (pss_cons (ps_asg (pe_bm0 PySem.F.plainAttrs_list PySem.F.slot_list_pop PySem.F.type_list_pop mt_pop (pv 4)) (pg_tup rfl (pgs_cons (pg_name (i := 6) sc__law_rows.nd rfl (Or.inl rfl)) (pgs_cons (pg_name (i := 7) sc__law_rows.nd rfl (Or.inl rfl)) pgs_nil))))
      (pss_one (ps_if (pt_cmpR op_lt (pv 6) (pv 7) (nomark _)) (pss_cons (ps_set (i := 8) sc__law_rows.nd rfl (Or.inl rfl) (pe_op op_add (pv 6) (pe_def d__law_take hr (by rfl) (pa_cons (pv 0) (pa_cons (pe_op op_sub (pv 7) (pv 6)) pa_nil)))))
      (pss_cons (ps_if (pt_cmpR op_eq (pv 2) pe_int (nomark _)) (pss_one (ps_set (i := 8) sc__law_rows.nd rfl (Or.inl rfl) (pv 6))) pss_nil)
      (pss_cons (ps_if (pt_cmpR op_eq (pv 2) pe_int (nomark _)) (pss_one (ps_set (i := 8) sc__law_rows.nd rfl (Or.inl rfl) (pe_op op_sub (pv 7) pe_int))) pss_nil)
      (pss_cons (ps_if (pt_cmpR op_eq (pv 2) pe_int (nomark _)) (pss_one (ps_set (i := 8) sc__law_rows.nd rfl (Or.inl rfl) (pe_op op_fdivN (pe_op op_add (pv 6) (pv 7)) pe_int))) pss_nil)
      (pss_cons (ps_expr (pe_bm PySem.F.plainAttrs_list PySem.F.slot_list_append PySem.F.type_list_append mt_append (pv 3) (pa_cons (pe_tup (pa_cons (pv 8) (pa_cons (pv 6) (pa_cons (pv 7) pa_nil)))) pa_nil)))
      (pss_cons (ps_expr (pe_bm PySem.F.plainAttrs_list PySem.F.slot_list_append PySem.F.type_list_append mt_append (pv 4) (pa_cons (pe_tup (pa_cons (pv 6) (pa_cons (pv 8) pa_nil))) pa_nil)))
      (pss_one (ps_expr (pe_bm PySem.F.plainAttrs_list PySem.F.slot_list_append PySem.F.type_list_append mt_append (pv 4) (pa_cons (pe_tup (pa_cons (pe_op op_add (pv 8) pe_int) (pa_cons (pv 7) pa_nil))) pa_nil)))))))))) pss_nil))))
      (pss_cons (ps_expr (pe_bm0 PySem.F.plainAttrs_list PySem.F.slot_list_reverse PySem.F.type_list_reverse mt_reverse (pv 3)))
      (pss_one (ps_ret (pv 3)))))))), ?_⟩
    refine ⟨_, rfl, b, g, 9, rfl, bx, by decide, by decide, fun H1 way bx1 fr1 hw => ?_⟩
    refine ⟨szl, fun rh hrh => ?_⟩
    refine ⟨_, rfl, _, _, rfl, rfl, szl, fun t0 ht0 => ⟨szl, fun sp hsp => ?_⟩⟩
    have nrh := bx1.new hrh
    have e1 : (n : Int) - 1 = ((n - 1 : Nat) : Int) := by omega
    have bw0 : Bw H b g rh sp [] [.ref t0] (upd (upd (upd H1 rh (.lst [])) t0 (.tup [.int 0, .int ((n - 1 : Nat) : Int)])) sp (.lst [.ref t0])) := by
      rw [show V.int ((n - 1 : Nat) : Int) = .int ((n : Int) - 1) by rw [e1]]
      have s1 : Same H1 (upd (upd H1 rh (.lst [])) t0 (.tup [.int 0, .int ((n : Int) - 1)])) := (same_new hrh).trans (same_new ht0)
      have nsp := (bx1.more s1).new hsp
      refine ⟨((fr1.put (fr1.free hrh nrh)).trans (fr_same (same_new ht0))).trans (fr_same (same_new hsp)), (bx1.more s1).more (same_new hsp), fr1.free hrh nrh, fr1.free (s1.free hsp) nsp, fun z => ?_, nrh, nsp, upd_old (upd_old upd_same ht0) hsp, upd_same⟩
      rw [← z, upd_old upd_same ht0] at hsp; cases hsp
    have sp0 : SpanAt (upd (upd (upd H1 rh (.lst [])) t0 (.tup [.int 0, .int ((n - 1 : Nat) : Int)])) sp (.lst [.ref t0])) (.ref t0) (0, n - 1) := ⟨t0, rfl, upd_old upd_same (by rw [← e1]; exact hsp)⟩
    rw [show (fun i j => V.int (i - j)) (n : Int) 1 = V.int ((n - 1 : Nat) : Int) by show V.int ((n : Int) - 1) = _; rw [e1]]
    generalize upd (upd (upd H1 rh (.lst [])) t0 (.tup [.int 0, .int ((n - 1 : Nat) : Int)])) sp (.lst [.ref t0]) = H2 at bw0 sp0 ⊢
    refine ⟨_, rfl, _, _, rfl, rfl, .inl ⟨by decide, by decide⟩, _, _, rfl, rfl, _, rfl, by omega, by omega, ?_⟩
    have eN : ((2 : Int) * n - 1).toNat = 2 * n - 1 := by omega
    show (fun J H1 => _) (Itr 0 ((2 : Int) * n - 1).toNat) H2
    rw [eN]
    refine for_it walk_range (fun i σ H' => ∃ (S : List (Nat × Nat)) (acc : List M.Row) (sv rv : List V) (x5 x6 x7 x8 : Option V), σ = [some (.ref b), some (.int n), some (.int way), some (.ref rh), some (.ref sp), x5, x6, x7, x8] ∧ Bw H b g rh sp rv sv H' ∧
      Al (Row3At H') rv acc ∧ Al (SpanAt H') sv S.reverse ∧ M.Grow n S acc i ∧ rv.length ≤ i) ⟨[(0, n - 1)], [], _, _, _, _, _, _, rfl, bw0, Al.nil, Al.nil.push sp0, M.grow_start h0, Nat.le_refl _⟩ (fun _ _ _ _ _ => trivial) (fun i y σ Hz H3 hi p hy => ?_) (fun σ H3 p => ?_)
    · obtain ⟨S, acc, sv, rv, x5, x6, x7, x8, rfl, bw, ar, as, gr, hrl⟩ := p
      obtain ⟨rfl, rfl⟩ := hy
      have hne := M.grow_more gr hi
      have hSl := M.grow_len gr
      have hsvl : sv.length = S.length := by rw [as.len, List.length_reverse]
      obtain ⟨⟨a1, a2⟩, S', rfl⟩ : ∃ q S', S = q :: S' := by
        cases S with
        | nil => exact absurd rfl hne
        | cons q S' => exact ⟨q, S', rfl⟩
      rw [List.reverse_cons] at as
      obtain ⟨pre, v, rfl, as1, q, rfl, hq⟩ := as.pop
      refine ⟨_, rfl, .inl ⟨rfl, _, SqL.of bw.hl⟩, sp, _, .ref q, rfl, rfl, bw.hl, by simp, ?_⟩
      rw [List.dropLast_concat]
      have bw1 := bw.putL (us' := pre)
      have k1 := bw.kL (u := .lst pre)
      generalize upd H3 sp (.lst pre) = H4 at bw1 k1 ⊢
      have ar1 := ar.imp fun _ _ => Row3At.kt k1
      have as2 := as1.imp fun _ _ => SpanAt.kt k1
      refine ⟨q, _, rfl, SqT.of (k1 _ _ hq), rfl, _, _, rfl, _, _, rfl, rfl, ?_⟩
      refine ⟨_, rfl, _, rfl, _, _, rfl, rfl, _, rfl, ?_⟩
      refine ite2 (fun h => ?_) (fun h => ?_)
      · have h : a1 < a2 := by have := of_decide_eq_true h; simpa using this
        have ha2 := (gr.ok (a1, a2) List.mem_cons_self).2
        simp at ha2
        have e2 : (a2 : Int) - a1 = ((a2 - a1 : Nat) : Int) := by omega
        refine ⟨_, rfl, _, rfl, _, rfl, _, rfl, _, _, rfl, rfl, b, g, a2 - a1, by show [V.ref b, V.int ((a2 : Int) - a1)] = _; rw [e2], bw1.bx, by omega, by omega, fun H5 r bx5 fr5 hr5 => ⟨_, _, rfl, rfl, ?_⟩⟩
        have bw5 := bw1.take bx5 fr5
        have k5 := fr_kt bw1.bx fr5
        have ar5 := ar1.imp fun _ _ => Row3At.kt k5
        have as5 := as2.imp fun _ _ => SpanAt.kt k5
        rw [show (fun i j => V.int (i + j)) (a1 : Int) (r : Int) = V.int ((a1 + r : Nat) : Int) by show V.int _ = _; rw [Int.natCast_add]]
        refine gName_at ?_
        dsimp only
        refine cut_if (fun σ' H' => ∃ f : Nat, σ' = [some (.ref b), some (.int n), some (.int way), some (.ref rh), some (.ref sp), some (.int (0 + (i : Nat) : Int)), some (.int a1), some (.int a2), some (.int f)] ∧ H5 = H' ∧ a1 ≤ f ∧ f < a2) (fun key => ?_) (fun σ' H' h => ?_)
        · refine ⟨_, rfl, rfl, _, rfl, ite2 (fun h => ⟨_, rfl, key _ _ ⟨a1, rfl, rfl, by omega, by omega⟩⟩) (fun h => key _ _ ⟨a1 + r, rfl, rfl, by omega, by omega⟩)⟩
        obtain ⟨f1, rfl, rfl, hf1, hf2⟩ := h
        refine cut_if (fun σ' H' => ∃ f : Nat, σ' = [some (.ref b), some (.int n), some (.int way), some (.ref rh), some (.ref sp), some (.int (0 + (i : Nat) : Int)), some (.int a1), some (.int a2), some (.int f)] ∧ H5 = H' ∧ a1 ≤ f ∧ f < a2) (fun key => ?_) (fun σ' H' h => ?_)
        · refine ⟨_, rfl, rfl, _, rfl, ite2 (fun h => ⟨_, rfl, _, _, rfl, rfl, key _ _ ⟨a2 - 1, ?_, rfl, by omega, by omega⟩⟩) (fun h => key _ _ ⟨f1, rfl, rfl, by omega, by omega⟩)⟩
          rw [show ((a2 - 1 : Nat) : Int) = (a2 : Int) - 1 by omega]; rfl
        obtain ⟨f2, rfl, rfl, hf3, hf4⟩ := h
        refine cut_if (fun σ' H' => ∃ f : Nat, σ' = [some (.ref b), some (.int n), some (.int way), some (.ref rh), some (.ref sp), some (.int (0 + (i : Nat) : Int)), some (.int a1), some (.int a2), some (.int f)] ∧ H5 = H' ∧ a1 ≤ f ∧ f < a2) (fun key => ?_) (fun σ' H' h => ?_)
        · refine ⟨_, rfl, rfl, _, rfl, ite2 (fun h => ⟨_, rfl, _, rfl, _, _, rfl, rfl, _, _, rfl, rfl, ⟨by decide, by decide⟩, key _ _ ⟨(a1 + a2) / 2, ?_, rfl, by omega, by omega⟩⟩) (fun h => key _ _ ⟨f2, rfl, rfl, by omega, by omega⟩)⟩
          rw [show (((a1 + a2) / 2 : Nat) : Int) = ((a1 : Int) + a2).fdiv 2 by rw [Int.fdiv_eq_ediv_of_nonneg _ (by decide)]; omega]; rfl
        obtain ⟨f3, rfl, rfl, hf5, hf6⟩ := h
        have hrvl : rv.length < 100000 := by omega
        refine ⟨_, rfl, .inl ⟨rfl, _, SqL.of bw5.hs⟩, _, rfl, _, rfl, _, rfl, szl, fun p1 hp1 => ⟨rh, _, _, rfl, rfl, upd_old bw5.hs hp1, sz_lt hrvl, ?_⟩⟩
        have bw6 := (bw5.add (u := .tup [.int f3, .int a1, .int a2]) hp1).putS (vs' := rv ++ [.ref p1])
        have k6 := (kt_new (u := .tup [.int f3, .int a1, .int a2]) hp1).trans ((bw5.add (u := .tup [.int f3, .int a1, .int a2]) hp1).kS (u := .lst (rv ++ [.ref p1])))
        have r6 : Row3At (upd (upd H5 p1 (.tup [.int f3, .int a1, .int a2])) rh (.lst (rv ++ [.ref p1]))) (.ref p1) (f3, a1, a2) := ⟨p1, rfl, (bw5.add (u := .tup [.int f3, .int a1, .int a2]) hp1).kS _ _ upd_same⟩
        have ar6 := (ar5.imp fun _ _ => Row3At.kt k6).push r6
        have as6 := as5.imp fun _ _ => SpanAt.kt k6
        generalize upd (upd H5 p1 (.tup [.int f3, .int a1, .int a2])) rh (.lst (rv ++ [.ref p1])) = H6 at bw6 ar6 as6 ⊢
        have hprl : pre.length < 90000 := by rw [List.length_cons] at hSl; simp at hsvl; omega
        refine ⟨_, rfl, .inl ⟨rfl, _, SqL.of bw6.hl⟩, _, rfl, _, rfl, szl, fun p2 hp2 => ⟨sp, _, _, rfl, rfl, upd_old bw6.hl hp2, sz_lt (by omega), ?_⟩⟩
        have bw7 := (bw6.add (u := .tup [.int a1, .int f3]) hp2).putL (us' := pre ++ [.ref p2])
        have k7 := (kt_new (u := .tup [.int a1, .int f3]) hp2).trans ((bw6.add (u := .tup [.int a1, .int f3]) hp2).kL (u := .lst (pre ++ [.ref p2])))
        have r7 : SpanAt (upd (upd H6 p2 (.tup [.int a1, .int f3])) sp (.lst (pre ++ [.ref p2]))) (.ref p2) (a1, f3) := ⟨p2, rfl, (bw6.add (u := .tup [.int a1, .int f3]) hp2).kL _ _ upd_same⟩
        have ar7 := ar6.imp fun _ _ => Row3At.kt k7
        have as7 := (as6.imp fun _ _ => SpanAt.kt k7).push r7
        generalize upd (upd H6 p2 (.tup [.int a1, .int f3])) sp (.lst (pre ++ [.ref p2])) = H7 at bw7 ar7 as7 ⊢
        refine ⟨_, rfl, .inl ⟨rfl, _, SqL.of bw7.hl⟩, _, rfl, _, _, rfl, rfl, _, rfl, szl, fun p3 hp3 => ⟨sp, _, _, rfl, rfl, upd_old bw7.hl hp3, sz_lt (by simp; omega), ?_⟩⟩
        have bw8 := (bw7.add (u := .tup [.int ((f3 : Int) + 1), .int a2]) hp3).putL (us' := pre ++ [.ref p2] ++ [.ref p3])
        have k8 := (kt_new (u := .tup [.int ((f3 : Int) + 1), .int a2]) hp3).trans ((bw7.add (u := .tup [.int ((f3 : Int) + 1), .int a2]) hp3).kL (u := .lst (pre ++ [.ref p2] ++ [.ref p3])))
        refine ⟨(f3 + 1, a2) :: (a1, f3) :: S', acc ++ [(f3, a1, a2)], _, _, _, _, _, _, rfl, bw8, ar7.imp fun _ _ => Row3At.kt k8, ?_, M.grow_fork gr hf5 hf6, by simp; omega⟩
        rw [List.reverse_cons, List.reverse_cons]
        exact (as7.imp fun _ _ => SpanAt.kt k8).push ⟨p3, rfl, (bw7.add (u := .tup [.int ((f3 : Int) + 1), .int a2]) hp3).kL _ _ upd_same⟩
      · have h : ¬ a1 < a2 := fun z => h (decide_eq_true (by simpa using z))
        exact ⟨S', acc, _, _, _, _, _, _, rfl, bw1, ar1, as2, M.grow_leaf gr h, by omega⟩
    · obtain ⟨S, acc, sv, rv, x5, x6, x7, x8, rfl, bw, ar, as, gr, hrl⟩ := p
      obtain ⟨t, ht, hrev⟩ := M.grow_end gr rfl
      refine ⟨_, rfl, .inl ⟨rfl, _, SqL.of bw.hs⟩, rh, _, rfl, rfl, bw.hs, ?_⟩
      have bw2 := bw.putS (vs' := rv.reverse)
      refine ⟨_, rfl, k _ rh rv.reverse t bw2.bx bw2.fr bw2.ns bw2.sb bw2.hs ht ?_⟩
      rw [← hrev]
      have ar2 := ar.imp fun _ _ => Row3At.kt (bw.kS (u := .lst rv.reverse))
      exact ar2.rev
end
end My

set_option Elab.async false
set_option maxRecDepth 100000
set_option maxHeartbeats 4000000
namespace My
open PySem PySem.Spec PyProof.Rows L2
open M (Ch Need)
abbrev s__law_text : Stmt := top 38
abbrev N__law_text : List Str := ["_law_rows_here", "_law_many", "_law_parts", "_law_fork", "_law_first", "_law_last"]
theorem sc__law_text : FnScope N__law_text ["_law_rows_here", "_law_many"] (defScope s__law_text) := ⟨rfl, rfl, rfl, by decide +kernel, rfl, by decide +kernel, by decide +kernel⟩
abbrev s__law_pattern : Stmt := top 39
abbrev N__law_pattern : List Str := ["_law_box_here", "_law_size", "_law_way", "_law_signs", "_law_k"]
theorem sc__law_pattern : FnScope N__law_pattern ["_law_box_here", "_law_size"] (defScope s__law_pattern) := ⟨rfl, rfl, rfl, by decide +kernel, rfl, by decide +kernel, by decide +kernel⟩
abbrev s__law_renewed : Stmt := top 40
abbrev N__law_renewed : List Str := ["_law_box_here", "_law_many", "_law_most", "_law_pool", "_law_found_here", "_law_k"]
theorem sc__law_renewed : FnScope N__law_renewed ["_law_box_here", "_law_many", "_law_most"] (defScope s__law_renewed) := ⟨rfl, rfl, rfl, by decide +kernel, rfl, by decide +kernel, by decide +kernel⟩
/-! ### lists of texts -/
def oS (x : List Nat) : Str := ⟨x.toArray⟩
def tV (l : List (List Nat)) : List V := l.map fun x => V.str (oS x)
theorem tV_len (l : List (List Nat)) : (tV l).length = l.length := by simp [tV]
theorem tV_get (l : List (List Nat)) (i : Nat) : (tV l)[i]? = (l[i]?).map fun x => V.str (oS x) := by simp [tV]
theorem tV_set (l : List (List Nat)) (i : Nat) (x : List Nat) : (tV l).set i (.str (oS x)) = tV (l.set i x) := by simp [tV, List.map_set]
theorem oS_len (x : List Nat) : (oS x).length = x.length := by show (oS x).cps.size = _; simp [oS]
theorem oS_app (x y : List Nat) : oS x ++ oS y = oS (x ++ y) := by
  show Str.append _ _ = _
  simp [Str.append, oS]
theorem joinL_nil : ∀ l : List (List Nat), TL.joinL [] l = l.flatten
  | [] => rfl
  | [p] => by simp [TL.joinL]
  | p :: q :: r => by rw [TL.joinL, joinL_nil (q :: r)]; simp
theorem join_nil (l : List (List Nat)) : Txt.join "" (l.map oS) = oS l.flatten := by
  rw [TL.join_eq]
  have h := TL.tl_join "" (l.map oS)
  rw [show TL.tl "" = [] by rfl, joinL_nil, List.map_map] at h
  have e : (l.map (TL.tl ∘ oS)) = l := by
    rw [show (TL.tl ∘ oS) = id from funext fun x => by simp [TL.tl, oS]]
    simp
  rw [e] at h
  have : (Str.join "" (l.map oS)).cps.toList = l.flatten := h
  show _ = (⟨l.flatten.toArray⟩ : Str)
  rw [← this, Array.toArray_toList]
section
variable {P : Program} {w : World} {K : PySem.W.Frag} {mg : Str → Option Value} {base : Heap} {C : Addr}
theorem rep_tV (n : Nat) : (List.replicate n [V.str "."]).flatten = tV (List.replicate n [46]) := by
  induction n with
  | zero => rfl
  | succ n ih => rw [List.replicate_succ, List.flatten_cons, ih, List.replicate_succ]; rfl
theorem ixn_nat {n j : Nat} (h : j < n) : ixN n (j : Int) = some j := by
  unfold ixN
  rw [if_pos (by omega), if_pos (by omega)]; simp
def sp_text (K : PySem.W.Frag) : Sp := fun vs H Q _ => ∃ (a : Addr) (us : List V) (t : M.T), vs = [.ref a, .int (t.sz : Nat)] ∧ H a = some (.lst us) ∧ Al (Row3At H) us (M.rowsOf t 0) ∧ t.sz ≤ 5 ∧ ∀ H', Same H H' → Q (.str (textS t)) H'
theorem d__law_text (T : Tx K mg) (F : FunAt K mg "_law_text" s__law_text) : Def P w K mg base "_law_text" ["_law_rows_here", "_law_many"] 1 (sp_text K) := by
  refine mk_def F sc__law_text (fun _ _ _ _ _ _ us hl => match us, hl with | [_, _], _ => rfl) (fun vs H Q E h => ?_) (fun f cdv A outer s H vs Q E hr h => ?_)
  · obtain ⟨_, _, _, rfl, _⟩ := h; rfl
  · obtain ⟨a, us, t, rfl, ha, al, h5, k⟩ := h
    refine ⟨_, (pss_cons (ps_set (i := 2) sc__law_text.nd rfl (Or.inl rfl) (pe_op op_rep (pe_lst (pa_cons pe_str pa_nil)) (pv 1)))
      (pss_cons (ps_for PassesOwn.never rfl (pi_list (pv 0)) (pg_tup rfl (pgs_cons (pg_name (i := 3) sc__law_text.nd rfl (Or.inl rfl)) (pgs_cons (pg_name (i := 4) sc__law_text.nd rfl (Or.inl rfl)) (pgs_cons (pg_name (i := 5) sc__law_text.nd rfl (Or.inl rfl)) pgs_nil)))) (pss_cons (ps_asg (pe_op op_add_str pe_str (pe_ix ix_list (pv 2) (pv 4) (fun _ _ => rfl))) (pg_sub (pv 2) (pv 4) set_list))
      (pss_one (ps_asg (pe_op op_add_str (pe_ix ix_list (pv 2) (pv 5) (fun _ _ => rfl)) pe_str) (pg_sub (pv 2) (pv 5) set_list)))))
      (pss_one (ps_ret (pe_join pe_str (pv 2)))))), ?_⟩
    refine ⟨szl, fun p0 hp0 => ⟨_, rfl, p0, _, _, rfl, rfl, upd_same, by omega, by omega, sz_le (by simp; omega), fun D hD => ?_⟩⟩
    rw [show ((t.sz : Nat) : Int).toNat = t.sz by omega, rep_tV]
    have g0 : Gw H D (.lst (tV (List.replicate t.sz [46]))) (upd (upd H p0 (.lst [.str "."])) D (.lst (tV (List.replicate t.sz [46])))) := ⟨(same_new hp0).trans (same_new hD), (same_new hp0).free hD, upd_same⟩
    generalize upd (upd H p0 (.lst [.str "."])) D (.lst (tV (List.replicate t.sz [46]))) = H1 at g0 ⊢
    refine ⟨_, rfl, a, rfl, ⟨_, SqL.of (g0.same _ _ ha)⟩, for_list (xs := us) (fun i σ H' => ∃ x3 x4 x5, σ = [some (.ref a), some (.int (t.sz : Nat)), some (.ref D), x3, x4, x5] ∧ Gw H D (.lst (tV (((M.rowsOf t 0).take i).foldl M.stepT (List.replicate t.sz [46])))) H') ⟨_, _, _, rfl, g0⟩ (fun i σ H' _ p => ?_) (fun i x σ H' hx p => ?_) (fun σ H' p => ?_)⟩
    · obtain ⟨_, _, _, _, g⟩ := p
      exact SqL.of (g.same _ _ ha)
    · obtain ⟨x3, x4, x5, rfl, g⟩ := p
      obtain ⟨⟨fk, fa, fb⟩, hr3, q, rfl, hq⟩ := al.get hx
      have hil : i < t.sz := by have := (List.getElem?_eq_some_iff.mp hr3).1; have := M.rowsOf_len t 0; omega
      obtain ⟨hb1, hb2, _, _, _⟩ := M.rows_in h5 _ (List.mem_of_getElem? hr3)
      obtain ⟨hpl, hpm⟩ := M.parts_in h5 (i := i) (by omega)
      have hnext : ((M.rowsOf t 0).take (i + 1)).foldl M.stepT (List.replicate t.sz [46]) = M.stepT (((M.rowsOf t 0).take i).foldl M.stepT (List.replicate t.sz [46])) (fk, fa, fb) := by rw [take_snoc hr3, List.foldl_append]; rfl
      rw [hnext]
      generalize ((M.rowsOf t 0).take i).foldl M.stepT (List.replicate t.sz [46]) = ps at g hpl hpm ⊢
      have e1 : ps[fa]? = some (ps.getD fa []) := by simp [hpl, hb1]
      have m1 : (ps.getD fa []).length ≤ 20 := hpm _ (List.mem_of_getElem? e1)
      refine ⟨q, _, rfl, SqT.of (g.same _ _ hq), rfl, _, _, rfl, _, _, rfl, _, _, rfl, rfl, ?_⟩
      refine ⟨_, rfl, _, rfl, D, _, _, _, rfl, rfl, SqL.of g.at_, atI_nat (by rw [tV_get, e1]; rfl), _, _, rfl, rfl, ?_, _, rfl, _, rfl, D, _, _, fa, rfl, rfl, g.at_, ixn_nat (by rw [tV_len, hpl]; exact hb1), ?_⟩
      · rw [oS_len]; exact sz_le (by show 1 + _ ≤ 100000; omega)
      rw [show ("(" : Str) ++ oS (ps.getD fa []) = oS (40 :: ps.getD fa []) from oS_app [40] _, tV_set]
      have g2 : Gw H D (.lst (tV (ps.set fa (40 :: ps.getD fa [])))) (upd H' D (.lst (tV (ps.set fa (40 :: ps.getD fa []))))) := g.put
      have hps : (ps.set fa (40 :: ps.getD fa [])).length = t.sz := by rw [List.length_set]; exact hpl
      have e2 : (ps.set fa (40 :: ps.getD fa []))[fb]? = some ((ps.set fa (40 :: ps.getD fa [])).getD fb []) := by simp [hps, hpl, hb2]
      have m2 : ((ps.set fa (40 :: ps.getD fa [])).getD fb []).length ≤ 30 := by
        rcases List.mem_or_eq_of_mem_set (List.mem_of_getElem? e2) with h | h
        · have := hpm _ h; omega
        · rw [h]; simp only [List.length_cons]; omega
      have est : M.stepT ps (fk, fa, fb) = (ps.set fa (40 :: ps.getD fa [])).set fb ((ps.set fa (40 :: ps.getD fa [])).getD fb [] ++ [41]) := rfl
      rw [est]
      generalize ps.set fa (40 :: ps.getD fa []) = ps2 at g2 hps e2 m2 ⊢
      refine ⟨_, rfl, _, rfl, D, _, _, _, rfl, rfl, SqL.of g2.at_, atI_nat (by rw [tV_get, e2]; rfl), _, _, rfl, rfl, ?_, _, rfl, _, rfl, D, _, _, fb, rfl, rfl, g2.at_, ixn_nat (by rw [tV_len, hps]; exact hb2), _, _, _, rfl, ?_⟩
      · rw [oS_len]; exact sz_le (by show _ + 1 ≤ 100000; omega)
      · rw [show oS (ps2.getD fb []) ++ (")" : Str) = oS (ps2.getD fb [] ++ [41]) from oS_app _ [41], tV_set]
        exact g2.put
    · obtain ⟨x3, x4, x5, rfl, g⟩ := p
      have hlen : us.length ≤ t.sz := by have := al.len; have := M.rowsOf_len t 0; omega
      have e : (M.rowsOf t 0).take us.length = M.rowsOf t 0 := by rw [al.len]; exact all_take _
      obtain ⟨hpl, hpm⟩ := M.parts_in h5 (i := us.length) hlen
      rw [e] at g hpl hpm
      have ep : (M.rowsOf t 0).foldl M.stepT (List.replicate t.sz [46]) = M.partsOf t := rfl
      rw [ep] at g hpl hpm
      refine ⟨⟨_, rfl⟩, _, rfl, _, D, (M.partsOf t).map oS, rfl, rfl, .inl (SqL.of (by rw [List.map_map]; exact g.at_)), ?_, ?_⟩
      · have : ∀ l : List (List Nat), (∀ p ∈ l, p.length ≤ 20) → ((l.map oS).map (·.length)).sum ≤ 20 * l.length := by
          intro l
          induction l with
          | nil => intro _; exact Nat.le_refl _
          | cons p l ih =>
            intro h
            have h1 := h p List.mem_cons_self
            have h2 := ih fun q hq => h q (List.mem_cons_of_mem _ hq)
            simp only [List.map_cons, List.sum_cons, List.length_cons, oS_len]
            omega
        have h1 := this _ hpm
        rw [hpl] at h1
        rw [List.length_map, hpl]
        show _ + t.sz * 0 ≤ _
        omega
      · rw [join_nil, M.text_is h5]
        exact k _ g.same

def patL : List (List Ch) := [[.L, .R], [.L, .R, .Q], [.L, .R, .Q], [.L, .R, .Q, .Q, .Q, .Q], [.Q]]
theorem patL_V : [V.str "LR", V.str "LR?", V.str "LR?", V.str "LR????", V.str "?"] = patL.map fun l => V.str (patS l) := by decide +kernel
theorem join_chs (l : List Ch) : Txt.join "" (l.map chS) = patS l := by
  have h := join_nil (l.map fun c => [cn c])
  rw [List.map_map] at h
  have e : (oS ∘ fun c => [cn c]) = chS := funext fun c => rfl
  rw [e] at h
  rw [h]
  have e2 : ∀ l : List Ch, (l.map fun c => [cn c]).flatten = l.map cn := by
    intro l
    induction l with
    | nil => rfl
    | cons c l ih => rw [List.map_cons, List.flatten_cons, ih]; rfl
  rw [e2]; rfl
def sp_pattern : Sp := fun vs H Q _ => ∃ (b g : Addr) (n : Nat), vs = [.ref b, .int n] ∧ BoxAt b g H ∧ n ≤ 5 ∧ ∀ H' (l : List Ch), BoxAt b g H' → Fr b g H H' → l.length = n → Q (.str (patS l)) H'
theorem d__law_pattern (T : Tx K mg) (F : FunAt K mg "_law_pattern" s__law_pattern) (d__law_take : Def P w K mg base "_law_take" ["_law_box_here", "_law_size"] 1 sp_take) : Def P w K mg base "_law_pattern" ["_law_box_here", "_law_size"] 2 sp_pattern := by
  refine mk_def F sc__law_pattern (fun _ _ _ _ _ _ us hl => match us, hl with | [_, _], _ => rfl) (fun vs H Q E h => ?_) (fun f cdv A outer s H vs Q E hr h => ?_)
  · obtain ⟨_, _, _, rfl, _⟩ := h; rfl
  · obtain ⟨b, g, n, rfl, bx, h5, k⟩ := h
    refine ⟨_, (pss_cons (ps_set (i := 2) sc__law_pattern.nd rfl (Or.inl rfl) (pe_def d__law_take hr (by rfl) (pa_cons (pv 0) (pa_cons pe_int pa_nil))))
      (pss_cons (ps_set (i := 3) sc__law_pattern.nd rfl (Or.inr rfl) (pe_ix ix_list (pe_lst (pa_cons pe_str (pa_cons pe_str (pa_cons pe_str (pa_cons pe_str (pa_cons pe_str pa_nil)))))) (pv 2) (fun _ _ => rfl)))
      (pss_one (ps_ret (pe_join pe_str (pe_lc (own := [("_law_k", 4)]) rfl sc__law_pattern.nd (pi_range1 (by rfl) T.b_range (pa_cons (pv 1) pa_nil)) (blkOk_by (own := [("_law_k", 4)]) (N := N__law_pattern) (sc := defScope s__law_pattern) (by decide +kernel)) (fun _ _ _ _ _ => (pg_name (i := 4) sc__law_pattern.nd rfl (Or.inl rfl))) (fun _ _ _ _ _ => pts_nil) (fun _ _ _ _ _ => (pe_ix ix_str (pv 3) (pe_def d__law_take hr (by rfl) (pa_cons (pv 0) (pa_cons (pe_callB call_len_str (by rfl) T.b_len (by decide +kernel) (pa_cons (pv 3) pa_nil)) pa_nil))) (fun _ _ => rfl))))))))), ?_⟩
    refine ⟨_, rfl, b, g, 5, rfl, bx, by decide, by decide, fun H1 way bx1 fr1 hw => ?_⟩
    refine ⟨szl, fun p0 hp0 => ?_⟩
    rw [patL_V]
    obtain ⟨sg, hsg⟩ : ∃ sg, patL[way]? = some sg := ⟨_, List.getElem?_eq_getElem (show way < patL.length from hw)⟩
    have hsl : 0 < sg.length ∧ sg.length < 1000 := by
      have : ∀ q ∈ patL, 0 < q.length ∧ q.length < 1000 := by decide +kernel
      exact this sg (List.mem_of_getElem? hsg)
    refine ⟨_, rfl, p0, _, _, _, rfl, rfl, SqL.of upd_same, atI_nat (by rw [List.getElem?_map, hsg]; rfl), ?_⟩
    have bx2 := bx1.more (same_new (u := .lst (patL.map fun l => V.str (patS l))) hp0)
    have fr2 := fr1.trans (fr_same (same_new (u := .lst (patL.map fun l => V.str (patS l))) hp0))
    generalize upd H1 p0 (.lst (patL.map fun l => V.str (patS l))) = H2 at bx2 fr2 ⊢
    refine ⟨⟨_, rfl⟩, _, rfl, _, rfl, by omega, by omega, fun D hD => ?_⟩
    rw [show ((n : Nat) : Int).toNat = n by omega]
    have nD := bx2.new hD
    refine lc_it walk_range (fun i H' => ∃ l : List Ch, l.length = i ∧ H' D = some (.lst (l.map fun c => V.str (chS c))) ∧ BoxAt b g H' ∧ Fr b g H H') ⟨[], rfl, upd_same, bx2.keep (.inl hD), fr2.put (fr2.free hD nD)⟩ (fun _ _ _ _ => trivial) (fun i x H3 H4 hi p y => ?_) (fun H3 p => ?_)
    · obtain ⟨rfl, rfl⟩ := y
      obtain ⟨l, hl, hDl, bx3, fr3⟩ := p
      have hsz : (patS sg).length = sg.length := patS_len sg
      refine ⟨rfl, _, rfl, _, rfl, _, rfl, _, rfl, by rw [hsz]; exact sz_le (by omega), b, g, sg.length, by rw [← hsz]; rfl, bx3, hsl.1, hsl.2, fun H5 r bx5 fr5 hr5 => ?_⟩
      refine ⟨_, _, _, rfl, rfl, by rw [hsz]; exact sz_le (by omega), pat_at hr5, _, fr5 _ _ hDl nD.1 nD.2, sz_lt (by simp; omega), l ++ [M.fnOf sg r], by simp [hl], ?_, bx5.keep (.inr nD), ?_⟩
      · rw [upd_same, List.map_append]; rfl
      · exact (fr3.trans fr5).put (fr2.free hD nD)
    · obtain ⟨l, hl, hDl, bx3, fr3⟩ := p
      refine ⟨_, D, l.map chS, rfl, rfl, .inl (SqL.of (by rw [List.map_map]; exact hDl)), ?_, ?_⟩
      · have : ∀ l : List Ch, ((l.map chS).map (·.length)).sum = l.length := by
          intro l
          induction l with
          | nil => rfl
          | cons c l ih => simp only [List.map_cons, List.sum_cons, List.length_cons]; rw [ih]; show 1 + _ = _; omega
        rw [this, List.length_map]
        show _ + l.length * 0 ≤ _
        omega
      · rw [join_chs]; exact k _ l bx3 fr3 hl

theorem rgV_n (n : Nat) : rgV 0 (n : Int) = nV (List.range n) := by
  unfold rgV nV
  rw [show ((n : Int) - 0).toNat = n by omega]
  exact List.map_congr_left fun i _ => by rw [Int.zero_add]
theorem erase_perm {α : Type} : ∀ (l : List α) (i : Nat) (a : α), l[i]? = some a → (a :: l.eraseIdx i).Perm l
  | x :: l, 0, a, h => by
    have : x = a := by simpa using h
    subst this; exact .refl _
  | x :: l, i + 1, a, h => by
    have h : l[i]? = some a := by simpa using h
    rw [List.eraseIdx_cons_succ]
    exact (List.Perm.swap x a _).trans ((erase_perm l i a h).cons x)
theorem nV_erase (l : List Nat) (i : Nat) : (nV l).eraseIdx i = nV (l.eraseIdx i) := by
  unfold nV
  induction l generalizing i with
  | nil => rfl
  | cons x l ih =>
    cases i with
    | zero => rfl
    | succ i => rw [List.map_cons, List.eraseIdx_cons_succ, List.eraseIdx_cons_succ, ih, List.map_cons]
def sp_renewed : Sp := fun vs H Q _ => ∃ (b g : Addr) (n : Nat), vs = [.ref b, .int n, .int n] ∧ BoxAt b g H ∧ n ≤ 5 ∧ ∀ H' p (R : List Nat), BoxAt b g H' → Fr b g H H' → H p = none → p ≠ b ∧ p ≠ g → H' p = some (.lst (nV R)) → R.Nodup → (∀ x ∈ R, x < n) → Q (.ref p) H'
theorem d__law_renewed (T : Tx K mg) (F : FunAt K mg "_law_renewed" s__law_renewed) (d__law_take : Def P w K mg base "_law_take" ["_law_box_here", "_law_size"] 1 sp_take) : Def P w K mg base "_law_renewed" ["_law_box_here", "_law_many", "_law_most"] 2 sp_renewed := by
  refine mk_def F sc__law_renewed (fun _ _ _ _ _ _ us hl => match us, hl with | [_, _, _], _ => rfl) (fun vs H Q E h => ?_) (fun f cdv A outer s H vs Q E hr h => ?_)
  · obtain ⟨_, _, _, rfl, _⟩ := h; rfl
  · obtain ⟨b, g, n, rfl, bx, h5, k⟩ := h
    refine ⟨_, (pss_cons (ps_set (i := 3) sc__law_renewed.nd rfl (Or.inl rfl) (pe_listRg rfl (by rfl) T.b_list (prg_1 (by rfl) T.b_range (pv 1))))
      (pss_cons (ps_set (i := 4) sc__law_renewed.nd rfl (Or.inl rfl) (pe_lst pa_nil))
      (pss_cons (ps_for PassesOwn.never rfl (pi_range1 (by rfl) T.b_range (pa_cons (pe_def d__law_take hr (by rfl) (pa_cons (pv 0) (pa_cons (pe_op op_add (pv 2) pe_int) pa_nil))) pa_nil)) (pg_name (i := 5) sc__law_renewed.nd rfl (Or.inl rfl)) (pss_one (ps_expr (pe_bm PySem.F.plainAttrs_list PySem.F.slot_list_append PySem.F.type_list_append mt_append (pv 4) (pa_cons (pe_bm PySem.F.plainAttrs_list PySem.F.slot_list_pop PySem.F.type_list_pop mt_popAt (pv 3) (pa_cons (pe_def d__law_take hr (by rfl) (pa_cons (pv 0) (pa_cons (pe_callB call_len_seq (by rfl) T.b_len (by decide +kernel) (pa_cons (pv 3) pa_nil)) pa_nil))) pa_nil)) pa_nil)))))
      (pss_one (ps_ret (pv 4)))))), ?_⟩
    refine ⟨_, rfl, _, rfl, .of_le (by omega) (by omega) (by omega) (by omega), fun po hpo => ⟨szl, fun fo hfo => ?_⟩⟩
    rw [rgV_n]
    rw [rgV_n] at hfo
    have npo := bx.new hpo
    have s1 := same_new (u := .lst (nV (List.range n))) hpo
    have nfo := (bx.more s1).new hfo
    have bw0 : Bw H b g po fo (nV (List.range n)) (nV []) (upd (upd H po (.lst (nV (List.range n)))) fo (.lst [])) :=
      ⟨(fr_same s1).trans (fr_same (same_new hfo)), (bx.more s1).more (same_new hfo), hpo, s1.free hfo, fun z => (by rw [← z, upd_same] at hfo; cases hfo), npo, nfo, upd_old upd_same hfo, upd_same⟩
    generalize upd (upd H po (.lst (nV (List.range n)))) fo (.lst []) = H2 at bw0 ⊢
    refine ⟨_, rfl, _, rfl, _, _, rfl, rfl, b, g, n + 1, rfl, bw0.bx, by omega, by omega, fun H3 m bx3 fr3 hm => ?_⟩
    have bw1 := bw0.take bx3 fr3
    refine ⟨_, rfl, by omega, by omega, ?_⟩
    rw [show ((m : Nat) : Int).toNat = m by omega]
    refine for_it walk_range (fun i σ H' => ∃ (pl R : List Nat) (x5 : Option V), σ = [some (.ref b), some (.int n), some (.int n), some (.ref po), some (.ref fo), x5] ∧ Bw H b g po fo (nV pl) (nV R) H' ∧ (R ++ pl).Perm (List.range n) ∧ R.length = i) ⟨List.range n, [], _, rfl, bw1, .refl _, rfl⟩ (fun _ _ _ _ _ => trivial) (fun i y σ Hz H4 hi p hy => ?_) (fun σ H4 p => ?_)
    · obtain ⟨pl, R, x5, rfl, bw, pm, hR⟩ := p
      obtain ⟨rfl, rfl⟩ := hy
      have hpl : pl.length + i = n := by have := pm.length_eq; rw [List.length_append, List.length_range] at this; omega
      refine ⟨_, rfl, .inl ⟨rfl, _, SqL.of bw.hl⟩, _, rfl, .inl ⟨rfl, _, SqL.of bw.hs⟩, _, rfl, _, rfl, _, _, rfl, .inl (SqL.of bw.hs), b, g, pl.length, by rw [nV_len]; rfl, bw.bx, by omega, by omega, fun H5 r bx5 fr5 hr5 => ?_⟩
      have bw5 := bw.take bx5 fr5
      obtain ⟨x, hx⟩ : ∃ x, pl[r]? = some x := ⟨_, List.getElem?_eq_getElem hr5⟩
      refine ⟨po, _, (r : Int), r, .int (x : Nat), rfl, rfl, bw5.hs, by omega, by omega, ?_, by rw [nV_get, hx]; rfl, ?_⟩
      · rw [nV_len]
        unfold seqIndex?
        simp
        rw [if_neg (show ¬ ((r : Int) < 0) by omega)]
        omega
      rw [nV_erase]
      have bw6 := bw5.putS (vs' := nV (pl.eraseIdx r))
      refine ⟨fo, _, _, rfl, rfl, bw6.hl, sz_lt (by rw [nV_len]; omega), pl.eraseIdx r, R ++ [x], _, rfl, ?_, ?_, by simp [hR]⟩
      · rw [nV_snoc]; exact bw6.putL
      · refine List.Perm.trans ?_ pm
        rw [List.append_assoc]
        exact (erase_perm pl r x hx).append_left R
    · obtain ⟨pl, R, x5, rfl, bw, pm, hR⟩ := p
      have hn : (R ++ pl).Nodup := pm.nodup_iff.mpr List.nodup_range
      refine ⟨_, rfl, k _ fo R bw.bx bw.fr bw.nl bw.lb bw.hl (List.nodup_append.mp hn).1 fun x hx => ?_⟩
      have := pm.mem_iff.mp (List.mem_append_left pl hx)
      exact List.mem_range.mp this
end
end My

set_option Elab.async false
set_option maxRecDepth 100000
set_option maxHeartbeats 4000000
namespace My
open PySem PySem.Spec PyProof.Rows L2
open M (Ch Need)
abbrev s__law_same : Stmt := top 41
abbrev N__law_same : List Str := ["_law_value", "_law_due", "_law_k"]
theorem sc__law_same : FnScope N__law_same ["_law_value", "_law_due"] (defScope s__law_same) := ⟨rfl, rfl, rfl, by decide +kernel, rfl, by decide +kernel, by decide +kernel⟩
section
variable {P : Program} {w : World} {K : PySem.W.Frag} {mg : Str → Option Value} {base : Heap} {C : Addr}
theorem walk_rg {n : Nat} : Walk (Itr 0 n) n (fun _ => True) (fun i H x H' => H' = H ∧ x = .int (i : Nat)) :=
  (walk_range (lo := 0) (n := n)).mono (fun _ h => h) fun i H x H' _ _ y => ⟨y.1, by rw [y.2]; show V.int _ = _; rw [Int.zero_add]⟩
def spNo : Sp := fun _ _ _ _ => False
theorem d_same0 (F : FunAt K mg "_law_same" s__law_same) : Def P w K mg base "_law_same" ["_law_value", "_law_due"] 1 spNo :=
  mk_def F sc__law_same (fun _ _ _ _ _ _ us hl => match us, hl with | [_, _], _ => rfl) (fun vs H Q E h => h.elim) (fun f cdv A outer s H vs Q E hr h => h.elim)
inductive Sc : V → Prop
  | non : Sc .non
  | bl (b : Bool) : Sc (.bl b)
  | int (i : Int) : Sc (.int i)
def sp_same1 : Sp := fun vs H Q _ => ∃ x, vs = [x, x] ∧ Sc x ∧ Q (.bl true) H
theorem d_same1 (T : Tx K mg) (F : FunAt K mg "_law_same" s__law_same) (d__law_same : Def P w K mg base "_law_same" ["_law_value", "_law_due"] 1 spNo) : Def P w K mg base "_law_same" ["_law_value", "_law_due"] 2 sp_same1 := by
  refine mk_def F sc__law_same (fun _ _ _ _ _ _ us hl => match us, hl with | [_, _], _ => rfl) (fun vs H Q E h => ?_) (fun f cdv A outer s H vs Q E hr h => ?_)
  · obtain ⟨_, rfl, _⟩ := h; rfl
  · obtain ⟨x, rfl, hx, k⟩ := h
    refine ⟨_, (pss_cons (ps_if (pt_cmpR op_isN (pv 1) pe_non (nomark _)) (pss_one (ps_ret (pe_cmpR op_isN (pv 0) pe_non (nomark _)))) pss_nil)
      (pss_cons (ps_if (PW.pt (pw_or (pt_val (pe_callB call_isi (by rfl) T.b_isinstance (by decide +kernel) (pa_cons (pv 1) (pa_cons (pe_bltn (v := .ty "bool") (by rfl) T.b_bool (by decide +kernel) rfl) pa_nil)))) (pw_or1 (pt_val (pe_callB call_isi (by rfl) T.b_isinstance (by decide +kernel) (pa_cons (pv 0) (pa_cons (pe_bltn (v := .ty "bool") (by rfl) T.b_bool (by decide +kernel) rfl) pa_nil))))))) (pss_one (ps_ret (pe_and (pe_callB call_isi (by rfl) T.b_isinstance (by decide +kernel) (pa_cons (pv 1) (pa_cons (pe_bltn (v := .ty "bool") (by rfl) T.b_bool (by decide +kernel) rfl) pa_nil))) (pe_and (pe_callB call_isi (by rfl) T.b_isinstance (by decide +kernel) (pa_cons (pv 0) (pa_cons (pe_bltn (v := .ty "bool") (by rfl) T.b_bool (by decide +kernel) rfl) pa_nil))) (pe_one (pe_cmpR op_eq (pv 0) (pv 1) (nomark _))))))) pss_nil)
      (pss_cons (ps_if (pt_val (pe_callB call_isi (by rfl) T.b_isinstance (by decide +kernel) (pa_cons (pv 1) (pa_cons (pe_bltn (v := .ty "int") (by rfl) T.b_int (by decide +kernel) rfl) pa_nil)))) (pss_one (ps_ret (pe_and (pe_callB call_isi (by rfl) T.b_isinstance (by decide +kernel) (pa_cons (pv 0) (pa_cons (pe_bltn (v := .ty "int") (by rfl) T.b_int (by decide +kernel) rfl) pa_nil))) (pe_one (pe_cmpR op_eq (pv 0) (pv 1) (nomark _)))))) pss_nil)
      (pss_cons (ps_if (pt_val (pe_callB call_isi (by rfl) T.b_isinstance (by decide +kernel) (pa_cons (pv 1) (pa_cons (pe_bltn (v := .ty "str") (by rfl) T.b_str (by decide +kernel) rfl) pa_nil)))) (pss_one (ps_ret (pe_and (pe_callB call_isi (by rfl) T.b_isinstance (by decide +kernel) (pa_cons (pv 0) (pa_cons (pe_bltn (v := .ty "str") (by rfl) T.b_str (by decide +kernel) rfl) pa_nil))) (pe_one (pe_cmpR op_eq (pv 0) (pv 1) (nomark _)))))) pss_nil)
      (pss_cons (ps_if (PW.pt (pw_and (pt_val (pe_callB call_isi (by rfl) T.b_isinstance (by decide +kernel) (pa_cons (pv 1) (pa_cons (pe_bltn (v := .ty "list") (by rfl) T.b_list (by decide +kernel) rfl) pa_nil)))) (pw_and1 (pt_not (pt_val (pe_callB call_isi (by rfl) T.b_isinstance (by decide +kernel) (pa_cons (pv 0) (pa_cons (pe_bltn (v := .ty "list") (by rfl) T.b_list (by decide +kernel) rfl) pa_nil)))))))) (pss_one (ps_ret pe_bl)) pss_nil)
      (pss_cons (ps_if (PW.pt (pw_and (pt_val (pe_callB call_isi (by rfl) T.b_isinstance (by decide +kernel) (pa_cons (pv 1) (pa_cons (pe_bltn (v := .ty "tuple") (by rfl) T.b_tuple (by decide +kernel) rfl) pa_nil)))) (pw_and1 (pt_not (pt_val (pe_callB call_isi (by rfl) T.b_isinstance (by decide +kernel) (pa_cons (pv 0) (pa_cons (pe_bltn (v := .ty "tuple") (by rfl) T.b_tuple (by decide +kernel) rfl) pa_nil)))))))) (pss_one (ps_ret pe_bl)) pss_nil)
      (pss_cons (ps_if (pt_cmpR op_ne (pe_callB call_len_seq (by rfl) T.b_len (by decide +kernel) (pa_cons (pv 0) pa_nil)) (pe_callB call_len_seq (by rfl) T.b_len (by decide +kernel) (pa_cons (pv 1) pa_nil)) (nomark _)) (pss_one (ps_ret pe_bl)) pss_nil)
      (pss_cons (ps_for PassesOwn.never rfl (pi_range1 (by rfl) T.b_range (pa_cons (pe_callB call_len_seq (by rfl) T.b_len (by decide +kernel) (pa_cons (pv 1) pa_nil)) pa_nil)) (pg_name (i := 2) sc__law_same.nd rfl (Or.inl rfl)) (pss_one (ps_if (pt_not (pt_val (pe_def d__law_same hr (by rfl) (pa_cons (pe_ix ix_tup (pv 0) (pv 2) (fun _ _ => rfl)) (pa_cons (pe_ix ix_tup (pv 1) (pv 2) (fun _ _ => rfl)) pa_nil))))) (pss_one (ps_ret pe_bl)) pss_nil)))
      (pss_one (ps_ret pe_bl)))))))))), ?_⟩
    cases hx with
    | non => exact ⟨_, rfl, rfl, _, rfl, iteT ⟨_, rfl, rfl, k⟩⟩
    | bl b =>
      refine ⟨_, rfl, rfl, _, rfl, iteF ?_⟩
      refine ⟨_, rfl, _, _, _, _, true, rfl, .ty _, .base (.bl b), kit_ty (by decide +kernel), _, rfl, iteT ?_⟩
      refine ⟨_, rfl, _, _, _, _, true, rfl, .ty _, .base (.bl b), kit_ty (by decide +kernel), _, rfl, iteT ?_⟩
      refine ⟨_, rfl, _, _, _, _, true, rfl, .ty _, .base (.bl b), kit_ty (by decide +kernel), _, rfl, iteT ?_⟩
      refine ⟨_, rfl, _, rfl, rfl, ?_⟩
      rw [decide_eq_true rfl]; exact k
    | int i =>
      refine ⟨_, rfl, rfl, _, rfl, iteF ?_⟩
      refine ⟨_, rfl, _, _, _, _, false, rfl, .ty _, .base (.int i), kit_ty (by decide +kernel), _, rfl, iteF ?_⟩
      refine ⟨_, rfl, _, _, _, _, false, rfl, .ty _, .base (.int i), kit_ty (by decide +kernel), _, rfl, iteF ?_⟩
      refine ⟨_, rfl, _, _, _, _, true, rfl, .ty _, .base (.int i), kit_ty (by decide +kernel), _, rfl, iteT ?_⟩
      refine ⟨_, rfl, _, _, _, _, true, rfl, .ty _, .base (.int i), kit_ty (by decide +kernel), _, rfl, iteT ?_⟩
      refine ⟨_, rfl, _, rfl, rfl, ?_⟩
      rw [decide_eq_true rfl]; exact k

def sp_same2 : Sp := fun vs H Q _ => (∃ x, vs = [x, x] ∧ Sc x ∧ Q (.bl true) H) ∨ ∃ (a b : Addr) (xs : List V), vs = [.ref a, .ref b] ∧ H a = some (.tup xs) ∧ H b = some (.tup xs) ∧ xs.length ≤ 1000 ∧ (∀ x ∈ xs, Sc x) ∧ Q (.bl true) H
theorem d_same2 (T : Tx K mg) (F : FunAt K mg "_law_same" s__law_same) (d__law_same : Def P w K mg base "_law_same" ["_law_value", "_law_due"] 2 sp_same1) : Def P w K mg base "_law_same" ["_law_value", "_law_due"] 3 sp_same2 := by
  refine mk_def F sc__law_same (fun _ _ _ _ _ _ us hl => match us, hl with | [_, _], _ => rfl) (fun vs H Q E h => ?_) (fun f cdv A outer s H vs Q E hr h => ?_)
  · rcases h with ⟨_, rfl, _⟩ | ⟨_, _, _, rfl, _⟩ <;> rfl
  · refine ⟨_, (pss_cons (ps_if (pt_cmpR op_isN (pv 1) pe_non (nomark _)) (pss_one (ps_ret (pe_cmpR op_isN (pv 0) pe_non (nomark _)))) pss_nil)
      (pss_cons (ps_if (PW.pt (pw_or (pt_val (pe_callB call_isi (by rfl) T.b_isinstance (by decide +kernel) (pa_cons (pv 1) (pa_cons (pe_bltn (v := .ty "bool") (by rfl) T.b_bool (by decide +kernel) rfl) pa_nil)))) (pw_or1 (pt_val (pe_callB call_isi (by rfl) T.b_isinstance (by decide +kernel) (pa_cons (pv 0) (pa_cons (pe_bltn (v := .ty "bool") (by rfl) T.b_bool (by decide +kernel) rfl) pa_nil))))))) (pss_one (ps_ret (pe_and (pe_callB call_isi (by rfl) T.b_isinstance (by decide +kernel) (pa_cons (pv 1) (pa_cons (pe_bltn (v := .ty "bool") (by rfl) T.b_bool (by decide +kernel) rfl) pa_nil))) (pe_and (pe_callB call_isi (by rfl) T.b_isinstance (by decide +kernel) (pa_cons (pv 0) (pa_cons (pe_bltn (v := .ty "bool") (by rfl) T.b_bool (by decide +kernel) rfl) pa_nil))) (pe_one (pe_cmpR op_eq (pv 0) (pv 1) (nomark _))))))) pss_nil)
      (pss_cons (ps_if (pt_val (pe_callB call_isi (by rfl) T.b_isinstance (by decide +kernel) (pa_cons (pv 1) (pa_cons (pe_bltn (v := .ty "int") (by rfl) T.b_int (by decide +kernel) rfl) pa_nil)))) (pss_one (ps_ret (pe_and (pe_callB call_isi (by rfl) T.b_isinstance (by decide +kernel) (pa_cons (pv 0) (pa_cons (pe_bltn (v := .ty "int") (by rfl) T.b_int (by decide +kernel) rfl) pa_nil))) (pe_one (pe_cmpR op_eq (pv 0) (pv 1) (nomark _)))))) pss_nil)
      (pss_cons (ps_if (pt_val (pe_callB call_isi (by rfl) T.b_isinstance (by decide +kernel) (pa_cons (pv 1) (pa_cons (pe_bltn (v := .ty "str") (by rfl) T.b_str (by decide +kernel) rfl) pa_nil)))) (pss_one (ps_ret (pe_and (pe_callB call_isi (by rfl) T.b_isinstance (by decide +kernel) (pa_cons (pv 0) (pa_cons (pe_bltn (v := .ty "str") (by rfl) T.b_str (by decide +kernel) rfl) pa_nil))) (pe_one (pe_cmpR op_eq (pv 0) (pv 1) (nomark _)))))) pss_nil)
      (pss_cons (ps_if (PW.pt (pw_and (pt_val (pe_callB call_isi (by rfl) T.b_isinstance (by decide +kernel) (pa_cons (pv 1) (pa_cons (pe_bltn (v := .ty "list") (by rfl) T.b_list (by decide +kernel) rfl) pa_nil)))) (pw_and1 (pt_not (pt_val (pe_callB call_isi (by rfl) T.b_isinstance (by decide +kernel) (pa_cons (pv 0) (pa_cons (pe_bltn (v := .ty "list") (by rfl) T.b_list (by decide +kernel) rfl) pa_nil)))))))) (pss_one (ps_ret pe_bl)) pss_nil)
      (pss_cons (ps_if (PW.pt (pw_and (pt_val (pe_callB call_isi (by rfl) T.b_isinstance (by decide +kernel) (pa_cons (pv 1) (pa_cons (pe_bltn (v := .ty "tuple") (by rfl) T.b_tuple (by decide +kernel) rfl) pa_nil)))) (pw_and1 (pt_not (pt_val (pe_callB call_isi (by rfl) T.b_isinstance (by decide +kernel) (pa_cons (pv 0) (pa_cons (pe_bltn (v := .ty "tuple") (by rfl) T.b_tuple (by decide +kernel) rfl) pa_nil)))))))) (pss_one (ps_ret pe_bl)) pss_nil)
      (pss_cons (ps_if (pt_cmpR op_ne (pe_callB call_len_seq (by rfl) T.b_len (by decide +kernel) (pa_cons (pv 0) pa_nil)) (pe_callB call_len_seq (by rfl) T.b_len (by decide +kernel) (pa_cons (pv 1) pa_nil)) (nomark _)) (pss_one (ps_ret pe_bl)) pss_nil)
      (pss_cons (ps_for PassesOwn.never rfl (pi_range1 (by rfl) T.b_range (pa_cons (pe_callB call_len_seq (by rfl) T.b_len (by decide +kernel) (pa_cons (pv 1) pa_nil)) pa_nil)) (pg_name (i := 2) sc__law_same.nd rfl (Or.inl rfl)) (pss_one (ps_if (pt_not (pt_val (pe_def d__law_same hr (by rfl) (pa_cons (pe_ix ix_tup (pv 0) (pv 2) (fun _ _ => rfl)) (pa_cons (pe_ix ix_tup (pv 1) (pv 2) (fun _ _ => rfl)) pa_nil))))) (pss_one (ps_ret pe_bl)) pss_nil)))
      (pss_one (ps_ret pe_bl)))))))))), ?_⟩
    rcases h with ⟨x, rfl, hx, k⟩ | ⟨a, b, xs, rfl, ha, hb, hl, hx, k⟩
    · cases hx with
      | non => exact ⟨_, rfl, rfl, _, rfl, iteT ⟨_, rfl, rfl, k⟩⟩
      | bl b =>
        refine ⟨_, rfl, rfl, _, rfl, iteF ?_⟩
        refine ⟨_, rfl, _, _, _, _, true, rfl, .ty _, .base (.bl b), kit_ty (by decide +kernel), _, rfl, iteT ?_⟩
        refine ⟨_, rfl, _, _, _, _, true, rfl, .ty _, .base (.bl b), kit_ty (by decide +kernel), _, rfl, iteT ?_⟩
        refine ⟨_, rfl, _, _, _, _, true, rfl, .ty _, .base (.bl b), kit_ty (by decide +kernel), _, rfl, iteT ?_⟩
        refine ⟨_, rfl, _, rfl, rfl, ?_⟩
        rw [decide_eq_true rfl]; exact k
      | int i =>
        refine ⟨_, rfl, rfl, _, rfl, iteF ?_⟩
        refine ⟨_, rfl, _, _, _, _, false, rfl, .ty _, .base (.int i), kit_ty (by decide +kernel), _, rfl, iteF ?_⟩
        refine ⟨_, rfl, _, _, _, _, false, rfl, .ty _, .base (.int i), kit_ty (by decide +kernel), _, rfl, iteF ?_⟩
        refine ⟨_, rfl, _, _, _, _, true, rfl, .ty _, .base (.int i), kit_ty (by decide +kernel), _, rfl, iteT ?_⟩
        refine ⟨_, rfl, _, _, _, _, true, rfl, .ty _, .base (.int i), kit_ty (by decide +kernel), _, rfl, iteT ?_⟩
        refine ⟨_, rfl, _, rfl, rfl, ?_⟩
        rw [decide_eq_true rfl]; exact k
    refine ⟨_, rfl, rfl, _, rfl, iteF ?_⟩
    refine ⟨_, rfl, _, _, _, _, false, rfl, .ty _, .base (.tup hb), kit_ty (by decide +kernel), _, rfl, iteF ?_⟩
    refine ⟨_, rfl, _, _, _, _, false, rfl, .ty _, .base (.tup ha), kit_ty (by decide +kernel), _, rfl, iteF ?_⟩
    refine ⟨_, rfl, _, _, _, _, false, rfl, .ty _, .base (.tup hb), kit_ty (by decide +kernel), _, rfl, iteF ?_⟩
    refine ⟨_, rfl, _, _, _, _, false, rfl, .ty _, .base (.tup hb), kit_ty (by decide +kernel), _, rfl, iteF ?_⟩
    refine ⟨_, rfl, _, _, _, _, false, rfl, .ty _, .base (.tup hb), kit_ty (by decide +kernel), _, rfl, iteF (iteF ?_)⟩
    refine ⟨_, rfl, _, _, _, _, true, rfl, .ty _, .base (.tup hb), kit_ty (by decide +kernel), _, rfl, iteT ?_⟩
    refine ⟨_, rfl, _, _, _, _, true, rfl, .ty _, .base (.tup ha), kit_ty (by decide +kernel), _, rfl, iteF ?_⟩
    refine ⟨_, rfl, _, _, rfl, .inr (SqT.of ha), _, rfl, _, _, rfl, .inr (SqT.of hb), rfl, _, rfl, ?_⟩
    rw [show (!decide (V.int (xs.length : Int) = V.int (xs.length : Int))) = false by simp]
    refine iteF ?_
    refine ⟨_, rfl, _, _, rfl, .inr (SqT.of hb), _, rfl, by omega, by omega, ?_⟩
    rw [show ((xs.length : Nat) : Int).toNat = xs.length by omega]
    refine for_it walk_rg (fun i σ H' => ∃ x, σ = [some (.ref a), some (.ref b), x] ∧ H' = H) ⟨_, rfl, rfl⟩ (fun _ _ _ _ _ => trivial) (fun i y σ Hz H4 hi p hy => ?_) (fun σ H4 p => ?_)
    · obtain ⟨x, rfl, rfl⟩ := p
      obtain ⟨rfl, rfl⟩ := hy
      have e : xs[i]? = some xs[i] := List.getElem?_eq_getElem hi
      refine ⟨_, rfl, _, rfl, a, _, _, _, rfl, rfl, SqT.of ha, atI_nat e, _, rfl, _, rfl, b, _, _, _, rfl, rfl, SqT.of hb, atI_nat e, _, rfl, hx _ (List.getElem_mem hi), true, rfl, iteF ⟨_, rfl, rfl⟩⟩
    · obtain ⟨x, rfl, rfl⟩ := p
      exact k
end
end My

set_option Elab.async false
set_option maxRecDepth 100000
set_option maxHeartbeats 4000000
namespace My
open PySem PySem.Spec PyProof.Rows L2
open M (Ch Need chOf agreeP)
abbrev s__law_turned : Stmt := top 42
abbrev N__law_turned : List Str := ["_law_rows_here", "_law_now", "_law_slot", "_law_signs", "_law_fork", "_law_first", "_law_last"]
theorem sc__law_turned : FnScope N__law_turned ["_law_rows_here", "_law_now", "_law_slot"] (defScope s__law_turned) := ⟨rfl, rfl, rfl, by decide +kernel, rfl, by decide +kernel, by decide +kernel⟩
abbrev s__law_blocked : Stmt := top 43
abbrev N__law_blocked : List Str := ["_law_rows_here", "_law_now", "_law_slot", "_law_fork", "_law_first", "_law_last"]
theorem sc__law_blocked : FnScope N__law_blocked ["_law_rows_here", "_law_now", "_law_slot"] (defScope s__law_blocked) := ⟨rfl, rfl, rfl, by decide +kernel, rfl, by decide +kernel, by decide +kernel⟩
abbrev s__law_agree : Stmt := top 44
abbrev N__law_agree : List Str := ["_law_now", "_law_end", "_law_k"]
theorem sc__law_agree : FnScope N__law_agree ["_law_now", "_law_end"] (defScope s__law_agree) := ⟨rfl, rfl, rfl, by decide +kernel, rfl, by decide +kernel, by decide +kernel⟩
abbrev s__law_every : Stmt := top 45
abbrev N__law_every : List Str := ["_law_size", "_law_found_here", "_law_k", "_law_text_here"]
theorem sc__law_every : FnScope N__law_every ["_law_size"] (defScope s__law_every) := ⟨rfl, rfl, rfl, by decide +kernel, rfl, by decide +kernel, by decide +kernel⟩
/-! ### flags as texts -/
def fS (l : List Bool) : Str := patS (l.map chOf)
def bV (l : List Bool) : List V := l.map fun b => V.str (chS (chOf b))
theorem sigV_pat (l : List Ch) : sigV (patS l) = l.map fun c => V.str (chS c) := by simp [sigV, patS, chS, sg]
theorem sigV_fS (l : List Bool) : sigV (fS l) = bV l := by rw [fS, sigV_pat, bV, List.map_map]; rfl
theorem bV_set (l : List Bool) (i : Nat) (b : Bool) : (bV l).set i (.str (chS (chOf b))) = bV (l.set i b) := by simp [bV, List.map_set]
theorem fS_len (l : List Bool) : (fS l).length = l.length := by rw [show (fS l).length = _ from patS_len _]; simp
theorem pat_len (l : List Ch) : (patS l).length = l.length := patS_len l
theorem join_fS (l : List Bool) : Txt.join "" (l.map fun b => chS (chOf b)) = fS l := by
  have := join_chs (l.map chOf)
  rw [List.map_map] at this
  exact this
theorem patS_app (a b : List Ch) : patS a ++ patS b = patS (a ++ b) := by
  show Str.append _ _ = _
  simp [Str.append, patS]
theorem fnOf_bits (l : List Bool) {i : Nat} (h : i < l.length) : M.fnOf (l.map chOf) i = chOf (l.getD i true) := by simp [M.fnOf, h]
theorem chs_sum (l : List Ch) : ((l.map chS).map (·.length)).sum = l.length := by
  induction l with
  | nil => rfl
  | cons c l ih => simp only [List.map_cons, List.sum_cons, List.length_cons]; rw [ih]; show 1 + _ = _; omega
theorem chf_sum (l : List Bool) : ((l.map fun b => chS (chOf b)).map (·.length)).sum = l.length := by
  induction l with
  | nil => rfl
  | cons c l ih => simp only [List.map_cons, List.sum_cons, List.length_cons]; rw [ih]; show 1 + _ = _; omega
/-- the side of a slot at a fork -/
theorem side_V (x f : Nat) : (if x ≤ f then V.str "L" else V.str "R") = V.str (chS (chOf (decide (x ≤ f)))) := by
  by_cases h : x ≤ f
  · rw [if_pos h, decide_eq_true h]; rfl
  · rw [if_neg h, decide_eq_false h]; rfl
theorem asg1_pure {e : TE} {g : TG} {v : V} {D : Ends} {σ : L2.St} {H : Hp} (hv : VP e σ H v) (h : g v σ H D.nx) : tAsg e g D σ H := hv _ h
section
variable {P : Program} {w : World} {K : PySem.W.Frag} {mg : Str → Option Value} {base : Heap} {C : Addr}
def RowsAt (H : Hp) (a : Addr) (rows : List M.Row) : Prop := ∃ us, H a = some (.lst us) ∧ Al (Row3At H) us rows
theorem RowsAt.more {H H' : Hp} {a : Addr} {rows : List M.Row} (h : RowsAt H a rows) (s : Same H H') : RowsAt H' a rows := by
  obtain ⟨us, h1, h2⟩ := h
  exact ⟨us, s _ _ h1, h2.imp fun _ _ => Row3At.kt (kt_same s)⟩
def sp_turned : Sp := fun vs H Q _ => ∃ (a : Addr) (rows : List M.Row) (now : List Bool) (x : Nat), vs = [.ref a, .str (fS now), .int x] ∧ RowsAt H a rows ∧ now.length ≤ 100 ∧ (∀ r ∈ rows, r.1 < now.length) ∧ ∀ H', Same H H' → Q (.str (fS (M.turnedL rows now x))) H'
theorem d__law_turned (T : Tx K mg) (F : FunAt K mg "_law_turned" s__law_turned) : Def P w K mg base "_law_turned" ["_law_rows_here", "_law_now", "_law_slot"] 1 sp_turned := by
  refine mk_def F sc__law_turned (fun _ _ _ _ _ _ us hl => match us, hl with | [_, _, _], _ => rfl) (fun vs H Q E h => ?_) (fun f cdv A outer s H vs Q E hr h => ?_)
  · obtain ⟨_, _, _, _, rfl, _⟩ := h; rfl
  · obtain ⟨a, rows, now, x, rfl, ⟨us, ha, al⟩, hn, hrow, k⟩ := h
    refine ⟨_, (pss_cons (ps_set (i := 3) sc__law_turned.nd rfl (Or.inl rfl) (pe_callTy (call_list_str rfl) (by rfl) T.b_list (by decide +kernel) (pa_cons (pv 1) pa_nil)))
      (pss_cons (ps_for PassesOwn.never rfl (pi_list (pv 0)) (pg_tup rfl (pgs_cons (pg_name (i := 4) sc__law_turned.nd rfl (Or.inl rfl)) (pgs_cons (pg_name (i := 5) sc__law_turned.nd rfl (Or.inl rfl)) (pgs_cons (pg_name (i := 6) sc__law_turned.nd rfl (Or.inl rfl)) pgs_nil)))) (pss_one (ps_if (pt_chain op_le op_le (pv 5) (pv 2) (pv 6)) (pss_one (ps_asg (pe_ifExp (pt_cmpR op_le (pv 2) (pv 4) (nomark _)) pe_str pe_str) (pg_sub (pv 3) (pv 4) set_list))) pss_nil)))
      (pss_one (ps_ret (pe_join pe_str (pv 3)))))), ?_⟩
    refine ⟨_, rfl, _, rfl, by rw [show (fS now).cps.size = _ from fS_len now]; exact sz_le (by omega), fun D hD => ?_⟩
    rw [sigV_fS]
    have hstep : ∀ i, (((rows.take i).foldl (fun (f : List Bool) (r : M.Row) => if r.2.1 ≤ x ∧ x ≤ r.2.2 then f.set r.1 (decide (x ≤ r.1)) else f) now)).length = now.length := by
      intro i
      generalize rows.take i = l
      clear hrow hn k hD al
      induction l generalizing now with
      | nil => rfl
      | cons r l ih => rw [List.foldl_cons, ih]; split <;> simp
    refine ⟨_, rfl, a, rfl, ⟨_, SqL.of (same_new hD _ _ ha)⟩, for_list (xs := us) (fun i σ H' => ∃ x4 x5 x6, σ = [some (.ref a), some (.str (fS now)), some (.int x), some (.ref D), x4, x5, x6] ∧
      Gw H D (.lst (bV ((rows.take i).foldl (fun (f : List Bool) (r : M.Row) => if r.2.1 ≤ x ∧ x ≤ r.2.2 then f.set r.1 (decide (x ≤ r.1)) else f) now))) H') ⟨_, _, _, rfl, Gw.start hD⟩ (fun i σ H' _ p => ?_) (fun i y σ H' hx p => ?_) (fun σ H' p => ?_)⟩
    · obtain ⟨_, _, _, _, g⟩ := p
      exact SqL.of (g.same _ _ ha)
    · obtain ⟨x4, x5, x6, rfl, g⟩ := p
      obtain ⟨⟨fk, fa, fb⟩, hr3, q, rfl, hq⟩ := al.get hx
      have hfk : fk < now.length := hrow _ (List.mem_of_getElem? hr3)
      have hq : H q = some (.tup [.int (fk : Nat), .int (fa : Nat), .int (fb : Nat)]) := hq
      have hlen := hstep i
      rw [take_snoc hr3, List.foldl_append]
      generalize (rows.take i).foldl (fun (f : List Bool) (r : M.Row) => if r.2.1 ≤ x ∧ x ≤ r.2.2 then f.set r.1 (decide (x ≤ r.1)) else f) now = F1 at g hlen ⊢
      rw [List.foldl_cons, List.foldl_nil]
      refine ⟨q, _, rfl, SqT.of (g.same _ _ hq), rfl, _, _, rfl, _, _, rfl, _, _, rfl, rfl, ?_⟩
      have skip : ¬ (fa ≤ x ∧ x ≤ fb) → Gw H D (.lst (bV (if fa ≤ x ∧ x ≤ fb then F1.set fk (decide (x ≤ fk)) else F1))) H' := fun h => by rw [if_neg h]; exact g
      refine ⟨_, rfl, _, rfl, _, _, rfl, rfl, _, rfl, ?_⟩
      refine ite2 (fun h1 => ⟨_, rfl, _, _, rfl, rfl, _, rfl, ite2 (fun h2 => ?_) (fun h2 => ⟨_, _, _, rfl, skip fun z => h2 (decide_eq_true (by have := z.2; omega))⟩)⟩) (fun h1 => ⟨_, rfl, iteF ⟨_, _, _, rfl, skip fun z => h1 (decide_eq_true (by have := z.1; omega))⟩⟩)
      have h1 : fa ≤ x := by have := of_decide_eq_true h1; omega
      have h2 : x ≤ fb := by have := of_decide_eq_true h2; omega
      refine asg1_pure (v := V.str (chS (chOf (decide (x ≤ fk))))) (fun Q q => ⟨_, rfl, _, rfl, _, _, rfl, rfl, _, rfl, ?_⟩) ?_
      · rw [← side_V] at q
        refine ite2 (fun h => ?_) (fun h => ?_)
        · rw [if_pos (by have := of_decide_eq_true h; omega)] at q; exact q
        · rw [if_neg (fun z => h (decide_eq_true (by omega)))] at q; exact q
      · refine ⟨_, rfl, _, rfl, D, _, _, fk, rfl, rfl, g.at_, ixn_nat (by show fk < (bV F1).length; simp [bV]; omega), _, _, _, rfl, ?_⟩
        rw [bV_set, if_pos ⟨h1, h2⟩]
        exact g.put
    · obtain ⟨x4, x5, x6, rfl, g⟩ := p
      have e : rows.take us.length = rows := by rw [al.len]; exact all_take _
      rw [e] at g
      have hlen := hstep rows.length
      rw [all_take] at hlen
      have et : rows.foldl (fun (f : List Bool) (r : M.Row) => if r.2.1 ≤ x ∧ x ≤ r.2.2 then f.set r.1 (decide (x ≤ r.1)) else f) now = M.turnedL rows now x := rfl
      rw [et] at g hlen
      refine ⟨⟨_, rfl⟩, _, rfl, _, D, (M.turnedL rows now x).map fun b => chS (chOf b), rfl, rfl, .inl (SqL.of (by rw [List.map_map]; exact g.at_)), ?_, ?_⟩
      · rw [chf_sum, List.length_map, hlen]
        show _ + now.length * 0 ≤ _
        omega
      · rw [join_fS]; exact k _ g.same

/-- first <= slot <= last -/
theorem in_span {σ : L2.St} {H : Hp} {i j l : Nat} {a x b : Nat} (h1 : σ[i]? = some (some (.int (a : Nat)))) (h2 : σ[j]? = some (some (.int (x : Nat)))) (h3 : σ[l]? = some (some (.int (b : Nat)))) :
    TP (tTest (tChain (rI0 fun i j => .bl (decide (i ≤ j))) (rI0 fun i j => .bl (decide (i ≤ j))) (tVar i) (tVar j) (tVar l))) σ H (decide (a ≤ x) && decide (x ≤ b)) := fun Q q => by
  refine ⟨_, h1, _, h2, _, _, rfl, rfl, _, rfl, ?_⟩
  refine ite2 (fun g1 => ⟨_, h3, _, _, rfl, rfl, _, rfl, ?_⟩) (fun g1 => ⟨_, rfl, ?_⟩)
  · have g1 : a ≤ x := by have := of_decide_eq_true g1; omega
    rw [decide_eq_true g1, Bool.true_and] at q
    have e : decide ((x : Int) ≤ (b : Int)) = decide (x ≤ b) := by simp
    rw [e]; exact q
  · have g1 : ¬ a ≤ x := fun z => g1 (decide_eq_true (by omega))
    rw [decide_eq_false g1, Bool.false_and] at q
    exact q
theorem sideVP {σ : L2.St} {H : Hp} {j l : Nat} {x f : Nat} (h2 : σ[j]? = some (some (.int (x : Nat)))) (h3 : σ[l]? = some (some (.int (f : Nat)))) :
    VP (tIf (tTest (tOp (rI0 fun i j => .bl (decide (i ≤ j))) (tVar j) (tVar l))) (tC (.str "L")) (tC (.str "R"))) σ H (.str (chS (chOf (decide (x ≤ f))))) := fun Q q => by
  refine ⟨_, h2, _, h3, _, _, rfl, rfl, _, rfl, ?_⟩
  rw [← side_V] at q
  refine ite2 (fun h => ?_) (fun h => ?_)
  · rw [if_pos (by have := of_decide_eq_true h; omega)] at q; exact q
  · rw [if_neg (fun z => h (decide_eq_true (by omega)))] at q; exact q
theorem chf_dec (a b : Bool) : decide (V.str (chS (chOf a)) = V.str (chS (chOf b))) = (a == b) := by cases a <;> cases b <;> decide +kernel
def sp_blocked : Sp := fun vs H Q _ => ∃ (a : Addr) (rows : List M.Row) (now : List Bool) (x : Nat), vs = [.ref a, .str (fS now), .int x] ∧ RowsAt H a rows ∧ now.length ≤ 100 ∧ (∀ r ∈ rows, r.1 < now.length) ∧ Q (.bl (M.blockedL rows now x)) H
theorem d__law_blocked (T : Tx K mg) (F : FunAt K mg "_law_blocked" s__law_blocked) : Def P w K mg base "_law_blocked" ["_law_rows_here", "_law_now", "_law_slot"] 1 sp_blocked := by
  refine mk_def F sc__law_blocked (fun _ _ _ _ _ _ us hl => match us, hl with | [_, _, _], _ => rfl) (fun vs H Q E h => ?_) (fun f cdv A outer s H vs Q E hr h => ?_)
  · obtain ⟨_, _, _, _, rfl, _⟩ := h; rfl
  · obtain ⟨a, rows, now, x, rfl, ⟨us, ha, al⟩, hn, hrow, k⟩ := h
    refine ⟨_, (pss_cons (ps_for PassesOwn.never rfl (pi_list (pv 0)) (pg_tup rfl (pgs_cons (pg_name (i := 3) sc__law_blocked.nd rfl (Or.inl rfl)) (pgs_cons (pg_name (i := 4) sc__law_blocked.nd rfl (Or.inl rfl)) (pgs_cons (pg_name (i := 5) sc__law_blocked.nd rfl (Or.inl rfl)) pgs_nil)))) (pss_one (ps_if (PW.pt (pw_and (pt_chain op_le op_le (pv 4) (pv 2) (pv 5)) (pw_and1 (pt_cmpR op_eq (pe_ix ix_str (pv 1) (pv 3) (fun _ _ => rfl)) (pe_ifExp (pt_cmpR op_le (pv 2) (pv 3) (nomark _)) pe_str pe_str) (nomark _))))) (pss_one (ps_ret pe_bl)) pss_nil)))
      (pss_one (ps_ret pe_bl))), ?_⟩
    refine ⟨_, rfl, a, rfl, ⟨_, SqL.of ha⟩, for_list (xs := us) (fun i σ H' => ∃ x4 x5 x6, σ = [some (.ref a), some (.str (fS now)), some (.int x), x4, x5, x6] ∧ H' = H ∧ M.blockedL (rows.take i) now x = false) ⟨_, _, _, rfl, rfl, rfl⟩ (fun i σ H' _ p => ?_) (fun i y σ H' hx p => ?_) (fun σ H' p => ?_)⟩
    · obtain ⟨_, _, _, _, rfl, _⟩ := p
      exact SqL.of ha
    · obtain ⟨x4, x5, x6, rfl, rfl, hp⟩ := p
      obtain ⟨⟨fk, fa, fb⟩, hr3, q, rfl, hq⟩ := al.get hx
      have hfk : fk < now.length := hrow _ (List.mem_of_getElem? hr3)
      have hq : H' q = some (.tup [.int (fk : Nat), .int (fa : Nat), .int (fb : Nat)]) := hq
      refine ⟨q, _, rfl, SqT.of hq, rfl, _, _, rfl, _, _, rfl, _, _, rfl, rfl, ?_⟩
      refine ifS_pure (b := decide (fa ≤ x) && decide (x ≤ fb) && (now.getD fk true == decide (x ≤ fk))) (and_pure (in_span rfl rfl rfl) (fun Q q => ?_)) ?_
      · refine ⟨_, rfl, _, rfl, _, _, _, rfl, rfl, by rw [fS_len]; exact sz_le (by omega), pat_at (l := now.map chOf) (by simpa using hfk), sideVP rfl rfl _ ⟨rfl, _, ?_, q⟩⟩
        rw [fnOf_bits _ hfk]
        exact congrArg V.bl (chf_dec _ _)
      · have e : M.blockedL (rows.take (i + 1)) now x = (decide (fa ≤ x) && decide (x ≤ fb) && (now.getD fk true == decide (x ≤ fk))) := by
          rw [take_snoc hr3]
          unfold M.blockedL at hp ⊢
          rw [List.any_append, hp]
          simp
        cases hb : (decide (fa ≤ x) && decide (x ≤ fb) && (now.getD fk true == decide (x ≤ fk))) with
        | true =>
          refine iteT ?_
          have e2 : M.blockedL rows now x = true := by
            unfold M.blockedL
            exact List.any_eq_true.mpr ⟨_, List.mem_of_getElem? hr3, hb⟩
          rw [e2] at k
          exact k
        | false => exact iteF ⟨_, _, _, rfl, rfl, by rw [e, hb]⟩
    · obtain ⟨x4, x5, x6, rfl, rfl, hp⟩ := p
      have e : rows.take us.length = rows := by rw [al.len]; exact all_take _
      rw [e] at hp
      rw [hp] at k
      exact k

def sp_agree : Sp := fun vs H Q _ => ∃ s e : List Ch, vs = [.str (patS s), .str (patS e)] ∧ s.length = e.length ∧ e.length ≤ 100 ∧ Q (.bl (agreeP s e)) H
theorem neq_ch (a b : Ch) : (!decide (V.str (chS a) = V.str (chS b))) = (a != b) := by cases a <;> cases b <;> decide +kernel
theorem d__law_agree (T : Tx K mg) (F : FunAt K mg "_law_agree" s__law_agree) : Def P w K mg base "_law_agree" ["_law_now", "_law_end"] 1 sp_agree := by
  refine mk_def F sc__law_agree (fun _ _ _ _ _ _ us hl => match us, hl with | [_, _], _ => rfl) (fun vs H Q E h => ?_) (fun f cdv A outer s H vs Q E hr h => ?_)
  · obtain ⟨_, _, rfl, _⟩ := h; rfl
  · obtain ⟨s, e, rfl, hl, h100, k⟩ := h
    refine ⟨_, (pss_cons (ps_for PassesOwn.never rfl (pi_range1 (by rfl) T.b_range (pa_cons (pe_callB call_len_str (by rfl) T.b_len (by decide +kernel) (pa_cons (pv 1) pa_nil)) pa_nil)) (pg_name (i := 2) sc__law_agree.nd rfl (Or.inl rfl)) (pss_one (ps_if (PW.pt (pw_and (pt_cmpR op_ne (pe_ix ix_str (pv 0) (pv 2) (fun _ _ => rfl)) (pe_ix ix_str (pv 1) (pv 2) (fun _ _ => rfl)) (nomark _)) (pw_and (pt_cmpR op_ne (pe_ix ix_str (pv 0) (pv 2) (fun _ _ => rfl)) pe_str (nomark _)) (pw_and1 (pt_cmpR op_ne (pe_ix ix_str (pv 1) (pv 2) (fun _ _ => rfl)) pe_str (nomark _)))))) (pss_one (ps_ret pe_bl)) pss_nil)))
      (pss_one (ps_ret pe_bl))), ?_⟩
    have hs : (patS s).length ≤ sizeLine := by rw [pat_len]; exact sz_le (by omega)
    have he : (patS e).length ≤ sizeLine := by rw [pat_len]; exact sz_le (by omega)
    refine ⟨_, rfl, _, rfl, he, _, rfl, by rw [pat_len]; omega, by rw [pat_len]; omega, ?_⟩
    rw [show (((patS e).length : Nat) : Int).toNat = e.length by rw [pat_len]; omega]
    refine for_it walk_rg (fun i σ H' => ∃ x4, σ = [some (.str (patS s)), some (.str (patS e)), x4] ∧ H' = H ∧ ∀ j, j < i → M.agrees (M.fnOf s j) (M.fnOf e j) = true) ⟨_, rfl, rfl, fun j hj => absurd hj (by omega)⟩ (fun _ _ _ _ _ => trivial) (fun i y σ Hz H4 hi p hy => ?_) (fun σ H4 p => ?_)
    · obtain ⟨x4, rfl, rfl, hp⟩ := p
      obtain ⟨rfl, rfl⟩ := hy
      have i1 : i < s.length := by omega
      refine ifS_pure (b := (M.fnOf s i != M.fnOf e i) && ((M.fnOf s i != .Q) && (M.fnOf e i != .Q))) (and_pure (fun Q q => ?_) (and_pure (fun Q q => ?_) (fun Q q => ?_))) ?_
      · exact ⟨_, rfl, _, rfl, _, _, _, rfl, rfl, hs, pat_at i1, _, rfl, _, rfl, _, _, _, rfl, rfl, he, pat_at hi, rfl, _, congrArg V.bl (neq_ch _ _), q⟩
      · exact ⟨_, rfl, _, rfl, _, _, _, rfl, rfl, hs, pat_at i1, rfl, _, congrArg V.bl (neq_ch _ .Q), q⟩
      · exact ⟨_, rfl, _, rfl, _, _, _, rfl, rfl, he, pat_at hi, rfl, _, congrArg V.bl (neq_ch _ .Q), q⟩
      · have ea : ∀ a b : Ch, ((a != b) && ((a != .Q) && (b != .Q))) = !M.agrees a b := by intro a b; cases a <;> cases b <;> rfl
        rw [ea]
        cases hb : M.agrees (M.fnOf s i) (M.fnOf e i) with
        | true => exact iteF ⟨_, rfl, rfl, fun j hj => by
            by_cases hji : j = i
            · subst hji; exact hb
            · exact hp j (by omega)⟩
        | false =>
          refine iteT ?_
          have e2 : agreeP s e = false := by
            unfold agreeP
            rw [Bool.eq_false_iff]
            intro z
            have := List.all_eq_true.mp z i (List.mem_range.mpr hi)
            rw [hb] at this
            cases this
          rw [e2] at k
          exact k
    · obtain ⟨x4, rfl, rfl, hp⟩ := p
      have e2 : agreeP s e = true := List.all_eq_true.mpr fun j hj => hp j (List.mem_range.mp hj)
      rw [e2] at k
      exact k

def eV (l : List (List Bool)) : List V := l.map fun f => V.str (fS f)
theorem every_len : ∀ n, (M.everyL n).length = 2 ^ n
  | 0 => rfl
  | n + 1 => by rw [M.everyL, List.length_append, List.length_map, List.length_map, every_len n, Nat.pow_succ]; omega
def sp_every : Sp := fun vs H Q _ => ∃ n : Nat, vs = [.int n] ∧ n ≤ 4 ∧ ∀ H' p, Same H H' → H p = none → H' p = some (.lst (eV (M.everyL n))) → Q (.ref p) H'
theorem eV_snoc (l : List (List Bool)) (b : Bool) : (eV l).map (fun v => match v with | .str x => V.str (x ++ fS [b]) | v => v) = eV (l.map (· ++ [b])) := by
  simp only [eV, List.map_map]
  refine List.map_congr_left fun f _ => ?_
  show V.str (fS f ++ fS [b]) = _
  rw [fS, fS, patS_app, ← List.map_append]; rfl
theorem every_mem : ∀ n, ∀ f ∈ M.everyL n, f.length = n
  | 0, f, h => by have : f = [] := by simpa [M.everyL] using h
                  subst this; rfl
  | n + 1, f, h => by
    rw [M.everyL, List.mem_append] at h
    rcases h with h | h <;> (obtain ⟨q, hq, rfl⟩ := List.mem_map.mp h; simp [every_mem n q hq])
theorem d__law_every (T : Tx K mg) (F : FunAt K mg "_law_every" s__law_every) : Def P w K mg base "_law_every" ["_law_size"] 1 sp_every := by
  refine mk_def F sc__law_every (fun _ _ _ _ _ _ us hl => match us, hl with | [_], _ => rfl) (fun vs H Q E h => ?_) (fun f cdv A outer s H vs Q E hr h => ?_)
  · obtain ⟨_, rfl, _⟩ := h; rfl
  · obtain ⟨n, rfl, h4, k⟩ := h
    refine ⟨_, (pss_cons (ps_set (i := 1) sc__law_every.nd rfl (Or.inl rfl) (pe_lst (pa_cons pe_str pa_nil)))
      (pss_cons (ps_for PassesOwn.never rfl (pi_range1 (by rfl) T.b_range (pa_cons (pv 0) pa_nil)) (pg_name (i := 2) sc__law_every.nd rfl (Or.inl rfl)) (pss_one (ps_set (i := 1) sc__law_every.nd rfl (Or.inl rfl) (pe_op op_cat (pe_lc (own := [("_law_text_here", 3)]) rfl sc__law_every.nd (pi_list (pv 1)) (blkOk_by (own := [("_law_text_here", 3)]) (N := N__law_every) (sc := defScope s__law_every) (by decide +kernel)) (fun _ _ _ _ _ => (pg_name (i := 3) sc__law_every.nd rfl (Or.inl rfl))) (fun _ _ _ _ _ => pts_nil) (fun _ _ _ _ _ => (pe_op op_add_str (pv 3) pe_str))) (pe_lc (own := [("_law_text_here", 3)]) rfl sc__law_every.nd (pi_list (pv 1)) (blkOk_by (own := [("_law_text_here", 3)]) (N := N__law_every) (sc := defScope s__law_every) (by decide +kernel)) (fun _ _ _ _ _ => (pg_name (i := 3) sc__law_every.nd rfl (Or.inl rfl))) (fun _ _ _ _ _ => pts_nil) (fun _ _ _ _ _ => (pe_op op_add_str (pv 3) pe_str)))))))
      (pss_one (ps_ret (pv 1))))), ?_⟩
    refine ⟨szl, fun D0 hD0 => ?_⟩
    refine ⟨_, rfl, _, rfl, by omega, by omega, ?_⟩
    rw [show ((n : Nat) : Int).toNat = n by omega]
    refine for_it walk_rg (fun i σ H' => ∃ D x3 x4, σ = [some (.int n), some (.ref D), x3, x4] ∧ Same H H' ∧ H D = none ∧ H' D = some (.lst (eV (M.everyL i)))) ⟨D0, _, _, rfl, same_new hD0, hD0, upd_same⟩ (fun _ _ _ _ _ => trivial) (fun i y σ Hz H4 hi p hy => ?_) (fun σ H4 p => ?_)
    · obtain ⟨D, x3, x4, rfl, s4, nD, hD⟩ := p
      obtain ⟨rfl, rfl⟩ := hy
      have hlen : (eV (M.everyL i)).length ≤ 16 := by
        rw [eV, List.length_map, every_len]
        have : 2 ^ i ≤ 2 ^ 4 := Nat.pow_le_pow_right (by decide) (by omega)
        omega
      have step : ∀ (j : Nat) (v : V), (eV (M.everyL i))[j]? = some v → ∃ f : List Bool, v = .str (fS f) ∧ f.length = i := fun j v hv => by
        rw [eV, List.getElem?_map] at hv
        obtain ⟨f, hf, rfl⟩ := Option.map_eq_some_iff.mp hv
        exact ⟨f, rfl, every_mem i f (List.mem_of_getElem? hf)⟩
      refine ⟨_, rfl, D, rfl, ⟨_, SqL.of hD⟩, fun D1 hD1 => lc_acc (walk_list (K := K) (a := D) (xs := eV (M.everyL i))) (fun j => ((eV (M.everyL i)).take j).map (fun v => match v with | .str x => V.str (x ++ fS [true]) | v => v)) hD1 rfl (fun Hx s => s.seq (SqL.of hD)) (fun j v Hx Hy hj g y => ?_) (fun H5 g5 => ?_)⟩
      · obtain ⟨rfl, hv⟩ := y
        obtain ⟨f, rfl, hf⟩ := step j v hv
        refine ⟨rfl, _, rfl, _, _, rfl, rfl, by rw [fS_len]; exact sz_le (by show _ + 1 ≤ 100000; omega), g.push (by rw [List.length_map, List.length_take]; omega) ?_⟩
        rw [take_snoc hv, List.map_append]; rfl
      · rw [all_take, eV_snoc] at g5
        have hD5 := g5.same _ _ hD
        refine ⟨_, rfl, D, rfl, ⟨_, SqL.of hD5⟩, fun D2 hD2 => lc_acc (walk_list (K := K) (a := D) (xs := eV (M.everyL i))) (fun j => ((eV (M.everyL i)).take j).map (fun v => match v with | .str x => V.str (x ++ fS [false]) | v => v)) hD2 rfl (fun Hx s => s.seq (SqL.of hD5)) (fun j v Hx Hy hj g y => ?_) (fun H6 g6 => ?_)⟩
        · obtain ⟨rfl, hv⟩ := y
          obtain ⟨f, rfl, hf⟩ := step j v hv
          refine ⟨rfl, _, rfl, _, _, rfl, rfl, by rw [fS_len]; exact sz_le (by show _ + 1 ≤ 100000; omega), g.push (by rw [List.length_map, List.length_take]; omega) ?_⟩
          rw [take_snoc hv, List.map_append]; rfl
        · rw [all_take, eV_snoc] at g6
          refine ⟨D1, D2, _, _, rfl, rfl, g6.same _ _ g5.at_, g6.at_, sz_le (by simp [eV, every_len] at hlen ⊢; omega), fun D3 hD3 => ⟨D3, _, _, rfl, ((s4.trans g5.same).trans g6.same).trans (same_new hD3), s4.free (g5.same.free (g6.same.free hD3)), ?_⟩⟩
          rw [upd_same, M.everyL, eV, eV, eV, ← List.map_append]
    · obtain ⟨D, x3, x4, rfl, s4, nD, hD⟩ := p
      exact ⟨_, rfl, k _ D s4 nD hD⟩
end
end My

set_option Elab.async false
set_option maxRecDepth 100000
set_option maxHeartbeats 4000000
namespace My
open PySem PySem.Spec PyProof.Rows L2
open M (Ch Need chOf agreeP Sst Tab Mv)
abbrev s__law_moves : Stmt := top 46
abbrev N__law_moves : List Str := ["_law_rows_here", "_law_many", "_law_every_here", "_law_places", "_law_k", "_law_moves_here", "_law_now", "_law_victims", "_law_slot"]
theorem sc__law_moves : FnScope N__law_moves ["_law_rows_here", "_law_many", "_law_every_here"] (defScope s__law_moves) := ⟨rfl, rfl, rfl, by decide +kernel, rfl, by decide +kernel, by decide +kernel⟩
abbrev s__law_first_states : Stmt := top 47
abbrev N__law_first_states : List Str := ["_law_every_here", "_law_moves_here", "_law_marks", "_law_start", "_law_kind", "_law_states", "_law_k", "_law_hits", "_law_victim", "_law_place"]
theorem sc__law_first_states : FnScope N__law_first_states ["_law_every_here", "_law_moves_here", "_law_marks", "_law_start", "_law_kind"] (defScope s__law_first_states) := ⟨rfl, rfl, rfl, by decide +kernel, rfl, by decide +kernel, by decide +kernel⟩
theorem map_inj' {α β : Type} {f : α → β} (hi : ∀ x y, f x = f y → x = y) : ∀ {a b : List α}, a.map f = b.map f → a = b
  | [], [], _ => rfl
  | [], _ :: _, h => by cases h
  | _ :: _, [], h => by cases h
  | x :: a, y :: b, h => by
    rw [List.map_cons, List.map_cons] at h
    injection h with h1 h2
    rw [hi x y h1, map_inj' hi h2]
theorem fS_inj {a b : List Bool} (h : fS a = fS b) : a = b := by
  have h := congrArg (fun s : Str => s.cps.toList) h
  have h : (a.map chOf).map cn = (b.map chOf).map cn := by simpa [fS, patS] using h
  rw [List.map_map, List.map_map] at h
  exact map_inj' (by intro x y; cases x <;> cases y <;> decide) h
section
variable {P : Program} {w : World} {K : PySem.W.Frag} {mg : Str → Option Value} {base : Heap} {C : Addr}
def MoveAt (D : Addr) (H : Hp) (v : V) (h : List Nat × Nat) : Prop := ∃ q l, v = .ref q ∧ H q = some (.tup [.ref l, .int (h.2 : Nat)]) ∧ H l = some (.lst (nV h.1)) ∧ l ≠ D
theorem MoveAt.more {D : Addr} {H H' : Hp} (s : Same H H') {v : V} {h : List Nat × Nat} (m : MoveAt D H v h) : MoveAt D H' v h := by
  obtain ⟨q, l, e, h1, h2, h3⟩ := m
  exact ⟨q, l, e, s _ _ h1, s _ _ h2, h3⟩
theorem MoveAt.put {D : Addr} {H : Hp} {v : V} {h : List Nat × Nat} {xs ys : List V} (hD : H D = some (.lst xs)) (m : MoveAt D H v h) : MoveAt D (upd H D (.lst ys)) v h := by
  obtain ⟨q, l, e, h1, h2, h3⟩ := m
  exact ⟨q, l, e, kt_lst hD _ _ h1, upd_far h2 h3, h3⟩
def MovesAt (H : Hp) (p : Addr) (mv : Mv) : Prop := ∃ us, H p = some (.lst us) ∧ Al (MoveAt p H) us mv
theorem MovesAt.more {H H' : Hp} (s : Same H H') {p : Addr} {mv : Mv} (m : MovesAt H p mv) : MovesAt H' p mv := by
  obtain ⟨us, h1, h2⟩ := m
  exact ⟨us, s _ _ h1, h2.imp fun _ _ => MoveAt.more s⟩
theorem eV_get (l : List (List Bool)) (i : Nat) : (eV l)[i]? = (l[i]?).map fun f => V.str (fS f) := by simp [eV]
theorem eV_len (l : List (List Bool)) : (eV l).length = l.length := by simp [eV]
def sp_moves : Sp := fun vs H Q _ => ∃ (a b : Addr) (t : M.T), vs = [.ref a, .int (t.sz : Nat), .ref b] ∧ RowsAt H a (M.rowsOf t 0) ∧ t.sz ≤ 5 ∧ H b = some (.lst (eV (M.evOf t))) ∧ ∀ H' p, Same H H' → H p = none → MovesAt H' p (M.mvOf t) → Q (.ref p) H'
theorem d__law_moves (T : Tx K mg) (F : FunAt K mg "_law_moves" s__law_moves) (d__law_blocked : Def P w K mg base "_law_blocked" ["_law_rows_here", "_law_now", "_law_slot"] 1 sp_blocked) (d__law_turned : Def P w K mg base "_law_turned" ["_law_rows_here", "_law_now", "_law_slot"] 1 sp_turned) :
    Def P w K mg base "_law_moves" ["_law_rows_here", "_law_many", "_law_every_here"] 2 sp_moves := by
  refine mk_def F sc__law_moves (fun _ _ _ _ _ _ us hl => match us, hl with | [_, _, _], _ => rfl) (fun vs H Q E h => ?_) (fun f cdv A outer s H vs Q E hr h => ?_)
  · obtain ⟨_, _, _, rfl, _⟩ := h; rfl
  · obtain ⟨a, b, t, rfl, hrows, h5, hb, k⟩ := h
    refine ⟨_, (pss_cons (ps_set (i := 3) sc__law_moves.nd rfl (Or.inr rfl) pe_dnewK)
      (pss_cons (ps_for PassesOwn.never rfl (pi_range1 (by rfl) T.b_range (pa_cons (pe_callB call_len_seq (by rfl) T.b_len (by decide +kernel) (pa_cons (pv 2) pa_nil)) pa_nil)) (pg_name (i := 4) sc__law_moves.nd rfl (Or.inl rfl)) (pss_one (ps_dput (hu_of hr) (pv 3) (pe_ix ix_list (pv 2) (pv 4) (fun _ _ => rfl)) (pv 4) rfl)))
      (pss_cons (ps_set (i := 5) sc__law_moves.nd rfl (Or.inl rfl) (pe_lst pa_nil))
      (pss_cons (ps_for PassesOwn.never rfl (pi_list (pv 2)) (pg_name (i := 6) sc__law_moves.nd rfl (Or.inr rfl)) (pss_cons (ps_setLc (i := 7) (own := [("_law_slot", 8)]) rfl sc__law_moves.nd rfl rfl (sw_true rfl rfl rfl (by decide +kernel)) (pi_range1 (by rfl) T.b_range (pa_cons (pv 1) pa_nil)) (blkOk_by (own := [("_law_slot", 8)]) (N := N__law_moves) (sc := defScope s__law_moves) (by decide +kernel)) (fun _ _ _ _ _ => (pg_name (i := 8) sc__law_moves.nd rfl (Or.inl rfl))) (fun _ _ _ _ _ => (pts_one (pt_not (pt_val (pe_def d__law_blocked hr (by rfl) (pa_cons (pv 0) (pa_cons (pv 6) (pa_cons (pv 8) pa_nil)))))))) (fun _ _ _ _ _ => (pv 8)))
      (pss_one (ps_expr (pe_bm PySem.F.plainAttrs_list PySem.F.slot_list_append PySem.F.type_list_append mt_append (pv 5) (pa_cons (pe_tup (pa_cons (pe_lc (own := [("_law_slot", 8)]) rfl sc__law_moves.nd (pi_range1 (by rfl) T.b_range (pa_cons (pv 1) pa_nil)) (blkOk_by (own := [("_law_slot", 8)]) (N := N__law_moves) (sc := defScope s__law_moves) (by decide +kernel)) (fun _ _ _ _ _ => (pg_name (i := 8) sc__law_moves.nd rfl (Or.inl rfl))) (fun _ _ _ _ _ => pts_nil) (fun _ _ _ _ _ => (pe_dget (hu_of hr) (pv 3) (pe_def d__law_turned hr (by rfl) (pa_cons (pv 0) (pa_cons (pv 6) (pa_cons (pv 8) pa_nil)))) (fun _ _ => rfl)))) (pa_cons (pe_ix ix_list (pv 7) pe_int (fun _ _ => rfl)) pa_nil))) pa_nil))))))
      (pss_one (ps_ret (pv 5))))))), ?_⟩
    have hz := t.sz_pos
    have hevl : (M.evOf t).length ≤ 16 := by
      rw [M.ev_len]
      have h2 : 2 ^ (t.sz - 1) ≤ 2 ^ 4 := Nat.pow_le_pow_right (by decide : 0 < 2) (show t.sz - 1 ≤ 4 by omega)
      exact h2
    have hnod : (M.evOf t).Nodup := M.every_nodup _ (show t.sz - 1 ≤ 4 by omega)
    refine fun d hd => ?_
    refine ⟨_, rfl, _, _, rfl, .inl (SqL.of (same_new hd _ _ hb)), _, rfl, by omega, by rw [eV_len]; omega, ?_⟩
    rw [show (((eV (M.evOf t)).length : Nat) : Int).toNat = (M.evOf t).length by rw [eV_len]; omega]
    refine for_it walk_rg (fun i σ H' => ∃ x4 x5 x6 x7 x8, σ = [some (.ref a), some (.int (t.sz : Nat)), some (.ref b), some (.ref d), x4, x5, x6, x7, x8] ∧ ∃ kvs, Gw H d (.dK kvs) H' ∧ kvs.length ≤ i ∧ ∀ j f, j < i → (M.evOf t)[j]? = some f → valV kvs (Sum.inr (fS f)) = some (.int (j : Nat)))
      ⟨_, _, _, _, _, rfl, [], Gw.start hd, Nat.le_refl _, fun j f hj => absurd hj (by omega)⟩ (fun _ _ _ _ _ => trivial) (fun i y σ Hz H4 hi p hy => ?_) (fun σ H4 p => ?_)
    · obtain ⟨x4, x5, x6, x7, x8, rfl, kvs, g, hkl, hk⟩ := p
      obtain ⟨rfl, rfl⟩ := hy
      obtain ⟨f, hf⟩ : ∃ f, (M.evOf t)[i]? = some f := ⟨_, List.getElem?_eq_getElem hi⟩
      refine ⟨_, rfl, _, rfl, _, rfl, _, rfl, b, _, _, _, rfl, rfl, SqL.of (g.same _ _ hb), atI_nat (by rw [eV_get, hf]; rfl), d, _, rfl, DPut.k (k := Sum.inr (fS f)) g.at_ (sz_lt (by omega)), _, _, _, _, _, rfl, _, g.put, ?_, fun j f' hj hf' => ?_⟩
      · unfold putK
        split <;> simp <;> omega
      · rw [valV_put]
        by_cases hji : j = i
        · subst hji
          rw [hf] at hf'
          cases hf'
          rw [if_pos rfl]
        · rw [if_neg (fun z => hji (nodup_idx hnod (a := f) (by rw [hf', fS_inj (Sum.inr.inj z)]) hf))]
          exact hk j f' (by omega) hf'
    · obtain ⟨x4, x5, x6, x7, x8, rfl, kvs, g, hkl, hk⟩ := p
      refine ⟨szl, fun l hl => ?_⟩
      have g1 : Gw H4 l (.lst []) (upd H4 l (.lst [])) := Gw.start hl
      refine ⟨_, rfl, b, rfl, ⟨_, SqL.of (g1.same _ _ (g.same _ _ hb))⟩, for_list (xs := eV (M.evOf t)) (fun i σ H' => ∃ x4 x6 x7 x8, σ = [some (.ref a), some (.int (t.sz : Nat)), some (.ref b), some (.ref d), x4, some (.ref l), x6, x7, x8] ∧ ∃ us, Gw H4 l (.lst us) H' ∧ Al (MoveAt l H') us ((M.mvOf t).take i))
        ⟨_, _, _, _, rfl, [], g1, Al.nil⟩ (fun i σ H' _ p => ?_) (fun i y σ H' hy p => ?_) (fun σ H' p => ?_)⟩
      · obtain ⟨_, _, _, _, _, us, g2, _⟩ := p
        exact SqL.of (g2.same _ _ (g.same _ _ hb))
      · obtain ⟨x4, x6, x7, x8, rfl, us, g2, al⟩ := p
        rw [eV_get] at hy
        obtain ⟨now, hnow, rfl⟩ := Option.map_eq_some_iff.mp hy
        have hnm := List.mem_of_getElem? hnow
        have hnl : now.length + 1 = t.sz := by have := every_mem _ now hnm; omega
        have hrow : ∀ r ∈ M.rowsOf t 0, r.1 < now.length := fun r hr => by have := (M.rows_in h5 r hr).2.2.1; omega
        obtain ⟨hvic, hturn⟩ := M.moves_ok h5 now hnm
        have hi : i < (M.evOf t).length := (List.getElem?_eq_some_iff.mp hnow).1
        have hrows2 := (hrows.more g.same).more g2.same
        refine ⟨_, rfl, _, rfl, by omega, by omega, fun Dv hDv => ?_⟩
        rw [show (((t.sz : Nat) : Int)).toNat = t.sz by omega]
        refine lc_acc walk_rg (fun i => nV ((List.range i).filter fun x => !M.blockedL (M.rowsOf t 0) now x)) hDv rfl (fun _ _ => trivial) (fun i' x' H5 H6 hi' g5 y' => ?_) (fun H5 g5 => ?_)
        · obtain ⟨rfl, rfl⟩ := y'
          refine ⟨rfl, _, rfl, _, rfl, _, rfl, a, _, now, i', rfl, hrows2.more g5.same, by omega, hrow, _, rfl, ?_⟩
          rw [List.range_succ, List.filter_append]
          cases hbl : M.blockedL (M.rowsOf t 0) now i' with
          | true =>
            refine iteF ?_
            simpa [hbl] using g5
          | false =>
            refine iteT ⟨_, rfl, g5.push (by rw [nV_len]; have := List.length_filter_le (fun x => !M.blockedL (M.rowsOf t 0) now x) (List.range i'); rw [List.length_range] at this; omega) ?_⟩
            rw [nV_snoc]
            simp [hbl]
        · have eV0 : (List.range t.sz).filter (fun x => !M.blockedL (M.rowsOf t 0) now x) = M.victimsL (M.rowsOf t 0) t.sz now := rfl
          rw [eV0] at g5
          obtain ⟨v0, vr, hv0⟩ : ∃ v0 vr, M.victimsL (M.rowsOf t 0) t.sz now = v0 :: vr := by
            cases hv : M.victimsL (M.rowsOf t 0) t.sz now with
            | nil => exact absurd hv hvic
            | cons v0 vr => exact ⟨v0, vr, rfl⟩
          rw [hv0] at g5
          refine ⟨_, rfl, .inl ⟨rfl, _, SqL.of (g5.same _ _ g2.at_)⟩, _, rfl, _, rfl, by omega, by omega, fun Dh hDh => ?_⟩
          rw [show (((t.sz : Nat) : Int)).toNat = t.sz by omega]
          refine lc_acc walk_rg (fun i => nV ((List.range i).map fun x => M.numOf (M.turnedL (M.rowsOf t 0) now x))) hDh rfl (fun _ _ => trivial) (fun i' x' H6 H7 hi' g6 y' => ?_) (fun H6 g6 => ?_)
          · obtain ⟨rfl, rfl⟩ := y'
            refine ⟨rfl, _, rfl, _, rfl, _, rfl, _, rfl, a, _, now, i', rfl, (hrows2.more g5.same).more g6.same, by omega, hrow, fun H8 s8 => ⟨d, .int (M.numOf (M.turnedL (M.rowsOf t 0) now i') : Nat), rfl, ?_, (⟨g6.same.trans s8, g6.new, s8 _ _ g6.at_⟩ : Gw _ Dh _ H8).push (by rw [nV_len, List.length_map, List.length_range]; omega) ?_⟩⟩
            · have hd8 := s8 _ _ (g6.same _ _ (g5.same _ _ (g2.same _ _ g.at_)))
              have := DGet.k (k := Sum.inr (fS (M.turnedL (M.rowsOf t 0) now i'))) hd8
              have ht := hturn i' hi'
              rw [hk _ _ (List.getElem?_eq_some_iff.mp ht).1 ht] at this
              exact this
            · rw [nV_snoc, List.range_succ, List.map_append]; rfl
          · have eH : (List.range t.sz).map (fun x => M.numOf (M.turnedL (M.rowsOf t 0) now x)) = M.hitsL (M.rowsOf t 0) t.sz now := rfl
            rw [eH] at g6
            have hDv6 := g6.same _ _ g5.at_
            refine ⟨_, rfl, Dv, _, _, _, rfl, rfl, SqL.of hDv6, atI_nat (j := 0) rfl, szl, fun q hq => ?_⟩
            have hl6 := g6.same _ _ (g5.same _ _ g2.at_)
            have hul : us.length ≤ i := by rw [al.len, List.length_take]; omega
            refine ⟨l, us, _, rfl, rfl, upd_old hl6 hq, sz_lt (by omega), _, _, _, _, rfl, us ++ [.ref q], ?_, ?_⟩
            · have s6 : Same H4 (upd H6 q (.tup [.ref Dh, .int (v0 : Nat)])) := ((g2.same.trans g5.same).trans g6.same).trans (same_new hq)
              exact ⟨same_put s6 g2.new, g2.new, upd_same⟩
            · have hmv : (M.mvOf t)[i]? = some (M.hitsL (M.rowsOf t 0) t.sz now, v0) := by
                rw [M.mvOf, M.movesL, List.getElem?_map]
                rw [show (M.everyL (t.sz - 1))[i]? = some now from hnow]
                show some (_, (M.victimsL (M.rowsOf t 0) t.sz now).headD 0) = _
                rw [hv0]; rfl
              rw [take_snoc hmv]
              have nq : q ≠ l := fun z => by rw [z, hl6] at hq; cases hq
              have nDh : Dh ≠ l := fun z => by rw [z, g5.same _ _ g2.at_] at hDh; cases hDh
              refine Al.push (al.imp fun x y h => ?_) ⟨q, Dh, rfl, upd_far upd_same nq, upd_far (upd_old g6.at_ hq) nDh, nDh⟩
              exact ((h.more (g5.same.trans g6.same)).more (same_new hq)).put (upd_old hl6 hq)
      · obtain ⟨x4, x6, x7, x8, rfl, us, g2, al⟩ := p
        have e : (M.mvOf t).take (eV (M.evOf t)).length = M.mvOf t := by
          rw [eV_len, show (M.evOf t).length = (M.mvOf t).length by rw [M.ev_len, (M.mv_ok h5).len]]
          exact all_take _
        rw [e] at al
        exact ⟨_, rfl, k _ l (g.same.trans g2.same) (g.same.free g2.new) ⟨us, g2.at_, al⟩⟩

theorem marks_at {v : Nat} (h : v < 5) : (nV [1, 2, 4, 8, 16])[v]? = some (.int ((2 ^ v : Nat) : Int)) := by
  have : v = 0 ∨ v = 1 ∨ v = 2 ∨ v = 3 ∨ v = 4 := by omega
  rcases this with rfl | rfl | rfl | rfl | rfl <;> rfl
theorem Al.app {α β : Type} {R : α → β → Prop} {xs xs' : List α} {ys ys' : List β} (a : Al R xs ys) (b : Al R xs' ys') : Al R (xs ++ xs') (ys ++ ys') := by
  refine ⟨by simp [a.len, b.len], fun i h1 h2 => ?_⟩
  by_cases hi : i < xs.length
  · rw [List.getElem_append_left hi, List.getElem_append_left (by rw [← a.len]; exact hi)]; exact a.at_ i hi _
  · have h1' : i - xs.length < xs'.length := by simp at h1; omega
    rw [List.getElem_append_right (by omega), List.getElem_append_right (by rw [← a.len]; omega)]
    have e : i - ys.length = i - xs.length := by rw [a.len]
    simp only [e]
    exact b.at_ _ h1' (by rw [← b.len]; exact h1')
def kindV (kind : Bool) : V := .int (if kind then 1 else 2)
def sp_first : Sp := fun vs H Q _ => ∃ (be mo ma : Addr) (t : M.T) (s : List Ch) (kind : Bool), vs = [.ref be, .ref mo, .ref ma, .str (patS s), kindV kind] ∧ H be = some (.lst (eV (M.evOf t))) ∧ MovesAt H mo (M.mvOf t) ∧ H ma = some (.lst (nV [1, 2, 4, 8, 16])) ∧ t.sz ≤ 5 ∧ s.length + 1 = t.sz ∧
  ∀ H' p us, Same H H' → H p = none → H' p = some (.lst us) → Al (SpanAt H') us (M.startL t s kind) → Q (.ref p) H'
theorem d__law_first_states (T : Tx K mg) (F : FunAt K mg "_law_first_states" s__law_first_states) (d__law_agree : Def P w K mg base "_law_agree" ["_law_now", "_law_end"] 1 sp_agree) :
    Def P w K mg base "_law_first_states" ["_law_every_here", "_law_moves_here", "_law_marks", "_law_start", "_law_kind"] 2 sp_first := by
  refine mk_def F sc__law_first_states (fun _ _ _ _ _ _ us hl => match us, hl with | [_, _, _, _, _], _ => rfl) (fun vs H Q E h => ?_) (fun f cdv A outer s H vs Q E hr h => ?_)
  · obtain ⟨_, _, _, _, _, _, rfl, _⟩ := h; rfl
  · obtain ⟨be, mo, ma, t, st, kind, rfl, hbe, hmo, hma, h5, hst, k⟩ := h
    refine ⟨_, (pss_cons (ps_set (i := 5) sc__law_first_states.nd rfl (Or.inl rfl) (pe_lst pa_nil))
      (pss_cons (ps_for PassesOwn.never rfl (pi_range1 (by rfl) T.b_range (pa_cons (pe_callB call_len_seq (by rfl) T.b_len (by decide +kernel) (pa_cons (pv 0) pa_nil)) pa_nil)) (pg_name (i := 6) sc__law_first_states.nd rfl (Or.inl rfl)) (pss_one (ps_if (pt_val (pe_def d__law_agree hr (by rfl) (pa_cons (pe_ix ix_list (pv 0) (pv 6) (fun _ _ => rfl)) (pa_cons (pv 3) pa_nil)))) (pss_cons (ps_asg (pe_ix ix_list (pv 1) (pv 6) (fun _ _ => rfl)) (pg_tup rfl (pgs_cons (pg_name (i := 7) sc__law_first_states.nd rfl (Or.inl rfl)) (pgs_cons (pg_name (i := 8) sc__law_first_states.nd rfl (Or.inl rfl)) pgs_nil))))
      (pss_one (ps_if (pt_cmpR op_eq (pv 4) pe_int (nomark _)) (pss_one (ps_expr (pe_bm PySem.F.plainAttrs_list PySem.F.slot_list_append PySem.F.type_list_append mt_append (pv 5) (pa_cons (pe_tup (pa_cons (pe_ix ix_list (pv 7) (pv 8) (fun _ _ => rfl)) (pa_cons (pe_ix ix_list (pv 2) (pv 8) (fun _ _ => rfl)) pa_nil))) pa_nil)))) (pss_one (ps_expr (pe_bm PySem.F.plainAttrs_list PySem.F.slot_list_extend PySem.F.type_list_extend mt_extend (pv 5) (pa_cons (pe_lc (own := [("_law_place", 9)]) rfl sc__law_first_states.nd (pi_list (pv 7)) (blkOk_by (own := [("_law_place", 9)]) (N := N__law_first_states) (sc := defScope s__law_first_states) (by decide +kernel)) (fun _ _ _ _ _ => (pg_name (i := 9) sc__law_first_states.nd rfl (Or.inl rfl))) (fun _ _ _ _ _ => pts_nil) (fun _ _ _ _ _ => (pe_tup (pa_cons (pv 9) (pa_cons pe_int pa_nil))))) pa_nil))))))) pss_nil)))
      (pss_one (ps_ret (pv 5))))), ?_⟩
    have hz := t.sz_pos
    have hev := M.ev_len t
    have h16 : 2 ^ (t.sz - 1) ≤ 16 := by
      have h2 : 2 ^ (t.sz - 1) ≤ 2 ^ 4 := Nat.pow_le_pow_right (by decide : 0 < 2) (show t.sz - 1 ≤ 4 by omega)
      exact h2
    refine ⟨szl, fun D hD => ?_⟩
    have g0 : Gw H D (.lst []) (upd H D (.lst [])) := Gw.start hD
    refine ⟨_, rfl, _, _, rfl, .inl (SqL.of (g0.same _ _ hbe)), _, rfl, by omega, by rw [eV_len]; omega, ?_⟩
    rw [show (((eV (M.evOf t)).length : Nat) : Int).toNat = 2 ^ (t.sz - 1) by rw [eV_len, hev]; omega]
    refine for_it walk_rg (fun i σ H' => ∃ x6 x7 x8 x9, σ = [some (.ref be), some (.ref mo), some (.ref ma), some (.str (patS st)), some (kindV kind), some (.ref D), x6, x7, x8, x9] ∧ ∃ us, Gw H D (.lst us) H' ∧ Al (SpanAt H') us (M.firstL (M.evOf t) (M.mvOf t) st kind i))
      ⟨_, _, _, _, rfl, [], g0, Al.nil⟩ (fun _ _ _ _ _ => trivial) (fun i y σ Hz H4 hi p hy => ?_) (fun σ H4 p => ?_)
    · obtain ⟨x6, x7, x8, x9, rfl, us, g, al⟩ := p
      obtain ⟨rfl, rfl⟩ := hy
      obtain ⟨f, hf⟩ : ∃ f, (M.evOf t)[i]? = some f := ⟨_, List.getElem?_eq_getElem (by omega)⟩
      have hfl := every_mem _ f (List.mem_of_getElem? hf)
      have ef : (M.evOf t).getD i [] = f := by rw [List.getD_eq_getElem?_getD, hf]; rfl
      have e1 : M.firstL (M.evOf t) (M.mvOf t) st kind (i + 1) = M.firstL (M.evOf t) (M.mvOf t) st kind i ++ M.firstOne (M.evOf t) (M.mvOf t) st kind i := by simp [M.firstL, List.range_succ, List.flatMap_append]
      obtain ⟨_, hfl2⟩ := M.firsts_ok h5 st kind i (by omega)
      have hul : us.length ≤ 80 := by rw [al.len]; omega
      rw [e1]
      refine ⟨_, rfl, _, rfl, be, _, _, _, rfl, rfl, SqL.of (g.same _ _ hbe), atI_nat (by rw [eV_get, hf]; rfl), _, rfl, f.map chOf, st, rfl, by rw [List.length_map]; omega, by omega, _, rfl, ?_⟩
      cases hag : agreeP (f.map chOf) st with
      | false =>
        refine iteF ⟨_, _, _, _, rfl, us, g, ?_⟩
        unfold M.firstOne
        rw [ef, hag]
        simpa using al
      | true =>
        obtain ⟨hm1, hm2, hm3, hm4⟩ := M.mv_at (M.mv_ok h5) hi
        obtain ⟨mus, hmus, mal⟩ := hmo.more g.same
        obtain ⟨mvv, hmv, q, l, rfl, hq, hl, hne⟩ := mal.get' hm1
        have eo : M.firstOne (M.evOf t) (M.mvOf t) st kind i = (if kind then [(((M.mvOf t).getD i ([], 0)).1.getD ((M.mvOf t).getD i ([], 0)).2 0, 2 ^ ((M.mvOf t).getD i ([], 0)).2)] else ((M.mvOf t).getD i ([], 0)).1.map fun p => (p, 0)) := by
          unfold M.firstOne
          rw [ef, hag]; rfl
        rw [eo]
        generalize (M.mvOf t).getD i ([], 0) = hv at hm2 hm3 hm4 hq hl eo ⊢
        obtain ⟨hs, v⟩ := hv
        have hm2 : hs.length = t.sz := hm2
        have hm3 : v < t.sz := hm3
        have hl : H4 l = some (.lst (nV hs)) := hl
        refine iteT ⟨_, rfl, _, rfl, mo, mus, _, _, rfl, rfl, SqL.of hmus, atI_nat hmv, q, _, rfl, SqT.of hq, rfl, _, _, rfl, _, _, rfl, rfl, ?_⟩
        cases kind with
        | true =>
          refine ⟨_, rfl, rfl, _, rfl, iteT ?_⟩
          refine ⟨_, rfl, .inl ⟨rfl, _, SqL.of g.at_⟩, _, rfl, _, rfl, l, _, _, _, rfl, rfl, SqL.of hl, atI_nat (by rw [nV_get, M.getD_at (d := 0) (by omega)]; rfl), _, rfl, _, rfl, ma, _, _, _, rfl, rfl, SqL.of (g.same _ _ hma), atI_nat (marks_at (by omega)), szl, fun q2 hq2 => ?_⟩
          have g2 := g.add (u := .tup [.int (hs.getD v 0 : Nat), .int ((2 ^ v : Nat) : Int)]) hq2
          refine ⟨D, us, _, rfl, rfl, g2.at_, sz_lt (by omega), _, _, _, _, rfl, _, g2.put, ?_⟩
          have kk := (kt_new (u := .tup [.int (hs.getD v 0 : Nat), .int ((2 ^ v : Nat) : Int)]) hq2).trans (kt_lst (u := .lst (us ++ [.ref q2])) g2.at_)
          exact (al.imp fun _ _ => SpanAt.kt kk).push ⟨q2, rfl, kt_lst (u := .lst (us ++ [.ref q2])) g2.at_ _ _ upd_same⟩
        | false =>
          refine ⟨_, rfl, rfl, _, rfl, iteF ?_⟩
          refine ⟨_, rfl, .inl ⟨rfl, _, SqL.of g.at_⟩, _, rfl, l, rfl, ⟨_, SqL.of hl⟩, fun D2 hD2 => ?_⟩
          refine lc_it (walk_list (K := K) (a := l) (xs := nV hs)) (fun j H' => ∃ zs, Gw H4 D2 (.lst zs) H' ∧ Al (SpanAt H') zs ((hs.map fun p => (p, 0)).take j)) ⟨[], Gw.start hD2, Al.nil⟩ (fun j H' _ p => ?_) (fun j x H5 H6 hj p y => ?_) (fun H5 p => ?_)
          · obtain ⟨zs, gz, _⟩ := p
            exact SqL.of (gz.same _ _ hl)
          · obtain ⟨rfl, hx⟩ := y
            obtain ⟨zs, gz, az⟩ := p
            rw [nV_get] at hx
            obtain ⟨x, hx0, rfl⟩ := Option.map_eq_some_iff.mp hx
            clear hx
            have hx := hx0
            have hzl : zs.length ≤ j := by rw [az.len, List.length_take]; omega
            have hj : j < hs.length := (List.getElem?_eq_some_iff.mp hx).1
            refine ⟨rfl, _, rfl, szl, fun q2 hq2 => ?_⟩
            have gz2 := gz.add (u := .tup [.int (x : Nat), .int 0]) hq2
            refine ⟨zs, gz2.at_, sz_lt (by omega), _, gz2.put, ?_⟩
            have kk := (kt_new (u := .tup [.int (x : Nat), .int 0]) hq2).trans (kt_lst (u := .lst (zs ++ [.ref q2])) gz2.at_)
            rw [take_snoc (x := (x, 0)) (by rw [List.getElem?_map, hx]; rfl)]
            exact (az.imp fun _ _ => SpanAt.kt kk).push ⟨q2, rfl, kt_lst (u := .lst (zs ++ [.ref q2])) gz2.at_ _ _ upd_same⟩
          · obtain ⟨zs, gz, az⟩ := p
            have e5 : (hs.map fun p => (p, 0)).take (nV hs).length = hs.map fun p => (p, 0) := by rw [nV_len, ← List.length_map (f := fun p => (p, 0))]; exact all_take _
            rw [e5] at az
            have hzl : zs.length = hs.length := by rw [az.len, List.length_map]
            have hD5 := gz.same _ _ g.at_
            refine ⟨D, D2, us, zs, rfl, rfl, hD5, gz.at_, sz_le (by omega), _, _, _, _, rfl, us ++ zs, (g.more gz.same).put, ?_⟩
            have kk := kt_lst (u := .lst (us ++ zs)) hD5
            exact ((al.imp fun _ _ => SpanAt.kt ((kt_same gz.same).trans kk))).app (az.imp fun _ _ => SpanAt.kt kk)
    · obtain ⟨x6, x7, x8, x9, rfl, us, g, al⟩ := p
      exact ⟨_, rfl, k _ D us g.same g.new g.at_ al⟩
end
end My

set_option Elab.async false
set_option maxRecDepth 100000
set_option maxHeartbeats 4000000
namespace My
open PySem PySem.Spec PyProof.Rows L2
open M (Ch Need chOf agreeP Sst Tab Mv)
abbrev s__law_searched : Stmt := top 48
abbrev N__law_searched : List Str := ["_law_rows_here", "_law_many", "_law_start", "_law_kind", "_law_marks", "_law_every_here", "_law_moves_here", "_law_best", "_law_states", "_law_count", "_law_later", "_law_place", "_law_loaded", "_law_counts", "_law_hits", "_law_victim", "_law_now", "_law_one"]
theorem sc__law_searched : FnScope N__law_searched ["_law_rows_here", "_law_many", "_law_start", "_law_kind"] (defScope s__law_searched) := ⟨rfl, rfl, rfl, by decide +kernel, rfl, by decide +kernel, by decide +kernel⟩
/-! ### pairs as data -/
def pd (s : Sst) : PyData := .tuple [.int (s.1 : Nat), .int (s.2 : Nat)]
theorem pairs_lay : ∀ l : List Sst, PyData.canLayAll0 (l.map pd) = true ∧ PyData.depthAll (l.map pd) ≤ 1
  | [] => by simp [PyData.canLayAll0, PyData.depthAll]
  | s :: l => by
    obtain ⟨h1, h2⟩ := pairs_lay l
    refine ⟨?_, ?_⟩
    · rw [List.map_cons, PyData.canLayAll0, h1]; simp [pd, PyData.canLay0, PyData.canLayAll0]
    · rw [List.map_cons, PyData.depthAll]; simp [pd, PyData.depth, PyData.depthAll]; omega
theorem pairs_shaped (l : List Sst) : SeqAt.shaped (.list (l.map pd)) = true := by
  obtain ⟨h1, h2⟩ := pairs_lay l
  unfold SeqAt.shaped
  rw [PyData.canLay0, h1, PyData.depth]
  simp; omega
theorem pairs_eqv (l : List Sst) : PyData.eqv (.list (l.map pd)) (.list []) = (l == []) := by
  cases l with
  | nil => simp [PyData.eqv, PyData.eqvAll]
  | cons s l => simp [PyData.eqv, PyData.eqvAll, pd]
theorem pairs_Dp {K : PySem.W.Frag} {H : Hp} : ∀ {vs : List V} {l : List Sst}, Al (SpanAt H) vs l → DpAll K H vs (l.map pd)
  | [], [], _ => .nil
  | [], _ :: _, a => by have := a.len; simp at this
  | _ :: _, [], a => by have := a.len; simp at this
  | v :: vs, s :: l, a => by
    obtain ⟨q, e, h⟩ := a.at_ 0 (by simp) (by simp)
    have e : v = .ref q := by simpa using e
    subst e
    refine .cons (.tup (SqT.of h) (.cons (.int _) (.cons (.int _) .nil))) (pairs_Dp ⟨by have := a.len; simpa using this, fun i h1 h2 => ?_⟩)
    have := a.at_ (i + 1) (by simp; omega) (by simp; omega)
    simpa using this
/-! ### the table -/
def rowV (r : List (Option Nat)) : List V := r.map oV
def TabAt (H : Hp) (p : Addr) (b : Tab) : Prop := ∃ cs : List Addr, H p = some (.lst (cs.map V.ref)) ∧ Al (fun c r => H c = some (.lst (rowV r))) cs b
theorem TabAt.more {H H' : Hp} (s : Same H H') {p : Addr} {b : Tab} (h : TabAt H p b) : TabAt H' p b := by
  obtain ⟨cs, h1, h2⟩ := h
  exact ⟨cs, s _ _ h1, h2.imp fun _ _ h => s _ _ h⟩
def TabNew (H H' : Hp) (p : Addr) (b : Tab) : Prop := ∃ cs : List Addr, H' p = some (.lst (cs.map V.ref)) ∧ Al (fun c r => H' c = some (.lst (rowV r))) cs b ∧ H p = none ∧ ∀ c ∈ cs, H c = none
/-- a table that has nothing to do with D -/
def TabX (D : Addr) (H : Hp) (p : Addr) (b : Tab) : Prop := ∃ cs : List Addr, H p = some (.lst (cs.map V.ref)) ∧ Al (fun c r => H c = some (.lst (rowV r))) cs b ∧ p ≠ D ∧ D ∉ cs
theorem TabX.more {D : Addr} {H H' : Hp} (s : Same H H') {p : Addr} {b : Tab} (h : TabX D H p b) : TabX D H' p b := by
  obtain ⟨cs, h1, h2, h3, h4⟩ := h
  exact ⟨cs, s _ _ h1, h2.imp fun _ _ h => s _ _ h, h3, h4⟩
theorem TabX.put {D : Addr} {H : Hp} {u : HO} {p : Addr} {b : Tab} (h : TabX D H p b) : TabX D (upd H D u) p b := by
  obtain ⟨cs, h1, h2, h3, h4⟩ := h
  exact ⟨cs, upd_far h1 h3, ⟨h2.len, fun i g1 g2 => upd_far (h2.at_ i g1 g2) (fun z => h4 (by rw [← z]; exact List.getElem_mem g1))⟩, h3, h4⟩
theorem TabX.at_ {D : Addr} {H : Hp} {p : Addr} {b : Tab} (h : TabX D H p b) : TabAt H p b := by
  obtain ⟨cs, h1, h2, _⟩ := h
  exact ⟨cs, h1, h2⟩
theorem TabNew.x {D : Addr} {H H' : Hp} {o : HO} (hD : H D = some o) {p : Addr} {b : Tab} (h : TabNew H H' p b) : TabX D H' p b := by
  obtain ⟨cs, h1, h2, h3, h4⟩ := h
  exact ⟨cs, h1, h2, fun z => (by rw [z, hD] at h3; cases h3), fun z => by have := h4 D z; rw [hD] at this; cases this⟩
structure Sw (Hb : Hp) (D : Addr) (cs : List Addr) (b : Tab) (H : Hp) : Prop where
  same : Same Hb H
  nD : Hb D = none
  hD : H D = some (.lst (cs.map V.ref))
  new : ∀ c ∈ cs, Hb c = none ∧ c ≠ D
  nod : cs.Nodup
  al : Al (fun c r => H c = some (.lst (rowV r))) cs b
section
variable {Hb H H' : Hp} {D p : Addr} {cs : List Addr} {b : Tab}
theorem Sw.more (w : Sw Hb D cs b H) (s : Same H H') : Sw Hb D cs b H' := ⟨w.same.trans s, w.nD, s _ _ w.hD, w.new, w.nod, w.al.imp fun _ _ h => s _ _ h⟩
theorem Sw.put (w : Sw Hb D cs b H) {i : Nat} {c : Addr} (hc : cs[i]? = some c) (r : List (Option Nat)) : Sw Hb D cs (b.set i r) (upd H c (.lst (rowV r))) := by
  have hm := List.mem_of_getElem? hc
  refine ⟨same_put w.same (w.new c hm).1, w.nD, upd_far w.hD (Ne.symm (w.new c hm).2), w.new, w.nod, ⟨by rw [List.length_set]; exact w.al.len, fun j h1 h2 => ?_⟩⟩
  obtain ⟨hi, ei⟩ := List.getElem?_eq_some_iff.mp hc
  by_cases hji : j = i
  · subst hji
    rw [List.getElem_set_self, ei]
    exact upd_same
  · rw [List.getElem_set_ne (by omega)]
    have hne : cs[j] ≠ c := fun z => hji (nodup_idx w.nod (a := c) (by rw [List.getElem?_eq_getElem h1, z]) hc)
    exact upd_far (w.al.at_ j h1 (by rw [List.length_set] at h2; exact h2)) hne
/-- what is no row of the table is put -/
theorem Sw.far (w : Sw Hb D cs b H) {l : Addr} {u : HO} (h0 : Hb l = none) (h1 : l ∉ cs) (h2 : l ≠ D) : Sw Hb D cs b (upd H l u) :=
  ⟨same_put w.same h0, w.nD, upd_far w.hD (Ne.symm h2), w.new, w.nod, ⟨w.al.len, fun j g1 g2 => upd_far (w.al.at_ j g1 g2) (fun z => h1 (by rw [← z]; exact List.getElem_mem g1))⟩⟩
theorem Sw.out (w : Sw Hb D cs b H) {l : Addr} (h : H l = none) : Hb l = none ∧ l ∉ cs ∧ l ≠ D := by
  refine ⟨w.same.free h, fun hm => ?_, fun z => by rw [z, w.hD] at h; cases h⟩
  obtain ⟨i, hi⟩ := List.getElem?_of_mem hm
  obtain ⟨r, _, hr⟩ := w.al.get hi
  rw [h] at hr; cases hr
end
theorem rowV_set (r : List (Option Nat)) (i c : Nat) : (rowV r).set i (.int (c : Nat)) = rowV (r.set i (some c)) := by simp [rowV, List.map_set, oV]
theorem oV_non (o : Option Nat) : decide (oV o = .non) = o.isNone := by cases o <;> rfl
theorem bit_dec (m v : Nat) : decide (V.int ((((m : Int).fdiv ((2 ^ v : Nat) : Int)).fmod 2)) = V.int 0) = decide (m / 2 ^ v % 2 = 0) := by
  have e1 : (m : Int).fdiv ((2 ^ v : Nat) : Int) = ((m / 2 ^ v : Nat) : Int) := by rw [Int.fdiv_eq_ediv_of_nonneg _ (Int.natCast_nonneg _)]; exact (Int.natCast_ediv m (2 ^ v)).symm
  have e2 : (((m / 2 ^ v : Nat) : Int)).fmod 2 = ((m / 2 ^ v % 2 : Nat) : Int) := by rw [Int.fmod_eq_emod_of_nonneg _ (by decide)]; omega
  rw [e1, e2, Bool.eq_iff_iff, decide_eq_true_iff, decide_eq_true_iff]
  constructor
  · intro h
    have := V.int.inj h
    omega
  · intro h
    rw [h]; rfl
section
variable {P : Program} {w : World} {K : PySem.W.Frag} {mg : Str → Option Value} {base : Heap} {C : Addr}
def sp_searched : Sp := fun vs H Q _ => ∃ (a : Addr) (t : M.T) (s : List Ch) (kind : Bool), vs = [.ref a, .int (t.sz : Nat), .str (patS s), kindV kind] ∧ RowsAt H a (M.rowsOf t 0) ∧ t.sz ≤ 5 ∧ s.length + 1 = t.sz ∧ ∀ H' p, Same H H' → TabNew H H' p (M.searchL t s kind) → Q (.ref p) H'
theorem d__law_searched (T : Tx K mg) (F : FunAt K mg "_law_searched" s__law_searched) (d__law_every : Def P w K mg base "_law_every" ["_law_size"] 1 sp_every) (d__law_moves : Def P w K mg base "_law_moves" ["_law_rows_here", "_law_many", "_law_every_here"] 2 sp_moves)
    (d__law_first_states : Def P w K mg base "_law_first_states" ["_law_every_here", "_law_moves_here", "_law_marks", "_law_start", "_law_kind"] 2 sp_first) : Def P w K mg base "_law_searched" ["_law_rows_here", "_law_many", "_law_start", "_law_kind"] 3 sp_searched := by
  refine mk_def F sc__law_searched (fun _ _ _ _ _ _ us hl => match us, hl with | [_, _, _, _], _ => rfl) (fun vs H Q E h => ?_) (fun f cdv A outer s H vs Q E hr h => ?_)
  · obtain ⟨_, _, _, _, rfl, _⟩ := h; rfl
  · obtain ⟨a, t, st0, kind, rfl, hrows, h5, hst, k⟩ := h
    refine ⟨_, (pss_cons (ps_set (i := 4) sc__law_searched.nd rfl (Or.inr rfl) (pe_lst (pa_cons pe_int (pa_cons pe_int (pa_cons pe_int (pa_cons pe_int (pa_cons pe_int pa_nil)))))))
      (pss_cons (ps_set (i := 5) sc__law_searched.nd rfl (Or.inl rfl) (pe_def d__law_every hr (by rfl) (pa_cons (pe_op op_sub (pv 1) pe_int) pa_nil)))
      (pss_cons (ps_set (i := 6) sc__law_searched.nd rfl (Or.inl rfl) (pe_def d__law_moves hr (by rfl) (pa_cons (pv 0) (pa_cons (pv 1) (pa_cons (pv 5) pa_nil)))))
      (pss_cons (ps_setLc (i := 7) (own := [("_law_now", 16)]) rfl sc__law_searched.nd rfl rfl (sw_true rfl rfl rfl (by decide +kernel)) (pi_list (pv 5)) (blkOk_by (own := [("_law_now", 16)]) (N := N__law_searched) (sc := defScope s__law_searched) (by decide +kernel)) (fun _ _ _ _ _ => (pg_name (i := 16) sc__law_searched.nd rfl (Or.inl rfl))) (fun _ _ _ _ _ => pts_nil) (fun _ _ _ _ _ => (pe_op op_rep (pe_lst (pa_cons pe_non pa_nil)) (pe_op op_mul pe_int (pe_ix (show IxR _ (rIxL K) from ix_list) (pv 4) (pe_op op_sub (pv 1) pe_int) (fun _ _ => rfl))))))
      (pss_cons (ps_set (i := 8) sc__law_searched.nd rfl (Or.inl rfl) (pe_def d__law_first_states hr (by rfl) (pa_cons (pv 5) (pa_cons (pv 6) (pa_cons (pv 4) (pa_cons (pv 2) (pa_cons (pv 3) pa_nil)))))))
      (pss_cons (ps_for PassesOwn.never rfl (pi_range2 (by rfl) T.b_range (pa_cons pe_int (pa_cons pe_int pa_nil))) (pg_name (i := 9) sc__law_searched.nd rfl (Or.inl rfl)) (pss_cons (ps_set (i := 10) sc__law_searched.nd rfl (Or.inl rfl) (pe_lst pa_nil))
      (pss_cons (ps_for PassesOwn.never rfl (pi_list (pv 8)) (pg_tup rfl (pgs_cons (pg_name (i := 11) sc__law_searched.nd rfl (Or.inl rfl)) (pgs_cons (pg_name (i := 12) sc__law_searched.nd rfl (Or.inr rfl)) pgs_nil))) (pss_cons (ps_set (i := 13) sc__law_searched.nd rfl (Or.inl rfl) (pe_ix ix_list (pv 7) (pv 11) (fun _ _ => rfl)))
      (pss_one (ps_if (pt_cmpR op_isN (pe_ix ix_list (pv 13) (pv 12) (fun _ _ => rfl)) pe_non (nomark _)) (pss_cons (ps_asg (pv 9) (pg_sub (pv 13) (pv 12) set_list))
      (pss_cons (ps_asg (pe_ix ix_list (pv 6) (pv 11) (fun _ _ => rfl)) (pg_tup rfl (pgs_cons (pg_name (i := 14) sc__law_searched.nd rfl (Or.inl rfl)) (pgs_cons (pg_name (i := 15) sc__law_searched.nd rfl (Or.inl rfl)) pgs_nil))))
      (pss_cons (ps_expr (pe_bm PySem.F.plainAttrs_list PySem.F.slot_list_extend PySem.F.type_list_extend mt_extend (pv 10) (pa_cons (pe_lc (own := [("_law_one", 17)]) rfl sc__law_searched.nd (pi_list (pv 14)) (blkOk_by (own := [("_law_one", 17)]) (N := N__law_searched) (sc := defScope s__law_searched) (by decide +kernel)) (fun _ _ _ _ _ => (pg_name (i := 17) sc__law_searched.nd rfl (Or.inl rfl))) (fun _ _ _ _ _ => pts_nil) (fun _ _ _ _ _ => (pe_tup (pa_cons (pv 17) (pa_cons (pv 12) pa_nil))))) pa_nil)))
      (pss_one (ps_if (pt_cmpR op_eq (pe_op op_modN (pe_callTy call_int1 (by rfl) T.b_int (by decide +kernel) (pa_cons (pe_op op_fdivN (pv 12) (pe_ix ix_list (pv 4) (pv 15) (fun _ _ => rfl))) pa_nil)) pe_int) pe_int (nomark _)) (pss_one (ps_expr (pe_bm PySem.F.plainAttrs_list PySem.F.slot_list_append PySem.F.type_list_append mt_append (pv 10) (pa_cons (pe_tup (pa_cons (pe_ix ix_list (pv 14) (pv 15) (fun _ _ => rfl)) (pa_cons (pe_op op_add (pv 12) (pe_ix ix_list (pv 4) (pv 15) (fun _ _ => rfl))) pa_nil))) pa_nil)))) pss_nil))))) pss_nil))))
      (pss_cons (ps_if (pt_cmpR (op_eqD hr.units) (pv 10) (pe_lst pa_nil) (nomark _)) (pss_one ps_break) pss_nil)
      (pss_one (ps_set (i := 8) sc__law_searched.nd rfl (Or.inl rfl) (pv 10)))))))
      (pss_one (ps_ret (pv 7))))))))), ?_⟩
    have hz := t.sz_pos
    have h16 : 2 ^ (t.sz - 1) ≤ 16 := by
      have h2 : 2 ^ (t.sz - 1) ≤ 2 ^ 4 := Nat.pow_le_pow_right (by decide : 0 < 2) (show t.sz - 1 ≤ 4 by omega)
      exact h2
    have h32 := M.pow_le32 h5
    have esz : (t.sz : Int) - 1 = ((t.sz - 1 : Nat) : Int) := by omega
    refine ⟨szl, fun ma hma => ?_⟩
    have s1 : Same H (upd H ma (.lst (nV [1, 2, 4, 8, 16]))) := same_new hma
    have hm1 : upd H ma (.lst (nV [1, 2, 4, 8, 16])) ma = some (.lst (nV [1, 2, 4, 8, 16])) := upd_same
    show _
    refine ⟨_, rfl, _, _, rfl, rfl, t.sz - 1, by show [V.int ((t.sz : Int) - 1)] = _; rw [esz], by omega, fun H2 be s2 nbe hbe => ?_⟩
    have hbe : H2 be = some (.lst (eV (M.evOf t))) := hbe
    refine ⟨_, rfl, _, rfl, _, rfl, a, be, t, rfl, (hrows.more s1).more s2, h5, hbe, fun H3 mo s3 nmo hmo => ?_⟩
    have hbe3 := s3 _ _ hbe
    have hma3 := s3 _ _ (s2 _ _ hm1)
    refine ⟨_, rfl, be, rfl, ⟨_, SqL.of hbe3⟩, fun D hD => ?_⟩
    refine lc_it (walk_list (K := K) (a := be) (xs := eV (M.evOf t))) (fun i H' => ∃ cs, Sw H3 D cs (List.replicate i (List.replicate (2 ^ t.sz) none)) H' ∧ cs.length = i)
      ⟨[], ⟨same_new hD, hD, upd_same, fun c hc => by simp at hc, List.nodup_nil, Al.nil⟩, rfl⟩ (fun i H' _ p => ?_) (fun i x H4 H5 hi p y => ?_) (fun H4 p => ?_)
    · obtain ⟨cs, sw, _⟩ := p
      exact SqL.of (sw.same _ _ hbe3)
    · obtain ⟨rfl, hx⟩ := y
      obtain ⟨cs, sw, hcl⟩ := p
      rw [eV_len, M.ev_len] at hi
      have hma4 := sw.same _ _ hma3
      refine ⟨rfl, szl, fun p0 hp0 => ⟨_, rfl, _, rfl, _, _, rfl, rfl, ma, _, _, .int ((2 ^ (t.sz - 1) : Nat) : Int), rfl, rfl, SqL.of (upd_old hma4 hp0), ?_, _, _, rfl, rfl, .inl ⟨by decide, by decide⟩, p0, _, _, rfl, rfl, upd_same, ?_, ?_, ?_, fun q hq => ?_⟩⟩
      · show atI _ ((t.sz : Int) - 1) = _
        rw [esz]; exact atI_nat (marks_at (by omega))
      · show -(2 ^ 63) ≤ (2 : Int) * ((2 ^ (t.sz - 1) : Nat) : Int); omega
      · show (2 : Int) * ((2 ^ (t.sz - 1) : Nat) : Int) < 2 ^ 63; omega
      · show 1 * ((2 : Int) * ((2 ^ (t.sz - 1) : Nat) : Int)).toNat ≤ sizeLine
        exact sz_le (by omega)
      · have e2 : ((2 : Int) * ((2 ^ (t.sz - 1) : Nat) : Int)).toNat = 2 ^ t.sz := by
          have : 2 ^ t.sz = 2 * 2 ^ (t.sz - 1) := by rw [← Nat.pow_succ']; congr 1; omega
          rw [this]; omega
        have e3 : (List.replicate ((2 : Int) * ((2 ^ (t.sz - 1) : Nat) : Int)).toNat [V.non]).flatten = rowV (List.replicate (2 ^ t.sz) none) := by
          rw [e2]
          generalize 2 ^ t.sz = n
          induction n with
          | zero => rfl
          | succ n ih => rw [List.replicate_succ, List.flatten_cons, ih]; rfl
        have sw1 := sw.more (same_new (u := .lst [.non]) hp0)
        have sw2 := sw1.more (same_new (u := .lst (rowV (List.replicate (2 ^ t.sz) none))) hq)
        obtain ⟨o1, o2, o3⟩ := sw1.out hq
        refine ⟨cs.map V.ref, (show upd (upd _ p0 _) q (.lst (List.replicate ((2 : Int) * ((2 ^ (t.sz - 1) : Nat) : Int)).toNat [V.non]).flatten) D = _ by rw [e3]; exact sw2.hD), sz_lt (by rw [List.length_map]; omega), cs ++ [q], ?_, by simp [hcl]⟩
        show Sw H3 D (cs ++ [q]) _ (upd (upd _ q (.lst (List.replicate ((2 : Int) * ((2 ^ (t.sz - 1) : Nat) : Int)).toNat [V.non]).flatten)) D (.lst (cs.map V.ref ++ [.ref q])))
        rw [e3]
        refine ⟨same_put sw2.same hD, hD, ?_, fun c hc => ?_, ?_, ?_⟩
        · rw [upd_same, List.map_append]; rfl
        · rcases List.mem_append.mp hc with h | h
          · exact sw.new c h
          · have : c = q := by simpa using h
            subst this; exact ⟨o1, o3⟩
        · rw [List.nodup_append]
          refine ⟨sw.nod, by simp, fun x hx y hy => ?_⟩
          have : y = q := by simpa using hy
          subst this
          exact fun z => o2 (by rw [← z]; exact hx)
        · rw [List.replicate_succ']
          refine Al.push ⟨sw2.al.len, fun j g1 g2 => upd_far (sw2.al.at_ j g1 g2) ?_⟩ (upd_far upd_same o3)
          exact (sw.new _ (List.getElem_mem g1)).2
    · obtain ⟨cs, sw, hcl⟩ := p
      rw [eV_len, M.ev_len] at sw hcl
      have sw : Sw H3 D cs (M.tab0 t.sz) H4 := sw
      have hmo4 := hmo.more sw.same
      refine ⟨_, rfl, _, rfl, _, rfl, _, rfl, _, rfl, be, mo, ma, t, st0, kind, rfl, sw.same _ _ hbe3, hmo4, sw.same _ _ hma3, h5, hst, fun H5 sp us s5 nsp hsp hal => ?_⟩
      have sw5 := sw.more s5
      obtain ⟨o1, o2, o3⟩ := sw.out nsp
      refine ⟨1, 600, rfl, ⟨by decide, by decide, by decide, by decide⟩, ?_⟩
      rw [show ((600 : Int) - 1).toNat = 599 by decide]
      obtain ⟨hin0, hlen0⟩ := M.firsts_ok h5 st0 kind (2 ^ (t.sz - 1)) (Nat.le_refl _)
      have hmvok := M.mv_ok h5
      refine for_it walk_range (fun i σ H' => ∃ (sp : Addr) (us : List V) (b : Tab) (st : List Sst) (x9 x10 x11 x12 x13 x14 x15 x16 x17 : Option V), σ = [some (.ref a), some (.int (t.sz : Nat)), some (.str (patS st0)), some (kindV kind), some (.ref ma), some (.ref be), some (.ref mo), some (.ref D), some (.ref sp), x9, x10, x11, x12, x13, x14, x15, x16, x17] ∧
        Sw H3 D cs b H' ∧ H' sp = some (.lst us) ∧ sp ∉ cs ∧ sp ≠ D ∧ Al (SpanAt H') us st ∧ M.TabOk t.sz b ∧ (∀ s ∈ st, M.InR t.sz s) ∧ st.length ≤ 3072 ∧ M.bfs (M.mvOf t) (599 - i) (i + 1) b st = M.searchL t st0 kind)
        ⟨sp, us, _, _, _, _, _, _, _, _, _, _, _, rfl, sw5, hsp, o2, o3, hal, M.tab0_ok _, hin0, by show (M.firstL _ _ _ _ _).length ≤ 3072; omega, rfl⟩ (fun _ _ _ _ _ => trivial) (fun i y σ Hz H6 hi p hy => ?_) (fun σ H6 p => ?_)
      · clear hal sw5 hsp s5 o1 o2 o3 nsp
        obtain ⟨sp, us, b, st, x9, x10, x11, x12, x13, x14, x15, x16, x17, rfl, sw6, hsp, n1, n2, al, tok, hin, hlen, hb⟩ := p
        obtain ⟨rfl, rfl⟩ := hy
        have hnext : M.bfs (M.mvOf t) (599 - i) (i + 1) b st = if (M.levelL (M.mvOf t) (i + 1) b st).2 = [] then (M.levelL (M.mvOf t) (i + 1) b st).1 else M.bfs (M.mvOf t) (599 - (i + 1)) (i + 1 + 1) (M.levelL (M.mvOf t) (i + 1) b st).1 (M.levelL (M.mvOf t) (i + 1) b st).2 := by
          rw [show 599 - i = (599 - (i + 1)) + 1 by omega]; rfl
        rw [hnext] at hb
        refine ⟨szl, fun l hl => ?_⟩
        obtain ⟨m1, m2, m3⟩ := sw6.out hl
        have sw7 := sw6.more (same_new (u := .lst []) hl)
        have nsl : sp ≠ l := fun z => by rw [z] at hsp; rw [hsp] at hl; cases hl
        have hsp7 : upd H6 l (.lst []) sp = some (.lst us) := upd_old hsp hl
        have hl7 : upd H6 l (.lst []) l = some (.lst []) := upd_same
        have al7 := al.imp fun _ _ => SpanAt.kt (kt_new (u := .lst []) hl)
        generalize upd H6 l (.lst []) = H7 at sw7 hsp7 hl7 al7 ⊢
        refine ⟨_, rfl, sp, rfl, ⟨_, SqL.of hsp7⟩, for_list (xs := us) (fun j σ H' => ∃ (ls : List V) (x11 x12 x13 x14 x15 x16 x17 : Option V), σ = [some (.ref a), some (.int (t.sz : Nat)), some (.str (patS st0)), some (kindV kind), some (.ref ma), some (.ref be), some (.ref mo), some (.ref D), some (.ref sp), some (.int (1 + (i : Nat) : Int)), some (.ref l), x11, x12, x13, x14, x15, x16, x17] ∧
          Sw H3 D cs ((st.take j).foldl (M.visit (M.mvOf t) (i + 1)) (b, [])).1 H' ∧ H' sp = some (.lst us) ∧ Al (SpanAt H') us st ∧ H' l = some (.lst ls) ∧ Al (SpanAt H') ls ((st.take j).foldl (M.visit (M.mvOf t) (i + 1)) (b, [])).2)
          ⟨[], _, _, _, _, _, _, _, rfl, sw7, hsp7, al7, hl7, Al.nil⟩ (fun j σ H' _ p => ?_) (fun j y σ H8 hy p => ?_) (fun σ H8 p => ?_)⟩
        · obtain ⟨_, _, _, _, _, _, _, _, _, _, h, _⟩ := p
          exact SqL.of h
        · obtain ⟨ls, x11, x12, x13, x14, x15, x16, x17, rfl, sw8, hsp8, al8, hl8, als⟩ := p
          obtain ⟨⟨pl, ld⟩, hs, q, rfl, hq⟩ := al8.get hy
          have hq : H8 q = some (.tup [.int (pl : Nat), .int (ld : Nat)]) := hq
          obtain ⟨lok1, lok2, lok3⟩ := M.level_ok (c := i + 1) hmvok h5 tok hin j
          obtain ⟨_, _, lok4⟩ := M.level_ok (c := i + 1) hmvok h5 tok hin (j + 1)
          rw [take_snoc hs, List.foldl_append] at lok4 ⊢
          rw [List.foldl_cons, List.foldl_nil] at lok4 ⊢
          generalize (st.take j).foldl (M.visit (M.mvOf t) (i + 1)) (b, []) = ab at sw8 als lok1 lok2 lok3 lok4 ⊢
          obtain ⟨bb, lt⟩ := ab
          have hinr := hin _ (List.mem_of_getElem? hs)
          obtain ⟨t1, t2, t3⟩ := M.tab_at lok1 hinr
          obtain ⟨c, hc, hcv⟩ := sw8.al.get' t1
          have hcv : H8 c = some (.lst (rowV (bb.getD pl []))) := hcv
          have hlsl : ls.length ≤ 3072 := by rw [als.len]; exact lok3
          refine ⟨q, _, rfl, SqT.of hq, rfl, _, _, rfl, _, _, rfl, rfl, ?_⟩
          refine ⟨_, rfl, _, rfl, D, _, _, .ref c, rfl, rfl, SqL.of sw8.hD, atI_nat (by rw [List.getElem?_map, hc]; rfl), ?_⟩
          refine ⟨_, rfl, _, rfl, c, _, _, _, rfl, rfl, SqL.of hcv, atI_nat (by show (rowV (bb.getD pl []))[ld]? = _; rw [rowV, List.getElem?_map, t3]; rfl), rfl, _, rfl, ?_⟩
          rw [oV_non]
          have hvis : M.visit (M.mvOf t) (i + 1) (bb, lt) (pl, ld) = if M.getT bb (pl, ld) = none then (M.setT bb (pl, ld) (i + 1), lt ++ M.succL (M.mvOf t) (pl, ld)) else (bb, lt) := rfl
          rw [hvis] at lok4 ⊢
          cases hg : M.getT bb (pl, ld) with
          | some v =>
            refine iteF ⟨ls, _, _, _, _, _, _, _, rfl, ?_⟩
            rw [if_neg (by simp)]
            exact ⟨sw8, hsp8, al8, hl8, als⟩
          | none =>
            rw [hg, if_pos rfl] at lok4
            rw [if_pos rfl]
            refine iteT ?_
            have nsc : sp ≠ c := fun z => n1 (by rw [z]; exact List.mem_of_getElem? hc)
            have nlc : l ≠ c := fun z => m2 (by rw [z]; exact List.mem_of_getElem? hc)
            refine ⟨_, rfl, _, rfl, _, rfl, c, _, _, ld, rfl, rfl, hcv, ixn_nat (by show ld < (rowV (bb.getD pl [])).length; rw [rowV, List.length_map, t2]; exact hinr.2), ?_⟩
            have e1 : (rowV (bb.getD pl [])).set ld (.int (1 + (i : Nat) : Int)) = rowV ((bb.getD pl []).set ld (some (i + 1))) := by
              rw [← rowV_set]; congr 2; omega
            show (fun H3 => _) (upd H8 c (.lst ((rowV (bb.getD pl [])).set ld (.int (1 + (i : Nat) : Int)))))
            rw [e1]
            have sw9 : Sw H3 D cs (M.setT bb (pl, ld) (i + 1)) (upd H8 c (.lst (rowV ((bb.getD pl []).set ld (some (i + 1)))))) := sw8.put hc _
            have k9 := kt_lst (u := .lst (rowV ((bb.getD pl []).set ld (some (i + 1))))) hcv
            have hsp9 := upd_far (u := .lst (rowV ((bb.getD pl []).set ld (some (i + 1))))) hsp8 nsc
            have hl9 := upd_far (u := .lst (rowV ((bb.getD pl []).set ld (some (i + 1))))) hl8 nlc
            have al9 := al8.imp fun _ _ => SpanAt.kt k9
            have als9 := als.imp fun _ _ => SpanAt.kt k9
            generalize upd H8 c (.lst (rowV ((bb.getD pl []).set ld (some (i + 1))))) = H9 at sw9 k9 hsp9 hl9 al9 als9 ⊢
            obtain ⟨mus, hmus0, mal⟩ := hmo
            have hmus := sw9.same _ _ hmus0
            obtain ⟨g1, g2, g3, g4⟩ := M.mv_at hmvok hinr.1
            obtain ⟨mvv, hmv, qm, lm, rfl, hqm0, hlm0, _⟩ := mal.get' g1
            have hqm := sw9.same _ _ hqm0
            have hlm := sw9.same _ _ hlm0
            have esucc : M.succL (M.mvOf t) (pl, ld) = (((M.mvOf t).getD pl ([], 0)).1.map fun p => (p, ld)) ++ (if ld / 2 ^ ((M.mvOf t).getD pl ([], 0)).2 % 2 = 0 then [(((M.mvOf t).getD pl ([], 0)).1.getD ((M.mvOf t).getD pl ([], 0)).2 0, ld + 2 ^ ((M.mvOf t).getD pl ([], 0)).2)] else []) := rfl
            rw [esucc] at lok4 ⊢
            have g2 : ((M.mvOf t).getD pl ([], 0)).1.length = t.sz := g2
            have g3 : ((M.mvOf t).getD pl ([], 0)).2 < t.sz := g3
            have hqm : H9 qm = some (.tup [.ref lm, .int (((M.mvOf t).getD pl ([], 0)).2 : Nat)]) := hqm
            have hlm : H9 lm = some (.lst (nV ((M.mvOf t).getD pl ([], 0)).1)) := hlm
            generalize (M.mvOf t).getD pl ([], 0) = hv at g2 g3 hqm hlm lok4 ⊢
            obtain ⟨hts, vc⟩ := hv
            have hma9 := sw9.same _ _ hma3
            refine ⟨_, rfl, _, rfl, mo, mus, _, _, rfl, rfl, SqL.of hmus, atI_nat hmv, qm, _, rfl, SqT.of hqm, rfl, _, _, rfl, _, _, rfl, rfl, ?_⟩
            refine ⟨_, rfl, .inl ⟨rfl, _, SqL.of hl9⟩, _, rfl, lm, rfl, ⟨_, SqL.of hlm⟩, fun D2 hD2 => ?_⟩
            refine lc_it (walk_list (K := K) (a := lm) (xs := nV hts)) (fun j H' => ∃ zs, Gw H9 D2 (.lst zs) H' ∧ Al (SpanAt H') zs ((hts.map fun p => (p, ld)).take j)) ⟨[], Gw.start hD2, Al.nil⟩ (fun j H' _ p => ?_) (fun j x HA HB hj p y => ?_) (fun HA p => ?_)
            · obtain ⟨zs, gz, _⟩ := p
              exact SqL.of (gz.same _ _ hlm)
            · obtain ⟨rfl, hx⟩ := y
              obtain ⟨zs, gz, az⟩ := p
              rw [nV_get] at hx
              obtain ⟨x, hx0, rfl⟩ := Option.map_eq_some_iff.mp hx
              clear hx
              have hx := hx0
              have hzl : zs.length ≤ j := by rw [az.len, List.length_take]; omega
              have hj : j < hts.length := (List.getElem?_eq_some_iff.mp hx).1
              have g2 : hts.length = t.sz := g2
              refine ⟨rfl, _, rfl, _, rfl, szl, fun q2 hq2 => ?_⟩
              have gz2 := gz.add (u := .tup [.int (x : Nat), .int (ld : Nat)]) hq2
              refine ⟨zs, gz2.at_, sz_lt (by omega), _, gz2.put, ?_⟩
              have kk := (kt_new (u := .tup [.int (x : Nat), .int (ld : Nat)]) hq2).trans (kt_lst (u := .lst (zs ++ [.ref q2])) gz2.at_)
              rw [take_snoc (x := (x, ld)) (by rw [List.getElem?_map, hx]; rfl)]
              exact (az.imp fun _ _ => SpanAt.kt kk).push ⟨q2, rfl, kt_lst (u := .lst (zs ++ [.ref q2])) gz2.at_ _ _ upd_same⟩
            · obtain ⟨zs, gz, az⟩ := p
              have e5 : (hts.map fun p => (p, ld)).take (nV hts).length = hts.map fun p => (p, ld) := by rw [nV_len, ← List.length_map (f := fun p => (p, ld))]; exact all_take _
              rw [e5] at az
              have g2 : hts.length = t.sz := g2
              have g3 : vc < t.sz := g3
              have hzl : zs.length = hts.length := by rw [az.len, List.length_map]
              have hlA := gz.same _ _ hl9
              refine ⟨l, D2, ls, zs, rfl, rfl, hlA, gz.at_, sz_le (by omega), ?_⟩
              have kA := (kt_same gz.same).trans (kt_lst (u := .lst (ls ++ zs)) hlA)
              have swA := (sw9.more gz.same).far (u := .lst (ls ++ zs)) m1 m2 m3
              have hspA := upd_far (u := .lst (ls ++ zs)) (gz.same _ _ hsp9) nsl
              have hlB : upd HA l (.lst (ls ++ zs)) l = some (.lst (ls ++ zs)) := upd_same
              have alA := al9.imp fun _ _ => SpanAt.kt kA
              have alsA := (als9.imp fun _ _ => SpanAt.kt kA).app (az.imp fun _ _ => SpanAt.kt (kt_lst (u := .lst (ls ++ zs)) hlA))
              have nlm : lm ≠ l := ne_of_none hlm0 m1
              have hlmA := upd_far (u := .lst (ls ++ zs)) (gz.same _ _ hlm) nlm
              have hmaA := swA.same _ _ hma3
              generalize upd HA l (.lst (ls ++ zs)) = HB at swA hspA hlB alA alsA hlmA hmaA ⊢
              refine ⟨_, rfl, _, rfl, _, rfl, ma, _, _, .int ((2 ^ vc : Nat) : Int), rfl, rfl, SqL.of hmaA, atI_nat (marks_at (by omega)), _, _, rfl, rfl, ?_, .inl ⟨_, rfl, _, _, rfl, rfl, (show (2 : Int) ≠ 0 by decide), rfl, _, rfl, ?_⟩⟩
              · have h2v : 2 ^ vc ≤ 2 ^ 4 := Nat.pow_le_pow_right (by decide : 0 < 2) (show vc ≤ 4 by omega)
                have h2p : 0 < 2 ^ vc := Nat.pow_pos (by decide)
                have e24 : (2 : Nat) ^ 4 = 16 := rfl
                exact ⟨by omega, by omega⟩
              · show if decide (V.int ((((ld : Int).fdiv ((2 ^ vc : Nat) : Int)).fmod 2)) = V.int 0) = true then _ else _
                rw [bit_dec]
                by_cases hbit : ld / 2 ^ vc % 2 = 0
                · rw [decide_eq_true hbit]
                  rw [if_pos hbit] at lok4 ⊢
                  have lok4 : (lt ++ ((hts.map fun p => (p, ld)) ++ [(hts.getD vc 0, ld + 2 ^ vc)])).length ≤ 3072 := lok4
                  refine iteT ⟨_, rfl, .inl ⟨rfl, _, SqL.of hlB⟩, _, rfl, _, rfl, lm, _, _, _, rfl, rfl, SqL.of hlmA, atI_nat (by rw [nV_get, M.getD_at (d := 0) (by show vc < hts.length; omega)]; rfl), _, rfl, _, rfl, _, rfl, ma, _, _, .int ((2 ^ vc : Nat) : Int), rfl, rfl, SqL.of hmaA, atI_nat (marks_at (by omega)), _, _, rfl, rfl, szl, fun q3 hq3 => ?_⟩
                  have kq := kt_new (u := .tup [.int (hts.getD vc 0 : Nat), .int ((ld : Int) + ((2 ^ vc : Nat) : Int))]) hq3
                  have hlC := upd_old (u := .tup [.int (hts.getD vc 0 : Nat), .int ((ld : Int) + ((2 ^ vc : Nat) : Int))]) hlB hq3
                  have kk := kq.trans (kt_lst (u := .lst (ls ++ zs ++ [.ref q3])) hlC)
                  have lx := alsA.len
                  rw [List.length_append, List.length_append] at lx
                  refine ⟨l, _, _, rfl, rfl, hlC, sz_lt (by rw [List.length_append]; omega), ls ++ zs ++ [.ref q3], _, _, _, _, _, _, _, rfl, (swA.more (same_new hq3)).far m1 m2 m3, upd_far (upd_old hspA hq3) nsl, alA.imp fun _ _ => SpanAt.kt kk, upd_same, ?_⟩
                  show Al _ _ (lt ++ ((hts.map fun p => (p, ld)) ++ [(hts.getD vc 0, ld + 2 ^ vc)]))
                  rw [← List.append_assoc]
                  exact (alsA.imp fun _ _ => SpanAt.kt kk).push ⟨q3, rfl, (kt_lst (u := .lst (ls ++ zs ++ [.ref q3])) hlC q3 _ upd_same).trans rfl⟩
                · rw [decide_eq_false hbit]
                  rw [if_neg hbit]
                  refine iteF ⟨ls ++ zs, _, _, _, _, _, _, _, rfl, swA, hspA, alA, hlB, ?_⟩
                  show Al _ _ (lt ++ ((hts.map fun p => (p, ld)) ++ []))
                  rw [List.append_nil]
                  exact alsA
        · obtain ⟨ls, x11, x12, x13, x14, x15, x16, x17, rfl, sw8, hsp8, al8, hl8, als⟩ := p
          have e : st.take us.length = st := by rw [al8.len]; exact all_take _
          obtain ⟨lok1, lok2, lok3⟩ := M.level_ok (c := i + 1) hmvok h5 tok hin us.length
          rw [e] at sw8 als lok1 lok2 lok3
          have el : st.foldl (M.visit (M.mvOf t) (i + 1)) (b, []) = M.levelL (M.mvOf t) (i + 1) b st := rfl
          rw [el] at sw8 als lok1 lok2 lok3
          generalize M.levelL (M.mvOf t) (i + 1) b st = ab at sw8 als lok1 lok2 lok3 hb
          obtain ⟨bb, lt⟩ := ab
          refine ⟨_, rfl, szl, fun p0 hp0 => ?_⟩
          have hl9 := upd_old (u := .lst []) hl8 hp0
          have als9 := als.imp fun _ _ => SpanAt.kt (kt_new (u := .lst []) hp0)
          refine ⟨.list (lt.map pd), .list [], .lst (SqL.of hl9) (pairs_Dp als9), .lst (SqL.of upd_same) .nil, pairs_shaped lt, by decide +kernel, _, rfl, ?_⟩
          rw [pairs_eqv]
          have sw9 := sw8.more (same_new (u := .lst []) hp0)
          cases lt with
          | nil =>
            refine iteT ?_
            have hb : bb = M.searchL t st0 kind := hb
            rw [hb] at sw9
            exact ⟨_, rfl, k _ D (((s1.trans s2).trans s3).trans sw9.same) ⟨cs, sw9.hD, sw9.al, (s1.trans (s2.trans s3)).free hD, fun c hc => (s1.trans (s2.trans s3)).free (sw9.new c hc).1⟩⟩
          | cons x lt =>
            refine iteF ⟨_, rfl, ?_⟩
            have hb : M.bfs (M.mvOf t) (599 - (i + 1)) (i + 1 + 1) bb (x :: lt) = M.searchL t st0 kind := by
              have hb : (if (x :: lt) = [] then bb else M.bfs (M.mvOf t) (599 - (i + 1)) (i + 1 + 1) bb (x :: lt)) = M.searchL t st0 kind := hb
              rw [if_neg (by simp)] at hb
              exact hb
            exact ⟨l, ls, bb, x :: lt, _, _, _, _, _, _, _, _, _, rfl, sw9, hl9, m2, m3, als9, lok1, lok2, lok3, hb⟩
      · obtain ⟨sp, us, b, st, x9, x10, x11, x12, x13, x14, x15, x16, x17, rfl, sw6, _, _, _, _, _, _, _, hb⟩ := p
        have hb : b = M.searchL t st0 kind := hb
        rw [hb] at sw6
        exact ⟨_, rfl, k _ D (((s1.trans s2).trans s3).trans sw6.same) ⟨cs, sw6.hD, sw6.al, (s1.trans (s2.trans s3)).free hD, fun c hc => (s1.trans (s2.trans s3)).free (sw6.new c hc).1⟩⟩
end
end My

set_option Elab.async false
set_option maxRecDepth 100000
set_option maxHeartbeats 4000000
namespace My
open PySem PySem.Spec PyProof.Rows L2
open M (Ch Need chOf agreeP Sst Tab Mv)
abbrev s__law_found : Stmt := top 49
abbrev N__law_found : List Str := ["_law_many", "_law_best", "_law_start", "_law_end", "_law_renewed_here", "_law_every_here", "_law_loaded", "_law_found_here", "_law_counts", "_law_known", "_law_slot", "_law_k", "_law_count"]
theorem sc__law_found : FnScope N__law_found ["_law_many", "_law_best", "_law_start", "_law_end", "_law_renewed_here"] (defScope s__law_found) := ⟨rfl, rfl, rfl, by decide +kernel, rfl, by decide +kernel, by decide +kernel⟩
abbrev s__law_least : Stmt := top 50
abbrev N__law_least : List Str := ["_law_value", "_law_count"]
theorem sc__law_least : FnScope N__law_least ["_law_value"] (defScope s__law_least) := ⟨rfl, rfl, rfl, by decide +kernel, rfl, by decide +kernel, by decide +kernel⟩
theorem ints_lay : ∀ l : List Nat, PyData.canLayAll0 (l.map fun n : Nat => PyData.int n) = true ∧ PyData.depthAll (l.map fun n : Nat => PyData.int n) ≤ 1
  | [] => by simp [PyData.canLayAll0, PyData.depthAll]
  | s :: l => by
    obtain ⟨h1, h2⟩ := ints_lay l
    refine ⟨?_, ?_⟩
    · rw [List.map_cons, PyData.canLayAll0, h1]; simp [PyData.canLay0]
    · rw [List.map_cons, PyData.depthAll]; simp [PyData.depth]; omega
theorem ints_shaped (l : List Nat) : SeqAt.shaped (.list (l.map fun n : Nat => PyData.int n)) = true := by
  obtain ⟨h1, h2⟩ := ints_lay l
  unfold SeqAt.shaped
  rw [PyData.canLay0, h1, PyData.depth]
  simp; omega
theorem ints_eqv (l : List Nat) : PyData.eqv (.list (l.map fun n : Nat => PyData.int n)) (.list []) = (l == []) := by
  cases l with
  | nil => simp [PyData.eqv, PyData.eqvAll]
  | cons s l => simp [PyData.eqv, PyData.eqvAll]
theorem ints_Dp {K : PySem.W.Frag} {H : Hp} : ∀ l : List Nat, DpAll K H (nV l) (l.map fun n : Nat => PyData.int n)
  | [] => .nil
  | n :: l => .cons (.int _) (ints_Dp l)
theorem ints_refl : ∀ l : List Nat, PyData.eqvAll (l.map fun n : Nat => PyData.int n) (l.map fun n : Nat => PyData.int n) = true
  | [] => by simp [PyData.eqvAll]
  | n :: l => by rw [List.map_cons, PyData.eqvAll, ints_refl l]; simp [PyData.eqv]
theorem sum_cast (l : List Nat) : (l.map fun n : Nat => (n : Int)).sum = ((l.sum : Nat) : Int) := by
  induction l with
  | nil => rfl
  | cons x l ih => rw [List.map_cons, List.sum_cons, List.sum_cons, ih, Int.natCast_add]
theorem min_smallest {l : List Nat} {m : Int} (hm : m ∈ l.map fun n : Nat => (n : Int)) (hl : ∀ y ∈ l.map (fun n : Nat => (n : Int)), m ≤ y) : V.int m = oV (M.smallest l) := by
  cases l with
  | nil => simp at hm
  | cons n r =>
    obtain ⟨j, hj, rfl⟩ := List.mem_map.mp hm
    obtain ⟨h1, h2, h3⟩ := M.foldl_min_le r n
    have e : j = r.foldl min n := by
      have g1 : (j : Int) ≤ (r.foldl min n : Nat) := hl _ (List.mem_map.mpr ⟨_, by rcases h3 with z | z <;> simp [z], rfl⟩)
      have g2 : r.foldl min n ≤ j := by
        rcases List.mem_cons.mp hj with z | z
        · rw [z]; exact h1
        · exact h2 j z
      omega
    rw [e]; rfl
section
variable {P : Program} {w : World} {K : PySem.W.Frag} {mg : Str → Option Value} {base : Heap} {C : Addr}
def sp_found (K : PySem.W.Frag) : Sp := fun vs H Q _ => ∃ (bb b1 b2 br : Addr) (n : Nat) (T1 T2 : Tab) (s e : List Ch) (R : List Nat), vs = [.int n, .ref bb, .str (patS s), .str (patS e), .ref br] ∧ H bb = some (.lst [.ref b1, .ref b2]) ∧ TabAt H b1 T1 ∧ TabAt H b2 T2 ∧ M.TabOk n T1 ∧ M.TabOk n T2 ∧
  0 < n ∧ n ≤ 5 ∧ s.length + 1 = n ∧ e.length + 1 = n ∧ H br = some (.lst (nV R)) ∧ R.Nodup ∧ (∀ x ∈ R, x < n) ∧ R.length ≤ 1000 ∧ ∀ H' p, Same H H' → H' p = some (.tup (needV (M.foundN n T1 T2 s e R))) → Q (.ref p) H'
theorem d__law_found (T : Tx K mg) (F : FunAt K mg "_law_found" s__law_found) (d__law_every : Def P w K mg base "_law_every" ["_law_size"] 1 sp_every) (d__law_agree : Def P w K mg base "_law_agree" ["_law_now", "_law_end"] 1 sp_agree) :
    Def P w K mg base "_law_found" ["_law_many", "_law_best", "_law_start", "_law_end", "_law_renewed_here"] 2 (sp_found K) := by
  refine mk_def F sc__law_found (fun _ _ _ _ _ _ us hl => match us, hl with | [_, _, _, _, _], _ => rfl) (fun vs H Q E h => ?_) (fun f cdv A outer s H vs Q E hr h => ?_)
  · obtain ⟨_, _, _, _, _, _, _, _, _, _, rfl, _⟩ := h; rfl
  · obtain ⟨bb, b1, b2, br, n, T1, T2, st, en, R, rfl, hbb, ht1, ht2, ok1, ok2, h0, h5, hst, hen, hbr, hnd, hlt, hrl, k⟩ := h
    refine ⟨_, (pss_cons (ps_set (i := 5) sc__law_found.nd rfl (Or.inr rfl) (pe_def d__law_every hr (by rfl) (pa_cons (pe_op op_sub (pv 0) pe_int) pa_nil)))
      (pss_cons (ps_set (i := 6) sc__law_found.nd rfl (Or.inr rfl) (pe_callB (cr_sum rfl) (by rfl) T.b_sum (by decide +kernel) (pa_cons (pe_lc (own := [("_law_slot", 10)]) rfl sc__law_found.nd (pi_list (pv 4)) (blkOk_by (own := [("_law_slot", 10)]) (N := N__law_found) (sc := defScope s__law_found) (by decide +kernel)) (fun _ _ _ _ _ => (pg_name (i := 10) sc__law_found.nd rfl (Or.inl rfl))) (fun _ _ _ _ _ => pts_nil) (fun _ _ _ _ _ => (pe_ix (show IxR _ (rIxL K) from ix_list) (pe_lst (pa_cons pe_int (pa_cons pe_int (pa_cons pe_int (pa_cons pe_int (pa_cons pe_int pa_nil)))))) (pv 10) (fun _ _ => rfl)))) pa_nil)))
      (pss_cons (ps_set (i := 7) sc__law_found.nd rfl (Or.inl rfl) (pe_lst pa_nil))
      (pss_cons (ps_for PassesOwn.never rfl (pi_list (pv 1)) (pg_name (i := 8) sc__law_found.nd rfl (Or.inr rfl)) (pss_cons (ps_setLc (i := 9) (own := [("_law_k", 11)]) rfl sc__law_found.nd rfl rfl (sw_true rfl rfl rfl (by decide +kernel)) (pi_range1 (by rfl) T.b_range (pa_cons (pe_callB call_len_seq (by rfl) T.b_len (by decide +kernel) (pa_cons (pv 5) pa_nil)) pa_nil)) (blkOk_by (own := [("_law_k", 11)]) (N := N__law_found) (sc := defScope s__law_found) (by decide +kernel)) (fun _ _ _ _ _ => (pg_name (i := 11) sc__law_found.nd rfl (Or.inl rfl))) (fun _ _ _ _ _ => (pts_one (pt_val (pe_def d__law_agree hr (by rfl) (pa_cons (pe_ix (show IxR _ (rIxL K) from ix_list) (pv 5) (pv 11) (fun _ _ => rfl)) (pa_cons (pv 3) pa_nil)))))) (fun _ _ _ _ _ => (pe_ix (show IxR _ (rIxL K) from ix_list) (pe_ix (show IxR _ (rIxL K) from ix_list) (pv 8) (pv 11) (fun _ _ => rfl)) (pv 6) (fun _ _ => rfl))))
      (pss_cons (ps_setLc (i := 9) (own := [("_law_count", 12)]) rfl sc__law_found.nd rfl rfl (sw_true rfl rfl rfl (by decide +kernel)) (pi_list (pv 9)) (blkOk_by (own := [("_law_count", 12)]) (N := N__law_found) (sc := defScope s__law_found) (by decide +kernel)) (fun _ _ _ _ _ => (pg_name (i := 12) sc__law_found.nd rfl (Or.inl rfl))) (fun _ _ _ _ _ => (pts_one (pt_cmpR op_notN (pv 12) pe_non (nomark _)))) (fun _ _ _ _ _ => (pv 12)))
      (pss_one (ps_expr (pe_bm PySem.F.plainAttrs_list PySem.F.slot_list_append PySem.F.type_list_append mt_append (pv 7) (pa_cons (pe_ifExp (pt_truth (pv 9) (by intro _; rfl)) (pe_callB (cr_min rfl) (by rfl) T.b_min (by decide +kernel) (pa_cons (pv 9) pa_nil)) pe_non) pa_nil)))))))
      (pss_one (ps_ret (pe_tup (pa_cons (pe_callB call_len_seq (by rfl) T.b_len (by decide +kernel) (pa_cons (pv 4) pa_nil)) (pa_cons (pe_ix ix_list (pv 7) pe_int (fun _ _ => rfl)) (pa_cons (pe_ix ix_list (pv 7) pe_int (fun _ _ => rfl)) (pa_cons (pe_and (pe_cmpR (op_eqD hr.units) (pv 4) (pe_lst pa_nil) (nomark _)) (pe_one (pe_def d__law_agree hr (by rfl) (pa_cons (pv 2) (pa_cons (pv 3) pa_nil))))) pa_nil))))))))))), ?_⟩
    have en1 : (n : Int) - 1 = ((n - 1 : Nat) : Int) := by omega
    have h16 : 2 ^ (n - 1) ≤ 16 := by
      have h2 : 2 ^ (n - 1) ≤ 2 ^ 4 := Nat.pow_le_pow_right (by decide : 0 < 2) (show n - 1 ≤ 4 by omega)
      exact h2
    have hevl := every_len (n - 1)
    have hml := M.mask_lt n R hnd hlt
    refine ⟨_, rfl, _, _, rfl, rfl, n - 1, by show [V.int ((n : Int) - 1)] = _; rw [en1], by omega, fun H1 be s1 nbe hbe => ?_⟩
    refine ⟨_, rfl, br, rfl, ⟨_, SqL.of (s1 _ _ hbr)⟩, fun D hD => ?_⟩
    refine lc_acc (walk_list (K := K) (a := br) (xs := nV R)) (fun i => nV ((R.take i).map fun x => 2 ^ x)) hD rfl (fun Hx s => SqL.of (s _ _ (s1 _ _ hbr))) (fun i x Hx Hy hi g y => ?_) (fun H2 g2 => ?_)
    · obtain ⟨rfl, hx⟩ := y
      rw [nV_get] at hx
      obtain ⟨x, hx0, rfl⟩ := Option.map_eq_some_iff.mp hx
      have hx5 := hlt x (List.mem_of_getElem? hx0)
      refine ⟨rfl, szl, fun p0 hp0 => ⟨_, rfl, p0, _, _, .int ((2 ^ x : Nat) : Int), rfl, rfl, SqL.of upd_same, atI_nat (marks_at (by omega)), ?_⟩⟩
      rw [nV_len] at hi
      refine (g.add hp0).push (by rw [nV_len, List.length_map, List.length_take]; omega) ?_
      rw [take_snoc hx0, List.map_append, nV_snoc]; rfl
    · have eR : (R.take (nV R).length).map (fun x => 2 ^ x) = R.map fun x => 2 ^ x := by rw [nV_len, all_take]
      rw [eR] at g2
      refine ⟨D, (R.map fun x => 2 ^ x).map fun n : Nat => (n : Int), rfl, SqL.of (by rw [← nV_int]; exact g2.at_), ?_⟩
      rw [sum_cast, show (R.map fun x => 2 ^ x).sum = M.mask R from rfl]
      have hbe2 := g2.same _ _ hbe
      have sA := s1.trans g2.same
      refine ⟨szl, fun fo hfo => ?_⟩
      have g3 : Gw H2 fo (.lst []) (upd H2 fo (.lst [])) := Gw.start hfo
      generalize upd H2 fo (.lst []) = H3 at g3 ⊢
      refine ⟨_, rfl, bb, rfl, ⟨_, SqL.of (g3.same _ _ (sA _ _ hbb))⟩, for_list (xs := [.ref b1, .ref b2]) (fun i σ H' => ∃ x8 x9 x10 x11 x12, σ = [some (.int n), some (.ref bb), some (.str (patS st)), some (.str (patS en)), some (.ref br), some (.ref be), some (.int (M.mask R : Nat)), some (.ref fo), x8, x9, x10, x11, x12] ∧
        Gw H2 fo (.lst (([M.smallest (M.knownL (M.everyL (n - 1)) T1 en (M.mask R)), M.smallest (M.knownL (M.everyL (n - 1)) T2 en (M.mask R))].take i).map oV)) H') ⟨_, _, _, _, _, rfl, g3⟩ (fun i σ H' _ p => ?_) (fun i y σ H4 hy p => ?_) (fun σ H4 p => ?_)⟩
      · obtain ⟨_, _, _, _, _, _, g⟩ := p
        exact SqL.of (g.same _ _ (sA _ _ hbb))
      · obtain ⟨x8, x9, x10, x11, x12, rfl, g⟩ := p
        have hi : i = 0 ∨ i = 1 := by
          have := (List.getElem?_eq_some_iff.mp hy).1
          simp at this; omega
        obtain ⟨b, Tb, rfl, htb, okb, hnext⟩ : ∃ b Tb, y = .ref b ∧ TabAt H4 b Tb ∧ M.TabOk n Tb ∧ [M.smallest (M.knownL (M.everyL (n - 1)) T1 en (M.mask R)), M.smallest (M.knownL (M.everyL (n - 1)) T2 en (M.mask R))][i]? = some (M.smallest (M.knownL (M.everyL (n - 1)) Tb en (M.mask R))) := by
          rcases hi with rfl | rfl
          · exact ⟨b1, T1, by simpa using hy.symm, (ht1.more sA).more g.same, ok1, rfl⟩
          · exact ⟨b2, T2, by simpa using hy.symm, (ht2.more sA).more g.same, ok2, rfl⟩
        rw [take_snoc hnext, List.map_append]
        have hal : (([M.smallest (M.knownL (M.everyL (n - 1)) T1 en (M.mask R)), M.smallest (M.knownL (M.everyL (n - 1)) T2 en (M.mask R))].take i).map oV).length ≤ 2 := by rw [List.length_map, List.length_take]; simp; omega
        generalize (([M.smallest (M.knownL (M.everyL (n - 1)) T1 en (M.mask R)), M.smallest (M.knownL (M.everyL (n - 1)) T2 en (M.mask R))].take i).map oV) = pre at g hal ⊢
        clear hnext hy
        obtain ⟨cs, hb, tal⟩ := htb
        have hbe4 := g.same _ _ hbe2
        refine ⟨_, rfl, _, _, rfl, .inl (SqL.of hbe4), _, rfl, by omega, by rw [eV_len, hevl]; omega, fun D2 hD2 => ?_⟩
        rw [show (((eV (M.everyL (n - 1))).length : Nat) : Int).toNat = 2 ^ (n - 1) by rw [eV_len, hevl]; omega]
        refine lc_acc walk_rg (fun i => (((List.range i).filter fun k => agreeP (((M.everyL (n - 1)).getD k []).map chOf) en).map fun k => M.getT Tb (k, M.mask R)).map oV) hD2 rfl (fun _ _ => trivial) (fun j x H5 H6 hj g5 y => ?_) (fun H5 g5 => ?_)
        · obtain ⟨rfl, rfl⟩ := y
          obtain ⟨fl, hfl⟩ : ∃ fl, (M.everyL (n - 1))[j]? = some fl := ⟨_, List.getElem?_eq_getElem (by rw [hevl]; exact hj)⟩
          have efl : (M.everyL (n - 1)).getD j [] = fl := by rw [List.getD_eq_getElem?_getD, hfl]; rfl
          have hfll := every_mem _ fl (List.mem_of_getElem? hfl)
          refine ⟨rfl, _, rfl, _, rfl, be, _, _, _, rfl, rfl, SqL.of (g5.same _ _ hbe4), atI_nat (by rw [eV_get, hfl]; rfl), _, rfl, fl.map chOf, en, rfl, by rw [List.length_map]; omega, by omega, _, rfl, ?_⟩
          rw [List.range_succ, List.filter_append]
          have hfe : (([j] : List Nat).filter fun k => agreeP (((M.everyL (n - 1)).getD k []).map chOf) en) = if agreeP (fl.map chOf) en then [j] else [] := by rw [List.filter_cons, efl]; rfl
          rw [hfe]
          cases hag : agreeP (fl.map chOf) en with
          | false =>
            refine iteF ?_
            simpa using g5
          | true =>
            obtain ⟨t1, t2, t3⟩ := M.tab_at okb (s := (j, M.mask R)) ⟨hj, hml⟩
            obtain ⟨c, hc, hcv⟩ := tal.get' t1
            refine iteT ⟨_, rfl, _, rfl, b, _, _, .ref c, rfl, rfl, SqL.of (g5.same _ _ hb), atI_nat (by rw [List.getElem?_map, hc]; rfl), _, rfl, c, _, _, oV (M.getT Tb (j, M.mask R)), rfl, rfl, SqL.of (g5.same _ _ hcv), atI_nat (by rw [rowV, List.getElem?_map, t3]; rfl), g5.push ?_ ?_⟩
            · rw [List.length_map, List.length_map]
              have := List.length_filter_le (fun k => agreeP (((M.everyL (n - 1)).getD k []).map chOf) en) (List.range j)
              rw [List.length_range] at this
              omega
            · rw [List.map_append, List.map_append]; rfl
        · generalize hks : (((List.range (2 ^ (n - 1))).filter fun k => agreeP (((M.everyL (n - 1)).getD k []).map chOf) en).map fun k => M.getT Tb (k, M.mask R)) = ks at g5
          have hkl : M.knownL (M.everyL (n - 1)) Tb en (M.mask R) = ks.filterMap id := by
            rw [M.knownL, hevl, ← hks, List.filterMap_map]; rfl
          have hksl : ks.length ≤ 16 := by
            rw [← hks, List.length_map]
            have := List.length_filter_le (fun k => agreeP (((M.everyL (n - 1)).getD k []).map chOf) en) (List.range (2 ^ (n - 1)))
            rw [List.length_range] at this
            omega
          rw [hkl]
          have hg5 := g5.at_
          refine ⟨_, rfl, D2, rfl, ⟨_, SqL.of hg5⟩, fun D3 hD3 => ?_⟩
          refine lc_acc (walk_list (K := K) (a := D2) (xs := ks.map oV)) (fun i => nV ((ks.take i).filterMap id)) hD3 rfl (fun Hx s => SqL.of (s _ _ hg5)) (fun j x Hx Hy hj g6 y => ?_) (fun H6 g6 => ?_)
          · obtain ⟨rfl, hx⟩ := y
            rw [List.getElem?_map] at hx
            obtain ⟨o, ho, rfl⟩ := Option.map_eq_some_iff.mp hx
            rw [take_snoc ho, List.filterMap_append]
            rw [List.length_map] at hj
            cases o with
            | none =>
              refine ⟨rfl, _, rfl, rfl, _, rfl, iteF ?_⟩
              simpa using g6
            | some m =>
              refine ⟨rfl, _, rfl, rfl, _, rfl, iteT ⟨_, rfl, g6.push ?_ ?_⟩⟩
              · rw [nV_len]
                have := List.length_filterMap_le (id : Option Nat → Option Nat) (ks.take j)
                rw [List.length_take] at this
                omega
              · rw [show ([some m] : List (Option Nat)).filterMap id = [m] from rfl, ← nV_snoc]; rfl
          · have e6 : ks.take (ks.map oV).length = ks := by rw [List.length_map]; exact all_take _
            rw [e6] at g6
            generalize ks.filterMap id = kn at g6 ⊢
            have hfo6 := g6.same _ _ (g5.same _ _ g.at_)
            have fin : ∀ (v : V), v = oV (M.smallest kn) → ∃ l xs y, V.ref fo = .ref l ∧ [v] = [y] ∧ H6 l = some (.lst xs) ∧ xs.length < sizeLine ∧ Gw H2 fo (.lst (pre ++ [oV (M.smallest kn)])) (upd H6 l (.lst (xs ++ [y]))) := fun v hv => by
              subst hv
              exact ⟨fo, _, _, rfl, rfl, hfo6, sz_lt (by omega), ((g.more g5.same).more g6.same).put⟩
            refine ⟨_, rfl, .inl ⟨rfl, _, SqL.of hfo6⟩, _, rfl, _, .inl ⟨_, SqL.of g6.at_, rfl⟩, ?_⟩
            cases kn with
            | nil =>
              refine iteF ?_
              obtain ⟨l, xs, y, h1, h2, h3, h4, h5⟩ := fin .non rfl
              exact ⟨l, xs, y, h1, h2, h3, h4, _, _, _, _, _, rfl, h5⟩
            | cons x r =>
              refine iteT ⟨_, rfl, D3, (x :: r).map fun n : Nat => (n : Int), rfl, SqL.of (by rw [← nV_int]; exact g6.at_), by simp, fun m hm hle => ?_⟩
              obtain ⟨l, xs, y, h1, h2, h3, h4, h5⟩ := fin (.int m) (min_smallest hm hle)
              exact ⟨l, xs, y, h1, h2, h3, h4, _, _, _, _, _, rfl, h5⟩
      · obtain ⟨x8, x9, x10, x11, x12, rfl, g⟩ := p
        have hg := g.at_
        have sB := sA.trans g.same
        have hbr4 := sB _ _ hbr
        refine ⟨_, rfl, _, _, rfl, .inl (SqL.of hbr4), _, rfl, fo, _, _, _, rfl, rfl, SqL.of hg, atI_nat (j := 0) rfl, _, rfl, fo, _, _, _, rfl, rfl, SqL.of hg, atI_nat (j := 1) rfl, ?_⟩
        rw [nV_len]
        refine ⟨_, rfl, szl, fun p0 hp0 => ?_⟩
        refine ⟨.list (R.map fun n : Nat => PyData.int n), .list [], .lst (SqL.of (upd_old hbr4 hp0)) (ints_Dp R), .lst (SqL.of upd_same) .nil, ints_shaped R, by decide +kernel, _, rfl, ?_⟩
        rw [ints_eqv]
        have fin : ∀ (c : Bool), c = (R == [] && agreeP st en) → ∀ p, upd H4 p0 (.lst []) p = none → Q (.ref p) (upd (upd H4 p0 (.lst [])) p (.tup [.int (R.length : Nat), oV (M.smallest (M.knownL (M.everyL (n - 1)) T1 en (M.mask R))), oV (M.smallest (M.knownL (M.everyL (n - 1)) T2 en (M.mask R))), .bl c])) := fun c hc p hp => by
          refine k _ p ((sB.trans (same_new hp0)).trans (same_new hp)) ?_
          rw [upd_same, hc]; rfl
        cases hR : (R == []) with
        | false => exact iteF ⟨szl, fun p hp => fin false (by rw [hR]; rfl) p hp⟩
        | true => exact iteT ⟨_, rfl, _, rfl, st, en, rfl, by omega, by omega, szl, fun p hp => fin _ (by rw [hR]; rfl) p hp⟩
end
end My

set_option Elab.async false
set_option maxRecDepth 100000
set_option maxHeartbeats 4000000
namespace My
open PySem PySem.Spec PyProof.Rows L2
open M (Ch Need chOf agreeP Sst Tab Mv)
section
variable {P : Program} {w : World} {K : PySem.W.Frag} {mg : Str → Option Value} {base : Heap} {C : Addr}
def sp_least : Sp := fun vs H Q _ => ∃ (a : Addr) (N : Need), vs = [.ref a] ∧ H a = some (.tup (needV N)) ∧ (N.em = false → N.ld ≠ none ∨ N.ht ≠ none) ∧ ∀ H', Same H H' → Q (oV (M.leastN N)) H'
theorem cut13 (a b c d : V) : cutV [a, b, c, d] (some 1) (some 3) = [b, c] := rfl
theorem nwhole4 (a b c d : V) : ¬ (HT.sIx [a, b, c, d].length 0 (some 1) = 0 ∧ HT.sIx [a, b, c, d].length [a, b, c, d].length (some 3) = [a, b, c, d].length) := by
  intro z
  have := z.1
  simp [HT.sIx] at this
theorem d__law_least (T : Tx K mg) (F : FunAt K mg "_law_least" s__law_least) : Def P w K mg base "_law_least" ["_law_value"] 1 sp_least := by
  refine mk_def F sc__law_least (fun _ _ _ _ _ _ us hl => match us, hl with | [_], _ => rfl) (fun vs H Q E h => ?_) (fun f cdv A outer s H vs Q E hr h => ?_)
  · obtain ⟨_, _, rfl, _⟩ := h; rfl
  · obtain ⟨a, N, rfl, ha, hN, k⟩ := h
    obtain ⟨np, nl, nh, ne⟩ := N
    refine ⟨_, (pss_cons (ps_if (pt_truth (pe_ix ix_tup (pv 0) pe_int (fun _ _ => rfl)) (by intro _; rfl)) (pss_one (ps_ret pe_int)) pss_nil)
      (pss_one (ps_ret (pe_callB (cr_min rfl) (by rfl) T.b_min (by decide +kernel) (pa_cons (pe_lc (own := [("_law_count", 1)]) rfl sc__law_least.nd (pi_tup (pe_slice sl_tupA (pv 0) (po_some pe_int) (po_some pe_int))) (blkOk_by (own := [("_law_count", 1)]) (N := N__law_least) (sc := defScope s__law_least) (by decide +kernel)) (fun _ _ _ _ _ => (pg_name (i := 1) sc__law_least.nd rfl (Or.inl rfl))) (fun _ _ _ _ _ => (pts_one (pt_cmpR op_notN (pv 1) pe_non (nomark _)))) (fun _ _ _ _ _ => (pv 1))) pa_nil))))), ?_⟩
    refine ⟨_, rfl, a, _, _, _, rfl, rfl, SqT.of ha, atI_nat (j := 3) rfl, ne, rfl, ?_⟩
    cases ne with
    | true => exact iteT (k _ (Same.refl _))
    | false =>
      refine iteF ?_
      refine ⟨_, rfl, _, rfl, _, rfl, a, _, rfl, SqT.of ha, fun z => absurd z (nwhole4 _ _ _ _), fun _ p hp => ?_⟩
      rw [show cutV (needV ⟨np, nl, nh, false⟩) (some 1) (some 3) = [oV nl, oV nh] from cut13 _ _ _ _]
      refine ⟨p, rfl, ⟨_, SqT.of upd_same⟩, fun D hD => ?_⟩
      refine lc_acc (walk_tup (K := K) (a := p) (xs := [oV nl, oV nh])) (fun i => nV (([nl, nh].take i).filterMap id)) hD rfl (fun H' s2 => same_tup s2 (SqT.of upd_same)) (fun i x H2 H3 hi g y => ?_) (fun H2 g => ?_)
      · obtain ⟨rfl, hx⟩ := y
        obtain ⟨o, ho, rfl⟩ : ∃ o, [nl, nh][i]? = some o ∧ x = oV o := by
          have hi : i = 0 ∨ i = 1 := by simp at hi; omega
          rcases hi with rfl | rfl
          · exact ⟨nl, rfl, by simpa using hx.symm⟩
          · exact ⟨nh, rfl, by simpa using hx.symm⟩
        rw [take_snoc ho] at *
        have hl : (([nl, nh].take i).filterMap id).length ≤ 2 := Nat.le_trans (List.length_filterMap_le _ _) (by rw [List.length_take]; simp; omega)
        cases o with
        | none =>
          refine ⟨rfl, _, rfl, rfl, _, rfl, iteF ?_⟩
          simpa using g
        | some n =>
          refine ⟨rfl, _, rfl, rfl, _, rfl, iteT ⟨_, rfl, g.push (by rw [nV_len]; omega) ?_⟩⟩
          simp [nV]; rfl
      · have hne : ([nl, nh].filterMap id) ≠ [] := by
          rcases hN rfl with h | h
          · cases nl with
            | none => exact absurd rfl h
            | some x => simp
          · cases nh with
            | none => exact absurd rfl h
            | some x => cases nl <;> simp
        refine ⟨D, ([nl, nh].filterMap id).map fun n : Nat => (n : Int), rfl, SqL.of (by rw [← nV_int]; exact g.at_), ?_, fun m hm hle => ?_⟩
        · rw [List.length_map]
          exact List.length_pos_iff.mpr hne
        · rw [min_smallest hm hle]
          exact k _ ((same_new hp).trans g.same)
end
end My

set_option Elab.async false
set_option maxRecDepth 100000
set_option maxHeartbeats 4000000
namespace My
open PySem PySem.Spec PyProof.Rows L2
open M (Ch Need chOf agreeP Sst Tab Mv)
abbrev s__law_rows_told : Stmt := top 51
abbrev N__law_rows_told : List Str := ["_law_rows_here", "_law_table", "_law_start", "_law_end", "_law_renewed_here", "_law_k", "_law_fork", "_law_low", "_law_high", "_law_many", "_law_below", "_law_inside", "_law_begin", "_law_best", "_law_row", "_law_slot", "_law_kind"]
theorem sc__law_rows_told : FnScope N__law_rows_told ["_law_rows_here", "_law_table", "_law_start", "_law_end", "_law_renewed_here"] (defScope s__law_rows_told) := ⟨rfl, rfl, rfl, by decide +kernel, rfl, by decide +kernel, by decide +kernel⟩
theorem Sc.oV (o : Option Nat) : Sc (oV o) := by cases o <;> constructor
theorem sc_row (f : Int) (N : Need) : ∀ x ∈ V.int f :: needV N, Sc x := by
  intro x hx
  simp only [needV, List.mem_cons, List.not_mem_nil, or_false] at hx
  rcases hx with rfl | rfl | rfl | rfl | rfl
  · exact .int _
  · exact .int _
  · exact Sc.oV _
  · exact Sc.oV _
  · exact .bl _
theorem cutS_pat (s : List Ch) (lo hi : Nat) (h1 : lo ≤ hi) (h2 : hi ≤ s.length) : cutS (patS s) (some (lo : Int)) (some (hi : Int)) = patS (M.cutP s lo (hi - lo)) := by
  unfold cutS
  rw [HT.sIx_nat, HT.sIx_nat, pat_len, Nat.min_eq_left (show lo ≤ s.length by omega), Nat.min_eq_left h2]
  simp [patS, M.cutP, List.map_drop, List.map_take]
theorem le_dec (a b : Nat) : decide ((a : Int) ≤ (b : Int)) = decide (a ≤ b) := by simp
section
variable {P : Program} {w : World} {K : PySem.W.Frag} {mg : Str → Option Value} {base : Heap} {C : Addr}
def sp_told : Sp := fun vs H Q _ => ∃ (a tb br : Addr) (t : M.T) (s e : List Ch) (R : List Nat) (us : List V), vs = [.ref a, .ref tb, .str (patS s), .str (patS e), .ref br] ∧ RowsAt H a (M.rowsOf t 0) ∧ H tb = some (.lst us) ∧ Al (RowAt H) us (M.needRows t s e R) ∧ t.sz ≤ 5 ∧ s.length + 1 = t.sz ∧ e.length + 1 = t.sz ∧
  H br = some (.lst (nV R)) ∧ R.Nodup ∧ (∀ x ∈ R, x < t.sz) ∧ R.length ≤ 1000 ∧ ∀ H', Same H H' → Q (.bl true) H'
theorem d__law_rows_told (T : Tx K mg) (F : FunAt K mg "_law_rows_told" s__law_rows_told) (d__law_searched : Def P w K mg base "_law_searched" ["_law_rows_here", "_law_many", "_law_start", "_law_kind"] 3 sp_searched) (d__law_found : Def P w K mg base "_law_found" ["_law_many", "_law_best", "_law_start", "_law_end", "_law_renewed_here"] 2 (sp_found K))
    (d__law_same : Def P w K mg base "_law_same" ["_law_value", "_law_due"] 3 sp_same2) : Def P w K mg base "_law_rows_told" ["_law_rows_here", "_law_table", "_law_start", "_law_end", "_law_renewed_here"] 4 sp_told := by
  refine mk_def F sc__law_rows_told (fun _ _ _ _ _ _ us hl => match us, hl with | [_, _, _, _, _], _ => rfl) (fun vs H Q E h => ?_) (fun f cdv A outer s H vs Q E hr h => ?_)
  · obtain ⟨_, _, _, _, _, _, _, _, rfl, _⟩ := h; rfl
  · obtain ⟨a, tb, br, t, st, en, R, us, rfl, hrows, htb, hal, h5, hst, hen, hbr, hnd, hlt, hrl, k⟩ := h
    refine ⟨_, (pss_cons (ps_for PassesOwn.never rfl (pi_range1 (by rfl) T.b_range (pa_cons (pe_op op_sub (pe_callB call_len_seq (by rfl) T.b_len (by decide +kernel) (pa_cons (pv 0) pa_nil)) pe_int) pa_nil)) (pg_name (i := 5) sc__law_rows_told.nd rfl (Or.inl rfl)) (pss_cons (ps_asg (pe_ix ix_list (pv 0) (pv 5) (fun _ _ => rfl)) (pg_tup rfl (pgs_cons (pg_name (i := 6) sc__law_rows_told.nd rfl (Or.inl rfl)) (pgs_cons (pg_name (i := 7) sc__law_rows_told.nd rfl (Or.inr rfl)) (pgs_cons (pg_name (i := 8) sc__law_rows_told.nd rfl (Or.inr rfl)) pgs_nil)))))
      (pss_cons (ps_set (i := 9) sc__law_rows_told.nd rfl (Or.inr rfl) (pe_op op_add (pe_op op_sub (pv 8) (pv 7)) pe_int))
      (pss_cons (ps_set (i := 10) sc__law_rows_told.nd rfl (Or.inr rfl) (pe_lc (own := [("_law_row", 14)]) rfl sc__law_rows_told.nd (pi_list (pv 0)) (blkOk_by (own := [("_law_row", 14)]) (N := N__law_rows_told) (sc := defScope s__law_rows_told) (by decide +kernel)) (fun _ _ _ _ _ => (pg_name (i := 14) sc__law_rows_told.nd rfl (Or.inl rfl))) (fun _ _ _ _ _ => (pts_one (PW.pt (pw_and (pt_cmpR op_le (pv 7) (pe_ix (show IxR _ (rIxT K) from ix_tup) (pv 14) pe_int (fun _ _ => rfl)) (nomark _)) (pw_and1 (pt_cmpR op_le (pe_ix (show IxR _ (rIxT K) from ix_tup) (pv 14) pe_int (fun _ _ => rfl)) (pv 8) (nomark _))))))) (fun _ _ _ _ _ => (pv 14))))
      (pss_cons (ps_set (i := 10) sc__law_rows_told.nd rfl (Or.inr rfl) (pe_lc (own := [("_law_row", 14)]) rfl sc__law_rows_told.nd (pi_list (pv 10)) (blkOk_by (own := [("_law_row", 14)]) (N := N__law_rows_told) (sc := defScope s__law_rows_told) (by decide +kernel)) (fun _ _ _ _ _ => (pg_name (i := 14) sc__law_rows_told.nd rfl (Or.inl rfl))) (fun _ _ _ _ _ => pts_nil) (fun _ _ _ _ _ => (pe_tup (pa_cons (pe_op op_sub (pe_ix (show IxR _ (rIxT K) from ix_tup) (pv 14) pe_int (fun _ _ => rfl)) (pv 7)) (pa_cons (pe_op op_sub (pe_ix (show IxR _ (rIxT K) from ix_tup) (pv 14) pe_int (fun _ _ => rfl)) (pv 7)) (pa_cons (pe_op op_sub (pe_ix (show IxR _ (rIxT K) from ix_tup) (pv 14) pe_int (fun _ _ => rfl)) (pv 7)) pa_nil)))))))
      (pss_cons (ps_setLc (i := 11) (own := [("_law_slot", 15)]) rfl sc__law_rows_told.nd rfl rfl (sw_true rfl rfl rfl (by decide +kernel)) (pi_list (pv 4)) (blkOk_by (own := [("_law_slot", 15)]) (N := N__law_rows_told) (sc := defScope s__law_rows_told) (by decide +kernel)) (fun _ _ _ _ _ => (pg_name (i := 15) sc__law_rows_told.nd rfl (Or.inl rfl))) (fun _ _ _ _ _ => (pts_one (PW.pt (pw_and (pt_cmpR op_le (pv 7) (pv 15) (nomark _)) (pw_and1 (pt_cmpR op_le (pv 15) (pv 8) (nomark _))))))) (fun _ _ _ _ _ => (pe_op op_sub (pv 15) (pv 7))))
      (pss_cons (ps_set (i := 12) sc__law_rows_told.nd rfl (Or.inr rfl) (pe_slice sl_str (pv 2) (po_some (pv 7)) (po_some (pv 8))))
      (pss_cons (ps_setLc (i := 13) (own := [("_law_kind", 16)]) rfl sc__law_rows_told.nd rfl rfl (sw_true rfl rfl rfl (by decide +kernel)) (pi_tup (pe_tup (pa_cons pe_int (pa_cons pe_int pa_nil)))) (blkOk_by (own := [("_law_kind", 16)]) (N := N__law_rows_told) (sc := defScope s__law_rows_told) (by decide +kernel)) (fun _ _ _ _ _ => (pg_name (i := 16) sc__law_rows_told.nd rfl (Or.inl rfl))) (fun _ _ _ _ _ => pts_nil) (fun _ _ _ _ _ => (pe_def d__law_searched hr (by rfl) (pa_cons (pv 10) (pa_cons (pv 9) (pa_cons (pv 12) (pa_cons (pv 16) pa_nil)))))))
      (pss_one (ps_if (pt_not (pt_val (pe_def d__law_same hr (by rfl) (pa_cons (pe_ix ix_list (pv 1) (pv 5) (fun _ _ => rfl)) (pa_cons (pe_op op_catA (pe_tup (pa_cons (pv 6) pa_nil)) (pe_def d__law_found hr (by rfl) (pa_cons (pv 9) (pa_cons (pv 13) (pa_cons (pv 12) (pa_cons (pe_slice sl_str (pv 3) (po_some (pv 7)) (po_some (pv 8))) (pa_cons (pv 11) pa_nil))))))) pa_nil))))) (pss_one (ps_ret pe_bl)) pss_nil))))))))))
      (pss_one (ps_ret pe_bl))), ?_⟩
    obtain ⟨rus, hrus, ral⟩ := hrows
    have hrlen : rus.length + 1 = t.sz := by rw [ral.len]; exact M.rowsOf_len t 0
    refine ⟨_, rfl, _, _, rfl, .inl (SqL.of hrus), _, _, rfl, rfl, _, rfl, by omega, by omega, ?_⟩
    show (fun J H1 => _) (Itr 0 (((rus.length : Nat) : Int) - 1).toNat) H
    rw [show (((rus.length : Nat) : Int) - 1).toNat = rus.length - 1 by omega]
    refine for_it walk_rg (fun i σ H' => ∃ x5 x6 x7 x8 x9 x10 x11 x12 x13 x14 x15 x16, σ = [some (.ref a), some (.ref tb), some (.str (patS st)), some (.str (patS en)), some (.ref br), x5, x6, x7, x8, x9, x10, x11, x12, x13, x14, x15, x16] ∧ Same H H') ⟨_, _, _, _, _, _, _, _, _, _, _, _, rfl, Same.refl _⟩ (fun _ _ _ _ _ => trivial) (fun i y σ Hz H1 hi p hy => ?_) (fun σ H1 p => ?_)
    · obtain ⟨x5, x6, x7, x8, x9, x10, x11, x12, x13, x14, x15, x16, rfl, s1⟩ := p
      obtain ⟨rfl, rfl⟩ := hy
      obtain ⟨u, hu⟩ : ∃ u, (M.subs t 0)[i]? = some u := ⟨_, List.getElem?_eq_getElem (by have := M.subs_len t 0; omega)⟩
      obtain ⟨hrow, hbelow, husz⟩ := M.below_ok h5 hu
      have huz := u.1.sz_pos
      obtain ⟨rv, hrv, q, rfl, hq⟩ := ral.get' hrow
      have hq : H q = some (.tup [.int (M.forkOf u.1 u.2 : Nat), .int (u.2 : Nat), .int ((u.2 + u.1.sz - 1 : Nat) : Int)]) := hq
      refine ⟨_, rfl, _, rfl, a, rus, _, _, rfl, rfl, SqL.of (s1 _ _ hrus), atI_nat hrv, q, _, rfl, SqT.of (s1 _ _ hq), rfl, _, _, rfl, _, _, rfl, _, _, rfl, rfl, ?_⟩
      have hsub := M.sub_need (s := st) (e := en) (R := R) husz hst hen
      obtain ⟨sub, o⟩ := u
      have huz : 0 < sub.sz := huz
      have husz : o + sub.sz ≤ t.sz := husz
      dsimp only
      refine asg_pure (v := .int (sub.sz : Nat)) (fun Q q => ⟨_, rfl, _, rfl, _, _, rfl, rfl, _, _, rfl, rfl, ?_⟩) ?_
      · show Q (.int (((o + sub.sz - 1 : Nat) : Int) - (o : Nat) + 1)) H1
        rw [show ((o + sub.sz - 1 : Nat) : Int) - (o : Nat) + 1 = (sub.sz : Nat) by omega]
        exact q
      refine ⟨_, rfl, a, rfl, ⟨_, SqL.of (s1 _ _ hrus)⟩, fun D hD => ?_⟩
      refine lc_it (walk_list (K := K) (a := a) (xs := rus)) (fun j H' => ∃ zs, Gw H1 D (.lst zs) H' ∧ Al (Row3At H') zs (((M.rowsOf t 0).take j).filter fun r => decide (o ≤ r.2.1) && decide (r.2.2 ≤ o + sub.sz - 1))) ⟨[], Gw.start hD, Al.nil⟩ (fun j H' _ p => ?_) (fun j x HA HB hj p y => ?_) (fun H2 p => ?_)
      · obtain ⟨zs, gz, _⟩ := p
        exact SqL.of (gz.same _ _ (s1 _ _ hrus))
      · obtain ⟨rfl, hx⟩ := y
        obtain ⟨zs, gz, az⟩ := p
        obtain ⟨⟨r0, r1, r2⟩, hr3, q3, rfl, hq3⟩ := ral.get hx
        have hq3 : H q3 = some (.tup [.int (r0 : Nat), .int (r1 : Nat), .int (r2 : Nat)]) := hq3
        have hq3 := gz.same _ _ (s1 _ _ hq3)
        refine ⟨rfl, and_pure (a := decide (o ≤ r1)) (b := decide (r2 ≤ o + sub.sz - 1)) (fun Q q => ⟨_, rfl, _, rfl, q3, _, _, _, rfl, rfl, SqT.of hq3, atI_nat (j := 1) rfl, _, _, rfl, rfl, _, congrArg V.bl (le_dec _ _), q⟩) (fun Q q => ⟨_, rfl, q3, _, _, _, rfl, rfl, SqT.of hq3, atI_nat (j := 2) rfl, _, rfl, _, _, rfl, rfl, _, congrArg V.bl (le_dec _ _), q⟩) _ ?_⟩
        have hzl : zs.length ≤ 1000 := by
          rw [az.len]
          have h1 := List.length_filter_le (fun r : M.Row => decide (o ≤ r.2.1) && decide (r.2.2 ≤ o + sub.sz - 1)) ((M.rowsOf t 0).take j)
          rw [List.length_take] at h1
          have h2 := M.rowsOf_len t 0
          omega
        rw [take_snoc hr3, List.filter_append]
        cases hb : (decide (o ≤ r1) && decide (r2 ≤ o + sub.sz - 1)) with
        | true =>
          refine iteT ⟨_, rfl, zs, gz.at_, sz_lt (by omega), _, gz.put, ?_⟩
          have e : (([(r0, r1, r2)] : List M.Row).filter fun r => decide (o ≤ r.2.1) && decide (r.2.2 ≤ o + sub.sz - 1)) = [(r0, r1, r2)] := by rw [List.filter_cons]; simp only; rw [if_pos hb]; rfl
          rw [e]
          exact (az.imp fun _ _ => Row3At.kt (kt_lst gz.at_)).push ⟨q3, rfl, kt_lst gz.at_ _ _ hq3⟩
        | false =>
          refine iteF ⟨zs, gz, ?_⟩
          have e : (([(r0, r1, r2)] : List M.Row).filter fun r => decide (o ≤ r.2.1) && decide (r.2.2 ≤ o + sub.sz - 1)) = [] := by rw [List.filter_cons]; simp only; rw [if_neg (by rw [hb]; decide)]; rfl
          rw [e, List.append_nil]
          exact az
      · obtain ⟨zs, g2, az⟩ := p
        have e : (M.rowsOf t 0).take rus.length = M.rowsOf t 0 := by rw [ral.len]; exact all_take _
        rw [e] at az
        have hfm : ∀ r ∈ (M.rowsOf t 0).filter (fun r => decide (o ≤ r.2.1) && decide (r.2.2 ≤ o + sub.sz - 1)), o ≤ r.1 ∧ o ≤ r.2.1 ∧ o ≤ r.2.2 := fun r hr => by
          obtain ⟨h1, h2⟩ := List.mem_filter.mp hr
          have h3 := M.rows_in h5 r h1
          simp only [Bool.and_eq_true, decide_eq_true_eq] at h2
          omega
        have hbl : ((M.rowsOf t 0).filter fun r => decide (o ≤ r.2.1) && decide (r.2.2 ≤ o + sub.sz - 1)).map (fun r => (r.1 - o, r.2.1 - o, r.2.2 - o)) = M.rowsOf sub 0 := hbelow
        have hfl : ((M.rowsOf t 0).filter fun r => decide (o ≤ r.2.1) && decide (r.2.2 ≤ o + sub.sz - 1)).length ≤ 1000 := Nat.le_trans (List.length_filter_le _ _) (by have h2 := M.rowsOf_len t 0; omega)
        generalize (M.rowsOf t 0).filter (fun r => decide (o ≤ r.2.1) && decide (r.2.2 ≤ o + sub.sz - 1)) = fl at az hfm hbl hfl
        refine ⟨_, rfl, D, rfl, ⟨_, SqL.of g2.at_⟩, fun D2 hD2 => ?_⟩
        refine lc_it (walk_list (K := K) (a := D) (xs := zs)) (fun j H' => ∃ ws, Gw H2 D2 (.lst ws) H' ∧ Al (Row3At H') ws ((fl.map fun r => (r.1 - o, r.2.1 - o, r.2.2 - o)).take j)) ⟨[], Gw.start hD2, Al.nil⟩ (fun j H' _ p => ?_) (fun j x HA HB hj p y => ?_) (fun H3 p => ?_)
        · obtain ⟨ws, gw, _⟩ := p
          exact SqL.of (gw.same _ _ g2.at_)
        · obtain ⟨rfl, hx⟩ := y
          obtain ⟨ws, gw, aw⟩ := p
          obtain ⟨⟨r0, r1, r2⟩, hr3, q3, rfl, hq3⟩ := az.get hx
          have hq3 : H2 q3 = some (.tup [.int (r0 : Nat), .int (r1 : Nat), .int (r2 : Nat)]) := hq3
          have hq3 := gw.same _ _ hq3
          obtain ⟨f0, f1, f2⟩ := hfm _ (List.mem_of_getElem? hr3)
          have f0 : o ≤ r0 := f0
          have f1 : o ≤ r1 := f1
          have f2 : o ≤ r2 := f2
          have hwl : ws.length ≤ 1000 := by rw [aw.len, List.length_take, List.length_map]; omega
          refine ⟨rfl, _, rfl, q3, _, _, _, rfl, rfl, SqT.of hq3, atI_nat (j := 0) rfl, _, rfl, _, _, rfl, rfl, _, rfl, q3, _, _, _, rfl, rfl, SqT.of hq3, atI_nat (j := 1) rfl, _, rfl, _, _, rfl, rfl, _, rfl, q3, _, _, _, rfl, rfl, SqT.of hq3, atI_nat (j := 2) rfl, _, rfl, _, _, rfl, rfl, szl, fun q4 hq4 => ?_⟩
          have e3 : [V.int ((r0 : Int) - (o : Nat)), V.int ((r1 : Int) - (o : Nat)), V.int ((r2 : Int) - (o : Nat))] = [V.int ((r0 - o : Nat) : Int), V.int ((r1 - o : Nat) : Int), V.int ((r2 - o : Nat) : Int)] := by
            rw [show (r0 : Int) - (o : Nat) = ((r0 - o : Nat) : Int) by omega, show (r1 : Int) - (o : Nat) = ((r1 - o : Nat) : Int) by omega, show (r2 : Int) - (o : Nat) = ((r2 - o : Nat) : Int) by omega]
          show ∃ acc, upd HB q4 (.tup [V.int ((r0 : Int) - (o : Nat)), V.int ((r1 : Int) - (o : Nat)), V.int ((r2 : Int) - (o : Nat))]) D2 = some (.lst acc) ∧ acc.length < sizeLine ∧ ∃ ws, Gw H2 D2 (.lst ws) (upd (upd HB q4 (.tup [V.int ((r0 : Int) - (o : Nat)), V.int ((r1 : Int) - (o : Nat)), V.int ((r2 : Int) - (o : Nat))])) D2 (.lst (acc ++ [.ref q4]))) ∧ Al (Row3At (upd (upd HB q4 (.tup [V.int ((r0 : Int) - (o : Nat)), V.int ((r1 : Int) - (o : Nat)), V.int ((r2 : Int) - (o : Nat))])) D2 (.lst (acc ++ [.ref q4])))) ws ((fl.map fun r => (r.1 - o, r.2.1 - o, r.2.2 - o)).take (j + 1))
          rw [e3]
          have gw2 := gw.add (u := .tup [V.int ((r0 - o : Nat) : Int), V.int ((r1 - o : Nat) : Int), V.int ((r2 - o : Nat) : Int)]) hq4
          refine ⟨ws, gw2.at_, sz_lt (by omega), _, gw2.put, ?_⟩
          have kk := (kt_new (u := .tup [V.int ((r0 - o : Nat) : Int), V.int ((r1 - o : Nat) : Int), V.int ((r2 - o : Nat) : Int)]) hq4).trans (kt_lst (u := .lst (ws ++ [.ref q4])) gw2.at_)
          rw [take_snoc (x := (r0 - o, r1 - o, r2 - o)) (by rw [List.getElem?_map, hr3]; rfl)]
          exact (aw.imp fun _ _ => Row3At.kt kk).push ⟨q4, rfl, kt_lst (u := .lst (ws ++ [.ref q4])) gw2.at_ _ _ upd_same⟩
        · obtain ⟨ws, g3, aw⟩ := p
          have e4 : (fl.map fun r => (r.1 - o, r.2.1 - o, r.2.2 - o)).take zs.length = M.rowsOf sub 0 := by
            rw [az.len, ← List.length_map (f := fun r : M.Row => (r.1 - o, r.2.1 - o, r.2.2 - o)), all_take]; exact hbl
          rw [e4] at aw
          have sB := (s1.trans g2.same).trans g3.same
          have hD2 := g3.at_
          clear hfm hbl hfl az g2 e4
          refine ⟨_, rfl, br, rfl, ⟨_, SqL.of (sB _ _ hbr)⟩, fun D3 hD3 => ?_⟩
          refine lc_acc (walk_list (K := K) (a := br) (xs := nV R)) (fun j => nV (((R.take j).filter fun x => decide (o ≤ x) && decide (x ≤ o + sub.sz - 1)).map fun x => x - o)) hD3 rfl (fun Hx s => SqL.of (s _ _ (sB _ _ hbr))) (fun j x HA HB hj g y => ?_) (fun H4 g4 => ?_)
          · obtain ⟨rfl, hx⟩ := y
            rw [nV_get] at hx
            obtain ⟨x, hx0, rfl⟩ := Option.map_eq_some_iff.mp hx
            refine ⟨rfl, and_pure (a := decide (o ≤ x)) (b := decide (x ≤ o + sub.sz - 1)) (fun Q q => ⟨_, rfl, _, rfl, _, _, rfl, rfl, _, congrArg V.bl (le_dec _ _), q⟩) (fun Q q => ⟨_, rfl, _, rfl, _, _, rfl, rfl, _, congrArg V.bl (le_dec _ _), q⟩) _ ?_⟩
            rw [take_snoc hx0, List.filter_append]
            rw [nV_len] at hj
            cases hb : (decide (o ≤ x) && decide (x ≤ o + sub.sz - 1)) with
            | true =>
              have e : (([x] : List Nat).filter fun x => decide (o ≤ x) && decide (x ≤ o + sub.sz - 1)) = [x] := by rw [List.filter_cons, if_pos hb]; rfl
              rw [e]
              refine iteT ⟨_, rfl, _, rfl, _, _, rfl, rfl, g.push ?_ ?_⟩
              · rw [nV_len, List.length_map]
                have h1 := List.length_filter_le (fun x => decide (o ≤ x) && decide (x ≤ o + sub.sz - 1)) (R.take j)
                rw [List.length_take] at h1
                omega
              · rw [List.map_append]
                rw [Bool.and_eq_true, decide_eq_true_iff] at hb
                show nV (_ ++ [x - o]) = _ ++ [V.int ((x : Int) - (o : Nat))]
                rw [show (x : Int) - (o : Nat) = ((x - o : Nat) : Int) by omega, nV_snoc]
            | false =>
              have e : (([x] : List Nat).filter fun x => decide (o ≤ x) && decide (x ≤ o + sub.sz - 1)) = [] := by rw [List.filter_cons, if_neg (by rw [hb]; decide)]; rfl
              rw [e, List.append_nil]
              exact iteF g
          · have e5 : ((R.take (nV R).length).filter fun x => decide (o ≤ x) && decide (x ≤ o + sub.sz - 1)).map (fun x => x - o) = M.within R o (o + sub.sz - 1) := by rw [nV_len, all_take]; rfl
            rw [e5] at g4
            have hD2 := g4.same _ _ hD2
            have aw := aw.imp fun _ _ => Row3At.kt (kt_same g4.same)
            have hD3 := g4.at_
            have sC := sB.trans g4.same
            have hsl : (patS st).length ≤ sizeLine := by rw [pat_len]; exact sz_le (by omega)
            have hel : (patS en).length ≤ sizeLine := by rw [pat_len]; exact sz_le (by omega)
            refine ⟨_, rfl, _, rfl, _, rfl, _, rfl, _, rfl, _, rfl, hsl, ?_⟩
            rw [cutS_pat st o (o + sub.sz - 1) (by omega) (by omega), show o + sub.sz - 1 - o = sub.sz - 1 by omega]
            have hcs : (M.cutP st o (sub.sz - 1)).length + 1 = sub.sz := by simp [M.cutP]; omega
            have hce : (M.cutP en o (sub.sz - 1)).length + 1 = sub.sz := by simp [M.cutP]; omega
            refine ⟨szl, fun t0 ht0 => ⟨t0, rfl, ⟨_, SqT.of upd_same⟩, fun D4 hD4 => ?_⟩⟩
            have sD := sC.trans (same_new (u := .tup [.int 1, .int 2]) ht0)
            have ht0a : upd H4 t0 (.tup [.int 1, .int 2]) t0 = some (.tup [.int 1, .int 2]) := upd_same
            have hD2 := upd_old (u := .tup [.int 1, .int 2]) hD2 ht0
            have hD3 := upd_old (u := .tup [.int 1, .int 2]) hD3 ht0
            have aw := aw.imp fun _ _ => Row3At.kt (kt_new (u := .tup [.int 1, .int 2]) ht0)
            generalize upd H4 t0 (.tup [.int 1, .int 2]) = H5 at sD ht0a hD2 hD3 aw hD4 ⊢
            refine lc_it (walk_tup (K := K) (a := t0) (xs := [.int 1, .int 2])) (fun j H' => ∃ bs : List Addr, Gw H5 D4 (.lst (bs.map V.ref)) H' ∧ Al (fun b kd => TabX D4 H' b (M.searchL sub (M.cutP st o (sub.sz - 1)) kd)) bs ([true, false].take j)) ⟨[], Gw.start hD4, Al.nil⟩ (fun j H' _ p => ?_) (fun j x HA HB hj p y => ?_) (fun H6 p => ?_)
            · obtain ⟨bs, gb, _⟩ := p
              exact SqT.of (gb.same _ _ ht0a)
            · obtain ⟨rfl, hx⟩ := y
              obtain ⟨bs, gb, ab⟩ := p
              obtain ⟨kk, hkk, rfl⟩ : ∃ kk, [true, false][j]? = some kk ∧ x = kindV kk := by
                have hj : j = 0 ∨ j = 1 := by simp at hj; omega
                rcases hj with rfl | rfl
                · exact ⟨true, rfl, by simpa [kindV] using hx.symm⟩
                · exact ⟨false, rfl, by simpa [kindV] using hx.symm⟩
              have hbl : bs.length ≤ 2 := by rw [ab.len, List.length_take]; simp; omega
              refine ⟨rfl, _, rfl, _, rfl, _, rfl, _, rfl, D2, sub, _, kk, rfl, ⟨_, gb.same _ _ hD2, aw.imp fun _ _ => Row3At.kt (kt_same gb.same)⟩, by omega, hcs, fun HC p sE tn => ?_⟩
              have hD4c := sE _ _ gb.at_
              refine ⟨bs.map V.ref, hD4c, sz_lt (by rw [List.length_map]; omega), bs ++ [p], ?_, ?_⟩
              · rw [List.map_append]
                exact (gb.more sE).put
              · rw [take_snoc hkk]
                exact (ab.imp fun _ _ h => (h.more sE).put).push (tn.x gb.at_).put
            · obtain ⟨bs, gb, ab⟩ := p
              obtain ⟨b1, b2, rfl⟩ : ∃ b1 b2, bs = [b1, b2] := by
                have := ab.len
                match bs, this with
                | [b1, b2], _ => exact ⟨b1, b2, rfl⟩
              have x1 : TabX D4 H6 b1 (M.searchL sub (M.cutP st o (sub.sz - 1)) true) := ab.at_ 0 (by simp) (by simp)
              have x2 : TabX D4 H6 b2 (M.searchL sub (M.cutP st o (sub.sz - 1)) false) := ab.at_ 1 (by simp) (by simp)
              have sE := sD.trans gb.same
              have hr1 : (M.needRows t st en R)[i]? = some (M.forkOf sub o, subNeed st en R (sub, o)) := by rw [M.needRows, List.getElem?_map, hu]; rfl
              obtain ⟨uv, huv, qv, rfl, hqv⟩ := hal.get' hr1
              refine ⟨_, rfl, _, rfl, tb, us, _, _, rfl, rfl, SqL.of (sE _ _ htb), atI_nat huv, _, rfl, szl, fun tf htf => ?_⟩
              have sF := same_new (u := .tup [.int (M.forkOf sub o : Nat)]) htf
              refine ⟨_, rfl, _, rfl, _, rfl, _, rfl, _, rfl, _, rfl, _, rfl, _, rfl, _, rfl, hel, _, rfl, ?_⟩
              rw [cutS_pat en o (o + sub.sz - 1) (by omega) (by omega), show o + sub.sz - 1 - o = sub.sz - 1 by omega]
              have hw1 := M.within_nodup hnd o (o + sub.sz - 1)
              have hw2 : ∀ x ∈ M.within R o (o + sub.sz - 1), x < sub.sz := fun x hx => by have := (M.within_mem.mp hx).2; omega
              have hw3 : (M.within R o (o + sub.sz - 1)).length ≤ 1000 := by
                unfold M.within
                rw [List.length_map]
                have h1 := List.length_filter_le (fun x => decide (o ≤ x) && decide (x ≤ o + sub.sz - 1)) R
                omega
              have hsub5 : sub.sz ≤ 5 := by omega
              refine ⟨D4, b1, b2, D3, sub.sz, _, _, _, _, _, rfl, sF _ _ gb.at_, x1.at_.more sF, x2.at_.more sF, (M.search_told hsub5 _ true).1, (M.search_told hsub5 _ false).1, huz, hsub5, hcs, hce, sF _ _ (gb.same _ _ hD3), hw1, hw2, hw3, fun HF p sG hp => ?_⟩
              rw [M.found_is hsub5 hcs hce hw1 hw2, hsub] at hp
              refine catA_use (sG _ _ upd_same) hp (by simp [needV]) (by simp [needV]) (fun r HG sH hr => ?_)
              have sI := ((sE.trans sF).trans sG).trans sH
              exact .inr ⟨qv, r, _, rfl, sI _ _ hqv, hr, by simp [needV], sc_row _ _, true, rfl, iteF ⟨_, _, _, _, _, _, _, _, _, _, _, _, rfl, sI⟩⟩
    · obtain ⟨x5, x6, x7, x8, x9, x10, x11, x12, x13, x14, x15, x16, rfl, s1⟩ := p
      exact k _ s1
end
end My

set_option Elab.async false
set_option maxRecDepth 100000
set_option maxHeartbeats 4000000
namespace My
open PySem PySem.Spec PyProof.Rows L2
open M (Ch Need chOf agreeP Sst Tab Mv)
abbrev s_law : Stmt := top 52
abbrev N_law : List Str := ["_law_script", "_law_box_here", "_law_many", "_law_rows_here", "_law_tree", "_law_start", "_law_best", "_law_turn", "_law_end", "_law_renewed_here", "_law_value", "_law_row", "_law_handed", "_law_answer", "_law_table", "_law_kind"]
theorem sc_law : FnScope N_law ["_law_script"] (defScope s_law) := ⟨rfl, rfl, rfl, by decide +kernel, rfl, by decide +kernel, by decide +kernel⟩
theorem talk_some (s u : Ch) (n b : Nat) (o : Need) (h : o.ht ≠ none) : M.talkCosts s u n b o ≠ [] := by
  cases ho : o.ht with
  | none => exact absurd ho h
  | some c =>
    intro z
    have : M.oneCost (M.stays s u) (M.turns s u) n b o.ht (o.p + 1) = [] := by
      unfold M.talkCosts at z
      exact (List.append_eq_nil_iff.mp (List.append_eq_nil_iff.mp z).2).2
    rw [ho] at this
    cases s <;> cases u <;> simp [M.oneCost, M.stays, M.turns] at this
theorem ht_some : ∀ g : M.G, (M.need g).ht ≠ none
  | .lf r => by cases r <;> simp [M.need, M.leafNeed]
  | .nd l a b r => by
    have h1 := ht_some l
    have h2 := ht_some r
    show M.smallest (M.hitCosts .L b (M.need l) (M.need r) ++ M.hitCosts .R b (M.need r) (M.need l)) ≠ none
    have h3 : M.hitCosts .L b (M.need l) (M.need r) ≠ [] := by
      cases h : (M.need l).ht with
      | none => exact absurd h h1
      | some n =>
        unfold M.hitCosts
        rw [h]
        exact talk_some _ _ _ _ _ h2
    cases h : M.hitCosts .L b (M.need l) (M.need r) with
    | nil => exact absurd h h3
    | cons x r => simp [M.smallest]
theorem ask_rev (t : M.T) (s e : List Ch) (R : List Nat) : M.askOf t s e R.reverse = M.askOf t s e R := by
  unfold M.askOf
  congr 1
  funext i
  simp [M.inOf]
theorem nodup_len {R : List Nat} {n : Nat} (hn : R.Nodup) (hR : ∀ x ∈ R, x < n) : R.length ≤ n := by
  have h := M.same_len hn (List.nodup_range.filter fun x => R.contains x) (B := (List.range n).filter fun x => R.contains x) fun x => by
    rw [List.mem_filter, List.mem_range]
    constructor
    · intro h; exact ⟨hR x h, by simpa using h⟩
    · rintro ⟨_, h⟩; simpa using h
  have h2 := List.length_filter_le (fun x => R.contains x) (List.range n)
  rw [List.length_range] at h2
  omega
theorem nV_rev (R : List Nat) : (nV R).reverse = nV R.reverse := by simp [nV, List.map_reverse]
/-- the heap without the box -/
def mk (b g : Addr) (H : Hp) : Hp := fun a => if a = b ∨ a = g then none else H a
section
variable {b g p : Addr} {H H' X : Hp} {o : HO}
theorem mk_b : mk b g H b = none := if_pos (.inl rfl)
theorem mk_g : mk b g H g = none := if_pos (.inr rfl)
theorem mk_at (h : H p = some o) (n : p ≠ b ∧ p ≠ g) : mk b g H p = some o := by unfold mk; rw [if_neg (fun z => z.elim n.1 n.2)]; exact h
theorem mk_same : Same (mk b g H) H := fun a o h => by
  unfold mk at h
  split at h
  · cases h
  · exact h
theorem x_fr (hb : X b = none) (hg : X g = none) (s : Same X H) (f : Fr b g H H') : Same X H' := fun a o h => f a o (s a o h) (ne_of_none h hb) (ne_of_none h hg)
theorem mk_kt (bx : BoxAt b g H) {a : Addr} {xs : List V} (h : H a = some (.tup xs)) : mk b g H a = some (.tup xs) := by
  obtain ⟨gs, seed, cnt, h1, h2, _⟩ := bx
  exact mk_at h ⟨fun z => (by rw [z, h1] at h; cases h), fun z => (by rw [z, h2] at h; cases h)⟩
theorem mk_node (bx : BoxAt b g H) {v : V} {n : Bool × Nat} (h : NodeAt H v n) : NodeAt (mk b g H) v n := by
  obtain ⟨p, e, h⟩ := h
  exact ⟨p, e, mk_kt bx h⟩
theorem mk_tree (bx : BoxAt b g H) {C a : Addr} {t : M.T} (h : TreeAt C H a t) : TreeAt C (mk b g H) a t := by
  obtain ⟨dx, fs, lp, rp, sp, pp, wp, ls, rs, ss, ws, h1, h2, h3, h4, h5, h6, h7, h8, h9, h10, h11, h12, h13, h14, h15, h16⟩ := h.ex
  have hi : a ≠ b ∧ a ≠ g := by
    obtain ⟨gs, seed, cnt, k1, k2, _⟩ := bx
    exact ⟨fun z => (by rw [z, k1] at h1; cases h1), fun z => (by rw [z, k2] at h1; cases h1)⟩
  exact ⟨dx, fs, lp, rp, sp, pp, wp, ls, rs, ss, ws, mk_at h1 hi, h2, h3, h4, h5, h6, h7, mk_kt bx h8, h9.imp fun _ _ => mk_node bx, mk_kt bx h10, h11.imp fun _ _ => mk_node bx, mk_kt bx h12, h13, mk_kt bx h14, mk_kt bx h15, h16⟩
theorem mk_rows (bx : BoxAt b g H) {a : Addr} {us : List V} {rows : List M.Row} (hn : a ≠ b ∧ a ≠ g) (h : H a = some (.lst us)) (al : Al (Row3At H) us rows) : RowsAt (mk b g H) a rows :=
  ⟨us, mk_at h hn, al.imp fun _ _ h => by
    obtain ⟨q, e, h⟩ := h
    exact ⟨q, e, mk_kt bx h⟩⟩
theorem mk_mono (s : Same H H') : Same (mk b g H) (mk b g H') := fun a o h => by
  unfold mk at h ⊢
  split at h
  · cases h
  · next hn => rw [if_neg hn]; exact s a o h
end
theorem mk_lift {b g : Addr} {H H' : Hp} (s : Same (mk b g H) H') : Same (mk b g H) (mk b g H') := fun a o h => by
  have h2 := s a o h
  unfold mk at h ⊢
  split at h
  · cases h
  · next hn => rw [if_neg hn]; exact h2
theorem BoxAt.some {b g : Addr} {H : Hp} (x : BoxAt b g H) : H b ≠ none ∧ H g ≠ none := by
  obtain ⟨gs, seed, cnt, h1, h2, _⟩ := x
  exact ⟨by rw [h1]; simp, by rw [h2]; simp⟩
/-- a table with its rows apart from these -/
def TabE (ex : List Addr) (H : Hp) (p : Addr) (tb : Tab) : Prop := ∃ cs : List Addr, H p = some (.lst (cs.map V.ref)) ∧ Al (fun c r => H c = some (.lst (rowV r))) cs tb ∧ ∀ a ∈ ex, p ≠ a ∧ a ∉ cs
theorem TabE.more {ex : List Addr} {H H' : Hp} (s : Same H H') {p : Addr} {tb : Tab} (h : TabE ex H p tb) : TabE ex H' p tb := by
  obtain ⟨cs, h1, h2, h3⟩ := h
  exact ⟨cs, s _ _ h1, h2.imp fun _ _ h => s _ _ h, h3⟩
theorem TabE.put {ex : List Addr} {D : Addr} (hD : D ∈ ex) {H : Hp} {u : HO} {p : Addr} {tb : Tab} (h : TabE ex H p tb) : TabE ex (upd H D u) p tb := by
  obtain ⟨cs, h1, h2, h3⟩ := h
  exact ⟨cs, upd_far h1 (h3 D hD).1, ⟨h2.len, fun i g1 g2 => upd_far (h2.at_ i g1 g2) (fun z => (h3 D hD).2 (by rw [← z]; exact List.getElem_mem g1))⟩, h3⟩
theorem TabE.mk {D b g : Addr} {H : Hp} {p : Addr} {tb : Tab} (h : TabE [D, b, g] H p tb) : TabAt (mk b g H) p tb := by
  obtain ⟨cs, h1, h2, h3⟩ := h
  have hb := h3 b (by simp)
  have hg := h3 g (by simp)
  exact ⟨cs, mk_at h1 ⟨hb.1, hg.1⟩, ⟨h2.len, fun i g1 g2 => mk_at (h2.at_ i g1 g2) ⟨fun z => hb.2 (by rw [← z]; exact List.getElem_mem g1), fun z => hg.2 (by rw [← z]; exact List.getElem_mem g1)⟩⟩⟩
theorem TabNew.e {ex : List Addr} {H H' : Hp} (he : ∀ a ∈ ex, H a ≠ none) {p : Addr} {tb : Tab} (h : TabNew H H' p tb) : TabE ex H' p tb := by
  obtain ⟨cs, h1, h2, h3, h4⟩ := h
  exact ⟨cs, h1, h2, fun a ha => ⟨fun z => he a ha (by rw [← z]; exact h3), fun z => he a ha (h4 a z)⟩⟩
section
variable {P : Program} {w : World} {K : PySem.W.Frag} {mg : Str → Option Value} {base : Heap} {C : Addr}
theorem next_at {D : Ends} {σ : L2.St} {H : Hp} (h : D.nx σ H) : tNext D σ H := h
def spLaw (K : PySem.W.Frag) : Sp := fun vs H Q _ => ∃ (a : Addr) (ns : List Int), vs = [.ref a] ∧ SqL K H a (ns.map V.int) ∧ ns.length ≤ 63 ∧ ∀ H', Q (.bl true) H'
theorem d_law {fw : Addr} {fdw : FuncData} (T : Tx K mg) (Z : Tz K mg C) (F : Fun K "law" "law" s_law fw fdw) (d__law_box : Def P w K mg base "_law_box" ["_law_script"] 1 (sp_box K)) (d__law_take : Def P w K mg base "_law_take" ["_law_box_here", "_law_size"] 1 sp_take)
    (d__law_rows : Def P w K mg base "_law_rows" ["_law_box_here", "_law_many"] 2 sp_rows) (d__law_text : Def P w K mg base "_law_text" ["_law_rows_here", "_law_many"] 1 (sp_text K)) (d_Tree : IDef P w K mg base C ["self", "text"] 3 (sp_init C))
    (d__law_pattern : Def P w K mg base "_law_pattern" ["_law_box_here", "_law_size"] 2 sp_pattern) (d__law_searched : Def P w K mg base "_law_searched" ["_law_rows_here", "_law_many", "_law_start", "_law_kind"] 3 sp_searched)
    (d__law_renewed : Def P w K mg base "_law_renewed" ["_law_box_here", "_law_many", "_law_most"] 2 sp_renewed) (d__law_found : Def P w K mg base "_law_found" ["_law_many", "_law_best", "_law_start", "_law_end", "_law_renewed_here"] 2 (sp_found K))
    (d_least_requests : Def P w K mg base "least_requests" ["tree", "start", "end", "renewed"] 5 (sp_least_requests C)) (d_need_table : Def P w K mg base "need_table" ["tree", "start", "end", "renewed"] 5 (sp_need_table C))
    (d__law_same : Def P w K mg base "_law_same" ["_law_value", "_law_due"] 3 sp_same2) (d__law_least : Def P w K mg base "_law_least" ["_law_value"] 1 sp_least)
    (d__law_rows_told : Def P w K mg base "_law_rows_told" ["_law_rows_here", "_law_table", "_law_start", "_law_end", "_law_renewed_here"] 4 sp_told) : Binds K fdw ["_law_script"] [] ∧ FnOk P w K mg base CX0 6 fw fdw ["_law_script"] (spLaw K) := by
  refine mk_run F sc_law (fun _ _ _ _ _ _ us hl => match us, hl with | [_], _ => rfl) (fun vs H Q E h => ?_) (fun f cdv A outer s H vs Q E hr h => ?_)
  · obtain ⟨_, _, rfl, _⟩ := h; rfl
  · obtain ⟨a, ns, rfl, hs, hl, k⟩ := h
    refine ⟨_, (pss_cons (ps_set (i := 1) sc_law.nd rfl (Or.inl rfl) (pe_def d__law_box hr (by rfl) (pa_cons (pv 0) pa_nil)))
      (pss_cons (ps_set (i := 2) sc_law.nd rfl (Or.inr rfl) (pe_op op_add pe_int (pe_def d__law_take hr (by rfl) (pa_cons (pv 1) (pa_cons pe_int pa_nil)))))
      (pss_cons (ps_set (i := 3) sc_law.nd rfl (Or.inr rfl) (pe_def d__law_rows hr (by rfl) (pa_cons (pv 1) (pa_cons (pv 2) pa_nil))))
      (pss_cons (ps_set (i := 4) sc_law.nd rfl (Or.inl rfl) (pe_makeT Z.mgC d_Tree hr (by rfl) (pa_cons (pe_def d__law_text hr (by rfl) (pa_cons (pv 3) (pa_cons (pv 2) pa_nil))) pa_nil)))
      (pss_cons (ps_set (i := 5) sc_law.nd rfl (Or.inr rfl) (pe_def d__law_pattern hr (by rfl) (pa_cons (pv 1) (pa_cons (pe_op op_sub (pv 2) pe_int) pa_nil))))
      (pss_cons (ps_setLc (i := 6) (own := [("_law_kind", 15)]) rfl sc_law.nd rfl rfl (sw_true rfl rfl rfl (by decide +kernel)) (pi_tup (pe_tup (pa_cons pe_int (pa_cons pe_int pa_nil)))) (blkOk_by (own := [("_law_kind", 15)]) (N := N_law) (sc := defScope s_law) (by decide +kernel)) (fun _ _ _ _ _ => (pg_name (i := 15) sc_law.nd rfl (Or.inl rfl))) (fun _ _ _ _ _ => pts_nil) (fun _ _ _ _ _ => (pe_def d__law_searched hr (by rfl) (pa_cons (pv 3) (pa_cons (pv 2) (pa_cons (pv 5) (pa_cons (pv 15) pa_nil)))))))
      (pss_cons (ps_for PassesOwn.never rfl (pi_range1 (by rfl) T.b_range (pa_cons pe_int pa_nil)) (pg_name (i := 7) sc_law.nd rfl (Or.inl rfl)) (pss_cons (ps_set (i := 8) sc_law.nd rfl (Or.inl rfl) (pe_def d__law_pattern hr (by rfl) (pa_cons (pv 1) (pa_cons (pe_op op_sub (pv 2) pe_int) pa_nil))))
      (pss_cons (ps_set (i := 9) sc_law.nd rfl (Or.inl rfl) (pe_def d__law_renewed hr (by rfl) (pa_cons (pv 1) (pa_cons (pv 2) (pa_cons (pv 2) pa_nil)))))
      (pss_cons (ps_set (i := 10) sc_law.nd rfl (Or.inl rfl) (pe_def d__law_found hr (by rfl) (pa_cons (pv 2) (pa_cons (pv 6) (pa_cons (pv 5) (pa_cons (pv 8) (pa_cons (pv 9) pa_nil)))))))
      (pss_cons (ps_for PassesOwn.never rfl (pi_tup (pe_tup (pa_cons (pe_callTy call_list_of (by rfl) T.b_list (by decide +kernel) (pa_cons (pv 9) pa_nil)) (pa_cons (pe_revL (pv 9)) pa_nil)))) (pg_name (i := 11) sc_law.nd rfl (Or.inl rfl)) (pss_cons (ps_set (i := 12) sc_law.nd rfl (Or.inl rfl) (pe_callTy call_list_of (by rfl) T.b_list (by decide +kernel) (pa_cons (pv 11) pa_nil)))
      (pss_cons (ps_set (i := 13) sc_law.nd rfl (Or.inl rfl) (pe_def d_least_requests hr (by rfl) (pa_cons (pv 4) (pa_cons (pv 5) (pa_cons (pv 8) (pa_cons (pv 12) pa_nil))))))
      (pss_one (ps_if (PW.pt (pw_or (pt_not (pt_val (pe_def d__law_same hr (by rfl) (pa_cons (pv 13) (pa_cons (pe_def d__law_least hr (by rfl) (pa_cons (pv 10) pa_nil)) pa_nil))))) (pw_or1 (pt_cmpR (op_neD hr.units) (pv 12) (pv 11) (nomark _))))) (pss_one (ps_ret pe_bl)) pss_nil)))))
      (pss_cons (ps_set (i := 12) sc_law.nd rfl (Or.inl rfl) (pe_callTy call_list_of (by rfl) T.b_list (by decide +kernel) (pa_cons (pv 9) pa_nil)))
      (pss_cons (ps_set (i := 14) sc_law.nd rfl (Or.inl rfl) (pe_def d_need_table hr (by rfl) (pa_cons (pv 4) (pa_cons (pv 5) (pa_cons (pv 8) (pa_cons (pv 12) pa_nil))))))
      (pss_cons (ps_if (PW.pt (pw_or (pt_not (pt_val (pe_callB call_isi (by rfl) T.b_isinstance (by decide +kernel) (pa_cons (pv 14) (pa_cons (pe_bltn (v := .ty "list") (by rfl) T.b_list (by decide +kernel) rfl) pa_nil))))) (pw_or (pt_cmpR op_ne (pe_callB call_len_seq (by rfl) T.b_len (by decide +kernel) (pa_cons (pv 14) pa_nil)) (pe_callB call_len_seq (by rfl) T.b_len (by decide +kernel) (pa_cons (pv 3) pa_nil)) (nomark _)) (pw_or1 (pt_cmpR (op_neD hr.units) (pv 12) (pv 9) (nomark _)))))) (pss_one (ps_ret pe_bl)) pss_nil)
      (pss_cons (ps_if (PW.pt (pw_and (pt_cmpR op_gt (pv 2) pe_int (nomark _)) (pw_and1 (pt_not (pt_val (pe_def d__law_same hr (by rfl) (pa_cons (pe_ix ix_list (pv 14) (pe_op op_sub (pv 2) pe_int) (fun _ _ => rfl)) (pa_cons (pe_op op_catA (pe_tup (pa_cons (pe_ix ix_tup (pe_ix ix_list (pv 3) (pe_op op_sub (pv 2) pe_int) (fun _ _ => rfl)) pe_int (fun _ _ => rfl)) pa_nil)) (pv 10)) pa_nil)))))))) (pss_one (ps_ret pe_bl)) pss_nil)
      (pss_one (ps_if (PW.pt (pw_and (pt_cmpR op_eq (pv 7) pe_int (nomark _)) (pw_and1 (pt_not (pt_val (pe_def d__law_rows_told hr (by rfl) (pa_cons (pv 3) (pa_cons (pv 14) (pa_cons (pv 5) (pa_cons (pv 8) (pa_cons (pv 9) pa_nil))))))))))) (pss_one (ps_ret pe_bl)) pss_nil)))))))))))
      (pss_one (ps_ret pe_bl))))))))), ?_⟩
    refine ⟨_, rfl, a, ns, rfl, hs, hl, fun H1 b g s1 nb ng bx1 => ?_⟩
    refine ⟨_, rfl, b, g, 5, rfl, bx1, by decide, by decide, fun H2 r bx2 fr2 hr5 => ⟨_, _, rfl, rfl, ?_⟩⟩
    rw [show (fun i j => V.int (i + j)) (1 : Int) (r : Int) = V.int ((1 + r : Nat) : Int) by show V.int _ = _; rw [Int.natCast_add]; rfl]
    refine ⟨_, rfl, _, rfl, b, g, 1 + r, rfl, bx2, by omega, by omega, fun H3 ra rus t bx3 fr3 nra nra' hra ht ral => ?_⟩
    have h5 : t.sz ≤ 5 := by omega
    have h0 : 0 < t.sz := by omega
    rw [← ht]
    refine ⟨_, rfl, _, rfl, ra, rus, t, rfl, hra, ral, h5, fun H4 s4 => ?_⟩
    intro x dx nx ndx nex
    have sx : Same H4 (upd (upd H4 dx (.own x)) x (.ins C dx [])) := fun b o e => by
      rw [upd_ne (ne_of_none e nx), upd_ne (ne_of_none e ndx)]
      exact e
    refine ⟨H4, x, dx, t, rfl, h5, sx, nx, upd_same, fun H5 s5 tr => ⟨rfl, ?_⟩⟩
    have bx5 := (bx3.more s4).more s5
    have en1 : (t.sz : Int) - 1 = ((t.sz - 1 : Nat) : Int) := by omega
    refine ⟨_, rfl, _, rfl, _, _, rfl, rfl, b, g, t.sz - 1, by show [V.ref b, V.int ((t.sz : Int) - 1)] = _; rw [en1], bx5, by omega, fun H6 st bx6 fr6 hst => ?_⟩
    have X5t := mk_tree bx5 tr
    have s35 := s4.trans s5
    have X5r : RowsAt (mk b g H5) ra (M.rowsOf t 0) := mk_rows bx5 nra' (s35 _ _ hra) (ral.imp fun _ _ => Row3At.kt (kt_same s35))
    have x6 : Same (mk b g H5) H6 := x_fr mk_b mk_g mk_same fr6
    have X6t := X5t.more (mk_lift x6)
    have X6r := X5r.more (mk_lift x6)
    refine ⟨szl, fun t0 ht0 => ⟨t0, rfl, ⟨_, SqT.of upd_same⟩, fun D hD => ?_⟩⟩
    have s67 := same_new (u := .tup [.int 1, .int 2]) ht0
    have bx7 := bx6.more s67
    have ht0a : upd H6 t0 (.tup [.int 1, .int 2]) t0 = some (.tup [.int 1, .int 2]) := upd_same
    have r7 := (X6r.more (mk_same (b := b) (g := g))).more s67
    have X7t := X6t.more (mk_mono (b := b) (g := g) s67)
    have X7r := X6r.more (mk_mono (b := b) (g := g) s67)
    generalize upd H6 t0 (.tup [.int 1, .int 2]) = H7 at s67 bx7 ht0a r7 hD X7t X7r ⊢
    have nD := bx7.new hD
    have hst1 : st.length + 1 = t.sz := by omega
    refine lc_it (walk_tup (K := K) (a := t0) (xs := [.int 1, .int 2])) (fun j H' => ∃ bs : List Addr, Gw H7 D (.lst (bs.map V.ref)) H' ∧ Al (fun b' kd => TabE [D, b, g] H' b' (M.searchL t st kd)) bs ([true, false].take j)) ⟨[], Gw.start hD, Al.nil⟩ (fun j H' _ p => ?_) (fun j x HA HB hj p y => ?_) (fun H8 p => ?_)
    · obtain ⟨bs, gb, _⟩ := p
      exact SqT.of (gb.same _ _ ht0a)
    · obtain ⟨rfl, hx⟩ := y
      obtain ⟨bs, gb, ab⟩ := p
      obtain ⟨kk, hkk, rfl⟩ : ∃ kk, [true, false][j]? = some kk ∧ x = kindV kk := by
        have hj : j = 0 ∨ j = 1 := by simp at hj; omega
        rcases hj with rfl | rfl
        · exact ⟨true, rfl, by simpa [kindV] using hx.symm⟩
        · exact ⟨false, rfl, by simpa [kindV] using hx.symm⟩
      have hbl : bs.length ≤ 2 := by rw [ab.len, List.length_take]; simp; omega
      refine ⟨rfl, _, rfl, _, rfl, _, rfl, _, rfl, ra, t, st, kk, rfl, r7.more gb.same, h5, hst1, fun HC p sE tn => ?_⟩
      have hDc := sE _ _ gb.at_
      have bxB := bx7.more gb.same
      refine ⟨bs.map V.ref, hDc, sz_lt (by rw [List.length_map]; omega), bs ++ [p], ?_, ?_⟩
      · rw [List.map_append]
        exact (gb.more sE).put
      · rw [take_snoc hkk]
        refine (ab.imp fun _ _ h => (h.more sE).put (by simp)).push (TabE.put (by simp) (tn.e fun a ha => ?_))
        simp only [List.mem_cons, List.not_mem_nil, or_false] at ha
        rcases ha with rfl | rfl | rfl
        · rw [gb.at_]; simp
        · exact bxB.some.1
        · exact bxB.some.2
    · obtain ⟨bs, gb, ab⟩ := p
      obtain ⟨b1, b2, rfl⟩ : ∃ b1 b2, bs = [b1, b2] := by
        have := ab.len
        match bs, this with
        | [b1, b2], _ => exact ⟨b1, b2, rfl⟩
      have y1 : TabE [D, b, g] H8 b1 (M.searchL t st true) := ab.at_ 0 (by simp) (by simp)
      have y2 : TabE [D, b, g] H8 b2 (M.searchL t st false) := ab.at_ 1 (by simp) (by simp)
      have bx8 := bx7.more gb.same
      have XT := X7t.more (mk_mono (b := b) (g := g) gb.same)
      have XR := X7r.more (mk_mono (b := b) (g := g) gb.same)
      have XD : mk b g H8 D = some (.lst [.ref b1, .ref b2]) := mk_at gb.at_ nD
      have X1 := y1.mk
      have X2 := y2.mk
      have x8 : Same (mk b g H8) H8 := mk_same
      have Xb : mk b g H8 b = none := mk_b
      have Xg : mk b g H8 g = none := mk_g
      generalize mk b g H8 = X at XT XR XD X1 X2 x8 Xb Xg
      clear y1 y2 ab gb X7t X7r X6t X6r X5t X5r r7 ht0a
      obtain ⟨ok1, _⟩ := M.search_told h5 st true
      obtain ⟨ok2, _⟩ := M.search_told h5 st false
      refine ⟨_, rfl, by decide, by decide, ?_⟩
      refine for_it walk_rg (fun i σ H' => ∃ x7 x8 x9 x10 x11 x12 x13 x14 x15, σ = [some (.ref a), some (.ref b), some (.int (t.sz : Nat)), some (.ref ra), some (.ref x), some (.str (patS st)), some (.ref D), x7, x8, x9, x10, x11, x12, x13, x14, x15] ∧ Same X H' ∧ BoxAt b g H')
        ⟨_, _, _, _, _, _, _, _, _, rfl, x8, bx8⟩ (fun _ _ _ _ _ => trivial) (fun i y σ Hz HA hi p hy => ?_) (fun σ HA p => ?_)
      · obtain ⟨x7, x8, x9, x10, x11, x12, x13, x14, x15, rfl, sA, bxA⟩ := p
        obtain ⟨rfl, rfl⟩ := hy
        refine ⟨_, rfl, _, rfl, _, _, rfl, rfl, b, g, t.sz - 1, by show [V.ref b, V.int ((t.sz : Int) - 1)] = _; rw [en1], bxA, by omega, fun HB en bxB frB hen => ?_⟩
        have sB := x_fr Xb Xg sA frB
        have hen1 : en.length + 1 = t.sz := by omega
        refine ⟨_, rfl, _, rfl, _, rfl, b, g, t.sz, rfl, bxB, h5, fun HC rr R bxC frC nrr nrr' hrr hnd hlt => ?_⟩
        have sC := x_fr Xb Xg sB frC
        have hRl : R.length ≤ 1000 := by
          have := nodup_len hnd hlt
          omega
        refine ⟨_, rfl, _, rfl, _, rfl, _, rfl, _, rfl, D, b1, b2, rr, t.sz, _, _, st, en, R, rfl, sC _ _ XD, X1.more sC, X2.more sC, ok1, ok2, h0, h5, hst1, hen1, hrr, hnd, hlt, hRl, fun HD vl sCD hvl => ?_⟩
        rw [M.found_is h5 hst1 hen1 hnd hlt] at hvl
        have sD := sC.trans sCD
        have hrrD := sCD _ _ hrr
        have bxD := bxC.more sCD
        -- for row in (list(renewed), renewed[::-1])
        refine ⟨_, rfl, rr, _, rfl, .inl (SqL.of hrrD), fun l1 hl1 => ?_⟩
        refine ⟨_, rfl, rr, _, rfl, SqL.of (upd_old hrrD hl1), fun l2 hl2 => ⟨szl, fun tt htt => ⟨tt, rfl, ⟨_, SqT.of upd_same⟩, ?_⟩⟩⟩
        rw [nV_rev] at htt ⊢
        have a1 := upd_old (u := .tup [.ref l1, .ref l2]) (upd_old (u := .lst (nV R.reverse)) (upd_same (H := HD) (a := l1) (o := .lst (nV R))) hl2) htt
        have a2 := upd_old (u := .tup [.ref l1, .ref l2]) (upd_same (H := upd HD l1 (.lst (nV R))) (a := l2) (o := .lst (nV R.reverse))) htt
        have a3 := upd_same (H := upd (upd HD l1 (.lst (nV R))) l2 (.lst (nV R.reverse))) (a := tt) (o := .tup [.ref l1, .ref l2])
        have sDE : Same HD (upd (upd (upd HD l1 (.lst (nV R))) l2 (.lst (nV R.reverse))) tt (.tup [.ref l1, .ref l2])) := ((same_new hl1).trans (same_new hl2)).trans (same_new htt)
        generalize upd (upd (upd HD l1 (.lst (nV R))) l2 (.lst (nV R.reverse))) tt (.tup [.ref l1, .ref l2]) = HE at a1 a2 a3 sDE ⊢
        refine for_tup (xs := [.ref l1, .ref l2]) (fun j σ H' => ∃ x11 x12 x13 x14 x15, σ = [some (.ref a), some (.ref b), some (.int (t.sz : Nat)), some (.ref ra), some (.ref x), some (.str (patS st)), some (.ref D), some (.int (i : Nat)), some (.str (patS en)), some (.ref rr), some (.ref vl), x11, x12, x13, x14, x15] ∧ Same HE H')
          ⟨_, _, _, _, _, rfl, Same.refl _⟩ (fun j σ H' _ p => ?_) (fun j y σ HF hy p => ?_) (fun σ HF p => ?_)
        · obtain ⟨_, _, _, _, _, _, sF⟩ := p
          exact SqT.of (sF _ _ a3)
        · obtain ⟨x11, x12, x13, x14, x15, rfl, sF⟩ := p
          obtain ⟨ly, R', rfl, hly, hR1, hR2, hR3, hR4⟩ : ∃ ly R', y = .ref ly ∧ HF ly = some (.lst (nV R')) ∧ R'.Nodup ∧ (∀ x ∈ R', x < t.sz) ∧ R'.length ≤ 1000 ∧ M.askOf t st en R' = M.askOf t st en R := by
            have hj : j = 0 ∨ j = 1 := by
              have := (List.getElem?_eq_some_iff.mp hy).1
              simp at this; omega
            rcases hj with rfl | rfl
            · exact ⟨l1, R, by simpa using hy.symm, sF _ _ a1, hnd, hlt, hRl, rfl⟩
            · exact ⟨l2, R.reverse, by simpa using hy.symm, sF _ _ a2, List.pairwise_reverse.mpr (hnd.imp fun h => Ne.symm h), fun x hx => hlt x (List.mem_reverse.mp hx), by rw [List.length_reverse]; exact hRl, ask_rev t st en R⟩
          refine ⟨_, rfl, ly, _, rfl, .inl (SqL.of hly), fun lh hlh => ?_⟩
          have hlh1 : upd HF lh (.lst (nV R')) lh = some (.lst (nV R')) := upd_same
          have sFG := same_new (u := .lst (nV R')) hlh
          generalize upd HF lh (.lst (nV R')) = HG at hlh1 sFG ⊢
          have sG := ((sD.trans sDE).trans sF).trans sFG
          refine ⟨_, rfl, _, rfl, _, rfl, _, rfl, x, lh, t, st, en, R', rfl, XT.more sG, h5, hst1, hen1, hlh1, hR1, hR2, hR3, fun HH sGH => ?_⟩
          rw [hR4]
          refine ⟨_, rfl, _, rfl, vl, _, rfl, (((sDE.trans sF).trans sFG).trans sGH) _ _ hvl, fun _ => .inr (ht_some _), fun HI sHI => ?_⟩
          refine .inl ⟨_, rfl, Sc.oV _, true, rfl, iteF ?_⟩
          have sGI := sGH.trans sHI
          refine ⟨_, rfl, _, rfl, .list (R'.map fun n : Nat => PyData.int n), .list (R'.map fun n : Nat => PyData.int n), .lst (SqL.of (sGI _ _ hlh1)) (ints_Dp R'), .lst (SqL.of ((sFG.trans sGI) _ _ hly)) (ints_Dp R'), ints_shaped R', ints_shaped R', _, rfl, ?_⟩
          have er : PyData.eqv (.list (R'.map fun n : Nat => PyData.int n)) (.list (R'.map fun n : Nat => PyData.int n)) = true := by rw [PyData.eqv]; exact ints_refl R'
          rw [er]
          exact iteF ⟨_, _, _, _, _, rfl, (sF.trans sFG).trans sGI⟩
        · obtain ⟨x11, x12, x13, x14, x15, rfl, sF⟩ := p
          have sDF := sDE.trans sF
          have hrrF := sDF _ _ hrrD
          refine ⟨_, rfl, rr, _, rfl, .inl (SqL.of hrrF), fun lh hlh => ?_⟩
          have hlh1 : upd HF lh (.lst (nV R)) lh = some (.lst (nV R)) := upd_same
          have sFG := same_new (u := .lst (nV R)) hlh
          generalize upd HF lh (.lst (nV R)) = HG at hlh1 sFG ⊢
          have sDG := sDF.trans sFG
          have sG := sD.trans sDG
          refine ⟨_, rfl, _, rfl, _, rfl, _, rfl, x, lh, t, st, en, R, rfl, XT.more sG, h5, hst1, hen1, hlh1, hnd, hlt, hRl, fun HH tb us sGH ntb htb ual => ?_⟩
          have sDH := sDG.trans sGH
          have sH := sD.trans sDH
          have RH := XR.more sH
          obtain ⟨rus2, hra2, ral2⟩ := RH
          have hul : us.length + 1 = t.sz := by rw [ual.len, M.needRows, List.length_map]; exact M.subs_len t 0
          have hrl2 : rus2.length + 1 = t.sz := by rw [ral2.len]; exact M.rowsOf_len t 0
          -- the three tests
          have er : PyData.eqv (.list (R.map fun n : Nat => PyData.int n)) (.list (R.map fun n : Nat => PyData.int n)) = true := by rw [PyData.eqv]; exact ints_refl R
          refine ⟨_, rfl, _, _, _, _, true, rfl, .ty _, .base (.lst htb), kit_ty (by decide +kernel), _, rfl, iteF ?_⟩
          refine ⟨_, rfl, _, _, rfl, .inl (SqL.of htb), _, rfl, _, _, rfl, .inl (SqL.of hra2), rfl, _, rfl, ?_⟩
          rw [show (!decide (V.int (us.length : Int) = V.int (rus2.length : Int))) = false by rw [show us.length = rus2.length by omega]; simp]
          refine iteF ⟨_, rfl, _, rfl, .list (R.map fun n : Nat => PyData.int n), .list (R.map fun n : Nat => PyData.int n), .lst (SqL.of (sGH _ _ hlh1)) (ints_Dp R), .lst (SqL.of (sDH _ _ hrrD)) (ints_Dp R), ints_shaped R, ints_shaped R, _, rfl, ?_⟩
          rw [er]
          refine iteF ?_
          have bxH := bxD.more sDH
          refine next_at ?_
          dsimp only
          refine cut_if (fun σ' H' => σ' = [some (.ref a), some (.ref b), some (.int (t.sz : Nat)), some (.ref ra), some (.ref x), some (.str (patS st)), some (.ref D), some (.int (i : Nat)), some (.str (patS en)), some (.ref rr), some (.ref vl), x11, some (.ref lh), x13, some (.ref tb), x15] ∧ Same HH H') (fun key => ?_) (fun σ' HK h => ?_)
          · refine ⟨_, rfl, _, _, rfl, rfl, _, rfl, ?_⟩
            refine ite2 (fun hgt => ?_) (fun _ => iteF (key _ _ ⟨rfl, Same.refl _⟩))
            have hgt : 1 < t.sz := by have := of_decide_eq_true hgt; omega
            have e2 : (t.sz : Int) - 2 = ((t.sz - 2 : Nat) : Int) := by omega
            have hu : (M.subs t 0)[t.sz - 2]? = some (t, 0) := by
              cases t with
              | lf => simp [M.T.sz] at hgt
              | nd l r =>
                have h1 := M.subs_len (.nd l r) 0
                have e3 : M.subs (.nd l r) 0 = (M.subs l 0 ++ M.subs r (0 + l.sz)) ++ [(.nd l r, 0)] := rfl
                rw [e3] at h1 ⊢
                rw [List.length_append] at h1
                have e4 : (M.T.nd l r).sz - 2 = (M.subs l 0 ++ M.subs r (0 + l.sz)).length := by simp only [List.length_cons, List.length_nil] at h1; omega
                rw [e4, List.getElem?_append_right (Nat.le_refl _), Nat.sub_self]; rfl
            obtain ⟨hrow, _, _⟩ := M.below_ok h5 hu
            have hnr : (M.needRows t st en R)[t.sz - 2]? = some (M.forkOf t 0, M.need (M.askOf t st en R)) := by rw [M.needRows, List.getElem?_map, hu]; rfl
            obtain ⟨uv, huv, qv, rfl, hqv⟩ := ual.get' hnr
            obtain ⟨rv, hrv, qr, rfl, hqr⟩ := ral2.get' hrow
            have hqr : HH qr = some (.tup [.int (M.forkOf t 0 : Nat), .int ((0 : Nat) : Int), .int ((0 + t.sz - 1 : Nat) : Int)]) := hqr
            refine ⟨_, rfl, _, rfl, _, _, rfl, rfl, tb, us, _, .ref qv, rfl, rfl, SqL.of htb, ?_, _, rfl, _, rfl, _, _, rfl, rfl, ra, rus2, _, .ref qr, rfl, rfl, SqL.of hra2, ?_, qr, _, _, _, rfl, rfl, SqT.of hqr, atI_nat (j := 0) rfl, szl, fun tf htf => ?_⟩
            · show atI us ((t.sz : Int) - 2) = _
              rw [e2]; exact atI_nat huv
            · show atI rus2 ((t.sz : Int) - 2) = _
              rw [e2]; exact atI_nat hrv
            refine ⟨_, rfl, ?_⟩
            have sf := same_new (u := .tup [.int (M.forkOf t 0 : Nat)]) htf
            refine catA_use upd_same (sf _ _ (sDH _ _ hvl)) (by simp [needV]) (by simp [needV]) (fun r HL sL hr => ?_)
            exact .inr ⟨qv, r, _, rfl, (sf.trans sL) _ _ hqv, hr, by simp [needV], sc_row _ _, true, rfl, iteF (key _ _ ⟨rfl, sf.trans sL⟩)⟩
          · obtain ⟨rfl, sHK⟩ := h
            have sK := sH.trans sHK
            have bxK := bxH.more sHK
            refine ⟨_, rfl, rfl, _, rfl, ?_⟩
            refine ite2 (fun _ => ?_) (fun _ => iteF ⟨_, _, _, _, _, _, _, _, _, rfl, sK, bxK⟩)
            refine ⟨_, rfl, _, rfl, _, rfl, _, rfl, _, rfl, ra, tb, rr, t, st, en, R, us, rfl, XR.more sK, sHK _ _ htb, ual.imp fun _ _ => RowAt.more sHK, h5, hst1, hen1, (sDH.trans sHK) _ _ hrrD, hnd, hlt, hRl, fun HM sM => ⟨true, rfl, iteF ⟨_, _, _, _, _, _, _, _, _, rfl, sK.trans sM, bxK.more sM⟩⟩⟩
      · obtain ⟨x7, x8, x9, x10, x11, x12, x13, x14, x15, rfl, sA, bxA⟩ := p
        exact k _
end
end My

set_option Elab.async false
set_option maxRecDepth 100000
set_option maxHeartbeats 4000000
namespace My
open PySem PySem.Spec PyProof.Rows L2
/-! ### what the top has written -/
def FunIn (K : PySem.W.Frag) (x : Str) (st : Stmt) : Prop := ∃ (f : Addr) (oc kV dc pm cd ct : Value) (od an : Option Addr) (sl : Array (Option Value)), PySem.W.nsIn K mainGlobals x = some (some (.ref f)) ∧
  K.lookup f = some ⟨oc, od, .func (PySem.W.fnOf x x (defArgs st) (defBody st) (defScope st) .none kV dc pm an cd ct), sl⟩ ∧ PySem.W.codeIn K cd x = true ∧ PySem.W.keepIn K (.ref f) = true
theorem FunIn.at_ {K : PySem.W.Frag} {h : Heap} {mg : Str → Option Value} (X : K.In h) (G : h.Ns mainGlobals mg) {x : Str} {st : Stmt} (F : FunIn K x st) : FunAt K mg x st := by
  obtain ⟨f, oc, kV, dc, pm, cd, ct, od, an, sl, a, l, c, k⟩ := F
  exact ⟨f, _, fun_mk l c k, PySem.W.mg_of X G a⟩
/-- a def of the class -/
def MethIn (K : PySem.W.Frag) (f : Addr) (x q : Str) (st : Stmt) : Prop := ∃ (oc kV dc pm cd ct : Value) (od an : Option Addr) (sl : Array (Option Value)),
  K.lookup f = some ⟨oc, od, .func (PySem.W.fnOf x q (defArgs st) (defBody st) (defScope st) .none kV dc pm an cd ct), sl⟩ ∧ PySem.W.codeIn K cd q = true ∧ PySem.W.keepIn K (.ref f) = true
theorem MethIn.fun_ {K : PySem.W.Frag} {f : Addr} {x q : Str} {st : Stmt} (F : MethIn K f x q st) : ∃ fd, Fun K x q st f fd := by
  obtain ⟨oc, kV, dc, pm, cd, ct, od, an, sl, l, c, k⟩ := F
  exact ⟨_, fun_mk l c k⟩
def TupIn (K : PySem.W.Frag) (a : Addr) (xs : List V) : Prop := ∃ (o : Obj) (its : Array Value) (n : Nat), K.lookup a = some o ∧ o.cls = .type "tuple" ∧ o.data = .seq its n ∧ its.size ≤ sizeLine ∧ Vals xs its.toList
structure TreeIn (K : PySem.W.Frag) (C : Addr) : Prop where
  pg : PySem.W.plainGet K C Str.empty = true
  hd : PySem.W.hasDictIn K C = true
  po : PySem.W.plainOver K C = true
  sa : PySem.W.findIn K (.ref C) "__setattr__" = some (some (.builtin "object.__setattr__"))
  mks : PySem.W.makesIn K C = true
  kc : PySem.W.keepIn K (.ref C) = true
  n_text : PySem.W.findIn K (.ref C) "text" = some none
  n_lefts : PySem.W.findIn K (.ref C) "lefts" = some none
  n_rights : PySem.W.findIn K (.ref C) "rights" = some none
  n_spans : PySem.W.findIn K (.ref C) "spans" = some none
  n_bounds : PySem.W.findIn K (.ref C) "bounds" = some none
  n_postorder : PySem.W.findIn K (.ref C) "postorder" = some none
  n_root : PySem.W.findIn K (.ref C) "root" = some none
  n_preorder : PySem.W.findIn K (.ref C) "preorder" = some none
  n_ways : PySem.W.findIn K (.ref C) "ways" = some none
  mo : ∃ t, PySem.W.findIn K (.ref C) "MOST" = some (some (.int 64 t)) ∧ PySem.W.specialIn K (.int 64 t) "__get__" = some none
  i_ : ∃ f, PySem.W.findIn K (.ref C) "__init__" = some (some (.ref f)) ∧ PySem.W.isFn K (.ref f) = true ∧ MethIn K f "__init__" "Tree.__init__" s_Tree___init__
  l_ : ∃ f, PySem.W.findIn K (.ref C) "__len__" = some (some (.ref f)) ∧ PySem.W.isFn K (.ref f) = true ∧ MethIn K f "__len__" "Tree.__len__" s_Tree___len__
  p_ : ∃ p g rest, PySem.W.findIn K (.ref C) "forks" = some (some (.ref p)) ∧ PySem.W.specialIn K (.ref p) "__get__" = some (some (.builtin "property.__get__")) ∧ PySem.W.takesIn K (.ref p) = some true ∧ PySem.W.recIn K p "property" = some (.ref g :: rest) ∧ MethIn K g "forks" "Tree.forks" s_Tree_forks
  w_ : ∃ f, PySem.W.findIn K (.ref C) "walk" = some (some (.ref f)) ∧ PySem.W.isFn K (.ref f) = true ∧ PySem.W.keepIn K (.ref f) = true ∧ ∃ (oc kV dc pm cd ct : Value) (od an : Option Addr) (sl : Array (Option Value)),
    K.lookup f = some ⟨oc, od, .func (PySem.W.fnOf "walk" "Tree.walk" (defArgs s_Tree_walk) (defBody s_Tree_walk) (defScope s_Tree_walk) .none kV dc pm an cd ct), sl⟩ ∧ PySem.W.codeIn K cd "Tree.walk" = true
theorem TreeIn.walk {K : PySem.W.Frag} {C : Addr} (R : TreeIn K C) : WalkAt K C := by
  obtain ⟨f, h1, h2, h3, oc, kV, dc, pm, cd, ct, od, an, sl, l, c⟩ := R.w_
  refine ⟨f, _, ⟨h1, h2, h3⟩, ⟨_, _, .none, kV, dc, pm, an, cd, ct, oc, od, sl, rfl, l, c⟩, fun s u v _ => .of_eq rfl, ⟨rfl, rfl, rfl, by decide +kernel, rfl, by decide +kernel, by decide +kernel⟩⟩
theorem TreeIn.tz {K : PySem.W.Frag} {C : Addr} {h : Heap} {mg : Str → Option Value} (X : K.In h) (G : h.Ns mainGlobals mg) (a : PySem.W.nsIn K mainGlobals "Tree" = some (some (.ref C))) (R : TreeIn K C) : Tz K mg C := by
  obtain ⟨t, m1, m2⟩ := R.mo
  exact ⟨PySem.W.mg_of X G a, ⟨R.pg, R.hd, R.po, R.sa⟩, R.n_text, R.n_lefts, R.n_rights, R.n_spans, R.n_bounds, R.n_postorder, R.n_root, R.n_preorder, R.n_ways, ⟨_, m1, ⟨t, rfl⟩, m2, by decide +kernel⟩⟩
/-! ### the facts, one by one -/
theorem FunIn.by_ {K : PySem.W.Frag} {x : Str} {st : Stmt} {f : Addr} {oc kV dc pm cd ct : Value} {od an : Option Addr} {sl : Array (Option Value)} (a : PySem.W.nsIn K mainGlobals x = some (some (.ref f)))
    (l : K.lookup f = some ⟨oc, od, .func (PySem.W.fnOf x x (defArgs st) (defBody st) (defScope st) .none kV dc pm an cd ct), sl⟩) (c : PySem.W.codeIn K cd x = true) (k : PySem.W.keepIn K (.ref f) = true) : FunIn K x st := ⟨f, oc, kV, dc, pm, cd, ct, od, an, sl, a, l, c, k⟩
theorem MethIn.by_ {K : PySem.W.Frag} {f : Addr} {x q : Str} {st : Stmt} {oc kV dc pm cd ct : Value} {od an : Option Addr} {sl : Array (Option Value)}
    (l : K.lookup f = some ⟨oc, od, .func (PySem.W.fnOf x q (defArgs st) (defBody st) (defScope st) .none kV dc pm an cd ct), sl⟩) (c : PySem.W.codeIn K cd q = true) (k : PySem.W.keepIn K (.ref f) = true) : MethIn K f x q st := ⟨oc, kV, dc, pm, cd, ct, od, an, sl, l, c, k⟩
theorem tup_by {K : PySem.W.Frag} {nm : Str} {xs : List V} {ra : Addr} {o : Obj} {its : Array Value} {n : Nat} (a : PySem.W.nsIn K mainGlobals nm = some (some (.ref ra))) (l : K.lookup ra = some o) (c : o.cls = .type "tuple") (d : o.data = .seq its n) (s : its.size ≤ sizeLine) (v : Vals xs its.toList) :
    ∃ ra, PySem.W.nsIn K mainGlobals nm = some (some (.ref ra)) ∧ TupIn K ra xs := ⟨ra, a, o, its, n, l, c, d, s, v⟩
theorem cls_by {K : PySem.W.Frag} {C : Addr} (a : PySem.W.nsIn K mainGlobals "Tree" = some (some (.ref C))) (t : TreeIn K C) : ∃ C, PySem.W.nsIn K mainGlobals "Tree" = some (some (.ref C)) ∧ TreeIn K C := ⟨C, a, t⟩
theorem mo_by {K : PySem.W.Frag} {C : Addr} {t : Tok} (a : PySem.W.findIn K (.ref C) "MOST" = some (some (.int 64 t))) (b : PySem.W.specialIn K (.int 64 t) "__get__" = some none) : ∃ t, PySem.W.findIn K (.ref C) "MOST" = some (some (.int 64 t)) ∧ PySem.W.specialIn K (.int 64 t) "__get__" = some none := ⟨t, a, b⟩
theorem meth_by {K : PySem.W.Frag} {C f : Addr} {x q : Str} {st : Stmt} (a : PySem.W.findIn K (.ref C) x = some (some (.ref f))) (b : PySem.W.isFn K (.ref f) = true) (m : MethIn K f x q st) : ∃ f, PySem.W.findIn K (.ref C) x = some (some (.ref f)) ∧ PySem.W.isFn K (.ref f) = true ∧ MethIn K f x q st := ⟨f, a, b, m⟩
theorem prop_by {K : PySem.W.Frag} {C p g : Addr} {rest : List Value} (a : PySem.W.findIn K (.ref C) "forks" = some (some (.ref p))) (b : PySem.W.specialIn K (.ref p) "__get__" = some (some (.builtin "property.__get__"))) (c : PySem.W.takesIn K (.ref p) = some true) (d : PySem.W.recIn K p "property" = some (.ref g :: rest)) (m : MethIn K g "forks" "Tree.forks" s_Tree_forks) :
    ∃ p g rest, PySem.W.findIn K (.ref C) "forks" = some (some (.ref p)) ∧ PySem.W.specialIn K (.ref p) "__get__" = some (some (.builtin "property.__get__")) ∧ PySem.W.takesIn K (.ref p) = some true ∧ PySem.W.recIn K p "property" = some (.ref g :: rest) ∧ MethIn K g "forks" "Tree.forks" s_Tree_forks := ⟨p, g, rest, a, b, c, d, m⟩
theorem walk_by {K : PySem.W.Frag} {C f : Addr} {oc kV dc pm cd ct : Value} {od an : Option Addr} {sl : Array (Option Value)} (a : PySem.W.findIn K (.ref C) "walk" = some (some (.ref f))) (b : PySem.W.isFn K (.ref f) = true) (c : PySem.W.keepIn K (.ref f) = true)
    (l : K.lookup f = some ⟨oc, od, .func (PySem.W.fnOf "walk" "Tree.walk" (defArgs s_Tree_walk) (defBody s_Tree_walk) (defScope s_Tree_walk) .none kV dc pm an cd ct), sl⟩) (cc : PySem.W.codeIn K cd "Tree.walk" = true) :
    ∃ f, PySem.W.findIn K (.ref C) "walk" = some (some (.ref f)) ∧ PySem.W.isFn K (.ref f) = true ∧ PySem.W.keepIn K (.ref f) = true ∧ ∃ (oc kV dc pm cd ct : Value) (od an : Option Addr) (sl : Array (Option Value)),
      K.lookup f = some ⟨oc, od, .func (PySem.W.fnOf "walk" "Tree.walk" (defArgs s_Tree_walk) (defBody s_Tree_walk) (defScope s_Tree_walk) .none kV dc pm an cd ct), sl⟩ ∧ PySem.W.codeIn K cd "Tree.walk" = true := ⟨f, a, b, c, oc, kV, dc, pm, cd, ct, od, an, sl, l, cc⟩
structure TopIn (K : PySem.W.Frag) : Prop where
  b_len : PySem.W.nsIn K mainGlobals "len" = some none
  b_range : PySem.W.nsIn K mainGlobals "range" = some none
  b_int : PySem.W.nsIn K mainGlobals "int" = some none
  b_bool : PySem.W.nsIn K mainGlobals "bool" = some none
  b_str : PySem.W.nsIn K mainGlobals "str" = some none
  b_list : PySem.W.nsIn K mainGlobals "list" = some none
  b_tuple : PySem.W.nsIn K mainGlobals "tuple" = some none
  b_sum : PySem.W.nsIn K mainGlobals "sum" = some none
  b_min : PySem.W.nsIn K mainGlobals "min" = some none
  b_max : PySem.W.nsIn K mainGlobals "max" = some none
  b_all : PySem.W.nsIn K mainGlobals "all" = some none
  b_sorted : PySem.W.nsIn K mainGlobals "sorted" = some none
  b_isinstance : PySem.W.nsIn K mainGlobals "isinstance" = some none
  b_enumerate : PySem.W.nsIn K mainGlobals "enumerate" = some none
  f_is_integer : FunIn K "is_integer" s_is_integer
  f_is_place : FunIn K "is_place" s_is_place
  f_is_made_of : FunIn K "is_made_of" s_is_made_of
  f_checked_pattern : FunIn K "checked_pattern" s_checked_pattern
  f_different_slots : FunIn K "different_slots" s_different_slots
  f_checked_slots : FunIn K "checked_slots" s_checked_slots
  f_agrees : FunIn K "agrees" s_agrees
  f_least_requests : FunIn K "least_requests" s_least_requests
  f_need_table : FunIn K "need_table" s_need_table
  f_least_of : FunIn K "least_of" s_least_of
  f_need_rows : FunIn K "need_rows" s_need_rows
  f_need_of : FunIn K "need_of" s_need_of
  f_fork_need : FunIn K "fork_need" s_fork_need
  f_talk_costs : FunIn K "talk_costs" s_talk_costs
  f_smallest : FunIn K "smallest" s_smallest
  f_ends_fork : FunIn K "ends_fork" s_ends_fork
  f_read_forks : FunIn K "read_forks" s_read_forks
  f_lay_ways : FunIn K "lay_ways" s_lay_ways
  f__law_box : FunIn K "_law_box" s__law_box
  f__law_take : FunIn K "_law_take" s__law_take
  f__law_rows : FunIn K "_law_rows" s__law_rows
  f__law_text : FunIn K "_law_text" s__law_text
  f__law_pattern : FunIn K "_law_pattern" s__law_pattern
  f__law_renewed : FunIn K "_law_renewed" s__law_renewed
  f__law_same : FunIn K "_law_same" s__law_same
  f__law_turned : FunIn K "_law_turned" s__law_turned
  f__law_blocked : FunIn K "_law_blocked" s__law_blocked
  f__law_agree : FunIn K "_law_agree" s__law_agree
  f__law_every : FunIn K "_law_every" s__law_every
  f__law_moves : FunIn K "_law_moves" s__law_moves
  f__law_first_states : FunIn K "_law_first_states" s__law_first_states
  f__law_searched : FunIn K "_law_searched" s__law_searched
  f__law_found : FunIn K "_law_found" s__law_found
  f__law_least : FunIn K "_law_least" s__law_least
  f__law_rows_told : FunIn K "_law_rows_told" s__law_rows_told
  f_law : FunIn K "law" s_law
  c_r : ∃ ra, PySem.W.nsIn K mainGlobals "RENEWED_NEED" = some (some (.ref ra)) ∧ TupIn K ra (needV (M.leafNeed true))
  c_o : ∃ oa, PySem.W.nsIn K mainGlobals "OTHER_NEED" = some (some (.ref oa)) ∧ TupIn K oa (needV (M.leafNeed false))
  cls : ∃ C, PySem.W.nsIn K mainGlobals "Tree" = some (some (.ref C)) ∧ TreeIn K C
theorem all_mk {P : Program} {w : World} {K : PySem.W.Frag} {h : Heap} {mg : Str → Option Value} {fa : Addr} (X : K.In h) (G : h.Ns mainGlobals mg) (hfa : mg "law" = some (.ref fa)) (R : TopIn K) :
    ∃ fd : FuncData, (∀ (s : Shared) (u : Value), BindsTo s fd ⟨[u], []⟩ [("_law_script", u)]) ∧ ∀ base : Heap, K.In base → base.Ns mainGlobals mg → FnOk P w K mg base CX0 9 fa fd ["_law_script"] (spLaw K) := by
  obtain ⟨C, cC, RC⟩ := R.cls
  obtain ⟨ra, cr, tr⟩ := R.c_r
  obtain ⟨oa, co, to⟩ := R.c_o
  have T : Tx K mg := ⟨PySem.W.mg_none_of X G R.b_len, PySem.W.mg_none_of X G R.b_range, PySem.W.mg_none_of X G R.b_int, PySem.W.mg_none_of X G R.b_bool, PySem.W.mg_none_of X G R.b_str, PySem.W.mg_none_of X G R.b_list, PySem.W.mg_none_of X G R.b_tuple, PySem.W.mg_none_of X G R.b_sum, PySem.W.mg_none_of X G R.b_min, PySem.W.mg_none_of X G R.b_max, PySem.W.mg_none_of X G R.b_all, PySem.W.mg_none_of X G R.b_sorted, PySem.W.mg_none_of X G R.b_isinstance, PySem.W.mg_none_of X G R.b_enumerate⟩
  have Gc : Gk K mg ra oa := ⟨PySem.W.mg_of X G cr, PySem.W.mg_of X G co, fun _ => .inr tr, fun _ => .inr to⟩
  have Z : Tz K mg C := TreeIn.tz X G cC RC
  have WK : WalkAt K C := RC.walk
  obtain ⟨fi, i1, i2, i3⟩ := RC.i_
  obtain ⟨fdi, Fi⟩ := i3.fun_
  have IF : IFun K C "Tree.__init__" s_Tree___init__ := ⟨fi, fdi, Fi, ⟨RC.mks, i1, i2, RC.kc⟩⟩
  obtain ⟨fl, l1, l2, l3⟩ := RC.l_
  obtain ⟨fdl, Fl⟩ := l3.fun_
  have LF : MFun K C "__len__" "Tree.__len__" s_Tree___len__ := ⟨fl, fdl, Fl, ⟨l1, l2, Fl.kp⟩⟩
  obtain ⟨p, g, rest, p1, p2, p3, p4, p5⟩ := RC.p_
  obtain ⟨fdg, Fg⟩ := p5.fun_
  have PF : PFun K C "forks" "Tree.forks" s_Tree_forks := ⟨p, g, fdg, Fg, ⟨p1, p2, p3, rest, p4⟩⟩
  obtain ⟨f, oc, kV, dc, pm, cd, ct, od, an, sl, a, l, c, k⟩ := R.f_law
  have e := hfa.symm.trans (PySem.W.mg_of X G a)
  cases e
  have F0 := fun_mk (st := s_law) l c k
  refine ⟨PySem.W.fnOf "law" "law" (defArgs s_law) (defBody s_law) (defScope s_law) .none kV dc pm an cd ct, fun s v => .of_eq rfl, fun base _ _ => ?_⟩
  have d1 := d_is_integer (P := P) (w := w) (base := base) T (R.f_is_integer.at_ X G)
  have d2 := d_is_place (P := P) (w := w) (base := base) T (R.f_is_place.at_ X G) d1
  have d3 := d_is_made_of (P := P) (w := w) (base := base) T (R.f_is_made_of.at_ X G)
  have d4 := d_agrees (P := P) (w := w) (base := base) T (R.f_agrees.at_ X G)
  have d5 := d_smallest (P := P) (w := w) (base := base) T (R.f_smallest.at_ X G)
  have d6 := d_different_slots (P := P) (w := w) (base := base) T (R.f_different_slots.at_ X G) d2
  have d7 := d_talk_costs (P := P) (w := w) (base := base) T (R.f_talk_costs.at_ X G)
  have d8 := d_fork_need (P := P) (w := w) (base := base) T (R.f_fork_need.at_ X G) d7 d5 d4
  have d9 := d_need_of (P := P) (w := w) (base := base) T Gc (R.f_need_of.at_ X G)
  have e1 := d_len (P := P) (w := w) (base := base) T Z LF
  have e2 := d_forks (P := P) (w := w) (base := base) T Z PF
  have e3 := d_checked_pattern (P := P) (w := w) (base := base) T Z (R.f_checked_pattern.at_ X G) d3 e2
  have e4 := d_checked_slots (P := P) (w := w) (base := base) T Z (R.f_checked_slots.at_ X G) d6 e1
  have e5 := d_need_rows (P := P) (w := w) (base := base) T Z WK (R.f_need_rows.at_ X G) d9 d8
  have e6 := d_least_of (P := P) (w := w) (base := base) T (R.f_least_of.at_ X G) e5 d5
  have e7 := d_least_requests (P := P) (w := w) (base := base) (R.f_least_requests.at_ X G) e3 e4 e6
  have e8 := d_need_table (P := P) (w := w) (base := base) (R.f_need_table.at_ X G) e3 e4 e5
  have e9 := d_ends_fork (P := P) (w := w) (base := base) (R.f_ends_fork.at_ X G)
  have g1 := d_read_forks (P := P) (w := w) (base := base) T (R.f_read_forks.at_ X G) e9
  have g2 := d_lay_ways (P := P) (w := w) (base := base) T (R.f_lay_ways.at_ X G)
  have g3 := d_init (P := P) (w := w) (base := base) T Z IF g1 g2
  have k1 := d__law_box (P := P) (w := w) (base := base) T (R.f__law_box.at_ X G)
  have k2 := d__law_take (P := P) (w := w) (base := base) T (R.f__law_take.at_ X G)
  have k3 := d__law_rows (P := P) (w := w) (base := base) T (R.f__law_rows.at_ X G) k2
  have k4 := d__law_text (P := P) (w := w) (base := base) T (R.f__law_text.at_ X G)
  have k5 := d__law_pattern (P := P) (w := w) (base := base) T (R.f__law_pattern.at_ X G) k2
  have k6 := d__law_renewed (P := P) (w := w) (base := base) T (R.f__law_renewed.at_ X G) k2
  have k7 := d_same0 (P := P) (w := w) (base := base) (R.f__law_same.at_ X G)
  have k8 := d_same1 (P := P) (w := w) (base := base) T (R.f__law_same.at_ X G) k7
  have k9 := d_same2 (P := P) (w := w) (base := base) T (R.f__law_same.at_ X G) k8
  have m1 := d__law_turned (P := P) (w := w) (base := base) T (R.f__law_turned.at_ X G)
  have m2 := d__law_blocked (P := P) (w := w) (base := base) T (R.f__law_blocked.at_ X G)
  have m3 := d__law_agree (P := P) (w := w) (base := base) T (R.f__law_agree.at_ X G)
  have m4 := d__law_every (P := P) (w := w) (base := base) T (R.f__law_every.at_ X G)
  have m5 := d__law_moves (P := P) (w := w) (base := base) T (R.f__law_moves.at_ X G) m2 m1
  have m6 := d__law_first_states (P := P) (w := w) (base := base) T (R.f__law_first_states.at_ X G) m3
  have m7 := d__law_searched (P := P) (w := w) (base := base) T (R.f__law_searched.at_ X G) m4 m5 m6
  have m8 := d__law_found (P := P) (w := w) (base := base) T (R.f__law_found.at_ X G) m4 m3
  have m9 := d__law_least (P := P) (w := w) (base := base) T (R.f__law_least.at_ X G)
  have n1 := d__law_rows_told (P := P) (w := w) (base := base) T (R.f__law_rows_told.at_ X G) m7 m8 k9
  have n2 := d_law (P := P) (w := w) (base := base) T Z F0 k1 k2 k3 k4 g3 k5 m7 k6 m8 e7 e8 k9 m9 n1
  exact n2.2.mono (by decide)
end My

set_option Elab.async false
set_option maxRecDepth 100000
namespace My
open PySem L2
theorem walk {l : PySem.W.OpenLaw} {q : Program} {loose : List Str} {XP : (Str → Option Value) → Heap → Prop} {YP : World → Heap → Prop} {d : DefRec} {K : Params → PySem.W.Frag} (hn : l.most = some 63) (hdf : d.params.defaults = [])
    (hY : ∀ (w : World) (h : Heap), YP w h → (K w.params).In h)
    (F : ∀ (w : World) (mg : Str → Option Value) (fa : Addr) (h : Heap), (K w.params).In h → h.Ns mainGlobals mg → mg d.name = some (.ref fa) →
      ∃ fd : FuncData, (∀ (s : Shared) (u : Value), BindsTo s fd ⟨[u], []⟩ [("_law_script", u)]) ∧ ∀ base : Heap, (K w.params).In base → base.Ns mainGlobals mg → FnOk l.prog w (K w.params) mg base CX0 9 fa fd ["_law_script"] (spLaw (K w.params))) :
    PySem.W.WalkO q loose XP YP l.row.toRowW d [] (fun f vs => PySem.call f vs) :=
  L2.walk_of (n := 63) (k := 9) (x := "_law_script") (CX := fun _ => CX0) (sp := fun w => spLaw (K w.params)) hn (by decide) hdf ⟨rfl, by decide, by decide⟩ hY F (fun _ _ a ns hl _ hS => ⟨a, ns, rfl, hS, hl, fun _ => rfl⟩) fun _ _ _ _ _ z => z
end My
open PySem PySem.W PyProof.Rows in
set_option maxRecDepth 100000 in
set_option maxHeartbeats 0 in
theorem PySem.Challenge.cw_lastside_k17_whole_least_by_search_holds : PySem.Challenge.rw_lastside_k17_whole_least_by_search.Holds := by
  w_on; o_law; k_head; (case hw => w_witness2)
  k_fill
  refine My.walk (l := PySem.Challenge.rw_lastside_k17_whole_least_by_search) rfl rfl (fun w h Y => PySem.W.kIn_of Y) ?F
  case F =>
    intro w mg fa h KX G hmg
    refine My.all_mk KX G hmg ?R
    case R =>
      clear hmg
      refine' ⟨?b0, ?b1, ?b2, ?b3, ?b4, ?b5, ?b6, ?b7, ?b8, ?b9, ?b10, ?b11, ?b12, ?b13, ?f0, ?f1, ?f2, ?f3, ?f4, ?f5, ?f6, ?f7, ?f8, ?f9, ?f10, ?f11, ?f12, ?f13, ?f14, ?f15, ?f16, ?f17, ?f18, ?f19, ?f20, ?f21, ?f22, ?f23, ?f24, ?f25, ?f26, ?f27, ?f28, ?f29, ?f30, ?f31, ?f32, ?f33, ?f34, ?f35, ?cr, ?co, ?cls⟩
      (case b0 => k_is)
      (case b1 => k_is)
      (case b2 => k_is)
      (case b3 => k_is)
      (case b4 => k_is)
      (case b5 => k_is)
      (case b6 => k_is)
      (case b7 => k_is)
      (case b8 => k_is)
      (case b9 => k_is)
      (case b10 => k_is)
      (case b11 => k_is)
      (case b12 => k_is)
      (case b13 => k_is)
      (case f0 => refine' My.FunIn.by_ ?a ?l ?c ?k; (case a => k_is); (case l => k_is); (case c => k_is); (case k => k_is))
      (case f1 => refine' My.FunIn.by_ ?a ?l ?c ?k; (case a => k_is); (case l => k_is); (case c => k_is); (case k => k_is))
      (case f2 => refine' My.FunIn.by_ ?a ?l ?c ?k; (case a => k_is); (case l => k_is); (case c => k_is); (case k => k_is))
      (case f3 => refine' My.FunIn.by_ ?a ?l ?c ?k; (case a => k_is); (case l => k_is); (case c => k_is); (case k => k_is))
      (case f4 => refine' My.FunIn.by_ ?a ?l ?c ?k; (case a => k_is); (case l => k_is); (case c => k_is); (case k => k_is))
      (case f5 => refine' My.FunIn.by_ ?a ?l ?c ?k; (case a => k_is); (case l => k_is); (case c => k_is); (case k => k_is))
      (case f6 => refine' My.FunIn.by_ ?a ?l ?c ?k; (case a => k_is); (case l => k_is); (case c => k_is); (case k => k_is))
      (case f7 => refine' My.FunIn.by_ ?a ?l ?c ?k; (case a => k_is); (case l => k_is); (case c => k_is); (case k => k_is))
      (case f8 => refine' My.FunIn.by_ ?a ?l ?c ?k; (case a => k_is); (case l => k_is); (case c => k_is); (case k => k_is))
      (case f9 => refine' My.FunIn.by_ ?a ?l ?c ?k; (case a => k_is); (case l => k_is); (case c => k_is); (case k => k_is))
      (case f10 => refine' My.FunIn.by_ ?a ?l ?c ?k; (case a => k_is); (case l => k_is); (case c => k_is); (case k => k_is))
      (case f11 => refine' My.FunIn.by_ ?a ?l ?c ?k; (case a => k_is); (case l => k_is); (case c => k_is); (case k => k_is))
      (case f12 => refine' My.FunIn.by_ ?a ?l ?c ?k; (case a => k_is); (case l => k_is); (case c => k_is); (case k => k_is))
      (case f13 => refine' My.FunIn.by_ ?a ?l ?c ?k; (case a => k_is); (case l => k_is); (case c => k_is); (case k => k_is))
      (case f14 => refine' My.FunIn.by_ ?a ?l ?c ?k; (case a => k_is); (case l => k_is); (case c => k_is); (case k => k_is))
      (case f15 => refine' My.FunIn.by_ ?a ?l ?c ?k; (case a => k_is); (case l => k_is); (case c => k_is); (case k => k_is))
      (case f16 => refine' My.FunIn.by_ ?a ?l ?c ?k; (case a => k_is); (case l => k_is); (case c => k_is); (case k => k_is))
      (case f17 => refine' My.FunIn.by_ ?a ?l ?c ?k; (case a => k_is); (case l => k_is); (case c => k_is); (case k => k_is))
      (case f18 => refine' My.FunIn.by_ ?a ?l ?c ?k; (case a => k_is); (case l => k_is); (case c => k_is); (case k => k_is))
      (case f19 => refine' My.FunIn.by_ ?a ?l ?c ?k; (case a => k_is); (case l => k_is); (case c => k_is); (case k => k_is))
      (case f20 => refine' My.FunIn.by_ ?a ?l ?c ?k; (case a => k_is); (case l => k_is); (case c => k_is); (case k => k_is))
      (case f21 => refine' My.FunIn.by_ ?a ?l ?c ?k; (case a => k_is); (case l => k_is); (case c => k_is); (case k => k_is))
      (case f22 => refine' My.FunIn.by_ ?a ?l ?c ?k; (case a => k_is); (case l => k_is); (case c => k_is); (case k => k_is))
      (case f23 => refine' My.FunIn.by_ ?a ?l ?c ?k; (case a => k_is); (case l => k_is); (case c => k_is); (case k => k_is))
      (case f24 => refine' My.FunIn.by_ ?a ?l ?c ?k; (case a => k_is); (case l => k_is); (case c => k_is); (case k => k_is))
      (case f25 => refine' My.FunIn.by_ ?a ?l ?c ?k; (case a => k_is); (case l => k_is); (case c => k_is); (case k => k_is))
      (case f26 => refine' My.FunIn.by_ ?a ?l ?c ?k; (case a => k_is); (case l => k_is); (case c => k_is); (case k => k_is))
      (case f27 => refine' My.FunIn.by_ ?a ?l ?c ?k; (case a => k_is); (case l => k_is); (case c => k_is); (case k => k_is))
      (case f28 => refine' My.FunIn.by_ ?a ?l ?c ?k; (case a => k_is); (case l => k_is); (case c => k_is); (case k => k_is))
      (case f29 => refine' My.FunIn.by_ ?a ?l ?c ?k; (case a => k_is); (case l => k_is); (case c => k_is); (case k => k_is))
      (case f30 => refine' My.FunIn.by_ ?a ?l ?c ?k; (case a => k_is); (case l => k_is); (case c => k_is); (case k => k_is))
      (case f31 => refine' My.FunIn.by_ ?a ?l ?c ?k; (case a => k_is); (case l => k_is); (case c => k_is); (case k => k_is))
      (case f32 => refine' My.FunIn.by_ ?a ?l ?c ?k; (case a => k_is); (case l => k_is); (case c => k_is); (case k => k_is))
      (case f33 => refine' My.FunIn.by_ ?a ?l ?c ?k; (case a => k_is); (case l => k_is); (case c => k_is); (case k => k_is))
      (case f34 => refine' My.FunIn.by_ ?a ?l ?c ?k; (case a => k_is); (case l => k_is); (case c => k_is); (case k => k_is))
      (case f35 => refine' My.FunIn.by_ ?a ?l ?c ?k; (case a => k_is); (case l => k_is); (case c => k_is); (case k => k_is))
      (case cr => refine' My.tup_by ?a ?l ?c ?d ?s ?v; (case a => k_is); (case l => k_is); (case c => rfl); (case d => rfl); (case s => decide +kernel); (case v => exact .cons ⟨_, rfl⟩ (.cons ⟨_, rfl⟩ (.cons ⟨_, rfl⟩ (.cons rfl .nil)))))
      (case co => refine' My.tup_by ?a ?l ?c ?d ?s ?v; (case a => k_is); (case l => k_is); (case c => rfl); (case d => rfl); (case s => decide +kernel); (case v => exact .cons ⟨_, rfl⟩ (.cons rfl (.cons ⟨_, rfl⟩ (.cons rfl .nil)))))
      (case cls => refine' My.cls_by ?za ?zT; (case za => k_is); (case zT => refine' ⟨?zpg, ?zhd, ?zpo, ?zsa, ?zmk, ?zkc, ?zn0, ?zn1, ?zn2, ?zn3, ?zn4, ?zn5, ?zn6, ?zn7, ?zn8, ?zmo, ?zi, ?zl, ?zp, ?zw⟩; (case zpg => k_is); (case zhd => k_is); (case zpo => k_is); (case zsa => k_is); (case zmk => k_is); (case zkc => k_is); (case zn0 => k_is); (case zn1 => k_is); (case zn2 => k_is); (case zn3 => k_is); (case zn4 => k_is); (case zn5 => k_is); (case zn6 => k_is); (case zn7 => k_is); (case zn8 => k_is); (case zmo => refine' My.mo_by ?moa ?mob; (case moa => k_is); (case mob => k_is)); (case zi => refine' My.meth_by ?ai ?bi ?mi; (case ai => k_is); (case bi => k_is); (case mi => refine' My.MethIn.by_ ?xi ?yi ?vi; (case xi => k_is); (case yi => k_is); (case vi => k_is))); (case zl => refine' My.meth_by ?al ?bl ?ml; (case al => k_is); (case bl => k_is); (case ml => refine' My.MethIn.by_ ?xl ?yl ?vl; (case xl => k_is); (case yl => k_is); (case vl => k_is))); (case zp => refine' My.prop_by ?pa ?pb ?pc ?pd ?pm; (case pa => k_is); (case pb => k_is); (case pc => k_is); (case pd => k_is); (case pm => refine' My.MethIn.by_ ?pl ?pcc ?pk; (case pl => k_is); (case pcc => k_is); (case pk => k_is))); (case zw => refine' My.walk_by ?wa ?wb ?wc ?wl ?wcc; (case wa => k_is); (case wb => k_is); (case wc => k_is); (case wl => k_is); (case wcc => k_is))))
