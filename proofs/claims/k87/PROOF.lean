import PyProof.Rows.All
import Wide.All
import OpenK.AllK
import Wide.FinOn
import HandS.ForMost
import HandS.Wide
import HandS.WideBits
import HandS.IsInst
import HandS.Style
import HandS.DictComp
import HandS.More
import HandS.Small
import PySem.Challenge.RW_boastrow_k87_whole_rows_cut_and_joined
import KE.RegKIsAll
set_option Elab.async false
namespace Bo
/-! ### sayings, totals, wishes over a row that is laid out (plain Lean) -/
abbrev Say := Int × Option Int
def tooM (m : Option Int) (w : Int) : Bool := match m with
  | none => false
  | some k => decide (k + 1 < w)
def inM (m : Option Int) (n : Int) : Bool := match m with
  | none => true
  | some k => decide (n ≤ k)
def soB (s : Say) (n : Int) : Bool := decide (s.1 ≤ n) && inM s.2 n
def step (s : Say) (n : Int) : Int := if soB s n = true then n + 1 else n
def tot (L : List Say) (n : Int) : Int := L.foldr step n
def wst (w : Int) (s : Say) : Int := if tooM s.2 w = true then w else if s.1 < w then w - 1 else w
def wsh (L : List Say) (w : Int) : Int := L.foldl wst w
def rep (t : Nat) (L : List Say) : List Say := (List.replicate t L).flatten

theorem tot_nil (n : Int) : tot [] n = n := rfl
theorem tot_cons (s : Say) (L : List Say) (n : Int) : tot (s :: L) n = step s (tot L n) := rfl
theorem tot_append (A B : List Say) (n : Int) : tot (A ++ B) n = tot A (tot B n) := by
  unfold tot; rw [List.foldr_append]
theorem wsh_nil (n : Int) : wsh [] n = n := rfl
theorem wsh_cons (s : Say) (L : List Say) (n : Int) : wsh (s :: L) n = wsh L (wst n s) := rfl
theorem wsh_append (A B : List Say) (n : Int) : wsh (A ++ B) n = wsh B (wsh A n) := by
  unfold wsh; rw [List.foldl_append]
theorem step_bd (s : Say) (n : Int) : n ≤ step s n ∧ step s n ≤ n + 1 := by
  unfold step; split <;> omega
theorem tot_bd (L : List Say) (n : Int) : n ≤ tot L n ∧ tot L n ≤ n + L.length := by
  induction L with
  | nil => simp [tot_nil]
  | cons s L ih =>
    rw [tot_cons, List.length_cons]
    have := step_bd s (tot L n)
    omega
theorem wst_bd (w : Int) (s : Say) : wst w s ≤ w ∧ w ≤ wst w s + 1 := by
  unfold wst; split
  · omega
  · split <;> omega
theorem wsh_bd (L : List Say) : ∀ w : Int, wsh L w ≤ w ∧ w ≤ wsh L w + L.length := by
  induction L with
  | nil => intro w; simp [wsh_nil]
  | cons s L ih =>
    intro w
    rw [wsh_cons, List.length_cons]
    have := wst_bd w s
    have := ih (wst w s)
    omega

theorem rep_zero (L : List Say) : rep 0 L = [] := rfl
theorem rep_succ (t : Nat) (L : List Say) : rep (t + 1) L = L ++ rep t L := by
  unfold rep; rw [List.replicate_succ, List.flatten_cons]
theorem rep_one (L : List Say) : rep 1 L = L := by rw [rep_succ, rep_zero, List.append_nil]
theorem rep_add (a b : Nat) (L : List Say) : rep (a + b) L = rep a L ++ rep b L := by
  unfold rep; rw [← List.replicate_append_replicate, List.flatten_append]
theorem rep_snoc (t : Nat) (L : List Say) : rep (t + 1) L = rep t L ++ L := by rw [rep_add, rep_one]
theorem rep_nil (t : Nat) : rep t [] = [] := by
  induction t with
  | zero => rfl
  | succ t ih => rw [rep_succ, ih]; rfl
theorem rep_len (t : Nat) (L : List Say) : (rep t L).length = t * L.length := by
  induction t with
  | zero => simp [rep_zero]
  | succ t ih => rw [rep_succ, List.length_append, ih, Nat.succ_mul, Nat.add_comm]
theorem rep_rep (a b : Nat) (L : List Say) : rep a (rep b L) = rep (a * b) L := by
  induction a with
  | zero => simp [rep_zero]
  | succ a ih => rw [rep_succ, ih, Nat.succ_mul, Nat.add_comm, rep_add]
theorem rep_rev (t : Nat) (L : List Say) : (rep t L).reverse = rep t L.reverse := by
  induction t with
  | zero => rfl
  | succ t ih => rw [rep_succ, List.reverse_append, ih, ← rep_snoc]
/-- cut within a row that is said over -/
theorem rep_split {t g : Nat} (h : g < t) (L : List Say) : rep t L = rep g L ++ (L ++ rep (t - g - 1) L) := by
  have e : t = g + (1 + (t - g - 1)) := by omega
  rw [e, rep_add, rep_add, rep_one]
  congr 3
  omega
theorem rep_drop {t g m : Nat} (h : g < t) {L : List Say} (hm : m < L.length) : (rep t L).drop (g * L.length + m) = L.drop m ++ rep (t - g - 1) L := by
  rw [rep_split h L, ← rep_len g L, List.drop_length_add_append, List.drop_append_of_le_length (by omega)]
theorem rep_take {t g m : Nat} (h : g < t) {L : List Say} (hm : m < L.length) : (rep t L).take (g * L.length + m) = rep g L ++ L.take m := by
  rw [rep_split h L, ← rep_len g L, List.take_length_add_append, List.take_append_of_le_length (by omega)]
theorem rep_get {t g m : Nat} (h : g < t) {L : List Say} (hm : m < L.length) : (rep t L)[g * L.length + m]? = L[m]? := by
  rw [rep_split h L, ← rep_len g L, List.getElem?_append_right (by omega), Nat.add_sub_cancel_left, List.getElem?_append_left hm]

/-! ### slack -/
def Slk (s : Option Int) (k : Int) : Prop := ∀ z, s = some z → k ≤ z
def lsl : Option Int → Option Int → Option Int
  | none, b => b
  | some a, none => some a
  | some a, some b => some (if b < a then b else a)
theorem lsl_nn {a b : Option Int} (ha : ∀ z, a = some z → 0 ≤ z) (hb : ∀ z, b = some z → 0 ≤ z) : ∀ z, lsl a b = some z → 0 ≤ z := by
  intro z h
  cases a with
  | none => exact hb z h
  | some a =>
    cases b with
    | none => exact ha z h
    | some b =>
      have h1 := ha a rfl
      have h2 := hb b rfl
      have e : (if b < a then b else a) = z := Option.some.inj h
      split at e <;> omega
theorem lsl_slk {a b : Option Int} {k : Int} (h : Slk (lsl a b) k) : Slk a k ∧ Slk b k := by
  cases a with
  | none => exact ⟨fun z e => (nomatch e), h⟩
  | some a =>
    cases b with
    | none => exact ⟨h, fun z e => (nomatch e)⟩
    | some b =>
      have h1 : k ≤ (if b < a then b else a) := h _ rfl
      constructor
      · intro z e; cases e; split at h1 <;> omega
      · intro z e; cases e; split at h1 <;> omega
structure Alike (L : List Say) (n : Int) (s : Option Int) : Prop where
  nn : ∀ z, s = some z → 0 ≤ z
  go : ∀ k, 0 ≤ k → Slk s k → tot L (n + k) = tot L n + k
theorem Alike.nil (n : Int) : Alike [] n none := ⟨fun _ e => (nomatch e), fun _ _ _ => rfl⟩
theorem Alike.append {A B : List Say} {n : Int} {s s' : Option Int} (b : Alike B n s) (a : Alike A (tot B n) s') : Alike (A ++ B) n (lsl s s') :=
  ⟨lsl_nn b.nn a.nn, fun k h0 hk => by
    obtain ⟨h1, h2⟩ := lsl_slk hk
    rw [tot_append, tot_append, b.go k h0 h1, a.go k h0 h2]⟩
/-- what word_of tells -/
def wordSl (s : Say) (n : Int) : Option Int := if n < s.1 then some (s.1 - 1 - n) else match s.2 with
  | none => none
  | some m => if n ≤ m then some (m - n) else none
theorem Alike.word (s : Say) (n : Int) : Alike [s] n (wordSl s n) := by
  obtain ⟨l, m⟩ := s
  have e : ∀ x, tot [(l, m)] x = step (l, m) x := fun _ => rfl
  cases m with
  | none =>
    have st : ∀ x, step (l, none) x = if l ≤ x then x + 1 else x := fun x => by simp [step, soB, inM]
    constructor
    · intro z h
      simp only [wordSl] at h
      split at h
      · cases h; omega
      · cases h
    · intro k h0 hk
      rw [e, e, st, st]
      simp only [wordSl] at hk
      split at hk
      · have := hk _ rfl; rw [if_neg (by omega), if_neg (by omega)]
      · rw [if_pos (by omega), if_pos (by omega)]; omega
  | some m =>
    have st : ∀ x, step (l, some m) x = if l ≤ x ∧ x ≤ m then x + 1 else x := fun x => by simp [step, soB, inM]
    constructor
    · intro z h
      simp only [wordSl] at h
      split at h
      · cases h; omega
      · split at h
        · cases h; omega
        · cases h
    · intro k h0 hk
      rw [e, e, st, st]
      simp only [wordSl] at hk
      split at hk
      · have := hk _ rfl; rw [if_neg (by omega), if_neg (by omega)]
      · split at hk
        · have := hk _ rfl
          rw [if_pos (by omega), if_pos (by omega)]; omega
        · rw [if_neg (by omega), if_neg (by omega)]
/-- several times in which nobody says otherwise than the time before -/
theorem Alike.times {L : List Say} {n : Int} {s : Option Int} (a : Alike L n s) : ∀ (j : Nat), (∀ z, s = some z → (j : Int) * (tot L n - n) ≤ z) →
    tot (rep (j + 1) L) n = n + ((j : Int) + 1) * (tot L n - n) ∧
    Alike (rep (j + 1) L) n (s.map fun z => z - (j : Int) * (tot L n - n)) := by
  have hg : 0 ≤ tot L n - n := by have := (tot_bd L n).1; omega
  have key : ∀ (j : Nat) (k : Int), 0 ≤ k → (∀ z, s = some z → (j : Int) * (tot L n - n) + k ≤ z) → tot (rep (j + 1) L) (n + k) = n + ((j : Int) + 1) * (tot L n - n) + k := by
    intro j
    induction j with
    | zero =>
      intro k h0 hk
      rw [rep_one, a.go k h0 fun z e => by have := hk z e; simp at this; exact this]
      simp
      omega
    | succ j ih =>
      intro k h0 hk
      have hj : 0 ≤ (j : Int) * (tot L n - n) := Int.mul_nonneg (by omega) hg
      have ex : ((j + 1 : Nat) : Int) * (tot L n - n) = (j : Int) * (tot L n - n) + (tot L n - n) := by
        rw [Int.natCast_add, Int.add_mul]; simp
      have ey : ((j : Int) + 1) * (tot L n - n) = (j : Int) * (tot L n - n) + (tot L n - n) := by rw [Int.add_mul]; simp
      rw [rep_succ, tot_append, ih k h0 fun z e => by have := hk z e; omega]
      have e2 : n + ((j : Int) + 1) * (tot L n - n) + k = n + (((j : Int) + 1) * (tot L n - n) + k) := by omega
      rw [e2, a.go _ (by omega) fun z e => by have := hk z e; omega]
      have ez : (((j + 1 : Nat) : Int) + 1) * (tot L n - n) = (j : Int) * (tot L n - n) + (tot L n - n) + (tot L n - n) := by
        rw [Int.add_mul, ex]; simp
      rw [ez, ey]
      omega
  intro j hj
  have k0 := key j 0 (Int.le_refl _) fun z e => by have := hj z e; omega
  rw [Int.add_zero, Int.add_zero] at k0
  refine ⟨k0, ⟨fun z e => ?_, fun k h0 hk => ?_⟩⟩
  · cases hs : s with
    | none => rw [hs] at e; cases e
    | some y => rw [hs] at e; cases e; have := hj y hs; show 0 ≤ y - _; omega
  · rw [key j k h0 fun z e => ?_, k0]
    have := hk (z - _) (by rw [e]; rfl)
    omega

/-! the wish, likewise, downwards -/
structure WAlike (L : List Say) (w : Int) (s : Option Int) : Prop where
  nn : ∀ z, s = some z → 0 ≤ z
  go : ∀ k, 0 ≤ k → Slk s k → wsh L (w - k) = wsh L w - k
theorem WAlike.nil (n : Int) : WAlike [] n none := ⟨fun _ e => (nomatch e), fun _ _ _ => rfl⟩
theorem WAlike.append {A B : List Say} {n : Int} {s s' : Option Int} (a : WAlike A n s) (b : WAlike B (wsh A n) s') : WAlike (A ++ B) n (lsl s s') :=
  ⟨lsl_nn a.nn b.nn, fun k h0 hk => by
    obtain ⟨h1, h2⟩ := lsl_slk hk
    rw [wsh_append, wsh_append, a.go k h0 h1, b.go k h0 h2]⟩
def wishSl (s : Say) (w : Int) : Option Int := if tooM s.2 w = true then (match s.2 with | none => none | some m => some (w - m - 2)) else if s.1 < w then some (w - s.1 - 1) else none
theorem WAlike.word (s : Say) (w : Int) : WAlike [s] w (wishSl s w) := by
  obtain ⟨l, m⟩ := s
  have e : ∀ x, wsh [(l, m)] x = wst x (l, m) := fun _ => rfl
  cases m with
  | none =>
    have st : ∀ x, wst x (l, none) = if l < x then x - 1 else x := fun x => by simp [wst, tooM]
    have sl : wishSl (l, none) w = if l < w then some (w - l - 1) else none := by simp [wishSl, tooM]
    rw [sl]
    constructor
    · intro z h
      split at h
      · cases h; omega
      · cases h
    · intro k h0 hk
      rw [e, e, st, st]
      split at hk
      · have := hk _ rfl
        rw [if_pos (by omega), if_pos (by omega)]; omega
      · rw [if_neg (by omega), if_neg (by omega)]
  | some m =>
    have st : ∀ x, wst x (l, some m) = if m + 1 < x then x else if l < x then x - 1 else x := fun x => by simp [wst, tooM]
    have sl : wishSl (l, some m) w = if m + 1 < w then some (w - m - 2) else if l < w then some (w - l - 1) else none := by simp [wishSl, tooM]
    rw [sl]
    constructor
    · intro z h
      split at h
      · cases h; omega
      · split at h
        · cases h; omega
        · cases h
    · intro k h0 hk
      rw [e, e, st, st]
      split at hk
      · have := hk _ rfl
        rw [if_pos (by omega), if_pos (by omega)]
      · split at hk
        · have := hk _ rfl
          rw [if_neg (by omega), if_pos (by omega), if_neg (by omega), if_pos (by omega)]; omega
        · rw [if_neg (by omega), if_neg (by omega), if_neg (by omega), if_neg (by omega)]
theorem WAlike.times {L : List Say} {n : Int} {s : Option Int} (a : WAlike L n s) : ∀ (j : Nat), (∀ z, s = some z → (j : Int) * (n - wsh L n) ≤ z) →
    wsh (rep (j + 1) L) n = n - ((j : Int) + 1) * (n - wsh L n) ∧
    WAlike (rep (j + 1) L) n (s.map fun z => z - (j : Int) * (n - wsh L n)) := by
  have hg : 0 ≤ n - wsh L n := by have := (wsh_bd L n).1; omega
  have key : ∀ (j : Nat) (k : Int), 0 ≤ k → (∀ z, s = some z → (j : Int) * (n - wsh L n) + k ≤ z) → wsh (rep (j + 1) L) (n - k) = n - ((j : Int) + 1) * (n - wsh L n) - k := by
    intro j
    induction j with
    | zero =>
      intro k h0 hk
      rw [rep_one, a.go k h0 fun z e => by have := hk z e; simp at this; exact this]
      simp
      omega
    | succ j ih =>
      intro k h0 hk
      have hj : 0 ≤ (j : Int) * (n - wsh L n) := Int.mul_nonneg (by omega) hg
      have ex : ((j + 1 : Nat) : Int) * (n - wsh L n) = (j : Int) * (n - wsh L n) + (n - wsh L n) := by
        rw [Int.natCast_add, Int.add_mul]; simp
      have ey : ((j : Int) + 1) * (n - wsh L n) = (j : Int) * (n - wsh L n) + (n - wsh L n) := by rw [Int.add_mul]; simp
      rw [rep_snoc, wsh_append, ih k h0 fun z e => by have := hk z e; omega]
      have e2 : n - ((j : Int) + 1) * (n - wsh L n) - k = n - (((j : Int) + 1) * (n - wsh L n) + k) := by omega
      rw [e2, a.go _ (by omega) fun z e => by have := hk z e; omega]
      have ez : (((j + 1 : Nat) : Int) + 1) * (n - wsh L n) = (j : Int) * (n - wsh L n) + (n - wsh L n) + (n - wsh L n) := by
        rw [Int.add_mul, ex]; simp
      rw [ez, ey]
      omega
  intro j hj
  have k0 := key j 0 (Int.le_refl _) fun z e => by have := hj z e; omega
  rw [Int.sub_zero, Int.sub_zero] at k0
  refine ⟨k0, ⟨fun z e => ?_, fun k h0 hk => ?_⟩⟩
  · cases hs : s with
    | none => rw [hs] at e; cases e
    | some y => rw [hs] at e; cases e; have := hj y hs; show 0 ≤ y - _; omega
  · rw [key j k h0 fun z e => ?_, k0]
    have := hk (z - _) (by rw [e]; rfl)
    omega
end Bo
set_option Elab.async false
set_option linter.all false
set_option maxRecDepth 100000
set_option maxHeartbeats 4000000
namespace Bo
open PySem L2 PySem.Spec PyProof.Rows

def top (i : Nat) : Stmt := PySem.Challenge.pw_boastrow_k87_whole_rows_cut_and_joined.main.body.getD i (.Pass ⟨0, 0, 0, 0⟩)

/-! ### defs, methods, makings as words of the text -/
section
variable (P : Program) (w : World) (K : PySem.W.Frag) (mg : Str → Option Value) (base : Heap)
def Raw (x : Str) (st : Stmt) (ps : List Str) : Prop := ∃ f fd, mg x = some (.ref f) ∧ Fun K x x st f fd ∧ Binds K fd ps []
def RawM (C : Addr) (m qual : Str) (st : Stmt) (ps : List Str) : Prop := ∃ f fd, Meth K C m f ∧ Fun K m qual st f fd ∧ Binds K fd ps []
def RawC (x : Str) (C : Addr) (qual : Str) (st : Stmt) (ps : List Str) : Prop := ∃ f fd, mg x = some (.ref C) ∧ Mk K C f ∧ Fun K "__init__" qual st f fd ∧ Binds K fd ps []
def Dn (x : Str) (k : Nat) (ps : List Str) (sp : Sp) : Prop := ∃ f fd, mg x = some (.ref f) ∧ PySem.W.keepIn K (.ref f) = true ∧ Binds K fd ps [] ∧ FnOk P w K mg base CX0 k f fd ps sp
def DnM (C : Addr) (m : Str) (k : Nat) (ps : List Str) (sp : Sp) : Prop := ∃ f fd, Meth K C m f ∧ Binds K fd ps [] ∧ FnOk P w K mg base CX0 k f fd ps sp
def DnC (x : Str) (C : Addr) (k : Nat) (ps : List Str) (sp : Sp) : Prop := ∃ f fd, mg x = some (.ref C) ∧ Mk K C f ∧ Binds K fd ps [] ∧ FnOk P w K mg base CX0 k f fd ps sp
end
section
variable {P : Program} {w : World} {K : PySem.W.Frag} {mg : Str → Option Value} {base : Heap}
theorem Raw.ok {x : Str} {st : Stmt} {ps N : List Str} {k : Nat} {sp : Sp} (R : Raw K mg x st ps) (S : FnScope N ps (defScope st)) (len : ∀ vs H Q E, sp vs H Q E → vs.length = ps.length)
    (hbody : ∀ (f : Addr) (cdv : Value) (A : Around) (outer : List Env) (s : Shared) (H : Hp) (vs : List V) (Q : VK) (E : XK), Room k (A.deeper (envOfC x (defScope st) s.heap.objs.size f cdv)) → sp vs H Q E →
      ∃ t, PSs (cxOf CX0 P w K mg base N x (defScope st) f cdv A outer s H E).nox (defBody st) t ∧ t { nx := fun _ H' => Q .non H', rt := Q } (start N vs) H) : Dn P w K mg base x (k + 1) ps sp := by
  obtain ⟨f, fd, h1, F, b⟩ := R
  exact ⟨f, fd, h1, F.kp, b, F.ok S len (hbody f)⟩
theorem RawM.ok {C : Addr} {m qual : Str} {st : Stmt} {ps N : List Str} {k : Nat} {sp : Sp} (R : RawM K C m qual st ps) (S : FnScope N ps (defScope st)) (len : ∀ vs H Q E, sp vs H Q E → vs.length = ps.length)
    (hbody : ∀ (f : Addr) (cdv : Value) (A : Around) (outer : List Env) (s : Shared) (H : Hp) (vs : List V) (Q : VK) (E : XK), Room k (A.deeper (envOfC qual (defScope st) s.heap.objs.size f cdv)) → sp vs H Q E →
      ∃ t, PSs (cxOf CX0 P w K mg base N qual (defScope st) f cdv A outer s H E).nox (defBody st) t ∧ t { nx := fun _ H' => Q .non H', rt := Q } (start N vs) H) : DnM P w K mg base C m (k + 1) ps sp := by
  obtain ⟨f, fd, h1, F, b⟩ := R
  exact ⟨f, fd, h1, b, F.ok S len (hbody f)⟩
theorem RawC.ok {x : Str} {C : Addr} {qual : Str} {st : Stmt} {ps N : List Str} {k : Nat} {sp : Sp} (R : RawC K mg x C qual st ps) (S : FnScope N ps (defScope st)) (len : ∀ vs H Q E, sp vs H Q E → vs.length = ps.length)
    (hbody : ∀ (f : Addr) (cdv : Value) (A : Around) (outer : List Env) (s : Shared) (H : Hp) (vs : List V) (Q : VK) (E : XK), Room k (A.deeper (envOfC qual (defScope st) s.heap.objs.size f cdv)) → sp vs H Q E →
      ∃ t, PSs (cxOf CX0 P w K mg base N qual (defScope st) f cdv A outer s H E).nox (defBody st) t ∧ t { nx := fun _ H' => Q .non H', rt := Q } (start N vs) H) : DnC P w K mg base x C (k + 1) ps sp := by
  obtain ⟨f, fd, h1, h2, F, b⟩ := R
  exact ⟨f, fd, h1, h2, b, F.ok S len (hbody f)⟩
/-- nothing can be asked of it -/
def prv (sp : Nat → Sp) : Nat → Sp
  | 0 => fun _ _ _ _ => False
  | d + 1 => sp d
theorem Raw.no {x : Str} {st : Stmt} {ps : List Str} (R : Raw K mg x st ps) (k : Nat) (sp : Nat → Sp) : Dn P w K mg base x k ps (prv sp 0) := by
  obtain ⟨f, fd, h1, F, b⟩ := R
  exact ⟨f, fd, h1, F.kp, b, fun vs H Q E h => h.elim, fun A outer s H args us vs Q E _ _ _ _ h => h.elim⟩
theorem Dn.mono {x : Str} {j k : Nat} {ps : List Str} {sp : Sp} (D : Dn P w K mg base x j ps sp) (h : j ≤ k) : Dn P w K mg base x k ps sp := by
  obtain ⟨f, fd, h1, h2, h3, h4⟩ := D
  exact ⟨f, fd, h1, h2, h3, h4.mono h⟩
end
section
variable {X : Cx} {x m : Str} {p pos apos : Pos} {e o : Expr} {es : List Expr} {t : TA} {k : Nat} {ps : List Str} {sp : Sp} {C : Addr} {ta : TE}
theorem pe_callD (D : Dn X.prog X.w X.K X.mg X.base x k ps sp) (hr : Room k X.A) (hg : Gl X x) (ha : PA X (e :: es) t)
    (hdb : (x == ("__debug__" : Str)) = false := by decide) (he : starEach (e :: es) X.env = (false, eval e X.env) :: starEach es X.env := by rfl) (hpl : (backTo pos (starEach es X.env)).any (·.1) = false := by rfl) :
    PE X (.Call (.Name x p) (e :: es) [] pos) (tCall sp [] E0 t) := by
  obtain ⟨f, fd, h1, h2, h3, h4⟩ := D
  exact pe_call h4 hr hg h1 h2 h3 .nil pass0 ha hdb he hpl
theorem pe_methD {pl : Sem Bool} (hv : PE X o ta) (c : Cls X.K C) (D : DnM X.prog X.w X.K X.mg X.base C m k ps sp) (hr : Room k X.A) (ha : PA X (e :: es) t)
    (hst : starEach (e :: es) X.env = (false, eval e X.env) :: starEach es X.env := by rfl) (hpl : (backTo pos (starEach es X.env)).any (·.1) = false := by rfl)
    (ht : eval (.Call (.Attribute o m apos) (e :: es) [] pos) X.env = (do
      let ov ← eval o X.env
      standAt apos.atName
      let (f, first) ← holding [ov] (getMethod ov m pl)
      callWith pos f first (backTo pos (starEach (e :: es) X.env)) (backToKw pos (keywordEach [] X.env))) := by rfl) :
    PE X (.Call (.Attribute o m apos) (e :: es) [] pos) (tMeth C m sp [] E0 ta t) := by
  obtain ⟨f, fd, h1, h2, h3⟩ := D
  exact pe_meth hv c h1 h3 hr h2 .nil pass0 ha hst hpl ht
theorem pe_meth0D {pl : Sem Bool} (hv : PE X o ta) (c : Cls X.K C) (D : DnM X.prog X.w X.K X.mg X.base C m k ps sp) (hr : Room k X.A)
    (ht : eval (.Call (.Attribute o m apos) [] [] pos) X.env = (do
      let ov ← eval o X.env
      standAt apos.atName
      let (f, first) ← holding [ov] (getMethod ov m pl)
      callWith pos f first (backTo pos (starEach [] X.env)) (backToKw pos (keywordEach [] X.env))) := by rfl) :
    PE X (.Call (.Attribute o m apos) [] [] pos) (tMeth C m sp [] E0 ta tNil) := by
  obtain ⟨f, fd, h1, h2, h3⟩ := D
  exact pe_meth0 hv c h1 h3 hr h2 .nil pass0 ht
theorem pe_mkD (D : DnC X.prog X.w X.K X.mg X.base x C k ps sp) (hr : Room (k + 1) X.A) (hg : Gl X x) (ha : PA X (e :: es) t)
    (hdb : (x == ("__debug__" : Str)) = false := by decide) (he : starEach (e :: es) X.env = (false, eval e X.env) :: starEach es X.env := by rfl) (hpl : (backTo pos (starEach es X.env)).any (·.1) = false := by rfl) :
    PE X (.Call (.Name x p) (e :: es) [] pos) (tMake C sp [] E0 t) := by
  obtain ⟨f, fd, h1, h2, h3, h4⟩ := D
  exact pe_make h2 h4 hr hg h1 h3 .nil pass0 ha hdb he hpl
theorem pe_mk0D (D : DnC X.prog X.w X.K X.mg X.base x C k ps sp) (hr : Room (k + 1) X.A) (hg : Gl X x) (hdb : (x == ("__debug__" : Str)) = false := by decide) :
    PE X (.Call (.Name x p) [] [] pos) (tMake C sp [] E0 tNil) := by
  obtain ⟨f, fd, h1, h2, h3, h4⟩ := D
  exact pe_make0 h2 h4 hr hg h1 h3 .nil pass0 hdb
/-- another reading, weaker -/
theorem PE.imp {t u : TE} (h : PE X e t) (i : ∀ σ H Q, u σ H Q → t σ H Q) : PE X e u := ⟨fun pins s σ H Q I hw => h.run pins s σ H Q I (i σ H Q hw)⟩
/-- ** of great ints -/
def CPowW (i j : Int) : Prop := 0 ≤ j ∧ (Builtin.Int.intBits i : Int) * j ≤ 2 ^ 27
theorem op_powW : OpR X (binaryOp .Pow) (rI CPowW fun i j => .int (i ^ j.toNat)) := opI fun _ _ _ _ _ _ _ hc q => pow_int hc.1 hc.2 q
/-- two lists of unlike lengths compared -/
def rEqLen (K : PySem.W.Frag) : R2 := fun x y H Q => ∃ a b xs ys, x = .ref a ∧ y = .ref b ∧ SqL K H a xs ∧ SqL K H b ys ∧ xs.length ≠ ys.length ∧ Q (.bl false) H
theorem op_eqLen (hu : X.A.units < cLine) : OpR X (compareOp .Eq) (rEqLen X.K) := by
  intro pins s σ H x y v u Q I rx ry h
  obtain ⟨a, b, xs, ys, rfl, rfl, ha, hb, hl, q⟩ := h
  cases (show v = Value.ref a from rx)
  cases (show u = Value.ref b from ry)
  obtain ⟨us, r1, p1, _⟩ := I.list ha
  obtain ⟨ws, r2, p2, _⟩ := I.list hb
  refine PySem.SeqAt.eq_list_lengthsAt p1.isList p2.isList ?_ hu ⟨.bl false, H, I, rfl, q⟩
  have e1 := r1.length
  have e2 := r2.length
  rw [List.size_toArray, List.size_toArray, ← e1, ← e2]
  exact bne_iff_ne.mpr hl
/-- .. or empty both -/
def rEqNil (K : PySem.W.Frag) : R2 := fun x y H Q => ∃ a b xs, x = .ref a ∧ y = .ref b ∧ SqL K H a xs ∧ SqL K H b [] ∧ Q (.bl (decide (xs = []))) H
theorem op_eqNil (hu : X.A.units < cLine) : OpR X (compareOp .Eq) (rEqNil X.K) := by
  intro pins s σ H x y v u Q I rx ry h
  obtain ⟨a, b, xs, rfl, rfl, ha, hb, q⟩ := h
  by_cases e : xs = []
  · subst e
    cases (show v = Value.ref a from rx)
    cases (show u = Value.ref b from ry)
    obtain ⟨us, r1, p1, _⟩ := I.list ha
    obtain ⟨ws, r2, p2, _⟩ := I.list hb
    cases r1
    cases r2
    refine PySem.SeqAt.eq_listAt (e := fun _ => true) p1.isList p2.isList rfl hu (fun j h1 _ => absurd h1 (Nat.not_lt_zero j)) ?_
    exact ⟨.bl true, H, I, rfl, by simpa using q⟩
  · rw [decide_eq_false e] at q
    exact op_eqLen hu pins s σ H _ _ v u Q I rx ry ⟨a, b, xs, [], rfl, rfl, ha, hb, fun z => e (List.eq_nil_of_length_eq_zero z), q⟩
end
end Bo
set_option Elab.async false
set_option linter.all false
set_option maxRecDepth 100000
set_option maxHeartbeats 4000000
namespace Bo
open PySem L2 PySem.Spec PyProof.Rows

/-! ### what the classes are, what the module's names hold -/
structure InstF (K : PySem.W.Frag) (C : Addr) : Prop where
  cl : Cls K C
  ha : PySem.W.findIn K (.ref C) "__class__" = some (some (.builtin "object.__class__"))
  hn : PySem.W.specialIn K (.builtin "object.__class__") "__get__" = some (some (.builtin "getset_descriptor.__get__"))
  htk : PySem.W.takesIn K (.builtin "object.__class__") = some true
  hm : PySem.W.mroIn K C (.type "object") = some true
theorem InstF.ty {K : PySem.W.Frag} {C a dx : Addr} {H : Hp} {fs : List (Str × V)} (I : InstF K C) (e : H a = some (.ins C dx fs)) : TyX K H (.ref a) (.ref C) := .base (.ins e I.cl I.ha I.hn I.htk I.hm)
structure Txt (K : PySem.W.Frag) (mg : Str → Option Value) (CS CO CH : Addr) : Prop where
  iS : InstF K CS
  iO : InstF K CO
  cH : Cls K CH
  s1 : NoAttr K CS "s8_said"
  s2 : NoAttr K CS "s8_number"
  s3 : NoAttr K CS "s8_many"
  o1 : NoAttr K CO "s8_times"
  o2 : NoAttr K CO "s8_parts"
  o3 : NoAttr K CO "s8_once"
  o4 : NoAttr K CO "s8_many"
  h1 : NoAttr K CH "s10_rows"
  h2 : NoAttr K CH "s10_done"
  h3 : NoAttr K CH "s10_undone"
  kSS : PySem.W.kitOne K (.ref CS) (.ref CS) = some true
  kOS : PySem.W.kitOne K (.ref CO) (.ref CS) = some false
  kSO : PySem.W.kitOne K (.ref CS) (.ref CO) = some false
  kOO : PySem.W.kitOne K (.ref CO) (.ref CO) = some true
  mgCS : mg "Spot" = some (.ref CS)
  mgCO : mg "Over" = some (.ref CO)
  mgCH : mg "Hall" = some (.ref CH)
  ne : CS ≠ CO
  c_MOST_PEOPLE : ∃ t, mg "MOST_PEOPLE" = some (.int 999999999999999999999999999999 t)
  c_FEW : ∃ t, mg "FEW" = some (.int 0 t)
  c_TRUE : ∃ t, mg "TRUE" = some (.int 1 t)
  c_MOST_LETTERS : ∃ t, mg "MOST_LETTERS" = some (.int 8 t)
  c_AGAIN : ∃ t, mg "AGAIN" = some (.str "again" t)
  c_LETTERS : ∃ t, mg "LETTERS" = some (.str "abcdefghijklmnopqrstuvwxyz" t)
  b_isinstance : mg "isinstance" = none
  b_len : mg "len" = none
  b_sum : mg "sum" = none
  b_min : mg "min" = none
  b_max : mg "max" = none
  b_abs : mg "abs" = none
  b_all : mg "all" = none
  b_sorted : mg "sorted" = none
  b_divmod : mg "divmod" = none
  b_dict : mg "dict" = none
  b_range : mg "range" = none
  b_int : mg "int" = none
  b_bool : mg "bool" = none
  b_tuple : mg "tuple" = none
  b_list : mg "list" = none
  b_str : mg "str" = none
theorem pe_gi {X : Cx} {x : Str} {i : Int} {pos : Pos} (h : ∃ t, X.mg x = some (.int i t)) (hg : Gl X x) (hd : (x == ("__debug__" : Str)) = false := by decide) : PE X (.Name x pos) (tC (.int i)) := by
  obtain ⟨t, h⟩ := h
  exact pe_glob hg h ⟨t, rfl⟩ hd
theorem pe_gs {X : Cx} {x y : Str} {pos : Pos} (h : ∃ t, X.mg x = some (.str y t)) (hg : Gl X x) (hd : (x == ("__debug__" : Str)) = false := by decide) : PE X (.Name x pos) (tC (.str y)) := by
  obtain ⟨t, h⟩ := h
  exact pe_glob hg h ⟨t, rfl⟩ hd

/-! ### attributes -/
def spotF (sa : Addr) (k : Int) : List (Str × V) := [("s8_said", .ref sa), ("s8_number", .int k), ("s8_many", .int 1)]
def overF (t n m : Int) (a : Addr) : List (Str × V) := [("s8_times", .int t), ("s8_parts", .ref a), ("s8_once", .int n), ("s8_many", .int m)]
def hallF (r d u : Addr) : List (Str × V) := [("s10_rows", .ref r), ("s10_done", .ref d), ("s10_undone", .ref u)]
theorem lk_pos {f : Str} {v : V} {fs : List (Str × V)} : ((f, v) :: fs).lookup f = some v := by
  rw [List.lookup_cons, beq_self_eq_true]
theorem lk_neg {f g : Str} {v : V} {fs : List (Str × V)} (h : g ≠ f) : ((f, v) :: fs).lookup g = fs.lookup g := by
  rw [List.lookup_cons, beq_eq_false_iff_ne.mpr h]
theorem pf_pos {f : Str} {v w : V} {fs : List (Str × V)} : putF f w ((f, v) :: fs) = (f, w) :: fs := by
  show (if f = f then _ else _) = _
  rw [if_pos rfl]
theorem pf_neg {f g : Str} {v w : V} {fs : List (Str × V)} (h : f ≠ g) : putF g w ((f, v) :: fs) = (f, v) :: putF g w fs := by
  show (if f = g then _ else _) = _
  rw [if_neg h]
theorem pf_nil {f : Str} {w : V} : putF f w [] = [(f, w)] := rfl
section
variable {sa a r d u r' : Addr} {k t n m : Int}
theorem sf_said : (spotF sa k).lookup ("s8_said" : Str) = some (V.ref sa) := lk_pos
theorem sf_num : (spotF sa k).lookup ("s8_number" : Str) = some (V.int k) := by
  unfold spotF; rw [lk_neg (by decide +kernel), lk_pos]
theorem sf_many : (spotF sa k).lookup ("s8_many" : Str) = some (V.int 1) := by
  unfold spotF; rw [lk_neg (by decide +kernel), lk_neg (by decide +kernel), lk_pos]
theorem of_times : (overF t n m a).lookup ("s8_times" : Str) = some (V.int t) := lk_pos
theorem of_parts : (overF t n m a).lookup ("s8_parts" : Str) = some (V.ref a) := by
  unfold overF; rw [lk_neg (by decide +kernel), lk_pos]
theorem of_once : (overF t n m a).lookup ("s8_once" : Str) = some (V.int n) := by
  unfold overF; rw [lk_neg (by decide +kernel), lk_neg (by decide +kernel), lk_pos]
theorem of_many : (overF t n m a).lookup ("s8_many" : Str) = some (V.int m) := by
  unfold overF; rw [lk_neg (by decide +kernel), lk_neg (by decide +kernel), lk_neg (by decide +kernel), lk_pos]
theorem hf_rows : (hallF r d u).lookup ("s10_rows" : Str) = some (V.ref r) := lk_pos
theorem hf_done : (hallF r d u).lookup ("s10_done" : Str) = some (V.ref d) := by
  unfold hallF; rw [lk_neg (by decide +kernel), lk_pos]
theorem hf_undone : (hallF r d u).lookup ("s10_undone" : Str) = some (V.ref u) := by
  unfold hallF; rw [lk_neg (by decide +kernel), lk_neg (by decide +kernel), lk_pos]
theorem hf_no {x : Str} (h1 : x ≠ "s10_rows") (h2 : x ≠ "s10_done") (h3 : x ≠ "s10_undone") : (hallF r d u).lookup x = none := by
  unfold hallF; rw [lk_neg h1, lk_neg h2, lk_neg h3]; rfl
theorem hf_put_rows : putF "s10_rows" (.ref r') (hallF r d u) = hallF r' d u := pf_pos
theorem hf_put_undone : putF "s10_undone" (.ref r') (hallF r d u) = hallF r d r' := by
  unfold hallF; rw [pf_neg (by decide +kernel), pf_neg (by decide +kernel), pf_pos]
theorem sf_make : putF "s8_many" (.int 1) (putF "s8_number" (.int k) (putF "s8_said" (.ref sa) [])) = spotF sa k := by
  unfold spotF; rw [pf_nil, pf_neg (by decide +kernel), pf_nil, pf_neg (by decide +kernel), pf_neg (by decide +kernel), pf_nil]
theorem of_make1 : putF "s8_once" (.int n) (putF "s8_parts" (.ref a) (putF "s8_times" (.int t) [])) = ([("s8_times", V.int t), ("s8_parts", V.ref a), ("s8_once", V.int n)] : List (Str × V)) := by
  rw [pf_nil, pf_neg (by decide +kernel), pf_nil, pf_neg (by decide +kernel), pf_neg (by decide +kernel), pf_nil]
theorem of_make2 : putF "s8_many" (.int m) [("s8_times", .int t), ("s8_parts", .ref a), ("s8_once", .int n)] = overF t n m a := by
  unfold overF; rw [pf_neg (by decide +kernel), pf_neg (by decide +kernel), pf_neg (by decide +kernel), pf_nil]
theorem of_once1 : ([("s8_times", .int t), ("s8_parts", .ref a), ("s8_once", .int n)] : List (Str × V)).lookup ("s8_once" : Str) = some (V.int n) := by
  rw [lk_neg (by decide +kernel), lk_neg (by decide +kernel), lk_pos]
theorem hf_make : putF "s10_undone" (.ref u) (putF "s10_done" (.ref d) (putF "s10_rows" (.ref r) [])) = hallF r d u := by
  unfold hallF; rw [pf_nil, pf_neg (by decide +kernel), pf_nil, pf_neg (by decide +kernel), pf_neg (by decide +kernel), pf_nil]
end

/-! ### rows that stand in the heap -/
/-- a bound of all times and numbers of people; of written things -/
abbrev big : Nat := 2 ^ 128
abbrev lim : Nat := 4000000
theorem lim_eq : lim = 4000000 := rfl
theorem lim_lt : lim < sizeLine := by rw [sizeLine_eq]; decide
def SayV : Option Int → V
  | none => .non
  | some k => .int k
def SayAt (H : Hp) (sa : Addr) (s : Say) : Prop := H sa = some (.tup [.int s.1, SayV s.2]) ∧ 0 ≤ s.1 ∧ ∀ k, s.2 = some k → s.1 ≤ k
/-- what is laid out, and how many written things it is -/
abbrev El := List Say × Nat
def flat : List El → List Say
  | [] => []
  | e :: es => e.1 ++ flat es
def wsum : List El → Nat
  | [] => 0
  | e :: es => e.2 + wsum es
theorem flat_append (a b : List El) : flat (a ++ b) = flat a ++ flat b := by
  induction a with
  | nil => rfl
  | cons e r ih => show e.1 ++ flat (r ++ b) = e.1 ++ flat r ++ flat b; rw [ih, List.append_assoc]
theorem wsum_append (a b : List El) : wsum (a ++ b) = wsum a + wsum b := by
  induction a with
  | nil => show wsum b = 0 + wsum b; omega
  | cons e r ih => show e.2 + wsum (r ++ b) = e.2 + wsum r + wsum b; omega
theorem flat_one (e : El) : flat [e] = e.1 := by show e.1 ++ [] = e.1; rw [List.append_nil]
theorem wsum_one (e : El) : wsum [e] = e.2 := by show e.2 + 0 = e.2; omega
theorem wsum_mem {e : El} : ∀ {es : List El}, e ∈ es → e.2 ≤ wsum es
  | _ :: r, h => by
    show e.2 ≤ _ + wsum r
    rcases List.mem_cons.mp h with h | h
    · subst h; omega
    · have := wsum_mem h; omega
theorem flat_mem {e : El} : ∀ {es : List El}, e ∈ es → e.1.length ≤ (flat es).length
  | a :: r, h => by
    show e.1.length ≤ (a.1 ++ flat r).length
    rw [List.length_append]
    rcases List.mem_cons.mp h with h | h
    · subst h; omega
    · have := flat_mem h; omega

def SpotAt (CS : Addr) (H : Hp) (v : V) (e : El) : Prop := ∃ (x dx sa : Addr) (k : Int) (s : Say), v = .ref x ∧ H x = some (.ins CS dx (spotF sa k)) ∧ 0 ≤ k ∧ k < 1000 ∧ SayAt H sa s ∧ e = ([s], 1)
def OverAt (CO : Addr) (R : Hp → V → El → Prop) (H : Hp) (v : V) (e : El) : Prop := ∃ (x dx a : Addr) (t : Nat) (vs : List V) (es : List El), v = .ref x ∧ H x = some (.ins CO dx (overF t (flat es).length ((t : Int) * (flat es).length) a)) ∧
  H a = some (.lst vs) ∧ Paired (R H) vs es ∧ t ≤ big ∧ (flat es).length ≤ big ∧ wsum es ≤ lim ∧ e = (rep t (flat es), 1 + wsum es)
def PartH (CS CO : Addr) : Nat → Hp → V → El → Prop
  | 0 => fun _ _ _ => False
  | d + 1 => fun H v e => SpotAt CS H v e ∨ OverAt CO (PartH CS CO d) H v e
def ListH (CS CO : Addr) (d : Nat) (H : Hp) (a : Addr) (es : List El) : Prop := ∃ vs, H a = some (.lst vs) ∧ Paired (PartH CS CO d H) vs es
def SayItem (H : Hp) (v : V) (e : El) : Prop := ∃ (sa : Addr) (s : Say), v = .ref sa ∧ SayAt H sa s ∧ e = ([s], 1)
def AgainAt (R : Hp → V → El → Prop) (H : Hp) (v : V) (e : El) : Prop := ∃ (x a : Addr) (t : Nat) (vs : List V) (es : List El), v = .ref x ∧ H x = some (.tup [.str "again", .int t, .ref a]) ∧
  H a = some (.lst vs) ∧ Paired (R H) vs es ∧ t ≤ big ∧ (flat es).length ≤ big ∧ wsum es ≤ lim ∧ e = (rep t (flat es), 1 + wsum es)
def ItemH : Nat → Hp → V → El → Prop
  | 0 => fun _ _ _ => False
  | d + 1 => fun H v e => SayItem H v e ∨ AgainAt (ItemH d) H v e
def LongH (d : Nat) (H : Hp) (a : Addr) (es : List El) : Prop := ∃ vs, H a = some (.lst vs) ∧ Paired (ItemH d H) vs es

section
variable {CS CO : Addr} {H H' : Hp}
theorem SayAt.same {sa : Addr} {s : Say} (e : Same H H') (h : SayAt H sa s) : SayAt H' sa s := ⟨e _ _ h.1, h.2⟩
theorem SpotAt.same {v : V} {x : El} (e : Same H H') (h : SpotAt CS H v x) : SpotAt CS H' v x := by
  obtain ⟨p, dx, sa, k, s, h1, h2, h3, h4, h5, h6⟩ := h
  exact ⟨p, dx, sa, k, s, h1, e _ _ h2, h3, h4, h5.same e, h6⟩
theorem PartH.same : ∀ {d : Nat} {v : V} {x : El}, Same H H' → PartH CS CO d H v x → PartH CS CO d H' v x
  | 0, _, _, _, h => h
  | d + 1, v, x, e, h => by
    rcases h with h | ⟨p, dx, a, t, vs, es, h1, h2, h3, h4, h5⟩
    · exact .inl (h.same e)
    · exact .inr ⟨p, dx, a, t, vs, es, h1, e _ _ h2, e _ _ h3, Paired.mapP h4 fun _ _ z => PartH.same e z, h5⟩
theorem ListH.same {d : Nat} {a : Addr} {es : List El} (e : Same H H') (h : ListH CS CO d H a es) : ListH CS CO d H' a es := by
  obtain ⟨vs, h1, h2⟩ := h
  exact ⟨vs, e _ _ h1, Paired.mapP h2 fun _ _ z => z.same e⟩
theorem SayItem.same {v : V} {x : El} (e : Same H H') (h : SayItem H v x) : SayItem H' v x := by
  obtain ⟨sa, s, h1, h2, h3⟩ := h
  exact ⟨sa, s, h1, h2.same e, h3⟩
theorem ItemH.same : ∀ {d : Nat} {v : V} {x : El}, Same H H' → ItemH d H v x → ItemH d H' v x
  | 0, _, _, _, h => h
  | d + 1, v, x, e, h => by
    rcases h with h | ⟨p, a, t, vs, es, h1, h2, h3, h4, h5⟩
    · exact .inl (h.same e)
    · exact .inr ⟨p, a, t, vs, es, h1, e _ _ h2, e _ _ h3, Paired.mapP h4 fun _ _ z => ItemH.same e z, h5⟩
theorem LongH.same {d : Nat} {a : Addr} {es : List El} (e : Same H H') (h : LongH d H a es) : LongH d H' a es := by
  obtain ⟨vs, h1, h2⟩ := h
  exact ⟨vs, e _ _ h1, Paired.mapP h2 fun _ _ z => z.same e⟩
theorem PartH.up : ∀ {d : Nat} {v : V} {x : El}, PartH CS CO d H v x → PartH CS CO (d + 1) H v x
  | 0, _, _, h => h.elim
  | d + 1, v, x, h => by
    rcases h with h | ⟨p, dx, a, t, vs, es, h1, h2, h3, h4, h5⟩
    · exact .inl h
    · exact .inr ⟨p, dx, a, t, vs, es, h1, h2, h3, Paired.mapP h4 fun _ _ z => PartH.up z, h5⟩
theorem PartH.le {d : Nat} {v : V} {x : El} (h : PartH CS CO d H v x) : ∀ {d' : Nat}, d ≤ d' → PartH CS CO d' H v x := by
  intro d' hd
  induction hd with
  | refl => exact h
  | step _ ih => exact ih.up
theorem PartH.w1 : ∀ {d : Nat} {v : V} {x : El}, PartH CS CO d H v x → 1 ≤ x.2
  | 0, _, _, h => h.elim
  | d + 1, v, x, h => by
    rcases h with ⟨p, dx, sa, k, s, h1, h2, h3, h4, h5, rfl⟩ | ⟨p, dx, a, t, vs, es, h1, h2, h3, h4, h5, h6, h7, rfl⟩
    · exact Nat.le_refl 1
    · exact Nat.le_add_right 1 _
theorem ItemH.w1 : ∀ {d : Nat} {v : V} {x : El}, ItemH d H v x → 1 ≤ x.2
  | 0, _, _, h => h.elim
  | d + 1, v, x, h => by
    rcases h with ⟨sa, s, h1, h2, rfl⟩ | ⟨p, a, t, vs, es, h1, h2, h3, h4, h5, h6, h7, rfl⟩
    · exact Nat.le_refl 1
    · exact Nat.le_add_right 1 _
theorem paired_len {R : V → El → Prop} (hR : ∀ v e, R v e → 1 ≤ e.2) : ∀ {vs : List V} {es : List El}, Paired R vs es → vs.length ≤ wsum es
  | _, _, .nil => Nat.zero_le _
  | _, _, .cons (b := e) h t => by
    have := paired_len hR t
    have := hR _ _ h
    show _ + 1 ≤ e.2 + wsum _
    omega
theorem PartH.len {d : Nat} {vs : List V} {es : List El} (h : Paired (PartH CS CO d H) vs es) : vs.length ≤ wsum es := paired_len (fun _ _ z => z.w1) h
theorem ItemH.len {d : Nat} {vs : List V} {es : List El} (h : Paired (ItemH d H) vs es) : vs.length ≤ wsum es := paired_len (fun _ _ z => z.w1) h
/-- an object of a row: its class is one of two, it tells how many people it is -/
theorem PartH.obj {K : PySem.W.Frag} {mg : Str → Option Value} {CH : Addr} (T : Txt K mg CS CO CH) : ∀ {d : Nat} {v : V} {x : El}, PartH CS CO d H v x → ∃ (p C dx : Addr) (fs : List (Str × V)), v = .ref p ∧ H p = some (.ins C dx fs) ∧ Cls K C ∧ NoAttr K C "s8_many" ∧ fs.lookup ("s8_many" : Str) = some (V.int x.1.length)
  | 0, _, _, h => h.elim
  | d + 1, v, x, h => by
    rcases h with ⟨p, dx, sa, k, s, h1, h2, h3, h4, h5, rfl⟩ | ⟨p, dx, a, t, vs, es, h1, h2, h3, h4, h5, h6, h7, rfl⟩
    · exact ⟨p, CS, dx, _, h1, h2, T.iS.cl, T.s3, sf_many⟩
    · refine ⟨p, CO, dx, _, h1, h2, T.iO.cl, T.o4, ?_⟩
      rw [of_many, rep_len, Int.natCast_mul]
theorem pget {α β : Type} {R : α → β → Prop} : ∀ {xs : List α} {ys : List β} {i : Nat} {x : α}, Paired R xs ys → xs[i]? = some x → ∃ y, ys[i]? = some y ∧ R x y
  | _, _, _, _, .nil, e => by simp at e
  | _, _, 0, _, .cons r _, e => by simp at e; subst e; exact ⟨_, rfl, r⟩
  | _, _, i + 1, x, .cons _ t, e => by
    obtain ⟨u, h1, h2⟩ := pget (i := i) (x := x) t (by simpa using e)
    exact ⟨u, by simpa using h1, h2⟩
theorem papp {α β : Type} {R : α → β → Prop} : ∀ {xs xs' : List α} {ys ys' : List β}, Paired R xs ys → Paired R xs' ys' → Paired R (xs ++ xs') (ys ++ ys')
  | _, _, _, _, .nil, s => s
  | _, _, _, _, .cons r t, s => .cons r (papp t s)
theorem pone {α β : Type} {R : α → β → Prop} {x : α} {y : β} (h : R x y) : Paired R [x] [y] := .cons h .nil
theorem prev {α β : Type} {R : α → β → Prop} : ∀ {xs : List α} {ys : List β}, Paired R xs ys → Paired R xs.reverse ys.reverse
  | _, _, .nil => .nil
  | _, _, .cons r t => by rw [List.reverse_cons, List.reverse_cons]; exact papp (prev t) (pone r)
theorem same_new {p : Addr} (h : H p = none) (o : HO) : Same H (upd H p o) := fun b u q => by rw [upd_ne (ne_of_none q h)]; exact q
/-- what is solid (never written again): S, of the heap H; behind some steps S' of H'; what was tracked and not solid is not solid later -/
structure Sol (S H S' H' : Hp) : Prop where
  up : Same S S'
  ok : Same S' H'
  no : ∀ b, S b = none → H b ≠ none → S' b = none
  dom : ∀ b, H b ≠ none → H' b ≠ none
theorem Sol.refl {S H : Hp} (e : Same S H) : Sol S H S H := ⟨Same.refl _, e, fun _ h _ => h, fun _ h => h⟩
theorem Sol.trans {S H S1 H1 S2 H2 : Hp} (a : Sol S H S1 H1) (b : Sol S1 H1 S2 H2) : Sol S H S2 H2 :=
  ⟨a.up.trans b.up, b.ok, fun c h1 h2 => b.no c (a.no c h1 h2) (a.dom c h2), fun c h => b.dom c (a.dom c h)⟩
theorem same_dom {H H' : Hp} (e : Same H H') : ∀ b, H b ≠ none → H' b ≠ none := fun b h z => by
  cases q : H b with
  | none => exact h q
  | some o => rw [e b o q] at z; cases z
/-- a read, or things made that nobody will ask for -/
theorem Sol.same {S H S1 H1 H2 : Hp} (a : Sol S H S1 H1) (e : Same H1 H2) : Sol S H S1 H2 := ⟨a.up, a.ok.trans e, a.no, fun b h => same_dom e b (a.dom b h)⟩
theorem upd_dom {H : Hp} {p b : Addr} {o : HO} (h : H b ≠ none) : upd H p o b ≠ none := fun z => by
  by_cases e : b = p
  · subst e; rw [upd_same] at z; cases z
  · rw [upd_ne e] at z; exact h z
theorem same_upd {S H : Hp} (e : Same S H) {p : Addr} (h : S p = none) (o : HO) : Same S (upd H p o) := fun b u q => by rw [upd_ne (ne_of_none q h)]; exact e b u q
/-- a thing that is not solid is written (or made, and will be written) -/
theorem Sol.write {S H S1 H1 : Hp} (a : Sol S H S1 H1) {p : Addr} (h : S1 p = none) (o : HO) : Sol S H S1 (upd H1 p o) := ⟨a.up, same_upd a.ok h o, a.no, fun b z => upd_dom (a.dom b z)⟩
theorem Sol.new {S H S1 H1 : Hp} (a : Sol S H S1 H1) {p : Addr} (h : H1 p = none) (o : HO) : Sol S H S1 (upd H1 p o) := a.write (a.ok.free h) o
/-- a thing that was made behind the entry is solid from now on -/
theorem Sol.seal {S H S1 H1 : Hp} (a : Sol S H S1 H1) {p : Addr} {o : HO} (h0 : H p = none) (hS : S1 p = none) (h1 : H1 p = some o) : Sol S H (upd S1 p o) H1 :=
  ⟨a.up.trans (same_new hS o), fun b u q => by
    by_cases e : b = p
    · subst e; rw [upd_same] at q; cases q; exact h1
    · rw [upd_ne e] at q; exact a.ok b u q, fun b z1 z2 => by rw [upd_ne (fun e => z2 (by rw [e]; exact h0))]; exact a.no b z1 z2, a.dom⟩
theorem Sol.laid {S H S1 H1 : Hp} (a : Sol S H S1 H1) {p : Addr} (h : H1 p = none) (o : HO) : Sol S H (upd S1 p o) (upd H1 p o) :=
  ⟨a.up.trans (same_new (a.ok.free h) o), fun b u q => by
    by_cases e : b = p
    · subst e; rw [upd_same] at q ⊢; exact q
    · rw [upd_ne e] at q ⊢; exact a.ok b u q, fun b z1 z2 => by rw [upd_ne (fun e => a.dom b z2 (by rw [e]; exact h))]; exact a.no b z1 z2, fun b z => upd_dom (a.dom b z)⟩
theorem tyes {σ : L2.St} {H : Hp} {A B : Hp → Prop} (h : A H) : tYes σ H (fun b H3 => if b = true then A H3 else B H3) := by
  show if true = true then A H else B H
  rw [if_pos rfl]
  exact h
theorem take_succ {α : Type} {l : List α} {i : Nat} {x : α} (h : l[i]? = some x) : l.take (i + 1) = l.take i ++ [x] := by
  rw [List.take_add_one, h]; rfl
theorem flat_take {es : List El} {i : Nat} {e : El} (h : es[i]? = some e) : flat (es.take (i + 1)) = flat (es.take i) ++ e.1 := by
  rw [take_succ h, flat_append, flat_one]
theorem wsum_take {es : List El} {i : Nat} {e : El} (h : es[i]? = some e) : wsum (es.take (i + 1)) = wsum (es.take i) + e.2 := by
  rw [take_succ h, wsum_append, wsum_one]
theorem wsum_take_le (es : List El) (i : Nat) : wsum (es.take i) ≤ wsum es := by
  have := congrArg wsum (List.take_append_drop i es)
  rw [wsum_append] at this
  omega
theorem flat_take_le (es : List El) (i : Nat) : (flat (es.take i)).length ≤ (flat es).length := by
  have := congrArg (fun z => (flat z).length) (List.take_append_drop i es)
  simp only [flat_append, List.length_append] at this
  omega
theorem flat_split (es : List El) (i : Nat) : flat es = flat (es.take i) ++ flat (es.drop i) := by
  rw [← flat_append, List.take_append_drop]
end
end Bo
set_option Elab.async false
set_option linter.all false
set_option maxRecDepth 100000
set_option maxHeartbeats 4000000
namespace Bo
open PySem L2 PySem.Spec PyProof.Rows
/-! ### rows.py -/
def spIsNum : Sp := fun vs H Q _ => ∃ i : Int, vs = [.int i] ∧ Q (.bl (decide (0 ≤ i))) H
def spIsSay : Sp := fun vs H Q _ => (∃ sa s, vs = [.ref sa] ∧ SayAt H sa s ∧ Q (.bl true) H) ∨ ∃ x xs, vs = [.ref x] ∧ H x = some (.tup xs) ∧ xs.length = 3 ∧ Q (.bl false) H
def spNeedNum : Sp := fun vs H Q _ => ∃ i : Int, vs = [.int i] ∧ 0 ≤ i ∧ Q .non H
def spNeedSay : Sp := fun vs H Q _ => ∃ sa s, vs = [.ref sa] ∧ SayAt H sa s ∧ Q .non H
def spNeedPlace : Sp := fun vs H Q _ => ∃ i m : Int, vs = [.int i, .int m] ∧ 0 ≤ i ∧ i ≤ m ∧ Q .non H
section
variable {P : Program} {w : World} {K : PySem.W.Frag} {mg : Str → Option Value} {base : Heap} {CS CO CH : Addr}
abbrev sIs_number : Stmt := top 12
theorem scIs_number : FnScope ["thing"] ["thing"] (defScope sIs_number) := ⟨rfl, rfl, rfl, by decide +kernel, rfl, by decide +kernel, by decide +kernel⟩
theorem ok_is_number (T : Txt K mg CS CO CH) (R : Raw K mg "is_number" sIs_number ["thing"]) : Dn P w K mg base "is_number" 1 ["thing"] spIsNum := by
  refine R.ok scIs_number (fun vs H Q E h => ?_) (fun f cdv A outer s H vs Q E hr h => ?_)
  · obtain ⟨i, rfl, _⟩ := h; rfl
  obtain ⟨i, rfl, q⟩ := h
  refine ⟨_, (pss_one (ps_ret (pe_and (pe_callB call_isi rfl T.b_isinstance boot_isinstance (pa_cons (pv 0) (pa_cons (pe_bltn (v := .ty "int") rfl T.b_int boot_int rfl) pa_nil))) (pe_and (pe_not (pe_callB call_isi rfl T.b_isinstance boot_isinstance (pa_cons (pv 0) (pa_cons (pe_bltn (v := .ty "bool") rfl T.b_bool boot_bool rfl) pa_nil)))) (pe_one (pe_cmpR op_ge (pv 0) pe_int (nomark _))))))), ?_⟩
  refine ⟨_, rfl, _, _, _, _, true, rfl, .ty "int", .base (.int i), kit_ty (by decide +kernel), true, rfl, iteT ?_⟩
  refine ⟨_, rfl, _, _, _, _, false, rfl, .ty "bool", .base (.int i), kit_ty (by decide +kernel), false, rfl, _, rfl, iteT ?_⟩
  exact ⟨_, rfl, _, _, rfl, rfl, q⟩
abbrev sIs_saying : Stmt := top 13
theorem scIs_saying : FnScope ["thing"] ["thing"] (defScope sIs_saying) := ⟨rfl, rfl, rfl, by decide +kernel, rfl, by decide +kernel, by decide +kernel⟩
theorem ok_is_saying (T : Txt K mg CS CO CH) (R : Raw K mg "is_saying" sIs_saying ["thing"]) (D_is_number : Dn P w K mg base "is_number" 1 ["thing"] spIsNum) : Dn P w K mg base "is_saying" 2 ["thing"] spIsSay := by
  refine R.ok scIs_saying (fun vs H Q E h => ?_) (fun f cdv A outer s H vs Q E hr h => ?_)
  · rcases h with ⟨sa, s, rfl, _⟩ | ⟨x, xs, rfl, _⟩ <;> rfl
  refine ⟨_, (pss_cons (ps_if (PW.pt (pw_or (pt_not (pt_val (pe_callB call_isi rfl T.b_isinstance boot_isinstance (pa_cons (pv 0) (pa_cons (pe_bltn (v := .ty "tuple") rfl T.b_tuple boot_tuple rfl) pa_nil))))) (pw_or (pt_cmpR op_ne (pe_callB call_len_seq rfl T.b_len boot_len (pa_cons (pv 0) pa_nil)) pe_int (nomark _)) (pw_or1 (pt_not (pt_val (pe_callD D_is_number (hr.mono (by omega)) rfl (pa_cons (pe_ix ix_tup (pv 0) pe_int (fun _ _ => rfl)) pa_nil)))))))) (pss_one (ps_ret pe_bl)) pss_nil)
  (pss_one (ps_ret (pe_or (pe_cmpR op_isN (pe_ix ix_tup (pv 0) pe_int (fun _ _ => rfl)) pe_non (nomark _)) (pe_one (pe_and (pe_callD D_is_number (hr.mono (by omega)) rfl (pa_cons (pe_ix ix_tup (pv 0) pe_int (fun _ _ => rfl)) pa_nil)) (pe_one (pe_cmpR op_ge (pe_ix ix_tup (pv 0) pe_int (fun _ _ => rfl)) (pe_ix ix_tup (pv 0) pe_int (fun _ _ => rfl)) (nomark _))))))))), ?_⟩
  rcases h with ⟨sa, ⟨l, m⟩, rfl, ⟨hs, h0, h1⟩, q⟩ | ⟨x, xs, rfl, hx, hl, q⟩
  · refine ⟨_, rfl, _, _, _, _, true, rfl, .ty "tuple", .base (.tup hs), kit_ty (by decide +kernel), true, rfl, iteF ?_⟩
    refine ⟨_, rfl, sa, _, rfl, .inr (SqT.of hs), rfl, false, rfl, iteF ?_⟩
    refine ⟨_, rfl, sa, _, _, _, rfl, rfl, SqT.of hs, atI_nat (j := 0) rfl, l, rfl, true, ?_, iteF ?_⟩
    · show V.bl (decide (0 ≤ l)) = V.bl true
      rw [decide_eq_true h0]
    refine ⟨_, rfl, sa, _, _, _, rfl, rfl, SqT.of hs, atI_nat (j := 1) rfl, rfl, ?_⟩
    cases m with
    | none => exact ⟨true, rfl, iteT q⟩
    | some k =>
      have hk := h1 k rfl
      refine ⟨false, rfl, iteF ?_⟩
      refine ⟨_, rfl, sa, _, _, _, rfl, rfl, SqT.of hs, atI_nat (j := 1) rfl, k, rfl, true, ?_, iteT ?_⟩
      · show V.bl (decide (0 ≤ k)) = V.bl true
        rw [decide_eq_true (by omega)]
      refine ⟨_, rfl, sa, _, _, _, rfl, rfl, SqT.of hs, atI_nat (j := 1) rfl, _, rfl, sa, _, _, _, rfl, rfl, SqT.of hs, atI_nat (j := 0) rfl, k, l, rfl, rfl, ?_⟩
      show Q (V.bl (decide (l ≤ k))) H
      rw [decide_eq_true hk]
      exact q
  · refine ⟨_, rfl, _, _, _, _, true, rfl, .ty "tuple", .base (.tup hx), kit_ty (by decide +kernel), true, rfl, iteF ?_⟩
    refine ⟨_, rfl, x, _, rfl, .inr (SqT.of hx), rfl, true, ?_, iteT (iteT q)⟩
    rw [hl]
    rfl
abbrev sNeed_number : Stmt := top 14
theorem scNeed_number : FnScope ["thing"] ["thing"] (defScope sNeed_number) := ⟨rfl, rfl, rfl, by decide +kernel, rfl, by decide +kernel, by decide +kernel⟩
theorem ok_need_number (R : Raw K mg "need_number" sNeed_number ["thing"]) (D_is_number : Dn P w K mg base "is_number" 1 ["thing"] spIsNum) : Dn P w K mg base "need_number" 2 ["thing"] spNeedNum := by
  refine R.ok scNeed_number (fun vs H Q E h => ?_) (fun f cdv A outer s H vs Q E hr h => ?_)
  · obtain ⟨i, rfl, _⟩ := h; rfl
  obtain ⟨i, rfl, h0, q⟩ := h
  refine ⟨_, (pss_one (ps_if (pt_not (pt_val (pe_callD D_is_number (hr.mono (by omega)) rfl (pa_cons (pv 0) pa_nil)))) (pss_one ps_never) pss_nil)), ?_⟩
  refine ⟨_, rfl, i, rfl, true, ?_, iteF q⟩
  rw [decide_eq_true h0]
abbrev sNeed_saying : Stmt := top 15
theorem scNeed_saying : FnScope ["thing"] ["thing"] (defScope sNeed_saying) := ⟨rfl, rfl, rfl, by decide +kernel, rfl, by decide +kernel, by decide +kernel⟩
theorem ok_need_saying (R : Raw K mg "need_saying" sNeed_saying ["thing"]) (D_is_saying : Dn P w K mg base "is_saying" 2 ["thing"] spIsSay) : Dn P w K mg base "need_saying" 3 ["thing"] spNeedSay := by
  refine R.ok scNeed_saying (fun vs H Q E h => ?_) (fun f cdv A outer s H vs Q E hr h => ?_)
  · obtain ⟨sa, s, rfl, _⟩ := h; rfl
  obtain ⟨sa, s, rfl, hs, q⟩ := h
  refine ⟨_, (pss_one (ps_if (pt_not (pt_val (pe_callD D_is_saying (hr.mono (by omega)) rfl (pa_cons (pv 0) pa_nil)))) (pss_one ps_never) pss_nil)), ?_⟩
  exact ⟨_, rfl, .inl ⟨sa, s, rfl, hs, true, rfl, iteF q⟩⟩
abbrev sNeed_place : Stmt := top 16
theorem scNeed_place : FnScope ["thing", "most"] ["thing", "most"] (defScope sNeed_place) := ⟨rfl, rfl, rfl, by decide +kernel, rfl, by decide +kernel, by decide +kernel⟩
theorem ok_need_place (R : Raw K mg "need_place" sNeed_place ["thing", "most"]) (D_is_number : Dn P w K mg base "is_number" 1 ["thing"] spIsNum) : Dn P w K mg base "need_place" 2 ["thing", "most"] spNeedPlace := by
  refine R.ok scNeed_place (fun vs H Q E h => ?_) (fun f cdv A outer s H vs Q E hr h => ?_)
  · obtain ⟨i, m, rfl, _⟩ := h; rfl
  obtain ⟨i, m, rfl, h0, h1, q⟩ := h
  refine ⟨_, (pss_one (ps_if (PW.pt (pw_or (pt_not (pt_val (pe_callD D_is_number (hr.mono (by omega)) rfl (pa_cons (pv 0) pa_nil)))) (pw_or1 (pt_cmpR op_gt (pv 0) (pv 1) (nomark _))))) (pss_one ps_never) pss_nil)), ?_⟩
  refine ⟨_, rfl, i, rfl, true, ?_, iteF ?_⟩
  · rw [decide_eq_true h0]
  refine ⟨_, rfl, _, rfl, _, _, rfl, rfl, false, ?_, iteF q⟩
  show V.bl (decide (m < i)) = V.bl false
  rw [decide_eq_false (by omega)]

/-! ### powers.py: the two classes, how many people -/
def spSpotI (CS : Addr) : Sp := fun vs H Q _ => ∃ (p dx sa : Addr) (k : Int), vs = [.ref p, .ref sa, .int k] ∧ H p = some (.ins CS dx []) ∧ Q .non (upd H p (.ins CS dx (spotF sa k)))
def spLaid (CS CO : Addr) : Sp := fun vs H Q _ => ∃ (d : Nat) (a : Addr) (es : List El), vs = [.ref a] ∧ ListH CS CO d H a es ∧ wsum es ≤ lim ∧ ∀ H', Same H H' → Q (.int (flat es).length) H'
def spOverI (CS CO : Addr) : Sp := fun vs H Q _ => ∃ (p dx a : Addr) (t d : Nat) (es : List El) (S : Hp), vs = [.ref p, .int t, .ref a] ∧ H p = some (.ins CO dx []) ∧ S p = none ∧ Same S H ∧ ListH CS CO d S a es ∧ wsum es ≤ lim ∧ t ≤ big ∧ (flat es).length ≤ big ∧
  ∀ H', (∀ b o, b ≠ p → H b = some o → H' b = some o) → H' p = some (.ins CO dx (overF t (flat es).length ((t : Int) * (flat es).length) a)) → Q .non H'
abbrev sSpotI : Stmt := inClass (top 20) 0
theorem scSpotI : FnScope ["self", "saying", "number"] ["self", "saying", "number"] (defScope sSpotI) := ⟨rfl, rfl, rfl, by decide +kernel, rfl, by decide +kernel, by decide +kernel⟩
theorem ok_SpotI (T : Txt K mg CS CO CH) (R : RawC K mg "Spot" CS "Spot.__init__" sSpotI ["self", "saying", "number"]) : DnC P w K mg base "Spot" CS 1 ["self", "saying", "number"] (spSpotI CS) := by
  refine R.ok scSpotI (fun vs H Q E h => ?_) (fun f cdv A outer s H vs Q E hr h => ?_)
  · obtain ⟨p, dx, sa, k, rfl, _⟩ := h; rfl
  obtain ⟨p, dx, sa, k, rfl, hp, q⟩ := h
  refine ⟨_, (pss_cons (ps_fld (pv 0) (pv 1) rfl)
  (pss_cons (ps_fld (pv 0) (pv 2) rfl)
  (pss_one (ps_fld (pv 0) pe_int rfl)))), ?_⟩
  refine ⟨_, rfl, _, rfl, p, CS, dx, [], rfl, hp, T.iS.cl, T.s1, (by show 0 < 1000; decide), ?_⟩
  refine ⟨_, rfl, _, rfl, p, CS, dx, _, rfl, upd_same, T.iS.cl, T.s2, (by show 1 < 1000; decide), ?_⟩
  refine ⟨_, rfl, p, CS, dx, _, rfl, upd_same, T.iS.cl, T.s3, (by rw [pf_nil, pf_neg (by decide +kernel), pf_nil]; show 2 < 1000; decide), ?_⟩
  show Q .non (upd (upd (upd H p _) p _) p (.ins CS dx (putF "s8_many" (.int 1) (putF "s8_number" (.int k) (putF "s8_said" (.ref sa) [])))))
  rw [upd_upd, upd_upd, sf_make]
  exact q
abbrev sLaid_many : Stmt := top 22
theorem scLaid_many : FnScope ["parts", "part"] ["parts"] (defScope sLaid_many) := ⟨rfl, rfl, rfl, by decide +kernel, rfl, by decide +kernel, by decide +kernel⟩
theorem ok_laid_many (T : Txt K mg CS CO CH) (R : Raw K mg "laid_many" sLaid_many ["parts"]) : Dn P w K mg base "laid_many" 1 ["parts"] (spLaid CS CO) := by
  refine R.ok scLaid_many (fun vs H Q E h => ?_) (fun f cdv A outer s H vs Q E hr h => ?_)
  · obtain ⟨d, a, es, rfl, _⟩ := h; rfl
  obtain ⟨d, a, es, rfl, ⟨vs, ha, hp⟩, hw, q⟩ := h
  refine ⟨_, (pss_one (ps_ret (pe_callB (cr_sum rfl) rfl T.b_sum boot_sum (pa_cons (pe_lc (own := [("part", 1)]) (g := gName 1) (tt := tYes) (te := tFld K (tVar 1) "s8_many") rfl scLaid_many.nd (pi_list (pv 0)) (blkOk_by (own := [("part", 1)]) (N := ["parts", "part"]) (sc := defScope sLaid_many) (by decide +kernel)) (fun _ _ _ _ _ => pg_name (i := 1) scLaid_many.nd rfl (Or.inl rfl)) (fun _ _ _ _ _ => pts_nil) (fun _ _ _ _ _ => (pe_fld (pv 1) rfl))) pa_nil)))), ?_⟩
  refine ⟨_, rfl, a, rfl, ⟨_, SqL.of ha⟩, fun D hD => ?_⟩
  have nDa : a ≠ D := ne_of_none ha hD
  have hlen := PartH.len hp
  refine lc_list (K := K) (a := a) (xs := vs) (fun i H' => Same H H' ∧ H' D = some (.lst ((es.take i).map fun e => V.int e.1.length))) ⟨same_new hD _, upd_same⟩ (fun i H' _ p => SqL.of (p.1 _ _ ha)) ?_ ?_
  · rintro i x H' hx ⟨hs, hd⟩
    obtain ⟨e, he, hpe⟩ := pget hp hx
    obtain ⟨p, C, dx, fs, rfl, h1, h2, h3, h4⟩ := PartH.obj T hpe
    have hi := (List.getElem?_eq_some_iff.mp hx).1
    refine ⟨rfl, tyes ?_⟩
    refine ⟨_, rfl, p, C, dx, fs, _, rfl, hs _ _ h1, h2, h3, h4, _, hd, ?_, ?_⟩
    · rw [List.length_map, List.length_take]
      have := lim_lt
      omega
    · refine ⟨fun b o z => ?_, ?_⟩
      · rw [upd_ne (ne_of_none z hD)]
        exact hs _ _ z
      · rw [upd_same, take_succ he, List.map_append]
        rfl
  · rintro H' ⟨hs, hd⟩
    refine ⟨D, es.map fun e => ((e.1.length : Nat) : Int), rfl, ?_, ?_⟩
    · have el : vs.length = es.length := Paired.length hp
      rw [el, List.take_length] at hd
      rw [List.map_map]
      exact SqL.of hd
    · have es' : ∀ l : List El, (l.map fun e => ((e.1.length : Nat) : Int)).sum = ((flat l).length : Int) := fun l => by
        induction l with
        | nil => rfl
        | cons e r ih =>
          rw [List.map_cons, List.sum_cons, ih]
          show ((e.1.length : Nat) : Int) + _ = (((e.1 ++ flat r).length : Nat) : Int)
          rw [List.length_append]
          omega
      rw [es']
      exact q _ hs
theorem big_lt {n : Nat} (h : n ≤ big) : ((n : Int)).natAbs < 2 ^ 200 := by
  have e : big < 2 ^ 200 := by decide
  omega
theorem mulw {i j : Nat} (hi : i ≤ big) (hj : j ≤ big) : CMulW (i : Int) (j : Int) := wide_mul (a := 200) (b := 200) (big_lt hi) (big_lt hj) (by decide) (by decide) (by decide)
abbrev sOverI : Stmt := inClass (top 21) 0
theorem scOverI : FnScope ["self", "times", "parts"] ["self", "times", "parts"] (defScope sOverI) := ⟨rfl, rfl, rfl, by decide +kernel, rfl, by decide +kernel, by decide +kernel⟩
theorem ok_OverI (T : Txt K mg CS CO CH) (R : RawC K mg "Over" CO "Over.__init__" sOverI ["self", "times", "parts"]) (D_laid_many : Dn P w K mg base "laid_many" 1 ["parts"] (spLaid CS CO)) : DnC P w K mg base "Over" CO 2 ["self", "times", "parts"] (spOverI CS CO) := by
  refine R.ok scOverI (fun vs H Q E h => ?_) (fun f cdv A outer s H vs Q E hr h => ?_)
  · obtain ⟨p, dx, a, t, d, es, S, rfl, _⟩ := h; rfl
  obtain ⟨p, dx, a, t, d, es, S, rfl, hp, hS, hSH, hL, hw, ht, hn, q⟩ := h
  refine ⟨_, (pss_cons (ps_fld (pv 0) (pv 1) rfl)
  (pss_cons (ps_fld (pv 0) (pv 2) rfl)
  (pss_cons (ps_fld (pv 0) (pe_callD D_laid_many (hr.mono (by omega)) rfl (pa_cons (pv 2) pa_nil)) rfl)
  (pss_one (ps_fld (pv 0) (pe_op op_mulW (pv 1) (pe_fld (pv 0) rfl)) rfl))))), ?_⟩
  refine ⟨_, rfl, _, rfl, p, CO, dx, [], rfl, hp, T.iO.cl, T.o1, (by show 0 < 1000; decide), ?_⟩
  refine ⟨_, rfl, _, rfl, p, CO, dx, _, rfl, upd_same, T.iO.cl, T.o2, (by show 1 < 1000; decide), ?_⟩
  refine ⟨_, rfl, d, a, es, rfl, hL.same (same_upd (same_upd hSH hS _) hS _), hw, fun H2 s2 => ?_⟩
  have h2 := s2 p _ upd_same
  refine ⟨_, rfl, p, CO, dx, _, rfl, h2, T.iO.cl, T.o3, (by rw [pf_nil, pf_neg (by decide +kernel), pf_nil]; show 2 < 1000; decide), ?_⟩
  rw [of_make1]
  refine ⟨_, rfl, _, rfl, p, CO, dx, _, _, rfl, upd_same, T.iO.cl, T.o3, of_once1, _, _, rfl, rfl, mulw ht hn, ?_⟩
  refine ⟨_, rfl, p, CO, dx, _, rfl, upd_same, T.iO.cl, T.o4, (by show 3 < 1000; decide), ?_⟩
  rw [of_make2]
  refine q _ (fun b o e z => ?_) upd_same
  rw [upd_ne e, upd_ne e]
  refine s2 b o ?_
  rw [upd_ne e, upd_ne e]
  exact z
/-- Over(times, parts) -/
def tOver (CS CO : Addr) (t : TA) : TE := fun σ H Q => t σ H fun vs H1 => ∃ (a : Addr) (t d : Nat) (es : List El) (S : Hp), vs = [.int t, .ref a] ∧ Same S H1 ∧ ListH CS CO d S a es ∧ wsum es ≤ lim ∧ t ≤ big ∧ (flat es).length ≤ big ∧
  ∀ x H2 S2, Same H1 H2 → Sol S H1 S2 H2 → PartH CS CO (d + 1) S2 (.ref x) (rep t (flat es), 1 + wsum es) → Q (.ref x) H2
theorem PA.imp {X : Cx} {es : List Expr} {t u : TA} (h : PA X es t) (i : ∀ σ H Q, u σ H Q → t σ H Q) : PA X es u := ⟨fun pos pins s σ H Q I hw => h.run pos pins s σ H Q I (i σ H Q hw)⟩
/-- the arguments' readings keep what follows -/
def MonoA (t : TA) : Prop := ∀ σ H Q Q', (∀ vs H1, Q vs H1 → Q' vs H1) → t σ H Q → t σ H Q'
theorem pe_over {X : Cx} {e : Expr} {es : List Expr} {t : TA} {p pos : Pos} (D : DnC X.prog X.w X.K X.mg X.base "Over" CO 2 ["self", "times", "parts"] (spOverI CS CO)) (hr : Room 3 X.A) (hg : Gl X "Over") (ha : PA X (e :: es) t)
    (he : starEach (e :: es) X.env = (false, eval e X.env) :: starEach es X.env := by rfl) (hpl : (backTo pos (starEach es X.env)).any (·.1) = false := by rfl) : PE X (.Call (.Name "Over" p) (e :: es) [] pos) (tOver CS CO t) := by
  have g := pe_mkD (p := p) (pos := pos) D hr hg (t := fun σ H Q => ∃ Q', (∀ vs H1, Q' vs H1 → Q vs H1) ∧ t σ H Q') (PA.mk fun pos pins s σ H Q I ⟨Q', h1, h2⟩ => wpAny_mono (ha.run pos pins s σ H Q' I h2) (fun us s1 ⟨vs, H1, I1, r1, q1⟩ => ⟨vs, H1, I1, r1, h1 vs H1 q1⟩) fun _ _ z => z) (by decide) he hpl
  refine PE.imp g fun σ H Q h => ⟨_, fun vs H1 q => ?_, h⟩
  obtain ⟨a, n, d, es, S, rfl, hS, hL, hw, ht, hn, q⟩ := q
  intro x dx nx nd ne
  have sx : S x = none := hS.free nx
  have sd : S dx = none := hS.free nd
  refine ⟨x, dx, a, n, d, es, S, rfl, upd_same, sx, same_upd (same_upd hS sd _) sx _, hL, hw, ht, hn, fun H2 k hx => ⟨rfl, ?_⟩⟩
  have s12 : Same H1 H2 := Same.made nx nd fun b o e1 e2 => k b o e2 e1
  have S2 := ((Sol.refl hS).same s12).seal nx sx hx
  obtain ⟨vs, hv, hp⟩ := hL.same (same_new sx _)
  exact q x H2 _ s12 S2 (.inr ⟨x, dx, a, n, vs, es, rfl, upd_same, hv, hp, ht, hn, hw, rfl⟩)
/-- Spot(saying, number) -/
def tSpot (CS : Addr) (t : TA) : TE := fun σ H Q => t σ H fun vs H1 => ∃ (sa : Addr) (k : Int) (s : Say) (S : Hp), vs = [.ref sa, .int k] ∧ Same S H1 ∧ SayAt S sa s ∧ 0 ≤ k ∧ k < 1000 ∧
  ∀ x H2 S2, Same H1 H2 → Sol S H1 S2 H2 → SpotAt CS S2 (.ref x) ([s], 1) → Q (.ref x) H2
theorem pe_spot {X : Cx} {e : Expr} {es : List Expr} {t : TA} {p pos : Pos} (D : DnC X.prog X.w X.K X.mg X.base "Spot" CS 1 ["self", "saying", "number"] (spSpotI CS)) (hr : Room 2 X.A) (hg : Gl X "Spot") (ha : PA X (e :: es) t)
    (he : starEach (e :: es) X.env = (false, eval e X.env) :: starEach es X.env := by rfl) (hpl : (backTo pos (starEach es X.env)).any (·.1) = false := by rfl) : PE X (.Call (.Name "Spot" p) (e :: es) [] pos) (tSpot CS t) := by
  have g := pe_mkD (p := p) (pos := pos) D hr hg (t := fun σ H Q => ∃ Q', (∀ vs H1, Q' vs H1 → Q vs H1) ∧ t σ H Q') (PA.mk fun pos pins s σ H Q I ⟨Q', h1, h2⟩ => wpAny_mono (ha.run pos pins s σ H Q' I h2) (fun us s1 ⟨vs, H1, I1, r1, q1⟩ => ⟨vs, H1, I1, r1, h1 vs H1 q1⟩) fun _ _ z => z) (by decide) he hpl
  refine PE.imp g fun σ H Q h => ⟨_, fun vs H1 q => ?_, h⟩
  obtain ⟨sa, k, s, S, rfl, hS, hs, h0, h1, q⟩ := q
  intro x dx nx nd ne
  have sx : S x = none := hS.free nx
  have sd : S dx = none := hS.free nd
  refine ⟨x, dx, sa, k, rfl, upd_same, rfl, ?_⟩
  rw [upd_upd]
  have s12 : Same H1 (upd (upd H1 dx (.own x)) x (.ins CS dx (spotF sa k))) := fun b o e => by
    rw [upd_ne (ne_of_none e nx), upd_ne (ne_of_none e nd)]; exact e
  have S2 := ((Sol.refl hS).same s12).seal nx sx upd_same
  exact q x _ _ s12 S2 ⟨x, dx, sa, k, s, rfl, upd_same, h0, h1, hs.same (same_new sx _), rfl⟩

/-! ### a list that grows, its things solid -/
structure Bld (R : Hp → V → El → Prop) (S H : Hp) (r : Addr) (S1 H1 : Hp) (vs : List V) (es : List El) : Prop where
  sol : Sol S H S1 H1
  r0 : H r = none
  rS : S1 r = none
  r1 : H1 r = some (.lst vs)
  pr : Paired (R S1) vs es
theorem Bld.init {R : Hp → V → El → Prop} {S H : Hp} {r : Addr} (h : Same S H) (hr : H r = none) : Bld R S H r S (upd H r (.lst [])) [] [] := ⟨(Sol.refl h).new hr _, hr, h.free hr, upd_same, .nil⟩
theorem Bld.step {R : Hp → V → El → Prop} (hR : ∀ S S' v e, Same S S' → R S v e → R S' v e) {S H : Hp} {r : Addr} {S1 H1 S2 H2 : Hp} {vs : List V} {es : List El} (b : Bld R S H r S1 H1 vs es) (s : Sol S1 H1 S2 H2) (h2 : H2 r = some (.lst vs)) : Bld R S H r S2 H2 vs es :=
  ⟨b.sol.trans s, b.r0, s.no _ b.rS (by rw [b.r1]; exact fun z => nomatch z), h2, Paired.mapP b.pr fun _ _ z => hR _ _ _ _ s.up z⟩
theorem Bld.same {R : Hp → V → El → Prop} {S H : Hp} {r : Addr} {S1 H1 H2 : Hp} {vs : List V} {es : List El} (b : Bld R S H r S1 H1 vs es) (s : Same H1 H2) : Bld R S H r S1 H2 vs es :=
  ⟨b.sol.same s, b.r0, b.rS, s _ _ b.r1, b.pr⟩
theorem Bld.push {R : Hp → V → El → Prop} {S H : Hp} {r : Addr} {S1 H1 : Hp} {vs : List V} {es : List El} (b : Bld R S H r S1 H1 vs es) {v : V} {e : El} (h : R S1 v e) : Bld R S H r S1 (upd H1 r (.lst (vs ++ [v]))) (vs ++ [v]) (es ++ [e]) :=
  ⟨b.sol.write b.rS _, b.r0, b.rS, upd_same, papp b.pr (pone h)⟩
theorem Bld.ext {R : Hp → V → El → Prop} {S H : Hp} {r : Addr} {S1 H1 : Hp} {vs ws : List V} {es fs : List El} (b : Bld R S H r S1 H1 vs es) (h : Paired (R S1) ws fs) : Bld R S H r S1 (upd H1 r (.lst (vs ++ ws))) (vs ++ ws) (es ++ fs) :=
  ⟨b.sol.write b.rS _, b.r0, b.rS, upd_same, papp b.pr h⟩
theorem Bld.seal {R : Hp → V → El → Prop} (hR : ∀ S S' v e, Same S S' → R S v e → R S' v e) {S H : Hp} {r : Addr} {S1 H1 : Hp} {vs : List V} {es : List El} (b : Bld R S H r S1 H1 vs es) : Sol S H (upd S1 r (.lst vs)) H1 ∧ upd S1 r (.lst vs) r = some (.lst vs) ∧ Paired (R (upd S1 r (.lst vs))) vs es :=
  ⟨b.sol.seal b.r0 b.rS b.r1, upd_same, Paired.mapP b.pr fun _ _ z => hR _ _ _ _ (same_new b.rS _) z⟩
theorem partR {d : Nat} : ∀ S S' v e, Same S S' → PartH CS CO d S v e → PartH CS CO d S' v e := fun _ _ _ _ h z => z.same h
theorem itemR {d : Nat} : ∀ S S' v e, Same S S' → ItemH d S v e → ItemH d S' v e := fun _ _ _ _ h z => z.same h
/-- what stood at the entry, behind a list that grew -/
theorem same_grow {H H1 : Hp} {r : Addr} {o : HO} (h : Same H H1) (r0 : H r = none) : Same H (upd H1 r o) := fun b u q => by rw [upd_ne (ne_of_none q r0)]; exact h b u q
end
end Bo
set_option Elab.async false
set_option linter.all false
set_option maxRecDepth 100000
set_option maxHeartbeats 4000000
namespace Bo
open PySem L2 PySem.Spec PyProof.Rows

/-! ### powers.py: long rows -/
def spPpl (d : Nat) : Sp := fun vs H Q _ => ∃ (a : Addr) (es : List El), vs = [.ref a] ∧ LongH d H a es ∧ ∀ H', Same H H' → Q (.int (flat es).length) H'
def spPplSaid : Nat → Sp
  | 0 => fun _ _ _ _ => False
  | d + 1 => fun vs H Q _ => ∃ (v : V) (e : El), vs = [v] ∧ AgainAt (ItemH d) H v e ∧ ∀ H', Same H H' → Q (.int e.1.length) H'
def spIsLong (d : Nat) : Sp := fun vs H Q _ => ∃ (a : Addr) (es : List El), vs = [.ref a] ∧ LongH d H a es ∧ (flat es).length ≤ 999999999999999999999999999999 ∧ ∀ H', Same H H' → Q (.bl true) H'
def spNeedLong (d : Nat) : Sp := fun vs H Q _ => ∃ (a : Addr) (es : List El), vs = [.ref a] ∧ LongH d H a es ∧ (flat es).length ≤ 999999999999999999999999999999 ∧ ∀ H', Same H H' → Q .non H'
def spPlant (CS CO : Addr) (d : Nat) : Sp := fun vs H Q _ => ∃ (a : Addr) (first : Int) (es : List El) (S : Hp), vs = [.ref a, .int first] ∧ Same S H ∧ LongH d S a es ∧ 0 ≤ first ∧ first + wsum es ≤ 1000 ∧
  ∀ (H' S' : Hp) (p r : Addr) (f' : Int), Same H H' → Sol S H S' H' → ListH CS CO d S' r es → 0 ≤ f' → f' ≤ first + wsum es → H' p = some (.tup [.ref r, .int f']) → Q (.ref p) H'
def spPartsOf (CS CO : Addr) (d : Nat) : Sp := fun vs H Q _ => ∃ (a : Addr) (es : List El) (S : Hp), vs = [.ref a] ∧ Same S H ∧ LongH d S a es ∧ wsum es ≤ 1000 ∧ (flat es).length ≤ 999999999999999999999999999999 ∧
  ∀ (H' S' : Hp) (r : Addr), Same H H' → Sol S H S' H' → ListH CS CO d S' r es → Q (.ref r) H'
section
variable {P : Program} {w : World} {K : PySem.W.Frag} {mg : Str → Option Value} {base : Heap} {CS CO CH : Addr}
theorem int_ne_non (i : Int) : decide (V.int i = V.non) = false := rfl
abbrev sPeople_said : Stmt := top 23
theorem scPeople_said : FnScope ["item", "inner"] ["item"] (defScope sPeople_said) := ⟨rfl, rfl, rfl, by decide +kernel, rfl, by decide +kernel, by decide +kernel⟩
theorem ok_people_said {d : Nat} (T : Txt K mg CS CO CH) (R : Raw K mg "people_said" sPeople_said ["item"]) (D_is_number : Dn P w K mg base "is_number" 1 ["thing"] spIsNum) (D_people_of : Dn P w K mg base "people_of" (2 * d + 3) ["thing"] (spPpl d)) :
    Dn P w K mg base "people_said" (2 * d + 4) ["item"] (spPplSaid (d + 1)) := by
  refine R.ok scPeople_said (fun vs H Q E h => ?_) (fun f cdv A outer s H vs Q E hr h => ?_)
  · obtain ⟨v, e, rfl, _⟩ := h; rfl
  obtain ⟨v, e, rfl, ⟨x, a, t, us, es, rfl, hx, ha, hp, ht, hn, hw, rfl⟩, q⟩ := h
  refine ⟨_, (pss_cons (ps_if (PW.pt (pw_or (pt_not (pt_val (pe_callB call_isi rfl T.b_isinstance boot_isinstance (pa_cons (pv 0) (pa_cons (pe_bltn (v := .ty "tuple") rfl T.b_tuple boot_tuple rfl) pa_nil))))) (pw_or (pt_cmpR op_ne (pe_callB call_len_seq rfl T.b_len boot_len (pa_cons (pv 0) pa_nil)) pe_int (nomark _)) (pw_or (pt_not (pt_val (pe_callB call_isi rfl T.b_isinstance boot_isinstance (pa_cons (pe_ix ix_tup (pv 0) pe_int (fun _ _ => rfl)) (pa_cons (pe_bltn (v := .ty "str") rfl T.b_str boot_str rfl) pa_nil))))) (pw_or1 (pt_cmpR op_ne (pe_ix ix_tup (pv 0) pe_int (fun _ _ => rfl)) (pe_gs T.c_AGAIN rfl) (nomark _))))))) (pss_one (ps_ret pe_non)) pss_nil)
  (pss_cons (ps_set (i := 1) scPeople_said.nd rfl (Or.inl rfl) (pe_callD D_people_of (hr.mono (by omega)) rfl (pa_cons (pe_ix ix_tup (pv 0) pe_int (fun _ _ => rfl)) pa_nil)))
  (pss_one (ps_ret (pe_ifExp (PW.pt (pw_and (pt_val (pe_callD D_is_number (hr.mono (by omega)) rfl (pa_cons (pe_ix ix_tup (pv 0) pe_int (fun _ _ => rfl)) pa_nil))) (pw_and1 (pt_cmpR op_notN (pv 1) pe_non (nomark _))))) (pe_op op_mulW (pe_ix ix_tup (pv 0) pe_int (fun _ _ => rfl)) (pv 1)) pe_non))))), ?_⟩
  refine ⟨_, rfl, _, _, _, _, true, rfl, .ty "tuple", .base (.tup hx), kit_ty (by decide +kernel), true, rfl, iteF ?_⟩
  refine ⟨_, rfl, x, _, rfl, .inr (SqT.of hx), rfl, false, rfl, iteF ?_⟩
  refine ⟨_, rfl, x, _, _, _, rfl, rfl, SqT.of hx, atI_nat (j := 0) rfl, _, _, _, _, true, rfl, .ty "str", .base (.str _), kit_ty (by decide +kernel), true, rfl, iteF ?_⟩
  refine ⟨_, rfl, x, _, _, _, rfl, rfl, SqT.of hx, atI_nat (j := 0) rfl, rfl, false, ?_, iteF ?_⟩
  · rw [decide_eq_true rfl]; rfl
  refine ⟨_, rfl, x, _, _, _, rfl, rfl, SqT.of hx, atI_nat (j := 2) rfl, a, es, rfl, ⟨us, ha, hp⟩, fun H1 s1 => ?_⟩
  have hx1 := s1 _ _ hx
  refine ⟨_, rfl, x, _, _, _, rfl, rfl, SqT.of hx1, atI_nat (j := 1) rfl, t, rfl, true, ?_, iteT ?_⟩
  · rw [decide_eq_true (by omega)]
  refine ⟨_, rfl, rfl, true, rfl, iteT ?_⟩
  refine ⟨_, rfl, x, _, _, _, rfl, rfl, SqT.of hx1, atI_nat (j := 1) rfl, _, rfl, _, _, rfl, rfl, mulw ht hn, ?_⟩
  have := q _ s1
  rw [rep_len, Int.natCast_mul] at this
  exact this
abbrev sPeople_of : Stmt := top 24
theorem scPeople_of : FnScope ["thing", "found", "item", "many"] ["thing"] (defScope sPeople_of) := ⟨rfl, rfl, rfl, by decide +kernel, rfl, by decide +kernel, by decide +kernel⟩
theorem ok_people_of {d : Nat} (T : Txt K mg CS CO CH) (R : Raw K mg "people_of" sPeople_of ["thing"]) (D_is_saying : Dn P w K mg base "is_saying" 2 ["thing"] spIsSay) (D_people_said : Dn P w K mg base "people_said" (2 * d + 2) ["item"] (spPplSaid d)) :
    Dn P w K mg base "people_of" (2 * d + 3) ["thing"] (spPpl d) := by
  refine R.ok scPeople_of (fun vs H Q E h => ?_) (fun f cdv A outer s H vs Q E hr h => ?_)
  · obtain ⟨a, es, rfl, _⟩ := h; rfl
  obtain ⟨a, es, rfl, ⟨us, ha, hp⟩, q⟩ := h
  refine ⟨_, (pss_cons (ps_if (pt_not (pt_val (pe_callB call_isiT rfl T.b_isinstance boot_isinstance (pa_cons (pv 0) (pa_cons (pe_tup (pa_cons (pe_bltn (v := .ty "list") rfl T.b_list boot_list rfl) (pa_cons (pe_bltn (v := .ty "tuple") rfl T.b_tuple boot_tuple rfl) pa_nil))) pa_nil))))) (pss_one (ps_ret pe_non)) pss_nil)
  (pss_cons (ps_set (i := 1) scPeople_of.nd rfl (Or.inl rfl) pe_int)
  (pss_cons (ps_for PassesOwn.never rfl (pi_list (pv 0)) (pg_name (i := 2) scPeople_of.nd rfl (Or.inl rfl))
  (pss_cons (ps_set (i := 3) scPeople_of.nd rfl (Or.inl rfl) (pe_ifExp (pt_val (pe_callD D_is_saying (hr.mono (by omega)) rfl (pa_cons (pv 2) pa_nil))) pe_int (pe_callD D_people_said (hr.mono (by omega)) rfl (pa_cons (pv 2) pa_nil))))
  (pss_cons (ps_if (pt_cmpR op_isN (pv 3) pe_non (nomark _)) (pss_one (ps_ret pe_non)) pss_nil)
  (pss_one (ps_aug (i := 1) scPeople_of.nd rfl (Or.inl rfl) (pv 3) ip_add)))))
  (pss_one (ps_ret (pv 1)))))), ?_⟩
  refine ⟨_, rfl, (by show 2 ≤ sizeLine; rw [sizeLine_eq]; decide), fun tp htp => ?_⟩
  have s0 : Same H (upd H tp (.tup [.ty "list", .ty "tuple"])) := same_new htp _
  refine ⟨_, tp, _, _, _, true, rfl, upd_same, .cons (.ty "list") (.cons (.ty "tuple") .nil), .base (.lst (s0 _ _ ha)), kitAny_cons (b := true) (kit_ty (by decide +kernel)) (fun z => nomatch z) (fun _ => rfl), true, rfl, iteF ?_⟩
  refine ⟨_, rfl, a, rfl, ⟨_, SqL.of (s0 _ _ ha)⟩, for_list (K := K) (a := a) (xs := us) (fun i σ H' => ∃ (u v : Option V), σ = [some (.ref a), some (.int (flat (es.take i)).length), u, v] ∧ Same H H')
    ⟨none, none, rfl, s0⟩ (fun i σ H' _ ⟨_, _, _, s⟩ => SqL.of (s _ _ ha)) ?_ ?_⟩
  · rintro i x σ H' hx ⟨u, v, rfl, s1⟩
    obtain ⟨e, he, hpe⟩ := pget hp hx
    have fin : ∀ (H2 : Hp), Same H H2 → ∃ (u v : Option V), [some (V.ref a), some (V.int (((flat (es.take i)).length : Int) + (e.1.length : Int))), some x, some (V.int e.1.length)] = [some (V.ref a), some (V.int (flat (es.take (i + 1))).length), u, v] ∧ Same H H2 := fun H2 s2 => by
      refine ⟨some x, some (V.int e.1.length), ?_, s2⟩
      rw [flat_take he, List.length_append, Int.natCast_add]
    cases d with
    | zero => exact hpe.elim
    | succ d =>
      rcases hpe with ⟨sa, z, rfl, hz, rfl⟩ | hag
      · refine ⟨_, rfl, .inl ⟨sa, z, rfl, hz.same s1, true, rfl, iteT ?_⟩⟩
        exact ⟨_, rfl, rfl, false, rfl, iteF ⟨_, rfl, _, rfl, _, _, rfl, rfl, fin _ s1⟩⟩
      · obtain ⟨y, b, t, ws, fs, rfl, hy, hb, hr'⟩ := id hag
        refine ⟨_, rfl, .inr ⟨y, _, rfl, s1 _ _ hy, rfl, false, rfl, iteF ?_⟩⟩
        obtain ⟨hpr, h2⟩ := hr'
        refine ⟨_, rfl, _, e, rfl, ⟨y, b, t, ws, fs, rfl, s1 _ _ hy, s1 _ _ hb, Paired.mapP hpr fun _ _ z => z.same s1, h2⟩, fun H2 s2 => ?_⟩
        exact ⟨_, rfl, rfl, false, rfl, iteF ⟨_, rfl, _, rfl, _, _, rfl, rfl, fin _ (s1.trans s2)⟩⟩
  · rintro σ H' ⟨u, v, rfl, s1⟩
    have el : us.length = es.length := Paired.length hp
    rw [el, List.take_length]
    exact ⟨_, rfl, q _ s1⟩
theorem no_people_said : ∀ (R : Raw K mg "people_said" sPeople_said ["item"]), Dn P w K mg base "people_said" 2 ["item"] (spPplSaid 0) := fun ⟨f, fd, h1, F, b⟩ =>
  ⟨f, fd, h1, F.kp, b, fun vs H Q E h => h.elim, fun A outer s H args us vs Q E _ _ _ _ h => h.elim⟩
theorem all_people_of (T : Txt K mg CS CO CH) (R : Raw K mg "people_of" sPeople_of ["thing"]) (R2 : Raw K mg "people_said" sPeople_said ["item"]) (D_is_number : Dn P w K mg base "is_number" 1 ["thing"] spIsNum) (D_is_saying : Dn P w K mg base "is_saying" 2 ["thing"] spIsSay) : ∀ d, Dn P w K mg base "people_of" (2 * d + 3) ["thing"] (spPpl d)
  | 0 => ok_people_of T R D_is_saying (no_people_said R2)
  | d + 1 => ok_people_of T R D_is_saying (ok_people_said T R2 D_is_number (all_people_of T R R2 D_is_number D_is_saying d))
abbrev sIs_long : Stmt := top 25
theorem scIs_long : FnScope ["thing", "many"] ["thing"] (defScope sIs_long) := ⟨rfl, rfl, rfl, by decide +kernel, rfl, by decide +kernel, by decide +kernel⟩
theorem ok_is_long {d : Nat} (T : Txt K mg CS CO CH) (R : Raw K mg "is_long" sIs_long ["thing"]) (D_people_of : Dn P w K mg base "people_of" (2 * d + 3) ["thing"] (spPpl d)) : Dn P w K mg base "is_long" (2 * d + 4) ["thing"] (spIsLong d) := by
  refine R.ok scIs_long (fun vs H Q E h => ?_) (fun f cdv A outer s H vs Q E hr h => ?_)
  · obtain ⟨a, es, rfl, _⟩ := h; rfl
  obtain ⟨a, es, rfl, hL, hn, q⟩ := h
  refine ⟨_, (pss_cons (ps_set (i := 1) scIs_long.nd rfl (Or.inl rfl) (pe_callD D_people_of (hr.mono (by omega)) rfl (pa_cons (pv 0) pa_nil)))
  (pss_one (ps_ret (pe_and (pe_cmpR op_notN (pv 1) pe_non (nomark _)) (pe_one (pe_cmpR op_le (pv 1) (pe_gi T.c_MOST_PEOPLE rfl) (nomark _))))))), ?_⟩
  refine ⟨_, rfl, a, es, rfl, hL, fun H1 s1 => ?_⟩
  refine ⟨_, rfl, rfl, true, rfl, iteT ?_⟩
  refine ⟨_, rfl, _, _, rfl, rfl, ?_⟩
  show Q (V.bl (decide (((flat es).length : Int) ≤ 999999999999999999999999999999))) H1
  rw [decide_eq_true (by omega)]
  exact q _ s1
abbrev sNeed_long : Stmt := top 26
theorem scNeed_long : FnScope ["thing"] ["thing"] (defScope sNeed_long) := ⟨rfl, rfl, rfl, by decide +kernel, rfl, by decide +kernel, by decide +kernel⟩
theorem ok_need_long {d : Nat} (R : Raw K mg "need_long" sNeed_long ["thing"]) (D_is_long : Dn P w K mg base "is_long" (2 * d + 4) ["thing"] (spIsLong d)) : Dn P w K mg base "need_long" (2 * d + 5) ["thing"] (spNeedLong d) := by
  refine R.ok scNeed_long (fun vs H Q E h => ?_) (fun f cdv A outer s H vs Q E hr h => ?_)
  · obtain ⟨a, es, rfl, _⟩ := h; rfl
  obtain ⟨a, es, rfl, hL, hn, q⟩ := h
  refine ⟨_, (pss_one (ps_if (pt_not (pt_val (pe_callD D_is_long (hr.mono (by omega)) rfl (pa_cons (pv 0) pa_nil)))) (pss_one ps_never) pss_nil)), ?_⟩
  exact ⟨_, rfl, a, es, rfl, hL, hn, fun H1 s1 => ⟨true, rfl, iteF (q _ s1)⟩⟩
abbrev sPlanted : Stmt := top 27
theorem scPlanted : FnScope ["long", "first", "parts", "item", "inner"] ["long", "first"] (defScope sPlanted) := ⟨rfl, rfl, rfl, by decide +kernel, rfl, by decide +kernel, by decide +kernel⟩
theorem ok_planted {d : Nat} (R : Raw K mg "planted" sPlanted ["long", "first"]) (D_is_saying : Dn P w K mg base "is_saying" 2 ["thing"] spIsSay) (D_Spot : DnC P w K mg base "Spot" CS 1 ["self", "saying", "number"] (spSpotI CS)) (D_Over : DnC P w K mg base "Over" CO 2 ["self", "times", "parts"] (spOverI CS CO))
    (D_planted : Dn P w K mg base "planted" (d + 3) ["long", "first"] (prv (spPlant CS CO) d)) : Dn P w K mg base "planted" (d + 4) ["long", "first"] (spPlant CS CO d) := by
  refine R.ok scPlanted (fun vs H Q E h => ?_) (fun f cdv A outer s H vs Q E hr h => ?_)
  · obtain ⟨a, first, es, S, rfl, _⟩ := h; rfl
  obtain ⟨a, first, es, S, rfl, hS, ⟨us, ha, hp⟩, h0, h1, q⟩ := h
  refine ⟨_, (pss_cons (ps_set (i := 2) scPlanted.nd rfl (Or.inl rfl) (pe_lst pa_nil))
  (pss_cons (ps_for PassesOwn.never rfl (pi_list (pv 0)) (pg_name (i := 3) scPlanted.nd rfl (Or.inl rfl))
  (pss_one (ps_if (pt_val (pe_callD D_is_saying (hr.mono (by omega)) rfl (pa_cons (pv 3) pa_nil))) (pss_cons (ps_expr (pe_bm PySem.F.plainAttrs_list PySem.F.slot_list_append PySem.F.type_list_append mt_append (pv 2) (pa_cons (pe_spot D_Spot (hr.mono (by omega)) rfl (pa_cons (pv 3) (pa_cons (pv 1) pa_nil))) pa_nil)))
  (pss_one (ps_aug (i := 1) scPlanted.nd rfl (Or.inl rfl) pe_int ip_add))) (pss_cons (ps_asg (pe_callD D_planted (hr.mono (by omega)) rfl (pa_cons (pe_ix ix_tup (pv 3) pe_int (fun _ _ => rfl)) (pa_cons (pv 1) pa_nil))) (pg_tup rfl (pgs_cons (pg_name (i := 4) scPlanted.nd rfl (Or.inl rfl)) (pgs_cons (pg_name (i := 1) scPlanted.nd rfl (Or.inl rfl)) pgs_nil))))
  (pss_one (ps_expr (pe_bm PySem.F.plainAttrs_list PySem.F.slot_list_append PySem.F.type_list_append mt_append (pv 2) (pa_cons (pe_over D_Over (hr.mono (by omega)) rfl (pa_cons (pe_ix ix_tup (pv 3) pe_int (fun _ _ => rfl)) (pa_cons (pv 4) pa_nil))) pa_nil))))))))
  (pss_one (ps_ret (pe_tup (pa_cons (pv 2) (pa_cons (pv 1) pa_nil))))))), ?_⟩
  refine ⟨Nat.zero_le _, fun r hr0 => ?_⟩
  have haH := hS _ _ ha
  refine ⟨_, rfl, a, rfl, ⟨_, SqL.of (same_new hr0 _ _ _ haH)⟩, for_list (K := K) (a := a) (xs := us) (fun i σ H' => ∃ (fi : Int) (u v : Option V) (S1 : Hp) (vs : List V), σ = [some (.ref a), some (.int fi), some (.ref r), u, v] ∧ Same H H' ∧ Bld (PartH CS CO d) S H r S1 H' vs (es.take i) ∧ 0 ≤ fi ∧ fi ≤ first + wsum (es.take i))
    ⟨first, none, none, S, [], rfl, same_new hr0 _, Bld.init hS hr0, h0, Int.le_add_of_nonneg_right (Int.natCast_nonneg _)⟩ (fun i σ H' _ ⟨_, _, _, _, _, _, s, _⟩ => SqL.of (s _ _ haH)) ?_ ?_⟩
  · rintro i x σ H' hx ⟨fi, u, v, S1, vs, rfl, s1, B, f0, f1⟩
    obtain ⟨e, he, hpe⟩ := pget hp hx
    have hw1 := wsum_take he
    have hw2 := wsum_take_le es (i + 1)
    have hvl : vs.length < sizeLine := by
      have := PartH.len B.pr
      rw [sizeLine_eq]
      omega
    cases d with
    | zero => exact hpe.elim
    | succ d =>
      have hpe := hpe.same B.sol.up
      rcases hpe with ⟨sa, z, rfl, hz, rfl⟩ | ⟨y, b, t, ws, fs, rfl, hy, hb, hpr, ht, hn, hw, rfl⟩
      · refine ⟨_, rfl, .inl ⟨sa, z, rfl, hz.same B.sol.ok, true, rfl, iteT ?_⟩⟩
        refine ⟨_, rfl, .inl ⟨rfl, _, SqL.of B.r1⟩, _, rfl, _, rfl, sa, fi, z, S1, rfl, B.sol.ok, hz, f0, (by omega), fun x H2 S2 s2 o2 hsp => ?_⟩
        have B2 := (B.step partR o2 (s2 _ _ B.r1)).push (e := ([z], 1)) (.inl hsp)
        refine ⟨r, _, _, rfl, rfl, s2 _ _ B.r1, hvl, ?_⟩
        refine ⟨_, rfl, _, _, rfl, rfl, fi + 1, _, _, S2, vs ++ [V.ref x], rfl, same_grow (s1.trans s2) B.r0, ?_, by omega, ?_⟩
        · rw [take_succ he]; exact B2
        · rw [hw1]
          show fi + 1 ≤ first + ((wsum (es.take i) + 1 : Nat) : Int)
          omega
      · refine ⟨_, rfl, .inr ⟨y, _, rfl, B.sol.ok _ _ hy, rfl, false, rfl, iteF ?_⟩⟩
        have hwt : wsum fs ≤ 1000 := by
          have : (1 + wsum fs : Nat) = (rep t (flat fs), 1 + wsum fs).2 := rfl
          omega
        have hwb : fi + wsum fs ≤ first + wsum (es.take (i + 1)) := by
          rw [hw1]
          show _ ≤ first + ((wsum (es.take i) + (1 + wsum fs) : Nat) : Int)
          omega
        refine ⟨_, rfl, y, _, _, _, rfl, rfl, SqT.of (B.sol.ok _ _ hy), atI_nat (j := 2) rfl, _, rfl, b, fi, fs, S1, rfl, B.sol.ok, ⟨ws, hb, hpr⟩, f0, (by omega), fun H2 S2 p2 r2 f2 s2 o2 hL g0 g1 hp2 => ?_⟩
        refine ⟨p2, _, rfl, SqT.of hp2, rfl, _, _, rfl, _, _, rfl, rfl, ?_⟩
        have B2 := B.step partR o2 (s2 _ _ B.r1)
        refine ⟨_, rfl, .inl ⟨rfl, _, SqL.of B2.r1⟩, _, rfl, y, _, _, _, rfl, rfl, SqT.of (s2 _ _ (B.sol.ok _ _ hy)), atI_nat (j := 1) rfl, _, rfl, r2, t, d, fs, S2, rfl, o2.ok, hL, hw, ht, hn, fun x H3 S3 s3 o3 hpart => ?_⟩
        have B3 := (B2.step partR o3 (s3 _ _ B2.r1)).push hpart
        refine ⟨r, _, _, rfl, rfl, s3 _ _ B2.r1, hvl, ?_⟩
        refine ⟨f2, _, _, S3, vs ++ [V.ref x], rfl, same_grow ((s1.trans s2).trans s3) B.r0, ?_, g0, by omega⟩
        rw [take_succ he]; exact B3
  · rintro σ H' ⟨fi, u, v, S1, vs, rfl, s1, B, f0, f1⟩
    have el : us.length = es.length := Paired.length hp
    rw [el, List.take_length] at B f1
    refine ⟨_, rfl, _, rfl, (by show 2 ≤ sizeLine; rw [sizeLine_eq]; decide), fun p hp0 => ?_⟩
    obtain ⟨o, hv, hpr⟩ := B.seal partR
    exact q _ _ p r fi (s1.trans (same_new hp0 _)) (o.new hp0 _) ⟨vs, hv, hpr⟩ f0 f1 upd_same
theorem all_planted (R : Raw K mg "planted" sPlanted ["long", "first"]) (D_is_saying : Dn P w K mg base "is_saying" 2 ["thing"] spIsSay) (D_Spot : DnC P w K mg base "Spot" CS 1 ["self", "saying", "number"] (spSpotI CS)) (D_Over : DnC P w K mg base "Over" CO 2 ["self", "times", "parts"] (spOverI CS CO)) :
    ∀ d, Dn P w K mg base "planted" (d + 4) ["long", "first"] (spPlant CS CO d)
  | 0 => ok_planted R D_is_saying D_Spot D_Over (R.no 3 _)
  | d + 1 => ok_planted R D_is_saying D_Spot D_Over (all_planted R D_is_saying D_Spot D_Over d)
abbrev sParts_of : Stmt := top 28
theorem scParts_of : FnScope ["long"] ["long"] (defScope sParts_of) := ⟨rfl, rfl, rfl, by decide +kernel, rfl, by decide +kernel, by decide +kernel⟩
theorem ok_parts_of {d : Nat} (R : Raw K mg "parts_of" sParts_of ["long"]) (D_need_long : Dn P w K mg base "need_long" (2 * d + 5) ["thing"] (spNeedLong d)) (D_planted : Dn P w K mg base "planted" (d + 4) ["long", "first"] (spPlant CS CO d)) :
    Dn P w K mg base "parts_of" (2 * d + 6) ["long"] (spPartsOf CS CO d) := by
  refine R.ok scParts_of (fun vs H Q E h => ?_) (fun f cdv A outer s H vs Q E hr h => ?_)
  · obtain ⟨a, es, S, rfl, _⟩ := h; rfl
  obtain ⟨a, es, S, rfl, hS, hL, hw, hn, q⟩ := h
  refine ⟨_, (pss_cons (ps_expr (pe_callD D_need_long (hr.mono (by omega)) rfl (pa_cons (pv 0) pa_nil)))
  (pss_one (ps_ret (pe_ix ix_tup (pe_callD D_planted (hr.mono (by omega)) rfl (pa_cons (pv 0) (pa_cons pe_int pa_nil))) pe_int (fun _ _ => rfl))))), ?_⟩
  refine ⟨_, rfl, a, es, rfl, hL.same hS, hn, fun H1 s1 => ?_⟩
  refine ⟨_, rfl, a, 0, es, S, rfl, hS.trans s1, hL, Int.le_refl 0, (by omega), fun H2 S2 p r f' s2 o2 hL2 _ _ hp => ?_⟩
  refine ⟨p, _, _, _, rfl, rfl, SqT.of hp, atI_nat (j := 0) rfl, ?_⟩
  exact q H2 S2 r (s1.trans s2) (((Sol.refl hS).same s1).trans o2) hL2
end
end Bo
set_option Elab.async false
set_option linter.all false
set_option maxRecDepth 100000
set_option maxHeartbeats 4000000
namespace Bo
open PySem L2 PySem.Spec PyProof.Rows

/-! ### powers.py: a row cut -/
def spTail (CS CO : Addr) (d : Nat) : Sp := fun vs H Q _ => ∃ (a : Addr) (k M : Nat) (es : List El) (S : Hp), vs = [.ref a, .int k] ∧ Same S H ∧ ListH CS CO d S a es ∧ k ≤ big ∧ wsum es + d * M ≤ lim ∧ (∀ e ∈ es, e.2 ≤ M) ∧
  ∀ (H' S' : Hp) (r : Addr) (es' : List El), Same H H' → Sol S H S' H' → ListH CS CO d S' r es' → flat es' = (flat es).drop k → wsum es' ≤ wsum es + d * M → (∀ e ∈ es', e.2 ≤ M) → Q (.ref r) H'
def spHead (CS CO : Addr) (d : Nat) : Sp := fun vs H Q _ => ∃ (a : Addr) (k M : Nat) (es : List El) (S : Hp), vs = [.ref a, .int k] ∧ Same S H ∧ ListH CS CO d S a es ∧ k ≤ big ∧ wsum es + d * M ≤ lim ∧ (∀ e ∈ es, e.2 ≤ M) ∧
  ∀ (H' S' : Hp) (r : Addr) (es' : List El), Same H H' → Sol S H S' H' → ListH CS CO d S' r es' → flat es' = (flat es).take k → wsum es' ≤ wsum es + d * M → (∀ e ∈ es', e.2 ≤ M) → Q (.ref r) H'
def spSpotAt (CS CO : Addr) (d : Nat) : Sp := fun vs H Q _ => ∃ (a : Addr) (k : Nat) (es : List El) (S : Hp), vs = [.ref a, .int k] ∧ Same S H ∧ ListH CS CO d S a es ∧ k < (flat es).length ∧
  ∀ (x : Addr) (s : Say), (flat es)[k]? = some s → SpotAt CS S (.ref x) ([s], 1) → Q (.ref x) H
theorem drop_cons {α : Type} {l : List α} {i : Nat} {x : α} (h : l[i]? = some x) : l.drop i = x :: l.drop (i + 1) := by
  obtain ⟨hi, e⟩ := List.getElem?_eq_some_iff.mp h
  rw [List.drop_eq_getElem_cons hi, e]
theorem flat_drop {es : List El} {i : Nat} {e : El} (h : es[i]? = some e) : flat (es.drop i) = e.1 ++ flat (es.drop (i + 1)) := by
  rw [drop_cons h]; rfl
theorem bits_big {n : Nat} (h : n ≤ big) : Builtin.Int.intBits (n : Int) ≤ 200 := PyProof.Rows.intBits_le (big_lt h)
theorem nat_divmod {l t n : Nat} (h : l < t * n) : 0 < n ∧ l / n < t ∧ l % n < n ∧ l / n * n + l % n = l := by
  have hn : 0 < n := Nat.pos_of_ne_zero fun z => by subst z; omega
  refine ⟨hn, (Nat.div_lt_iff_lt_mul hn).mpr h, Nat.mod_lt _ hn, ?_⟩
  have := Nat.div_add_mod l n
  rw [Nat.mul_comm] at this
  exact this
/-- one argument, in several ways: what is known of it behind each -/
theorem arg1 {t : TE} {σ : L2.St} {H : Hp} {Q : List V → Hp → Prop} (G : V → Hp → Prop) (h1 : ∀ v H2, G v H2 → Q [v] H2) (h2 : (∀ v H2, G v H2 → Q [v] H2) → t σ H (fun x H1 => Q [x] H1)) : tCons t tNil σ H Q := h2 h1
section
variable {P : Program} {w : World} {K : PySem.W.Frag} {mg : Str → Option Value} {base : Heap} {CS CO CH : Addr}
abbrev sTail : Stmt := top 29
theorem scTail : FnScope ["parts", "place", "found", "left", "part", "gone", "more"] ["parts", "place"] (defScope sTail) := ⟨rfl, rfl, rfl, by decide +kernel, rfl, by decide +kernel, by decide +kernel⟩
theorem ok_tail {d : Nat} (T : Txt K mg CS CO CH) (R : Raw K mg "tail" sTail ["parts", "place"]) (D_Over : DnC P w K mg base "Over" CO 2 ["self", "times", "parts"] (spOverI CS CO))
    (D_tail : Dn P w K mg base "tail" (d + 3) ["parts", "place"] (prv (spTail CS CO) d)) : Dn P w K mg base "tail" (d + 4) ["parts", "place"] (spTail CS CO d) := by
  refine R.ok scTail (fun vs H Q E h => ?_) (fun f cdv A outer s H vs Q E hr h => ?_)
  · obtain ⟨a, k, M, es, S, rfl, _⟩ := h; rfl
  obtain ⟨a, k, M, es, S, rfl, hS, ⟨us, ha, hp⟩, hk, hw, hM, q⟩ := h
  refine ⟨_, (pss_cons (ps_set (i := 2) scTail.nd rfl (Or.inl rfl) (pe_lst pa_nil))
  (pss_cons (ps_set (i := 3) scTail.nd rfl (Or.inl rfl) (pv 1))
  (pss_cons (ps_for PassesOwn.never rfl (pi_list (pv 0)) (pg_name (i := 4) scTail.nd rfl (Or.inl rfl))
  (pss_one (ps_if (pt_cmpR op_ge (pv 3) (pe_fld (pv 4) rfl) (nomark _)) (pss_one (ps_aug (i := 3) scTail.nd rfl (Or.inl rfl) (pe_fld (pv 4) rfl) ip_sub)) (pss_one (ps_if (pt_cmpR op_eq (pv 3) pe_int (nomark _)) (pss_one (ps_expr (pe_bm PySem.F.plainAttrs_list PySem.F.slot_list_append PySem.F.type_list_append mt_append (pv 2) (pa_cons (pv 4) pa_nil)))) (pss_cons (ps_asg (pe_callB call_divmodW rfl T.b_divmod boot_divmod (pa_cons (pv 3) (pa_cons (pe_fld (pv 4) rfl) pa_nil))) (pg_tup rfl (pgs_cons (pg_name (i := 5) scTail.nd rfl (Or.inl rfl)) (pgs_cons (pg_name (i := 6) scTail.nd rfl (Or.inl rfl)) pgs_nil))))
  (pss_cons (ps_expr (pe_bm PySem.F.plainAttrs_list PySem.F.slot_list_extend PySem.F.type_list_extend mt_extend (pv 2) (pa_cons (pe_ifExp (pt_cmpR op_gt (pv 6) pe_int (nomark _)) (pe_callD D_tail (hr.mono (by omega)) rfl (pa_cons (pe_fld (pv 4) rfl) (pa_cons (pv 6) pa_nil))) (pe_fld (pv 4) rfl)) pa_nil)))
  (pss_cons (ps_expr (pe_bm PySem.F.plainAttrs_list PySem.F.slot_list_append PySem.F.type_list_append mt_append (pv 2) (pa_cons (pe_over D_Over (hr.mono (by omega)) rfl (pa_cons (pe_op op_sub (pe_op op_sub (pe_fld (pv 4) rfl) (pv 5)) pe_int) (pa_cons (pe_fld (pv 4) rfl) pa_nil))) pa_nil)))
  (pss_one (ps_set (i := 3) scTail.nd rfl (Or.inl rfl) pe_int))))))))))
  (pss_one (ps_ret (pv 2)))))), ?_⟩
  refine ⟨Nat.zero_le _, fun r hr0 => ?_⟩
  have haH := hS _ _ ha
  refine ⟨_, rfl, ?_⟩
  refine ⟨_, rfl, a, rfl, ⟨_, SqL.of (same_new hr0 _ _ _ haH)⟩, for_list (K := K) (a := a) (xs := us) (fun i σ H' => ∃ (l : Nat) (lz : Int) (x4 x5 x6 : Option V) (S1 : Hp) (vs : List V) (fs : List El), σ = [some (.ref a), some (.int k), some (.ref r), some (.int lz), x4, x5, x6] ∧ lz = l ∧ l ≤ big ∧ Same H H' ∧ Bld (PartH CS CO d) S H r S1 H' vs fs ∧
      flat fs ++ (flat (es.drop i)).drop l = (flat es).drop k ∧ wsum fs ≤ wsum (es.take i) + d * M ∧ (0 < l → fs = []) ∧ ∀ e ∈ fs, e.2 ≤ M)
    ⟨k, k, none, none, none, S, [], [], rfl, rfl, hk, same_new hr0 _, Bld.init hS hr0, rfl, Nat.zero_le _, fun _ => rfl, fun _ z => nomatch z⟩ (fun i σ H' _ ⟨_, _, _, _, _, _, _, _, _, _, _, s, _⟩ => SqL.of (s _ _ haH)) ?_ ?_⟩
  · rintro i x σ H' hx ⟨l, lz, x4, x5, x6, S1, vs, fs, rfl, rfl, hl, s1, B, hf, hwf, hfs, hMf⟩
    obtain ⟨e, he, hpe⟩ := pget hp hx
    have hpe1 := hpe.same B.sol.up
    obtain ⟨p, C, dx, fl, rfl, h1, h2, h3, h4⟩ := PartH.obj T (hpe1.same B.sol.ok)
    have hw1 := wsum_take he
    have hw2 := wsum_take_le es (i + 1)
    have hfd := flat_drop he
    have heM := hM e (List.mem_of_getElem? he)
    have hvl : vs.length < sizeLine := by
      have := PartH.len B.pr
      have := lim_lt
      omega
    rw [hfd] at hf
    refine ⟨_, rfl, _, rfl, p, C, dx, fl, _, rfl, h1, h2, h3, h4, _, _, rfl, rfl, _, rfl, ?_⟩
    by_cases c1 : e.1.length ≤ l
    · rw [decide_eq_true (by omega : ((e.1.length : Nat) : Int) ≤ (l : Int))]
      refine iteT ?_
      refine ⟨_, rfl, _, rfl, p, C, dx, fl, _, rfl, h1, h2, h3, h4, _, _, rfl, rfl, ?_⟩
      refine ⟨l - e.1.length, (l : Int) - (e.1.length : Nat), _, x5, x6, S1, vs, fs, rfl, by omega, by omega, s1, B, ?_, by omega, fun z => hfs (by omega), hMf⟩
      rw [← hf, List.drop_append, List.drop_eq_nil_of_le c1, List.nil_append]
    · rw [decide_eq_false (by omega)]
      refine iteF ?_
      refine ⟨_, rfl, rfl, _, rfl, ?_⟩
      by_cases c2 : l = 0
      · rw [decide_eq_true (by rw [c2]; rfl)]
        refine iteT ?_
        refine ⟨_, rfl, .inl ⟨rfl, _, SqL.of B.r1⟩, _, rfl, r, _, _, rfl, rfl, B.r1, hvl, ?_⟩
        refine ⟨0, l, _, x5, x6, S1, vs ++ [V.ref p], fs ++ [e], rfl, by omega, by omega, same_grow s1 B.r0, B.push hpe1, ?_, ?_, fun z => absurd z (Nat.lt_irrefl 0), ?_⟩
        · rw [← hf, c2, flat_append, flat_one, List.append_assoc]; rfl
        · rw [wsum_append, wsum_one]; omega
        · intro e' he'
          rcases List.mem_append.mp he' with z | z
          · exact hMf e' z
          · rw [List.mem_singleton.mp z]; exact heM
      · rw [decide_eq_false (by intro z; injection z with z; omega)]
        refine iteF ?_
        have hf0 := hfs (by omega)
        cases d with
        | zero => exact hpe.elim
        | succ d =>
          rcases hpe1 with ⟨p', dx', sa, kk, z, ep, hp', _, _, _, rfl⟩ | ⟨p', dx', b, t, ws, gs, ep, hp', hb, hpr, ht, hn, hwg, rfl⟩
          · exact absurd (show [z].length ≤ l by show 1 ≤ l; omega) c1
          · obtain rfl : p = p' := V.ref.inj ep
            have hlen : l < t * (flat gs).length := by
              have z : ¬ (rep t (flat gs)).length ≤ l := c1
              rw [rep_len] at z
              omega
            obtain ⟨n0, g1, g2, g3⟩ := nat_divmod hlen
            have hpo := B.sol.ok _ _ hp'
            refine ⟨_, rfl, _, rfl, p, CO, dx', _, _, rfl, hpo, T.iO.cl, T.o3, of_once, _, _, rfl, divp_ok (by omega) (by have := bits_big hl; omega), fun pd hpd => ?_⟩
            refine ⟨pd, _, rfl, SqT.of upd_same, rfl, _, _, rfl, _, _, rfl, rfl, ?_⟩
            have sd := same_new hpd (HO.tup [V.int ((l : Int) / ((flat gs).length : Nat)), V.int ((l : Int) % ((flat gs).length : Nat))])
            have B1 := B.same sd
            have hp1 := sd _ _ hpo
            have hwM : wsum gs + 1 ≤ M := by
              have z : 1 + wsum gs ≤ M := heM
              omega
            refine ⟨_, rfl, .inl ⟨rfl, _, SqL.of B1.r1⟩, arg1 (fun v H2 => ∃ (r2 : Addr) (S2 : Hp) (us' : List V) (gs' : List El), v = .ref r2 ∧ Same H H2 ∧ Bld (PartH CS CO (d + 1)) S H r S2 H2 vs fs ∧ Same S1 S2 ∧ H2 r2 = some (.lst us') ∧ Paired (PartH CS CO d S2) us' gs' ∧
                flat gs' = (flat gs).drop (l % (flat gs).length) ∧ wsum gs' ≤ (d + 1) * M ∧ ∀ e ∈ gs', e.2 ≤ M) ?_ fun key => ?_⟩
            · rintro _ H2 ⟨r2, S2, us', gs', rfl, s2, B2, o2, hr2, hpr2, ef, ew, eM⟩
              have hp2 := B2.sol.ok _ _ (o2 _ _ hp')
              have ul := PartH.len hpr2
              have vl := PartH.len B2.pr
              have fl0 : wsum fs = 0 := by rw [hf0]; rfl
              refine ⟨r, r2, _, _, rfl, rfl, B2.r1, hr2, by have := lim_lt; omega, ?_⟩
              have B3 := B2.ext (Paired.mapP hpr2 fun _ _ z => z.up)
              have hp3 := B3.sol.ok _ _ (o2 _ _ hp')
              refine ⟨_, rfl, .inl ⟨rfl, _, SqL.of B3.r1⟩, _, rfl, p, CO, dx', _, _, rfl, hp3, T.iO.cl, T.o1, of_times, _, rfl, _, _, rfl, rfl, _, _, rfl, rfl, _, rfl, p, CO, dx', _, _, rfl, hp3, T.iO.cl, T.o2, of_parts, ?_⟩
              have ez : (t : Int) - (l : Int) / ((flat gs).length : Nat) - 1 = ((t - l / (flat gs).length - 1 : Nat) : Int) := by
                rw [← Int.natCast_ediv]
                omega
              have ez2 : [V.int ((t : Int) - (l : Int) / ((flat gs).length : Nat) - 1), V.ref b] = [V.int ((t - l / (flat gs).length - 1 : Nat) : Int), V.ref b] := by rw [ez]
              refine ⟨b, t - l / (flat gs).length - 1, d, gs, S2, ez2, B3.sol.ok, ⟨ws, o2 _ _ hb, Paired.mapP hpr fun _ _ z => z.same o2⟩, hwg, Nat.le_trans (Nat.sub_le _ _) (Nat.le_trans (Nat.sub_le _ _) ht), hn, fun x H4 S4 s4 o4 hpart => ?_⟩
              have B4 := (B3.step partR o4 (s4 _ _ B3.r1)).push hpart
              refine ⟨r, _, _, rfl, rfl, s4 _ _ B3.r1, by rw [List.length_append]; have := lim_lt; have := wsum_take_le es i; omega, ?_⟩
              refine ⟨0, 0, _, _, _, S4, _, _, rfl, rfl, Nat.zero_le _, same_grow ((same_grow s2 B2.r0).trans s4) B2.r0, B4, ?_, ?_, fun z => absurd z (Nat.lt_irrefl 0), ?_⟩
              · rw [← hf, hf0, flat_append, flat_append, flat_one, ef]
                show ([] ++ _ ++ rep (t - l / (flat gs).length - 1) (flat gs)) ++ flat (es.drop (i + 1)) = [] ++ (rep t (flat gs) ++ _).drop l
                rw [List.nil_append, List.nil_append, List.drop_append_of_le_length (by rw [rep_len]; omega)]
                conv => rhs; rw [← g3]
                rw [rep_drop g1 g2]
              · rw [wsum_append, wsum_append, wsum_one, fl0, hw1]
                show 0 + wsum gs' + (1 + wsum gs) ≤ wsum (es.take i) + (1 + wsum gs) + (d + 1) * M
                omega
              · intro e' he'
                rcases List.mem_append.mp he' with z | z
                · rcases List.mem_append.mp z with z | z
                  · exact hMf e' z
                  · exact eM e' z
                · rw [List.mem_singleton.mp z]; exact heM
            · refine ⟨_, rfl, _, _, rfl, rfl, _, rfl, ?_⟩
              have em : (l : Int) % ((flat gs).length : Nat) = ((l % (flat gs).length : Nat) : Int) := by rw [Int.natCast_emod]
              have hgM : ∀ e ∈ gs, e.2 ≤ M := fun e' z => by have := wsum_mem z; omega
              by_cases c3 : l % (flat gs).length = 0
              · rw [decide_eq_false (by rw [em]; omega)]
                refine iteF ⟨_, rfl, p, CO, dx', _, _, rfl, hp1, T.iO.cl, T.o2, of_parts, ?_⟩
                refine key _ _ ⟨b, S1, ws, gs, rfl, s1.trans sd, B1, Same.refl _, B1.sol.ok _ _ hb, hpr, ?_, ?_, hgM⟩
                · rw [c3]; rfl
                · rw [Nat.succ_mul]; omega
              · rw [decide_eq_true (by rw [em]; omega)]
                refine iteT ⟨_, rfl, p, CO, dx', _, _, rfl, hp1, T.iO.cl, T.o2, of_parts, _, rfl, ?_⟩
                have ez3 : [V.ref b, V.int ((l : Int) % ((flat gs).length : Nat))] = [V.ref b, V.int ((l % (flat gs).length : Nat) : Int)] := by rw [em]
                refine ⟨b, l % (flat gs).length, M, gs, S1, ez3, B1.sol.ok, ⟨ws, hb, hpr⟩, by omega, ?_, hgM, fun H2 S2 r2 gs' s2 o2 hL2 ef ew eM => ?_⟩
                · have : (d + 1) * M = d * M + M := Nat.succ_mul d M
                  omega
                · obtain ⟨us', hu, hpr2⟩ := hL2
                  refine key _ _ ⟨r2, S2, us', gs', rfl, (s1.trans sd).trans s2, B1.step partR o2 (s2 _ _ B1.r1), o2.up, o2.ok _ _ hu, hpr2, ef, ?_, eM⟩
                  have : (d + 1) * M = d * M + M := Nat.succ_mul d M
                  omega
  · rintro σ H' ⟨l, lz, x4, x5, x6, S1, vs, fs, rfl, rfl, hl, s1, B, hf, hwf, hfs, hMf⟩
    have el : us.length = es.length := Paired.length hp
    rw [el, List.take_length] at hwf
    rw [el, List.drop_length] at hf
    refine ⟨_, rfl, ?_⟩
    obtain ⟨o, hv, hpr⟩ := B.seal partR
    refine q _ _ r fs s1 o ⟨vs, hv, hpr⟩ ?_ hwf hMf
    rw [← hf]
    show _ = flat fs ++ List.drop l []
    rw [List.drop_nil, List.append_nil]
theorem all_tail (T : Txt K mg CS CO CH) (R : Raw K mg "tail" sTail ["parts", "place"]) (D_Over : DnC P w K mg base "Over" CO 2 ["self", "times", "parts"] (spOverI CS CO)) : ∀ d, Dn P w K mg base "tail" (d + 4) ["parts", "place"] (spTail CS CO d)
  | 0 => ok_tail T R D_Over (R.no 3 _)
  | d + 1 => ok_tail T R D_Over (all_tail T R D_Over d)
end
end Bo
set_option Elab.async false
set_option linter.all false
set_option maxRecDepth 100000
set_option maxHeartbeats 4000000
namespace Bo
open PySem L2 PySem.Spec PyProof.Rows

section
variable {P : Program} {w : World} {K : PySem.W.Frag} {mg : Str → Option Value} {base : Heap} {CS CO CH : Addr}
abbrev sHead : Stmt := top 30
theorem scHead : FnScope ["parts", "place", "found", "left", "part", "gone", "more"] ["parts", "place"] (defScope sHead) := ⟨rfl, rfl, rfl, by decide +kernel, rfl, by decide +kernel, by decide +kernel⟩
theorem ok_head {d : Nat} (T : Txt K mg CS CO CH) (R : Raw K mg "head" sHead ["parts", "place"]) (D_Over : DnC P w K mg base "Over" CO 2 ["self", "times", "parts"] (spOverI CS CO))
    (D_head : Dn P w K mg base "head" (d + 3) ["parts", "place"] (prv (spHead CS CO) d)) : Dn P w K mg base "head" (d + 4) ["parts", "place"] (spHead CS CO d) := by
  refine R.ok scHead (fun vs H Q E h => ?_) (fun f cdv A outer s H vs Q E hr h => ?_)
  · obtain ⟨a, k, M, es, S, rfl, _⟩ := h; rfl
  obtain ⟨a, k, M, es, S, rfl, hS, ⟨us, ha, hp⟩, hk, hw, hM, q⟩ := h
  refine ⟨_, (pss_cons (ps_set (i := 2) scHead.nd rfl (Or.inl rfl) (pe_lst pa_nil))
  (pss_cons (ps_set (i := 3) scHead.nd rfl (Or.inl rfl) (pv 1))
  (pss_cons (ps_for PassesOwn.never rfl (pi_list (pv 0)) (pg_name (i := 4) scHead.nd rfl (Or.inl rfl))
  (pss_one (ps_if (pt_cmpR op_ge (pv 3) (pe_fld (pv 4) rfl) (nomark _)) (pss_cons (ps_expr (pe_bm PySem.F.plainAttrs_list PySem.F.slot_list_append PySem.F.type_list_append mt_append (pv 2) (pa_cons (pv 4) pa_nil)))
  (pss_one (ps_aug (i := 3) scHead.nd rfl (Or.inl rfl) (pe_fld (pv 4) rfl) ip_sub))) (pss_one (ps_if (pt_cmpR op_gt (pv 3) pe_int (nomark _)) (pss_cons (ps_asg (pe_callB call_divmodW rfl T.b_divmod boot_divmod (pa_cons (pv 3) (pa_cons (pe_fld (pv 4) rfl) pa_nil))) (pg_tup rfl (pgs_cons (pg_name (i := 5) scHead.nd rfl (Or.inl rfl)) (pgs_cons (pg_name (i := 6) scHead.nd rfl (Or.inl rfl)) pgs_nil))))
  (pss_cons (ps_expr (pe_bm PySem.F.plainAttrs_list PySem.F.slot_list_append PySem.F.type_list_append mt_append (pv 2) (pa_cons (pe_over D_Over (hr.mono (by omega)) rfl (pa_cons (pv 5) (pa_cons (pe_fld (pv 4) rfl) pa_nil))) pa_nil)))
  (pss_cons (ps_expr (pe_bm PySem.F.plainAttrs_list PySem.F.slot_list_extend PySem.F.type_list_extend mt_extend (pv 2) (pa_cons (pe_callD D_head (hr.mono (by omega)) rfl (pa_cons (pe_fld (pv 4) rfl) (pa_cons (pv 6) pa_nil))) pa_nil)))
  (pss_one (ps_set (i := 3) scHead.nd rfl (Or.inl rfl) pe_int))))) pss_nil)))))
  (pss_one (ps_ret (pv 2)))))), ?_⟩
  refine ⟨Nat.zero_le _, fun r hr0 => ?_⟩
  have haH := hS _ _ ha
  refine ⟨_, rfl, ?_⟩
  refine ⟨_, rfl, a, rfl, ⟨_, SqL.of (same_new hr0 _ _ _ haH)⟩, for_list (K := K) (a := a) (xs := us) (fun i σ H' => ∃ (l : Nat) (lz : Int) (x4 x5 x6 : Option V) (S1 : Hp) (vs : List V) (fs : List El), σ = [some (.ref a), some (.int k), some (.ref r), some (.int lz), x4, x5, x6] ∧ lz = l ∧ l ≤ big ∧ Same H H' ∧ Bld (PartH CS CO d) S H r S1 H' vs fs ∧
      flat fs ++ (flat (es.drop i)).take l = (flat es).take k ∧ wsum fs ≤ wsum (es.take i) + d * M ∧ (0 < l → wsum fs ≤ wsum (es.take i)) ∧ ∀ e ∈ fs, e.2 ≤ M)
    ⟨k, k, none, none, none, S, [], [], rfl, rfl, hk, same_new hr0 _, Bld.init hS hr0, rfl, Nat.zero_le _, fun _ => Nat.le_refl _, fun _ z => nomatch z⟩ (fun i σ H' _ ⟨_, _, _, _, _, _, _, _, _, _, _, s, _⟩ => SqL.of (s _ _ haH)) ?_ ?_⟩
  · rintro i x σ H' hx ⟨l, lz, x4, x5, x6, S1, vs, fs, rfl, rfl, hl, s1, B, hf, hwf, hfs, hMf⟩
    obtain ⟨e, he, hpe⟩ := pget hp hx
    have hpe1 := hpe.same B.sol.up
    obtain ⟨p, C, dx, fl, rfl, h1, h2, h3, h4⟩ := PartH.obj T (hpe1.same B.sol.ok)
    have hw1 := wsum_take he
    have hw2 := wsum_take_le es (i + 1)
    have hfd := flat_drop he
    have heM := hM e (List.mem_of_getElem? he)
    have hvl : vs.length < sizeLine := by
      have := PartH.len B.pr
      have := lim_lt
      have := wsum_take_le es i
      omega
    rw [hfd] at hf
    refine ⟨_, rfl, _, rfl, p, C, dx, fl, _, rfl, h1, h2, h3, h4, _, _, rfl, rfl, _, rfl, ?_⟩
    by_cases c1 : e.1.length ≤ l
    · rw [decide_eq_true (by omega : ((e.1.length : Nat) : Int) ≤ (l : Int))]
      refine iteT ?_
      refine ⟨_, rfl, .inl ⟨rfl, _, SqL.of B.r1⟩, _, rfl, r, _, _, rfl, rfl, B.r1, hvl, ?_⟩
      have B2 := B.push hpe1
      obtain ⟨p2, C2, dx2, fl2, ep, g1, g2, g3, g4⟩ := PartH.obj T (hpe1.same B2.sol.ok)
      obtain rfl := V.ref.inj ep
      refine ⟨_, rfl, _, rfl, p, C2, dx2, fl2, _, rfl, g1, g2, g3, g4, _, _, rfl, rfl, ?_⟩
      refine ⟨l - e.1.length, (l : Int) - (e.1.length : Nat), _, x5, x6, S1, _, _, rfl, by omega, by omega, same_grow s1 B.r0, B2, ?_, ?_, fun z => ?_, ?_⟩
      · rw [← hf, flat_append, flat_one, List.append_assoc, List.take_append, List.take_of_length_le c1]
      · rw [wsum_append, wsum_one]; omega
      · have := hfs (by omega)
        rw [wsum_append, wsum_one]; omega
      · intro e' he'
        rcases List.mem_append.mp he' with z | z
        · exact hMf e' z
        · rw [List.mem_singleton.mp z]; exact heM
    · rw [decide_eq_false (by omega)]
      refine iteF ?_
      refine ⟨_, rfl, _, _, rfl, rfl, _, rfl, ?_⟩
      by_cases c2 : l = 0
      · rw [decide_eq_false (by omega)]
        refine iteF ?_
        refine ⟨l, l, _, x5, x6, S1, vs, fs, rfl, rfl, hl, s1, B, ?_, by omega, fun z => by omega, hMf⟩
        rw [← hf, c2]; rfl
      · rw [decide_eq_true (by omega)]
        refine iteT ?_
        have hf0 := hfs (by omega)
        cases d with
        | zero => exact hpe.elim
        | succ d =>
          rcases hpe1 with ⟨p', dx', sa, kk, z, ep, hp', _, _, _, rfl⟩ | ⟨p', dx', b, t, ws, gs, ep, hp', hb, hpr, ht, hn, hwg, rfl⟩
          · exact absurd (show [z].length ≤ l by show 1 ≤ l; omega) c1
          · obtain rfl : p = p' := V.ref.inj ep
            have hlen : l < t * (flat gs).length := by
              have z : ¬ (rep t (flat gs)).length ≤ l := c1
              rw [rep_len] at z
              omega
            obtain ⟨n0, g1, g2, g3⟩ := nat_divmod hlen
            have hpo := B.sol.ok _ _ hp'
            have hwM : wsum gs + 1 ≤ M := by
              have z : 1 + wsum gs ≤ M := heM
              omega
            have hMd : (d + 1) * M = d * M + M := Nat.succ_mul d M
            have hgM : ∀ e ∈ gs, e.2 ≤ M := fun e' z => by have := wsum_mem z; omega
            refine ⟨_, rfl, _, rfl, p, CO, dx', _, _, rfl, hpo, T.iO.cl, T.o3, of_once, _, _, rfl, divp_ok (by omega) (by have := bits_big hl; omega), fun pd hpd => ?_⟩
            refine ⟨pd, _, rfl, SqT.of upd_same, rfl, _, _, rfl, _, _, rfl, rfl, ?_⟩
            have sd := same_new hpd (HO.tup [V.int ((l : Int) / ((flat gs).length : Nat)), V.int ((l : Int) % ((flat gs).length : Nat))])
            have B1 := B.same sd
            have hp1 := sd _ _ hpo
            have ez2 : [V.int ((l : Int) / ((flat gs).length : Nat)), V.ref b] = [V.int ((l / (flat gs).length : Nat) : Int), V.ref b] := by rw [Int.natCast_ediv]
            have ez3 : [V.ref b, V.int ((l : Int) % ((flat gs).length : Nat))] = [V.ref b, V.int ((l % (flat gs).length : Nat) : Int)] := by rw [Int.natCast_emod]
            -- found.append(Over(gone, part.s8_parts))
            refine ⟨_, rfl, .inl ⟨rfl, _, SqL.of B1.r1⟩, _, rfl, _, rfl, p, CO, dx', _, _, rfl, hp1, T.iO.cl, T.o2, of_parts, ?_⟩
            refine ⟨b, l / (flat gs).length, d, gs, S1, ez2, B1.sol.ok, ⟨ws, hb, hpr⟩, hwg, by omega, hn, fun x H4 S4 s4 o4 hpart => ?_⟩
            have B4 := (B1.step partR o4 (s4 _ _ B1.r1)).push hpart
            refine ⟨r, _, _, rfl, rfl, s4 _ _ B1.r1, hvl, ?_⟩
            -- found.extend(head(part.s8_parts, more))
            have hp4 := B4.sol.ok _ _ (o4.up _ _ hp')
            refine ⟨_, rfl, .inl ⟨rfl, _, SqL.of B4.r1⟩, _, rfl, p, CO, dx', _, _, rfl, hp4, T.iO.cl, T.o2, of_parts, _, rfl, ?_⟩
            refine ⟨b, l % (flat gs).length, M, gs, S4, ez3, B4.sol.ok, ⟨ws, o4.up _ _ hb, Paired.mapP hpr fun _ _ z => z.same o4.up⟩, by omega, by omega, hgM, fun H5 S5 r5 gs' s5 o5 hL5 ef ew eM => ?_⟩
            obtain ⟨us', hu, hpr5⟩ := hL5
            have B5 := B4.step partR o5 (s5 _ _ B4.r1)
            have ul := PartH.len hpr5
            have vl := PartH.len B5.pr
            rw [wsum_append, wsum_one] at vl
            refine ⟨r, r5, _, _, rfl, rfl, B5.r1, o5.ok _ _ hu, ?_, ?_⟩
            · have z : (rep (l / (flat gs).length) (flat gs), 1 + wsum gs).2 = 1 + wsum gs := rfl
              have := lim_lt
              have := wsum_take_le es i
              omega
            have B6 := B5.ext (Paired.mapP hpr5 fun _ _ z => z.up)
            refine ⟨0, 0, _, _, _, S5, _, _, rfl, rfl, Nat.zero_le _, same_grow ((same_grow ((s1.trans sd).trans s4) B.r0).trans s5) B.r0, B6, ?_, ?_, fun z => absurd z (Nat.lt_irrefl 0), ?_⟩
            · rw [← hf, flat_append, flat_append, flat_one, ef]
              show (flat fs ++ rep (l / (flat gs).length) (flat gs) ++ (flat gs).take (l % (flat gs).length)) ++ [] = flat fs ++ (rep t (flat gs) ++ _).take l
              rw [List.append_nil, List.append_assoc, List.take_append_of_le_length (by rw [rep_len]; omega)]
              conv => rhs; rw [← g3]
              rw [rep_take g1 g2]
            · rw [wsum_append, wsum_append, wsum_one, hw1]
              show wsum fs + (1 + wsum gs) + wsum gs' ≤ wsum (es.take i) + (1 + wsum gs) + (d + 1) * M
              omega
            · intro e' he'
              rcases List.mem_append.mp he' with z | z
              · rcases List.mem_append.mp z with z | z
                · exact hMf e' z
                · rw [List.mem_singleton.mp z]; exact heM
              · exact eM e' z
  · rintro σ H' ⟨l, lz, x4, x5, x6, S1, vs, fs, rfl, rfl, hl, s1, B, hf, hwf, hfs, hMf⟩
    have el : us.length = es.length := Paired.length hp
    rw [el, List.take_length] at hwf
    rw [el, List.drop_length] at hf
    refine ⟨_, rfl, ?_⟩
    obtain ⟨o, hv, hpr⟩ := B.seal partR
    refine q _ _ r fs s1 o ⟨vs, hv, hpr⟩ ?_ hwf hMf
    rw [← hf]
    show _ = flat fs ++ List.take l []
    rw [List.take_nil, List.append_nil]
theorem all_head (T : Txt K mg CS CO CH) (R : Raw K mg "head" sHead ["parts", "place"]) (D_Over : DnC P w K mg base "Over" CO 2 ["self", "times", "parts"] (spOverI CS CO)) : ∀ d, Dn P w K mg base "head" (d + 4) ["parts", "place"] (spHead CS CO d)
  | 0 => ok_head T R D_Over (R.no 3 _)
  | d + 1 => ok_head T R D_Over (all_head T R D_Over d)
abbrev sSpot_at : Stmt := top 31
theorem scSpot_at : FnScope ["parts", "place", "part"] ["parts", "place"] (defScope sSpot_at) := ⟨rfl, rfl, rfl, by decide +kernel, rfl, by decide +kernel, by decide +kernel⟩
theorem ok_spot_at {d : Nat} (T : Txt K mg CS CO CH) (R : Raw K mg "spot_at" sSpot_at ["parts", "place"]) 
    (D_spot_at : Dn P w K mg base "spot_at" d ["parts", "place"] (prv (spSpotAt CS CO) d)) : Dn P w K mg base "spot_at" (d + 1) ["parts", "place"] (spSpotAt CS CO d) := by
  refine R.ok scSpot_at (fun vs H Q E h => ?_) (fun f cdv A outer s H vs Q E hr h => ?_)
  · obtain ⟨a, k, es, S, rfl, _⟩ := h; rfl
  obtain ⟨a, k, es, S, rfl, hS, ⟨us, ha, hp⟩, hk, q⟩ := h
  refine ⟨_, (pss_cons (ps_for PassesOwn.never rfl (pi_list (pv 0)) (pg_name (i := 2) scSpot_at.nd rfl (Or.inl rfl))
  (pss_one (ps_if (pt_cmpR op_ge (pv 1) (pe_fld (pv 2) rfl) (nomark _)) (pss_one (ps_aug (i := 1) scSpot_at.nd rfl (Or.inl rfl) (pe_fld (pv 2) rfl) ip_sub)) (pss_one (ps_if (pt_val (pe_callB call_isi rfl T.b_isinstance boot_isinstance (pa_cons (pv 2) (pa_cons (pe_glob (v := .ref CS) rfl T.mgCS rfl) pa_nil)))) (pss_one (ps_ret (pv 2))) (pss_one (ps_ret (pe_callD D_spot_at (hr.mono (by omega)) rfl (pa_cons (pe_fld (pv 2) rfl) (pa_cons (pe_op op_mod (pv 1) (pe_fld (pv 2) rfl)) pa_nil))))))))))
  (pss_one (ps_ret pe_non))), ?_⟩
  have haH := hS _ _ ha
  refine ⟨_, rfl, a, rfl, ⟨_, SqL.of haH⟩, for_list (K := K) (a := a) (xs := us) (fun i σ H' => ∃ (l : Nat) (lz : Int) (x2 : Option V), σ = [some (.ref a), some (.int lz), x2] ∧ lz = l ∧ H' = H ∧ l < (flat (es.drop i)).length ∧ (flat (es.drop i))[l]? = (flat es)[k]?)
    ⟨k, k, none, rfl, rfl, rfl, hk, rfl⟩ (fun i σ H' _ ⟨_, _, _, _, _, e, _⟩ => by rw [e]; exact SqL.of haH) ?_ ?_⟩
  · rintro i x σ H' hx ⟨l, lz, x2, rfl, rfl, rfl, hl, hg⟩
    obtain ⟨e, he, hpe⟩ := pget hp hx
    obtain ⟨p, C, dx, fl, rfl, h1, h2, h3, h4⟩ := PartH.obj T (hpe.same hS)
    rw [flat_drop he] at hl hg
    rw [List.length_append] at hl
    refine ⟨_, rfl, _, rfl, p, C, dx, fl, _, rfl, h1, h2, h3, h4, _, _, rfl, rfl, _, rfl, ?_⟩
    by_cases c1 : e.1.length ≤ l
    · rw [decide_eq_true (by omega : ((e.1.length : Nat) : Int) ≤ (l : Int))]
      refine iteT ?_
      refine ⟨_, rfl, _, rfl, p, C, dx, fl, _, rfl, h1, h2, h3, h4, _, _, rfl, rfl, ?_⟩
      refine ⟨l - e.1.length, (l : Int) - (e.1.length : Nat), _, rfl, by omega, rfl, by omega, ?_⟩
      rw [← hg, List.getElem?_append_right c1]
    · rw [decide_eq_false (by omega)]
      refine iteF ?_
      rw [List.getElem?_append_left (by omega)] at hg
      cases d with
      | zero => exact hpe.elim
      | succ d =>
        rcases hpe with ⟨p', dx', sa, kk, z, ep, hp', k0, k1, hz, rfl⟩ | ⟨p', dx', b, t, ws, gs, ep, hp', hb, hpr, ht, hn, hwg, rfl⟩
        · obtain rfl : p = p' := V.ref.inj ep
          refine ⟨_, rfl, _, _, _, _, true, rfl, .own CS, T.iS.ty (hS _ _ hp'), T.kSS, true, rfl, iteT ?_⟩
          have l0 : l = 0 := by
            have z1 : ¬ [z].length ≤ l := c1
            have z2 : [z].length = 1 := rfl
            omega
          refine ⟨_, rfl, q p z ?_ ⟨p, dx', sa, kk, z, rfl, hp', k0, k1, hz, rfl⟩⟩
          rw [← hg, l0]; rfl
        · obtain rfl : p = p' := V.ref.inj ep
          have hlen : l < t * (flat gs).length := by
            have z : ¬ (rep t (flat gs)).length ≤ l := c1
            rw [rep_len] at z
            omega
          obtain ⟨n0, g1, g2, g3⟩ := nat_divmod hlen
          have hpo := hS _ _ hp'
          refine ⟨_, rfl, _, _, _, _, false, rfl, .own CS, T.iO.ty hpo, T.kOS, false, rfl, iteF ?_⟩
          have ez3 : [V.ref b, V.int ((l : Int) % ((flat gs).length : Nat))] = [V.ref b, V.int ((l % (flat gs).length : Nat) : Int)] := by rw [Int.natCast_emod]
          refine ⟨_, rfl, p, CO, dx', _, _, rfl, hpo, T.iO.cl, T.o2, of_parts, _, rfl, _, rfl, p, CO, dx', _, _, rfl, hpo, T.iO.cl, T.o3, of_once, _, _, rfl, rfl, (by omega), ?_⟩
          refine ⟨b, l % (flat gs).length, gs, S, ez3, hS, ⟨ws, hb, hpr⟩, g2, fun x s hs hsp => q x s ?_ hsp⟩
          rw [← hg, ← hs]
          show (rep t (flat gs))[l]? = _
          conv => lhs; rw [← g3]
          rw [rep_get g1 g2]
  · rintro σ H' ⟨l, lz, x2, rfl, rfl, rfl, hl, hg⟩
    have el : us.length = es.length := Paired.length hp
    rw [el, List.drop_length] at hl
    exact absurd hl (Nat.not_lt_zero l)
theorem all_spot_at (T : Txt K mg CS CO CH) (R : Raw K mg "spot_at" sSpot_at ["parts", "place"]) : ∀ d, Dn P w K mg base "spot_at" (d + 1) ["parts", "place"] (spSpotAt CS CO d)
  | 0 => ok_spot_at T R (R.no 0 _)
  | d + 1 => ok_spot_at T R (all_spot_at T R d)
end
end Bo
set_option Elab.async false
set_option linter.all false
set_option maxRecDepth 100000
set_option maxHeartbeats 4000000
namespace Bo
open PySem L2 PySem.Spec PyProof.Rows

/-! ### halls.py: rows made slim, said over, turned about -/
def spSlim (CS CO : Addr) (d : Nat) : Sp := fun vs H Q _ => ∃ (a : Addr) (M : Nat) (es : List El) (S : Hp), vs = [.ref a] ∧ Same S H ∧ ListH CS CO d S a es ∧ wsum es ≤ lim ∧ (∀ e ∈ es, e.2 ≤ M) ∧
  ∀ (H' S' : Hp) (r : Addr) (es' : List El), Same H H' → Sol S H S' H' → ListH CS CO d S' r es' → flat es' = flat es → wsum es' ≤ wsum es → (∀ e ∈ es', e.2 ≤ M ∧ 0 < e.1.length) → Q (.ref r) H'
def spAbout (CS CO : Addr) (d : Nat) : Sp := fun vs H Q _ => ∃ (a : Addr) (M : Nat) (es : List El) (S : Hp), vs = [.ref a] ∧ Same S H ∧ ListH CS CO d S a es ∧ wsum es ≤ lim ∧ (∀ e ∈ es, e.2 ≤ M) ∧
  ∀ (H' S' : Hp) (r : Addr) (es' : List El), Same H H' → Sol S H S' H' → ListH CS CO d S' r es' → flat es' = (flat es).reverse → wsum es' = wsum es → (∀ e ∈ es', e.2 ≤ M) → Q (.ref r) H'
def spOao (CS CO : Addr) (d : Nat) : Sp := fun vs H Q _ => ∃ (a : Addr) (m : Nat) (es : List El) (S : Hp), vs = [.ref a, .int m] ∧ Same S H ∧ ListH CS CO d S a es ∧ wsum es + 1 ≤ lim ∧ (∀ e ∈ es, 0 < e.1.length) ∧ m ≤ big ∧ (flat es).length * m ≤ big ∧ (flat es).length ≤ big ∧
  ∀ (H' S' : Hp) (r : Addr) (es' : List El), Same H H' → Sol S H S' H' → ListH CS CO (d + 1) S' r es' → flat es' = rep m (flat es) → wsum es' ≤ wsum es + 1 → (∀ e ∈ es', 0 < e.1.length) → Q (.ref r) H'
theorem wsum_rev (es : List El) : wsum es.reverse = wsum es := by
  induction es with
  | nil => rfl
  | cons e r ih => rw [List.reverse_cons, wsum_append, wsum_one, ih]; show _ = e.2 + wsum r; omega
theorem ListH.le {CS CO : Addr} {d d' : Nat} {S : Hp} {a : Addr} {es : List El} (h : ListH CS CO d S a es) (hd : d ≤ d') : ListH CS CO d' S a es := by
  obtain ⟨vs, h1, h2⟩ := h
  exact ⟨vs, h1, Paired.mapP h2 fun _ _ z => z.le hd⟩
section
variable {P : Program} {w : World} {K : PySem.W.Frag} {mg : Str → Option Value} {base : Heap} {CS CO CH : Addr}
abbrev sSlim : Stmt := top 50
theorem scSlim : FnScope ["parts", "found", "part"] ["parts"] (defScope sSlim) := ⟨rfl, rfl, rfl, by decide +kernel, rfl, by decide +kernel, by decide +kernel⟩
theorem ok_slim {d : Nat} (T : Txt K mg CS CO CH) (R : Raw K mg "slim" sSlim ["parts"])
    (D_slim : Dn P w K mg base "slim" d ["parts"] (prv (spSlim CS CO) d)) : Dn P w K mg base "slim" (d + 1) ["parts"] (spSlim CS CO d) := by
  refine R.ok scSlim (fun vs H Q E h => ?_) (fun f cdv A outer s H vs Q E hr h => ?_)
  · obtain ⟨a, M, es, S, rfl, _⟩ := h; rfl
  obtain ⟨a, M, es, S, rfl, hS, ⟨us, ha, hp⟩, hw, hM, q⟩ := h
  refine ⟨_, (pss_cons (ps_set (i := 1) scSlim.nd rfl (Or.inl rfl) (pe_lst pa_nil))
  (pss_cons (ps_for PassesOwn.never rfl (pi_list (pv 0)) (pg_name (i := 2) scSlim.nd rfl (Or.inl rfl))
  (pss_one (ps_if (PW.pt (pw_and (pt_val (pe_callB call_isi rfl T.b_isinstance boot_isinstance (pa_cons (pv 2) (pa_cons (pe_glob (v := .ref CO) rfl T.mgCO rfl) pa_nil)))) (pw_and1 (pt_cmpR op_eq (pe_fld (pv 2) rfl) pe_int (nomark _))))) (pss_one (ps_expr (pe_bm PySem.F.plainAttrs_list PySem.F.slot_list_extend PySem.F.type_list_extend mt_extend (pv 1) (pa_cons (pe_callD D_slim (hr.mono (by omega)) rfl (pa_cons (pe_fld (pv 2) rfl) pa_nil)) pa_nil)))) (pss_one (ps_if (pt_cmpR op_gt (pe_fld (pv 2) rfl) pe_int (nomark _)) (pss_one (ps_expr (pe_bm PySem.F.plainAttrs_list PySem.F.slot_list_append PySem.F.type_list_append mt_append (pv 1) (pa_cons (pv 2) pa_nil)))) pss_nil)))))
  (pss_one (ps_ret (pv 1))))), ?_⟩
  refine ⟨Nat.zero_le _, fun r hr0 => ?_⟩
  have haH := hS _ _ ha
  refine ⟨_, rfl, a, rfl, ⟨_, SqL.of (same_new hr0 _ _ _ haH)⟩, for_list (K := K) (a := a) (xs := us) (fun i σ H' => ∃ (x2 : Option V) (S1 : Hp) (vs : List V) (fs : List El), σ = [some (.ref a), some (.ref r), x2] ∧ Same H H' ∧ Bld (PartH CS CO d) S H r S1 H' vs fs ∧
      flat fs = flat (es.take i) ∧ wsum fs ≤ wsum (es.take i) ∧ ∀ e ∈ fs, e.2 ≤ M ∧ 0 < e.1.length)
    ⟨none, S, [], [], rfl, same_new hr0 _, Bld.init hS hr0, rfl, Nat.le_refl _, fun _ z => nomatch z⟩ (fun i σ H' _ ⟨_, _, _, _, _, s, _⟩ => SqL.of (s _ _ haH)) ?_ ?_⟩
  · rintro i x σ H' hx ⟨x2, S1, vs, fs, rfl, s1, B, hf, hwf, hMf⟩
    obtain ⟨e, he, hpe⟩ := pget hp hx
    have hpe1 := hpe.same B.sol.up
    have hw1 := wsum_take he
    have hw2 := wsum_take_le es (i + 1)
    have hw3 := wsum_take_le es i
    have heM := hM e (List.mem_of_getElem? he)
    have hvl := PartH.len B.pr
    have hll := lim_lt
    -- elif part.s8_many > 0
    have other : ∀ (p C dx : Addr) (fl : List (Str × V)), x = .ref p → H' p = some (.ins C dx fl) → Cls K C → NoAttr K C "s8_many" → fl.lookup ("s8_many" : Str) = some (.int e.1.length) → ∀ D : Ends, D.nx = (fun σ H' => ∃ (x2 : Option V) (S1 : Hp) (vs : List V) (fs : List El), σ = [some (.ref a), some (.ref r), x2] ∧ Same H H' ∧ Bld (PartH CS CO d) S H r S1 H' vs fs ∧
      flat fs = flat (es.take (i + 1)) ∧ wsum fs ≤ wsum (es.take (i + 1)) ∧ ∀ e ∈ fs, e.2 ≤ M ∧ 0 < e.1.length) →
        tIfS (tTest (tOp (rI0 fun i j => .bl (decide (j < i))) (tFld K (tVar 2) "s8_many") (tC (.int 0)))) (tDrop (tBM K "list" rAppend (tVar 1) (tCons (tVar 2) tNil))) tNext D [some (.ref a), some (.ref r), some x] H' := by
      rintro p C dx fl rfl h1 h2 h3 h4 D hD
      refine ⟨_, rfl, p, C, dx, fl, _, rfl, h1, h2, h3, h4, _, _, rfl, rfl, _, rfl, ?_⟩
      by_cases c : e.1.length = 0
      · rw [decide_eq_false (by omega)]
        refine iteF ?_
        show D.nx _ _
        rw [hD]
        refine ⟨_, S1, vs, fs, rfl, s1, B, ?_, by omega, hMf⟩
        rw [flat_take he, List.eq_nil_of_length_eq_zero c, List.append_nil, hf]
      · rw [decide_eq_true (by omega)]
        refine iteT ?_
        refine ⟨_, rfl, .inl ⟨rfl, _, SqL.of B.r1⟩, _, rfl, r, _, _, rfl, rfl, B.r1, by omega, ?_⟩
        show D.nx _ _
        rw [hD]
        refine ⟨_, S1, _, _, rfl, same_grow s1 B.r0, B.push hpe1, ?_, ?_, ?_⟩
        · rw [flat_append, flat_one, flat_take he, hf]
        · rw [wsum_append, wsum_one]; omega
        · intro e' he'
          rcases List.mem_append.mp he' with z | z
          · exact hMf e' z
          · rw [List.mem_singleton.mp z]; exact ⟨heM, by omega⟩
    cases d with
    | zero => exact hpe.elim
    | succ d =>
      obtain ⟨p, C, dx, fl, rfl, h1, h2, h3, h4⟩ := PartH.obj T (hpe1.same B.sol.ok)
      rcases id hpe1 with ⟨p', dx', sa, kk, z, ep, hp', k0, k1, hz, rfl⟩ | ⟨p', dx', b, t, ws, gs, ep, hp', hb, hpr, ht, hn, hwg, rfl⟩
      · obtain rfl : p = p' := V.ref.inj ep
        refine ⟨_, rfl, _, _, _, _, false, rfl, .own CO, T.iS.ty (B.sol.ok _ _ hp'), T.kSO, false, rfl, iteF (iteF ?_)⟩
        exact other p C dx fl rfl h1 h2 h3 h4 _ rfl
      · obtain rfl : p = p' := V.ref.inj ep
        have hpo := B.sol.ok _ _ hp'
        refine ⟨_, rfl, _, _, _, _, true, rfl, .own CO, T.iO.ty hpo, T.kOO, true, rfl, iteT ?_⟩
        refine ⟨_, rfl, p, CO, dx', _, _, rfl, hpo, T.iO.cl, T.o1, of_times, rfl, _, rfl, ?_⟩
        by_cases c : t = 1
        · rw [decide_eq_true (by rw [c]; rfl)]
          refine iteT ?_
          refine ⟨_, rfl, .inl ⟨rfl, _, SqL.of B.r1⟩, _, rfl, p, CO, dx', _, _, rfl, hpo, T.iO.cl, T.o2, of_parts, ?_⟩
          have z : 1 + wsum gs ≤ M := heM
          refine ⟨b, M, gs, S1, rfl, B.sol.ok, ⟨ws, hb, hpr⟩, hwg, fun e' z' => by have := wsum_mem z'; omega, fun H2 S2 r2 gs' s2 o2 hL ef ew eM => ?_⟩
          obtain ⟨us', hu, hpr2⟩ := hL
          have B2 := B.step partR o2 (s2 _ _ B.r1)
          have ul := PartH.len hpr2
          have z2 : wsum (es.take (i + 1)) = wsum (es.take i) + (1 + wsum gs) := hw1
          refine ⟨r, r2, _, _, rfl, rfl, B2.r1, o2.ok _ _ hu, by omega, ?_⟩
          refine ⟨_, S2, _, _, rfl, same_grow (s1.trans s2) B.r0, B2.ext (Paired.mapP hpr2 fun _ _ z => z.up), ?_, ?_, ?_⟩
          · rw [flat_append, flat_take he, hf, ef]
            show _ = _ ++ rep t (flat gs)
            rw [c, rep_one]
          · rw [wsum_append]; omega
          · intro e' he'
            rcases List.mem_append.mp he' with z | z
            · exact hMf e' z
            · exact eM e' z
        · rw [decide_eq_false (by intro z; injection z with z; omega)]
          exact iteF (other p C dx fl rfl h1 h2 h3 h4 _ rfl)
  · rintro σ H' ⟨x2, S1, vs, fs, rfl, s1, B, hf, hwf, hMf⟩
    have el : us.length = es.length := Paired.length hp
    rw [el, List.take_length] at hwf hf
    refine ⟨_, rfl, ?_⟩
    obtain ⟨o, hv, hpr⟩ := B.seal partR
    exact q _ _ r fs s1 o ⟨vs, hv, hpr⟩ hf hwf hMf
theorem all_slim (T : Txt K mg CS CO CH) (R : Raw K mg "slim" sSlim ["parts"]) : ∀ d, Dn P w K mg base "slim" (d + 1) ["parts"] (spSlim CS CO d)
  | 0 => ok_slim T R (R.no 0 _)
  | d + 1 => ok_slim T R (all_slim T R d)
abbrev sAbout : Stmt := top 52
theorem scAbout : FnScope ["parts", "found", "part"] ["parts"] (defScope sAbout) := ⟨rfl, rfl, rfl, by decide +kernel, rfl, by decide +kernel, by decide +kernel⟩
theorem ok_about {d : Nat} (T : Txt K mg CS CO CH) (R : Raw K mg "about" sAbout ["parts"]) (D_Over : DnC P w K mg base "Over" CO 2 ["self", "times", "parts"] (spOverI CS CO))
    (D_about : Dn P w K mg base "about" (d + 3) ["parts"] (prv (spAbout CS CO) d)) : Dn P w K mg base "about" (d + 4) ["parts"] (spAbout CS CO d) := by
  refine R.ok scAbout (fun vs H Q E h => ?_) (fun f cdv A outer s H vs Q E hr h => ?_)
  · obtain ⟨a, M, es, S, rfl, _⟩ := h; rfl
  obtain ⟨a, M, es, S, rfl, hS, ⟨us, ha, hp⟩, hw, hM, q⟩ := h
  refine ⟨_, (pss_cons (ps_set (i := 1) scAbout.nd rfl (Or.inl rfl) (pe_lst pa_nil))
  (pss_cons (ps_for PassesOwn.never rfl (pi_list (pe_revL (pv 0))) (pg_name (i := 2) scAbout.nd rfl (Or.inl rfl))
  (pss_one (ps_expr (pe_bm PySem.F.plainAttrs_list PySem.F.slot_list_append PySem.F.type_list_append mt_append (pv 1) (pa_cons (pe_ifExp (pt_val (pe_callB call_isi rfl T.b_isinstance boot_isinstance (pa_cons (pv 2) (pa_cons (pe_glob (v := .ref CS) rfl T.mgCS rfl) pa_nil)))) (pv 2) (pe_over D_Over (hr.mono (by omega)) rfl (pa_cons (pe_fld (pv 2) rfl) (pa_cons (pe_callD D_about (hr.mono (by omega)) rfl (pa_cons (pe_fld (pv 2) rfl) pa_nil)) pa_nil)))) pa_nil)))))
  (pss_one (ps_ret (pv 1))))), ?_⟩
  refine ⟨Nat.zero_le _, fun r hr0 => ?_⟩
  have haH := hS _ _ ha
  have s0 := same_new hr0 (.lst [])
  refine ⟨_, rfl, a, us, rfl, SqL.of (s0 _ _ haH), fun b hb0 => ?_⟩
  have sb := same_new hb0 (.lst us.reverse)
  have nrb : r ≠ b := ne_of_none upd_same hb0
  have hpr0 := prev hp
  have B0 : Bld (PartH CS CO d) S H r S (upd (upd H r (.lst [])) b (.lst us.reverse)) [] [] := (Bld.init hS hr0).same sb
  have hb1 : upd (upd H r (.lst [])) b (.lst us.reverse) b = some (.lst us.reverse) := upd_same
  generalize upd (upd H r (.lst [])) b (.lst us.reverse) = Hb at hb1 B0 sb ⊢
  refine ⟨b, rfl, ⟨_, SqL.of hb1⟩, for_list (K := K) (a := b) (xs := us.reverse) (fun i σ H' => ∃ (x2 : Option V) (S1 : Hp) (vs : List V) (fs : List El), σ = [some (.ref a), some (.ref r), x2] ∧ Same H H' ∧ H' b = some (.lst us.reverse) ∧ Bld (PartH CS CO d) S H r S1 H' vs fs ∧
      flat fs = (flat (es.reverse.take i).reverse).reverse ∧ wsum fs = wsum (es.reverse.take i) ∧ ∀ e ∈ fs, e.2 ≤ M)
    ⟨none, S, [], [], rfl, s0.trans sb, hb1, B0, rfl, rfl, fun _ z => nomatch z⟩ (fun i σ H' _ ⟨_, _, _, _, _, _, s, _⟩ => SqL.of s) ?_ ?_⟩
  · rintro i x σ H' hx ⟨x2, S1, vs, fs, rfl, s1, hb', B, hf, hwf, hMf⟩
    obtain ⟨e, he, hpe⟩ := pget hpr0 hx
    have hpe1 := hpe.same B.sol.up
    have hw1 := wsum_take he
    have hw2 := wsum_take_le es.reverse (i + 1)
    have hw3 := wsum_take_le es.reverse i
    rw [wsum_rev] at hw2 hw3
    have heM := hM e (List.mem_reverse.mp (List.mem_of_getElem? he))
    have hvl := PartH.len B.pr
    have hll := lim_lt
    refine ⟨_, rfl, .inl ⟨rfl, _, SqL.of B.r1⟩, arg1 (fun v H2 => ∃ (S2 : Hp) (e' : El), Same H' H2 ∧ Sol S1 H' S2 H2 ∧ PartH CS CO d S2 v e' ∧ e'.1 = e.1.reverse ∧ e'.2 = e.2) ?_ fun key => ?_⟩
    · rintro v H2 ⟨S2, e', s2, o2, hpart, e1, e2⟩
      have B2 := (B.step partR o2 (s2 _ _ B.r1)).push hpart
      refine ⟨r, _, _, rfl, rfl, s2 _ _ B.r1, by omega, ?_⟩
      have nrb' : b ≠ r := fun z => nrb z.symm
      refine ⟨_, S2, _, _, rfl, same_grow (s1.trans s2) B.r0, by rw [upd_ne nrb']; exact s2 _ _ hb', B2, ?_, ?_, ?_⟩
      · rw [flat_append, flat_one, take_succ he, List.reverse_append, hf, e1]
        show _ = (e.1 ++ flat (es.reverse.take i).reverse).reverse
        rw [List.reverse_append]
      · rw [wsum_append, wsum_one, hw1, hwf, e2]
      · intro e'' he'
        rcases List.mem_append.mp he' with z | z
        · exact hMf e'' z
        · rw [List.mem_singleton.mp z, e2]; exact heM
    · cases d with
      | zero => exact hpe.elim
      | succ d =>
        rcases id hpe1 with ⟨p, dx', sa, kk, z, rfl, hp', k0, k1, hz, rfl⟩ | ⟨p, dx', b2, t, ws, gs, rfl, hp', hb2, hpr, ht, hn, hwg, rfl⟩
        · refine ⟨_, rfl, _, _, _, _, true, rfl, .own CS, T.iS.ty (B.sol.ok _ _ hp'), T.kSS, true, rfl, iteT ?_⟩
          exact ⟨_, rfl, key _ _ ⟨S1, ([z], 1), Same.refl _, Sol.refl B.sol.ok, hpe1, rfl, rfl⟩⟩
        · have hpo := B.sol.ok _ _ hp'
          refine ⟨_, rfl, _, _, _, _, false, rfl, .own CS, T.iO.ty hpo, T.kOS, false, rfl, iteF ?_⟩
          have z : 1 + wsum gs ≤ M := heM
          refine ⟨_, rfl, p, CO, dx', _, _, rfl, hpo, T.iO.cl, T.o1, of_times, _, rfl, p, CO, dx', _, _, rfl, hpo, T.iO.cl, T.o2, of_parts, ?_⟩
          refine ⟨b2, M, gs, S1, rfl, B.sol.ok, ⟨ws, hb2, hpr⟩, hwg, fun e' z' => by have := wsum_mem z'; omega, fun H2 S2 r2 gs' s2 o2 hL ef ew eM => ?_⟩
          refine ⟨r2, t, d, gs', S2, rfl, o2.ok, hL, by omega, ht, by rw [ef, List.length_reverse]; exact hn, fun x H4 S4 s4 o4 hpart => ?_⟩
          refine key _ _ ⟨S4, _, s2.trans s4, o2.trans o4, hpart, ?_, ?_⟩
          · show rep t (flat gs') = (rep t (flat gs)).reverse
            rw [ef, rep_rev]
          · show 1 + wsum gs' = 1 + wsum gs
            rw [ew]
  · rintro σ H' ⟨x2, S1, vs, fs, rfl, s1, hb', B, hf, hwf, hMf⟩
    have el : us.reverse.length = es.reverse.length := Paired.length hpr0
    rw [el, List.take_length] at hwf hf
    rw [List.reverse_reverse] at hf
    refine ⟨_, rfl, ?_⟩
    obtain ⟨o, hv, hpr⟩ := B.seal partR
    exact q _ _ r fs s1 o ⟨vs, hv, hpr⟩ hf (by rw [hwf, wsum_rev]) hMf
theorem all_about (T : Txt K mg CS CO CH) (R : Raw K mg "about" sAbout ["parts"]) (D_Over : DnC P w K mg base "Over" CO 2 ["self", "times", "parts"] (spOverI CS CO)) : ∀ d, Dn P w K mg base "about" (d + 4) ["parts"] (spAbout CS CO d)
  | 0 => ok_about T R D_Over (R.no 3 _)
  | d + 1 => ok_about T R D_Over (all_about T R D_Over d)
end
end Bo
set_option Elab.async false
set_option linter.all false
set_option maxRecDepth 100000
set_option maxHeartbeats 4000000
namespace Bo
open PySem L2 PySem.Spec PyProof.Rows

section
variable {P : Program} {w : World} {K : PySem.W.Frag} {mg : Str → Option Value} {base : Heap} {CS CO CH : Addr}
abbrev sOver_and_over : Stmt := top 51
theorem scOver_and_over : FnScope ["parts", "times"] ["parts", "times"] (defScope sOver_and_over) := ⟨rfl, rfl, rfl, by decide +kernel, rfl, by decide +kernel, by decide +kernel⟩
theorem ok_over_and_over {d : Nat} (T : Txt K mg CS CO CH) (R : Raw K mg "over_and_over" sOver_and_over ["parts", "times"]) (D_Over : DnC P w K mg base "Over" CO 2 ["self", "times", "parts"] (spOverI CS CO))
    (D_slim : Dn P w K mg base "slim" (d + 2) ["parts"] (spSlim CS CO (d + 1))) : Dn P w K mg base "over_and_over" (d + 5) ["parts", "times"] (spOao CS CO d) := by
  refine R.ok scOver_and_over (fun vs H Q E h => ?_) (fun f cdv A outer s H vs Q E hr h => ?_)
  · obtain ⟨a, m, es, S, rfl, _⟩ := h; rfl
  obtain ⟨a, m, es, S, rfl, hS, ⟨us, ha, hp⟩, hw, hpos, hm, hnm, hn, q⟩ := h
  refine ⟨_, (pss_cons (ps_if (PW.pt (pw_and (pt_cmpR op_eq (pe_callB call_len_seq rfl T.b_len boot_len (pa_cons (pv 0) pa_nil)) pe_int (nomark _)) (pw_and1 (pt_val (pe_callB call_isi rfl T.b_isinstance boot_isinstance (pa_cons (pe_ix ix_list (pv 0) pe_int (fun _ _ => rfl)) (pa_cons (pe_glob (v := .ref CO) rfl T.mgCO rfl) pa_nil))))))) (pss_one (ps_ret (pe_callD D_slim (hr.mono (by omega)) rfl (pa_cons (pe_lst (pa_cons (pe_over D_Over (hr.mono (by omega)) rfl (pa_cons (pe_op op_mulW (pe_fld (pe_ix ix_list (pv 0) pe_int (fun _ _ => rfl)) rfl) (pv 1)) (pa_cons (pe_fld (pe_ix ix_list (pv 0) pe_int (fun _ _ => rfl)) rfl) pa_nil))) pa_nil)) pa_nil)))) pss_nil)
  (pss_one (ps_ret (pe_callD D_slim (hr.mono (by omega)) rfl (pa_cons (pe_lst (pa_cons (pe_over D_Over (hr.mono (by omega)) rfl (pa_cons (pv 1) (pa_cons (pv 0) pa_nil))) pa_nil)) pa_nil))))), ?_⟩
  have haH := hS _ _ ha
  have hLs : ListH CS CO d S a es := ⟨us, ha, hp⟩
  -- a part, made a row of its own and slim
  have fin : ∀ (D : VK), D = Q → ∀ (x : Addr) (H2 S2 : Hp) (e' : El), Same H H2 → Sol S H S2 H2 → PartH CS CO (d + 1) S2 (.ref x) e' → e'.1 = rep m (flat es) → e'.2 ≤ wsum es + 1 → 
      tLst (fun σ H Q => Q [.ref x] H) [some (.ref a), some (.int m)] H2 (fun v H3 => spSlim CS CO (d + 1) [v] H3 D E0) := by
    rintro _ rfl x H2 S2 e' s2 o2 hpart e1 e2
    refine ⟨by show 1 ≤ sizeLine; rw [sizeLine_eq]; decide, fun l hl => ?_⟩
    have o3 := o2.laid hl (.lst [.ref x])
    have sl : S2 l = none := o2.ok.free hl
    refine ⟨l, wsum es + 1, [e'], upd S2 l (.lst [.ref x]), rfl, o3.ok, ⟨_, upd_same, pone (hpart.same (same_new sl _))⟩, ?_, ?_, fun H4 S4 r es' s4 o4 hL ef ew eM => ?_⟩
    · rw [wsum_one]; omega
    · intro e'' z; rw [List.mem_singleton.mp z]; exact e2
    · refine q _ _ r es' ((s2.trans (same_new hl _)).trans s4) (o3.trans o4) hL ?_ ?_ fun e'' z => (eM e'' z).2
      · rw [ef, flat_one, e1]
      · rw [wsum_one] at ew; omega
  refine ⟨_, rfl, a, _, rfl, .inl (SqL.of haH), rfl, _, rfl, ?_⟩
  have second : tOver CS CO (tCons (tVar 1) (tCons (tVar 0) tNil)) [some (V.ref a), some (V.int m)] H (fun x H1 => tLst (fun σ H Q => Q [x] H) [some (.ref a), some (.int m)] H1 (fun v H3 => spSlim CS CO (d + 1) [v] H3 Q E0)) := by
    refine ⟨_, rfl, _, rfl, a, m, d, es, S, rfl, hS, hLs, by omega, hm, hn, fun x H2 S2 s2 o2 hpart => ?_⟩
    exact fin Q rfl x H2 S2 _ s2 o2 hpart rfl (by show 1 + wsum es ≤ wsum es + 1; omega)
  by_cases c : us.length = 1
  · rw [decide_eq_true (by rw [c]; rfl)]
    refine iteT ?_
    match us, c, hp, ha, haH with
    | [v], _, .cons (b := e) (l₂ := []) hv .nil, ha, haH =>
      cases d with
      | zero => exact hv.elim
      | succ d =>
        rcases id hv with ⟨p, dx', sa, kk, z, rfl, hp', k0, k1, hz, rfl⟩ | ⟨p, dx', b2, t, ws, gs, rfl, hp', hb2, hpr, ht, hn', hwg, rfl⟩
        · refine ⟨_, rfl, a, _, _, _, rfl, rfl, SqL.of haH, atI_nat (j := 0) rfl, _, _, _, _, false, rfl, .own CO, T.iS.ty (hS _ _ hp'), T.kSO, false, rfl, iteF ?_⟩
          exact second
        · have hpo := hS _ _ hp'
          refine ⟨_, rfl, a, _, _, _, rfl, rfl, SqL.of haH, atI_nat (j := 0) rfl, _, _, _, _, true, rfl, .own CO, T.iO.ty hpo, T.kOO, true, rfl, iteT ?_⟩
          have g0 : 0 < (flat gs).length := by
            have z : 0 < (rep t (flat gs)).length := hpos _ List.mem_cons_self
            rw [rep_len] at z
            exact Nat.pos_of_ne_zero fun y => by rw [y] at z; omega
          have gl : (flat [(rep t (flat gs), 1 + wsum gs)]).length = t * (flat gs).length := by rw [flat_one]; exact rep_len _ _
          have htm : t * m ≤ big := by
            rw [gl] at hnm
            refine Nat.le_trans ?_ hnm
            exact Nat.mul_le_mul_right m (Nat.le_mul_of_pos_right t g0)
          refine ⟨_, rfl, a, _, _, _, rfl, rfl, SqL.of haH, atI_nat (j := 0) rfl, p, CO, dx', _, _, rfl, hpo, T.iO.cl, T.o1, of_times, _, rfl, _, _, rfl, rfl, mulw ht hm, _, rfl, a, _, _, _, rfl, rfl, SqL.of haH, atI_nat (j := 0) rfl, p, CO, dx', _, _, rfl, hpo, T.iO.cl, T.o2, of_parts, ?_⟩
          have ez : [V.int ((t : Int) * (m : Int)), V.ref b2] = [V.int ((t * m : Nat) : Int), V.ref b2] := by rw [Int.natCast_mul]
          refine ⟨b2, t * m, d, gs, S, ez, hS, ⟨ws, hb2, hpr⟩, hwg, htm, hn', fun x H2 S2 s2 o2 hpart => ?_⟩
          refine fin Q rfl x H2 S2 _ s2 o2 hpart.up ?_ ?_
          · rw [flat_one]
            show rep (t * m) (flat gs) = rep m (rep t (flat gs))
            rw [rep_rep, Nat.mul_comm]
          · rw [wsum_one]
            show 1 + wsum gs ≤ 1 + wsum gs + 1
            omega
  · rw [decide_eq_false (by intro z; injection z with z; omega)]
    exact iteF second
end
end Bo
set_option Elab.async false
set_option linter.all false
set_option maxRecDepth 100000
set_option maxHeartbeats 4000000
namespace Bo
open PySem L2 PySem.Spec PyProof.Rows

/-! ### far.py: words, slacks, counts -/
theorem ints_bd : ∀ (n : Nat) (l : List Int), l.Nodup → (∀ x ∈ l, 0 ≤ x ∧ x < n) → l.length ≤ n
  | 0, l, _, h => by
    cases l with
    | nil => exact Nat.le_refl 0
    | cons a r => have := h a List.mem_cons_self; omega
  | n + 1, l, nd, h => by
    have ih := ints_bd n (l.erase (n : Int)) (nd.erase _) fun x hx => by
      obtain ⟨h1, h2⟩ := (List.Nodup.mem_erase_iff nd).mp hx
      have := h x h2
      omega
    rw [List.length_erase] at ih
    split at ih <;> omega
theorem keys_ints : ∀ (l : List Key), (∀ x ∈ l, ∃ k : Int, x = .inl k) → ∃ ns : List Int, l = ns.map Sum.inl
  | [], _ => ⟨[], rfl⟩
  | a :: r, h => by
    obtain ⟨k, rfl⟩ := h a List.mem_cons_self
    obtain ⟨ns, rfl⟩ := keys_ints r fun x hx => h x (List.mem_cons_of_mem _ hx)
    exact ⟨k :: ns, rfl⟩
theorem keys_bd (n : Nat) (l : List Key) (nd : l.Nodup) (h : ∀ x ∈ l, ∃ k : Int, x = .inl k ∧ 0 ≤ k ∧ k < n) : l.length ≤ n := by
  obtain ⟨ns, rfl⟩ := keys_ints l fun x hx => let ⟨k, e, _⟩ := h x hx; ⟨k, e⟩
  rw [List.length_map]
  refine ints_bd n ns ?_ fun x hx => ?_
  · unfold List.Nodup at nd ⊢
    rw [List.pairwise_map] at nd
    exact nd.imp fun z e => z (by rw [e])
  · obtain ⟨k, e, h0, h1⟩ := h (.inl x) (List.mem_map.mpr ⟨x, hx, rfl⟩)
    cases e
    exact ⟨h0, h1⟩
/-- how often each number's saying hears too few, is true: at most m -/
def CntK (H : Hp) (ks : List (Key × V)) (m : Nat) : Prop := (ks.map (·.1)).Nodup ∧ ∀ kv ∈ ks, ∃ (k : Int) (r : Addr) (f t : Int), kv.1 = .inl k ∧ 0 ≤ k ∧ k < 1000 ∧ kv.2 = .ref r ∧ H r = some (.lst [.int f, .int t]) ∧ 0 ≤ f ∧ f ≤ m ∧ 0 ≤ t ∧ t ≤ m
theorem CntK.len {H : Hp} {ks : List (Key × V)} {m : Nat} (h : CntK H ks m) : ks.length ≤ 1000 := by
  have := keys_bd 1000 _ h.1 fun x hx => by
    obtain ⟨kv, hk, e⟩ := List.mem_map.mp hx
    obtain ⟨k, _, _, _, h1, h2, h3, _⟩ := h.2 kv hk
    exact ⟨k, by rw [← e, h1], h2, h3⟩
  rw [List.length_map] at this
  exact this
theorem CntK.mono {H H' : Hp} {ks : List (Key × V)} {m m' : Nat} (h : CntK H ks m) (hm : m ≤ m') (hH : ∀ r xs, H r = some (.lst xs) → H' r = some (.lst xs)) : CntK H' ks m' := ⟨h.1, fun kv hk => by
  obtain ⟨k, r, f, t, h1, h2, h3, h4, h5, h6, h7, h8, h9⟩ := h.2 kv hk
  exact ⟨k, r, f, t, h1, h2, h3, h4, hH _ _ h5, h6, by omega, h8, by omega⟩⟩
theorem CntK.nil {H : Hp} {m : Nat} : CntK H [] m := ⟨List.nodup_nil, fun _ z => nomatch z⟩
theorem mem_putK {ks : List (Key × V)} {k : Key} {v : V} {p : Key × V} (h : p ∈ putK ks k v) : p = (k, v) ∨ p ∈ ks := by
  unfold putK at h
  split at h
  · obtain ⟨q, hq, e⟩ := List.mem_map.mp h
    by_cases c : q.1 = k
    · rw [if_pos c] at e
      exact .inl (by rw [← e, c])
    · rw [if_neg c] at e
      exact .inr (e ▸ hq)
  · rcases List.mem_append.mp h with h | h
    · exact .inr h
    · exact .inl (List.mem_singleton.mp h)
theorem keys_putK_old {ks : List (Key × V)} {k : Key} {v y : V} (h : valV ks k = some y) : (putK ks k v).map (·.1) = ks.map (·.1) := by
  have e : (ks.any fun kv => decide (kv.1 = k)) = true := by rw [valV_any, h]; rfl
  unfold putK
  rw [if_pos e, List.map_map]
  refine List.map_congr_left fun q _ => ?_
  show (if q.1 = k then (q.1, v) else q).1 = q.1
  split <;> rfl
theorem CntK.put {H : Hp} {ks : List (Key × V)} {m : Nat} (h : CntK H ks m) {k : Int} {r : Addr} {f t : Int} (h2 : 0 ≤ k) (h3 : k < 1000) (h5 : H r = some (.lst [.int f, .int t])) (h6 : 0 ≤ f) (h7 : f ≤ m) (h8 : 0 ≤ t) (h9 : t ≤ m) : CntK H (putK ks (.inl k) (.ref r)) m := by
  refine ⟨?_, fun kv hk => ?_⟩
  · cases e : valV ks (.inl k) with
    | none => exact nd_putK _ h.1 e
    | some y => rw [keys_putK_old e]; exact h.1
  · rcases mem_putK hk with rfl | hk
    · exact ⟨k, r, f, t, rfl, h2, h3, rfl, h5, h6, h7, h8, h9⟩
    · exact h.2 kv hk
theorem CntK.get {H : Hp} {ks : List (Key × V)} {m : Nat} (h : CntK H ks m) {k : Key} {v : V} (e : valV ks k = some v) : ∃ (r : Addr) (f t : Int), v = .ref r ∧ H r = some (.lst [.int f, .int t]) ∧ 0 ≤ f ∧ f ≤ m ∧ 0 ≤ t ∧ t ≤ m := by
  unfold valV at e
  cases q : ks.find? fun kv => decide (kv.1 = k) with
  | none => rw [q] at e; cases e
  | some p =>
    rw [q] at e
    obtain ⟨_, r, f, t, _, _, _, h4, h5, h6, h7, h8, h9⟩ := h.2 p (List.mem_of_find?_eq_some q)
    have e' : p.2 = v := Option.some.inj e
    exact ⟨r, f, t, by rw [← e', h4], h5, h6, h7, h8, h9⟩
/-- over a dict's items, the dict locked -/
theorem for_items {d : Addr} {od : Obj} {kvs : List (Key × V)} {g : TG} {tb : TS} {D : Ends} {σ : L2.St} {H : Hp} (Pv : Nat → L2.St → Hp → Prop) (h0 : Pv 0 σ H) (hl : ∀ i σ H, i ≤ kvs.length → Pv i σ H → H d = some (.frz od (.dK kvs)))
    (hs : ∀ i k v T σ H, kvs[i]? = some (k, v) → Pv i σ H → H T = none → g (.ref T) σ (upd H T (.tup [kV k, v])) fun σ2 H2 => tb { D with nx := Pv (i + 1), ct := Pv (i + 1), bk := D.nx } σ2 H2) (hd : ∀ σ H, Pv kvs.length σ H → D.nx σ H) :
    ∃ W : Nat → Nat → L2.St → Hp → Prop, (∃ m, W 0 m σ H) ∧ ∀ i m σ H, W i m σ H →
      ((Iti d od kvs).stop i H ∧ D.nx σ H) ∨ ((Iti d od kvs).go i H ∧ ∃ N : L2.St → Hp → Prop, (∀ σ' H', N σ' H' → ∃ m', m' < m ∧ W (i + 1) m' σ' H') ∧ ∀ x H', (Iti d od kvs).yld i H x H' → g x σ H' fun σ2 H2 => tb { D with nx := N, ct := N, bk := D.nx } σ2 H2) := by
  refine ⟨fun i m σ H => m = kvs.length - i ∧ i ≤ kvs.length ∧ Pv i σ H, ⟨kvs.length, by simp, Nat.zero_le _, h0⟩, ?_⟩
  rintro i m σ H ⟨rfl, hi, p⟩
  have q := hl i σ H hi p
  by_cases hlt : i < kvs.length
  · refine .inr ⟨⟨q, hlt⟩, Pv (i + 1), fun σ' H' p' => ⟨kvs.length - (i + 1), by omega, rfl, hlt, p'⟩, fun x H' y => ?_⟩
    obtain ⟨T, k, v, e1, rfl, e2, rfl⟩ := y
    exact hs i k v T σ H e1 p e2
  · have e : i = kvs.length := by omega
    subst e
    exact .inl ⟨⟨q, Nat.le_refl _⟩, hd σ H p⟩
def spLsl : Sp := fun vs H Q _ => ∃ a b : Option Int, vs = [SayV a, SayV b] ∧ Q (SayV (lsl a b)) H
def spWord : Sp := fun vs H Q _ => ∃ (sa : Addr) (s : Say) (n : Int), vs = [.ref sa, .int n] ∧ SayAt H sa s ∧
  ∀ (H' : Hp) (p r : Addr) (f t : Int), Same H H' → H' p = some (.tup [.ref r, SayV (wordSl s n)]) → H' r = some (.lst [.int f, .int t]) → 0 ≤ f → f ≤ 1 → 0 ≤ t → t ≤ 1 → n + t = step s n → Q (.ref p) H'
def spAddC : Sp := fun vs H Q _ => ∃ (c b : Addr) (times m1 m2 : Nat) (ks ls : List (Key × V)), vs = [.ref c, .ref b, .int times] ∧ H c = some (.dK ks) ∧ H b = some (.dK ls) ∧ c ≠ b ∧ CntK H ks m1 ∧ CntK H ls m2 ∧ m2 < 2 ^ 400 ∧ times ≤ big ∧
  ∀ (H' : Hp) (ks' : List (Key × V)), (∀ x o, x ≠ c → H x = some o → H' x = some o) → H' c = some (.dK ks') → CntK H' ks' (m1 + 1000 * (m2 * times)) → Q .non H'
section
variable {P : Program} {w : World} {K : PySem.W.Frag} {mg : Str → Option Value} {base : Heap} {CS CO CH : Addr}
abbrev sLesser_slack : Stmt := top 35
theorem scLesser_slack : FnScope ["one", "other"] ["one", "other"] (defScope sLesser_slack) := ⟨rfl, rfl, rfl, by decide +kernel, rfl, by decide +kernel, by decide +kernel⟩
theorem ok_lesser_slack (T : Txt K mg CS CO CH) (R : Raw K mg "lesser_slack" sLesser_slack ["one", "other"]) : Dn P w K mg base "lesser_slack" 1 ["one", "other"] spLsl := by
  refine R.ok scLesser_slack (fun vs H Q E h => ?_) (fun f cdv A outer s H vs Q E hr h => ?_)
  · obtain ⟨a, b, rfl, _⟩ := h; rfl
  obtain ⟨a, b, rfl, q⟩ := h
  refine ⟨_, (pss_cons (ps_if (PW.pt (pw_or (pt_cmpR op_isN (pv 0) pe_non (nomark _)) (pw_or1 (pt_cmpR op_isN (pv 1) pe_non (nomark _))))) (pss_one (ps_ret (pe_ifExp (pt_cmpR op_isN (pv 0) pe_non (nomark _)) (pv 1) (pv 0)))) pss_nil)
  (pss_one (ps_ret (pe_callB (call_min2 rfl) rfl T.b_min boot_min (pa_cons (pv 0) (pa_cons (pv 1) pa_nil)))))), ?_⟩
  cases a with
  | none => exact ⟨_, rfl, rfl, true, rfl, iteT (iteT ⟨_, rfl, rfl, true, rfl, iteT ⟨_, rfl, q⟩⟩)⟩
  | some a =>
    cases b with
    | none => exact ⟨_, rfl, rfl, false, rfl, iteF ⟨_, rfl, rfl, true, rfl, iteT ⟨_, rfl, rfl, false, rfl, iteF ⟨_, rfl, q⟩⟩⟩⟩
    | some b => exact ⟨_, rfl, rfl, false, rfl, iteF ⟨_, rfl, rfl, false, rfl, iteF ⟨_, rfl, _, rfl, a, b, rfl, q⟩⟩⟩
abbrev sWord_of : Stmt := top 36
theorem scWord_of : FnScope ["saying", "number", "least", "most"] ["saying", "number"] (defScope sWord_of) := ⟨rfl, rfl, rfl, by decide +kernel, rfl, by decide +kernel, by decide +kernel⟩
theorem ok_word_of (T : Txt K mg CS CO CH) (R : Raw K mg "word_of" sWord_of ["saying", "number"]) : Dn P w K mg base "word_of" 1 ["saying", "number"] spWord := by
  refine R.ok scWord_of (fun vs H Q E h => ?_) (fun f cdv A outer s H vs Q E hr h => ?_)
  · obtain ⟨sa, s, n, rfl, _⟩ := h; rfl
  obtain ⟨sa, ⟨l, m⟩, n, rfl, ⟨hs, h0, h1⟩, q⟩ := h
  refine ⟨_, (pss_cons (ps_asg (pv 0) (pg_tup rfl (pgs_cons (pg_name (i := 2) scWord_of.nd rfl (Or.inl rfl)) (pgs_cons (pg_name (i := 3) scWord_of.nd rfl (Or.inl rfl)) pgs_nil))))
  (pss_cons (ps_if (pt_cmpR op_lt (pv 1) (pv 2) (nomark _)) (pss_one (ps_ret (pe_tup (pa_cons (pe_lst (pa_cons pe_int (pa_cons pe_int pa_nil))) (pa_cons (pe_op op_sub (pe_op op_sub (pv 2) pe_int) (pv 1)) pa_nil))))) pss_nil)
  (pss_cons (ps_if (PW.pt (pw_or (pt_cmpR op_isN (pv 3) pe_non (nomark _)) (pw_or1 (pt_cmpR op_le (pv 1) (pv 3) (nomark _))))) (pss_one (ps_ret (pe_tup (pa_cons (pe_lst (pa_cons pe_int (pa_cons pe_int pa_nil))) (pa_cons (pe_ifExp (pt_cmpR op_isN (pv 3) pe_non (nomark _)) pe_non (pe_op op_sub (pv 3) (pv 1))) pa_nil))))) pss_nil)
  (pss_one (ps_ret (pe_tup (pa_cons (pe_lst (pa_cons pe_int (pa_cons pe_int pa_nil))) (pa_cons pe_non pa_nil)))))))), ?_⟩
  refine ⟨_, rfl, sa, _, rfl, SqT.of hs, rfl, _, _, rfl, _, _, rfl, rfl, ?_⟩
  refine ⟨_, rfl, _, rfl, _, _, rfl, rfl, _, rfl, ?_⟩
  have two : (2 : Nat) ≤ sizeLine := by rw [sizeLine_eq]; decide
  by_cases c : n < l
  · rw [decide_eq_true c]
    refine iteT ⟨two, fun r hr0 => ⟨_, rfl, _, _, rfl, rfl, _, rfl, _, _, rfl, rfl, two, fun p hp0 => ?_⟩⟩
    refine q _ p r 1 0 ((same_new hr0 _).trans (same_new hp0 _)) ?_ ((same_new hp0 _) _ _ upd_same) (by decide) (by decide) (by decide) (by decide) ?_
    · rw [upd_same]
      have e : wordSl (l, m) n = some (l - 1 - n) := by unfold wordSl; exact if_pos c
      rw [e]; rfl
    · have e : soB (l, m) n = false := by unfold soB; rw [decide_eq_false (by show ¬ l ≤ n; omega)]; rfl
      unfold step
      rw [e]
      show n + 0 = n
      omega
  · rw [decide_eq_false c]
    refine iteF ?_
    have hln : decide (l ≤ n) = true := decide_eq_true (by omega)
    cases m with
    | none =>
      refine ⟨_, rfl, rfl, true, rfl, iteT (iteT ⟨two, fun r hr0 => ⟨_, rfl, rfl, true, rfl, iteT ⟨two, fun p hp0 => ?_⟩⟩⟩)⟩
      refine q _ p r 0 1 ((same_new hr0 _).trans (same_new hp0 _)) ?_ ((same_new hp0 _) _ _ upd_same) (by decide) (by decide) (by decide) (by decide) ?_
      · rw [upd_same]
        have e : wordSl (l, none) n = none := by unfold wordSl; exact if_neg c
        rw [e]; rfl
      · have e : soB (l, none) n = true := by unfold soB; rw [hln]; rfl
        unfold step
        rw [e]; rfl
    | some m =>
      refine ⟨_, rfl, rfl, false, rfl, iteF ⟨_, rfl, _, rfl, _, _, rfl, rfl, _, rfl, ?_⟩⟩
      by_cases c2 : n ≤ m
      · rw [decide_eq_true c2]
        refine iteT ⟨two, fun r hr0 => ⟨_, rfl, rfl, false, rfl, iteF ⟨_, rfl, _, rfl, _, _, rfl, rfl, two, fun p hp0 => ?_⟩⟩⟩
        refine q _ p r 0 1 ((same_new hr0 _).trans (same_new hp0 _)) ?_ ((same_new hp0 _) _ _ upd_same) (by decide) (by decide) (by decide) (by decide) ?_
        · rw [upd_same]
          have e : wordSl (l, some m) n = some (m - n) := by
            unfold wordSl
            rw [if_neg c]
            exact if_pos c2
          rw [e]; rfl
        · have e : soB (l, some m) n = true := by unfold soB inM; rw [hln]; exact decide_eq_true c2
          unfold step
          rw [e]; rfl
      · rw [decide_eq_false c2]
        refine iteF ⟨two, fun r hr0 => ⟨two, fun p hp0 => ?_⟩⟩
        refine q _ p r 0 0 ((same_new hr0 _).trans (same_new hp0 _)) ?_ ((same_new hp0 _) _ _ upd_same) (by decide) (by decide) (by decide) (by decide) ?_
        · rw [upd_same]
          have e : wordSl (l, some m) n = none := by
            unfold wordSl
            rw [if_neg c]
            exact if_neg c2
          rw [e]; rfl
        · have e : soB (l, some m) n = false := by unfold soB inM; rw [hln]; exact decide_eq_false c2
          unfold step
          rw [e]
          show n + 0 = n
          omega
abbrev sAdd_counts : Stmt := top 37
theorem scAdd_counts : FnScope ["counts", "more", "times", "number", "pair", "old"] ["counts", "more", "times"] (defScope sAdd_counts) := ⟨rfl, rfl, rfl, by decide +kernel, rfl, by decide +kernel, by decide +kernel⟩
theorem ok_add_counts (T : Txt K mg CS CO CH) (R : Raw K mg "add_counts" sAdd_counts ["counts", "more", "times"]) : Dn P w K mg base "add_counts" 1 ["counts", "more", "times"] spAddC := by
  refine R.ok scAdd_counts (fun vs H Q E h => ?_) (fun f cdv A outer s H vs Q E hr h => ?_)
  · obtain ⟨c, b, times, m1, m2, ks, ls, rfl, _⟩ := h; rfl
  obtain ⟨c, b, times, m1, m2, ks, ls, rfl, hc, hb, ncb, hk, hl, hm2, ht, q⟩ := h
  have hu := hu_of hr
  refine ⟨_, (pss_one (ps_lock (ps_for PassesOwn.never rfl (pi_items (pv 1)) (pg_tup rfl (pgs_cons (pg_name (i := 3) scAdd_counts.nd rfl (Or.inl rfl)) (pgs_cons (pg_name (i := 4) scAdd_counts.nd rfl (Or.inl rfl)) pgs_nil)))
  (pss_cons (ps_set (i := 5) scAdd_counts.nd rfl (Or.inl rfl) (pe_dget2 hu (pv 0) (pv 3) (pe_lst (pa_cons pe_int (pa_cons pe_int pa_nil))) ⟨rfl, rfl, rfl, rfl⟩))
  (pss_one (ps_dput hu (pv 0) (pv 3) (pe_lst (pa_cons (pe_op op_add (pe_ix ix_list (pv 5) (pe_gi T.c_FEW rfl) (fun _ _ => rfl)) (pe_op op_mulW (pe_ix ix_list (pv 4) (pe_gi T.c_FEW rfl) (fun _ _ => rfl)) (pv 2))) (pa_cons (pe_op op_add (pe_ix ix_list (pv 5) (pe_gi T.c_TRUE rfl) (fun _ _ => rfl)) (pe_op op_mulW (pe_ix ix_list (pv 4) (pe_gi T.c_TRUE rfl) (fun _ _ => rfl)) (pv 2))) pa_nil))) rfl)))))), ?_⟩
  refine ⟨b, _, hb, True.intro, fun od => ?_⟩
  refine ⟨_, rfl, b, od, ls, rfl, upd_same, for_items (fun i σ H' => ∃ (x3 x4 x5 : Option V) (ks' : List (Key × V)), σ = [some (.ref c), some (.ref b), some (.int times), x3, x4, x5] ∧ (∀ x o, x ≠ c → x ≠ b → H x = some o → H' x = some o) ∧ H' b = some (.frz od (.dK ls)) ∧
      H' c = some (.dK ks') ∧ CntK H' ks' (m1 + i * (m2 * times)))
    ⟨none, none, none, ks, rfl, fun x o _ h2 e => by rw [upd_ne h2]; exact e, upd_same, by rw [upd_ne ncb]; exact hc, hk.mono (by omega) fun r xs e => by rw [upd_ne (ne_of e hb (fun z => nomatch z))]; exact e⟩
    (fun i σ H' _ ⟨_, _, _, _, _, _, h, _⟩ => h) ?_ ?_⟩
  · rintro i k v T' σ H' hi ⟨x3, x4, x5, ks', rfl, hs, hb', hc', hk'⟩ hT
    obtain ⟨k', r, f, t, e1, k0, k1, e2, hr1, f0, f1, t0, t1⟩ := hl.2 _ (List.mem_of_getElem? hi)
    obtain rfl : k = .inl k' := e1
    obtain rfl : v = .ref r := e2
    have nrc : r ≠ c := ne_of hr1 hc (fun z => nomatch z)
    have nrb : r ≠ b := ne_of hr1 hb (fun z => nomatch z)
    have hr2 := hs r _ nrc nrb hr1
    have s1 := same_new hT (.tup [kV (.inl k'), .ref r])
    have two : (2 : Nat) ≤ sizeLine := by rw [sizeLine_eq]; decide
    -- for number, pair
    refine ⟨T', _, rfl, SqT.of upd_same, rfl, _, _, rfl, _, _, rfl, rfl, ?_⟩
    -- old = counts.get(number, [0, 0])
    refine ⟨_, rfl, c, rfl, .inl ⟨_, .inl (s1 _ _ hc')⟩, _, rfl, two, fun z hz => ?_⟩
    have s2 := same_new hz (.lst [.int 0, .int 0])
    have hk2 : CntK (upd (upd H' T' (.tup [kV (.inl k'), .ref r])) z (.lst [.int 0, .int 0])) ks' (m1 + i * (m2 * times)) := hk'.mono (Nat.le_refl _) fun r xs e => s2 _ _ (s1 _ _ e)
    refine ⟨valV ks' (.inl k'), DGet.k (k := Sum.inl k') (s2 _ _ (s1 _ _ hc')), ?_⟩
    obtain ⟨y, fo, to, ey, hy, fo0, fo1, to0, to1⟩ : ∃ (y : Addr) (fo to : Int), (valV ks' (.inl k')).getD (.ref z) = .ref y ∧ (upd (upd H' T' (.tup [kV (.inl k'), .ref r])) z (.lst [.int 0, .int 0])) y = some (.lst [.int fo, .int to]) ∧ 0 ≤ fo ∧ fo ≤ (m1 + i * (m2 * times) : Nat) ∧ 0 ≤ to ∧ to ≤ (m1 + i * (m2 * times) : Nat) := by
      cases e : valV ks' (.inl k') with
      | none => exact ⟨z, 0, 0, rfl, upd_same, Int.le_refl 0, Int.natCast_nonneg _, Int.le_refl 0, Int.natCast_nonneg _⟩
      | some v =>
        obtain ⟨y, fo, to, rfl, g⟩ := hk2.get e
        exact ⟨y, fo, to, rfl, g⟩
    rw [ey]
    generalize upd (upd H' T' (.tup [kV (.inl k'), .ref r])) z (.lst [.int 0, .int 0]) = H2 at hy hk2 s2 ⊢
    have s12 := s1.trans s2
    have bdf : f.natAbs < 2 ^ 401 := by
      have : (2 : Nat) ^ 400 < 2 ^ 401 := by decide
      omega
    have bdt : t.natAbs < 2 ^ 401 := by
      have : (2 : Nat) ^ 400 < 2 ^ 401 := by decide
      omega
    have wf : CMulW f times := wide_mul (a := 401) (b := 200) bdf (big_lt ht) (by decide) (by decide) (by decide)
    have wt : CMulW t times := wide_mul (a := 401) (b := 200) bdt (big_lt ht) (by decide) (by decide) (by decide)
    have hr3 := s12 _ _ hr2
    refine ⟨_, rfl, y, _, _, _, rfl, rfl, SqL.of hy, atI_nat (j := 0) rfl, _, rfl, r, _, _, _, rfl, rfl, SqL.of hr3, atI_nat (j := 0) rfl, _, rfl, _, _, rfl, rfl, wf, _, _, rfl, rfl, ?_⟩
    refine ⟨_, rfl, y, _, _, _, rfl, rfl, SqL.of hy, atI_nat (j := 1) rfl, _, rfl, r, _, _, _, rfl, rfl, SqL.of hr3, atI_nat (j := 1) rfl, _, rfl, _, _, rfl, rfl, wt, _, _, rfl, rfl, two, fun n hn => ?_⟩
    have s3 := same_new hn (.lst [.int (fo + f * times), .int (to + t * times)])
    have hc3 := s3 _ _ (s12 _ _ hc')
    refine ⟨_, rfl, _, rfl, c, _, rfl, DPut.k (k := Sum.inl k') hc3 (by have := hk'.len; rw [sizeLine_eq]; omega), ?_⟩
    have pf : f * times ≤ ((m2 * times : Nat) : Int) := by
      rw [Int.natCast_mul]
      exact Int.mul_le_mul_of_nonneg_right f1 (Int.natCast_nonneg _)
    have pt : t * times ≤ ((m2 * times : Nat) : Int) := by
      rw [Int.natCast_mul]
      exact Int.mul_le_mul_of_nonneg_right t1 (Int.natCast_nonneg _)
    have pf0 : 0 ≤ f * times := Int.mul_nonneg f0 (Int.natCast_nonneg _)
    have pt0 : 0 ≤ t * times := Int.mul_nonneg t0 (Int.natCast_nonneg _)
    have em : m1 + (i + 1) * (m2 * times) = m1 + i * (m2 * times) + m2 * times := by rw [Nat.succ_mul]; omega
    refine ⟨_, _, _, putK ks' (.inl k') (.ref n), rfl, fun x o h1 h2 e => ?_, ?_, upd_same, ?_⟩
    · rw [upd_ne h1]
      exact s3 _ _ (s12 _ _ (hs x o h1 h2 e))
    · rw [upd_ne (fun z => ncb z.symm)]
      exact s3 _ _ (s12 _ _ hb')
    · rw [em]
      have nnc : n ≠ c := ne_of upd_same hc3 (fun z => nomatch z)
      refine CntK.put (hk2.mono (by omega) fun r xs e => ?_) k0 k1 (by rw [upd_ne nnc]; exact upd_same) (by omega) (by omega) (by omega) (by omega)
      have e3 := s3 _ _ e
      rw [upd_ne (ne_of e3 hc3 (fun z => nomatch z))]
      exact e3
  · rintro σ H' ⟨x3, x4, x5, ks', rfl, hs, hb', hc', hk'⟩
    refine ⟨hb', ?_⟩
    refine q _ ks' (fun x o h1 e => ?_) (by rw [upd_ne ncb]; exact hc') (hk'.mono ?_ fun r xs e => ?_)
    · by_cases z : x = b
      · subst z
        rw [upd_same, ← e, hb]
      · rw [upd_ne z]
        exact hs x o h1 z e
    · have := hl.len
      have := Nat.mul_le_mul_right (m2 * times) this
      omega
    · rw [upd_ne (ne_of e hb' (fun z => nomatch z))]
      exact e
end
end Bo
set_option Elab.async false
set_option linter.all false
set_option maxRecDepth 100000
set_option maxHeartbeats 4000000
namespace Bo
open PySem L2 PySem.Spec PyProof.Rows

/-! ### far.py: gone through -/
def cb : Nat → Nat
  | 0 => 1
  | d + 1 => 1000000 * cb d
theorem cb_le {d : Nat} (h : d ≤ 8) : cb d ≤ 10 ^ 48 := by
  have e : d = 0 ∨ d = 1 ∨ d = 2 ∨ d = 3 ∨ d = 4 ∨ d = 5 ∨ d = 6 ∨ d = 7 ∨ d = 8 := by omega
  rcases e with rfl | rfl | rfl | rfl | rfl | rfl | rfl | rfl | rfl <;> decide
theorem cb_pos : ∀ d, 1 ≤ cb d
  | 0 => Nat.le_refl 1
  | d + 1 => by show 1 ≤ 1000000 * cb d; have := cb_pos d; omega
theorem cb_lt {d n : Nat} (h : d ≤ 8) (hn : n ≤ big) : 1000 * (cb d * n) < 2 ^ 400 := by
  have h1 : cb d * n ≤ 10 ^ 48 * big := Nat.mul_le_mul (cb_le h) hn
  have h2 : 1000 * (10 ^ 48 * big) < 2 ^ 400 := by decide +kernel
  omega
def spThr (CS CO : Addr) (d : Nat) : Sp := fun vs H Q _ => ∃ (a : Addr) (n : Int) (es : List El), vs = [.ref a, .int n] ∧ ListH CS CO d H a es ∧ wsum es ≤ lim ∧ (flat es).length ≤ big ∧
  ∀ (H' : Hp) (p c : Addr) (ks : List (Key × V)) (s : Option Int), Same H H' → H c = none → H' p = some (.tup [.int (tot (flat es) n), SayV s, .ref c]) → Alike (flat es) n s → H' c = some (.dK ks) → CntK H' ks (cb d * (flat es).length) → Q (.ref p) H'
def spThrO (CS CO : Addr) (d : Nat) : Sp := fun vs H Q _ => ∃ (v : V) (n : Int) (e : El), vs = [v, .int n] ∧ OverAt CO (PartH CS CO d) H v e ∧
  ∀ (H' : Hp) (p c : Addr) (ks : List (Key × V)) (s : Option Int), Same H H' → H c = none → H' p = some (.tup [.int (tot e.1 n), SayV s, .ref c]) → Alike e.1 n s → H' c = some (.dK ks) → CntK H' ks (1000 * (cb d * e.1.length)) → Q (.ref p) H'
/-- a value, in several ways -/
theorem asg_mid {te : TE} {g : TG} {u : TS} {D : Ends} {σ : L2.St} {H : Hp} (G : V → Prop) (h1 : ∀ v, G v → g v σ H (u D)) (h2 : (∀ v, G v → g v σ H (u D)) → te σ H (fun x H1 => g x σ H1 (u D))) : tSeq (tAsg te g) u D σ H := h2 h1
theorem seq_mid {t u : TS} {D : Ends} {σ : L2.St} {H : Hp} (G : L2.St → Hp → Prop) (h1 : ∀ σ' H', G σ' H' → u D σ' H') (h2 : (∀ σ' H', G σ' H' → u D σ' H') → t { D with nx := u D } σ H) : tSeq t u D σ H := h2 h1
theorem seq_set {v : V} {i : Nat} {u : TS} {D : Ends} {σ : L2.St} {H : Hp} (h : u D (σ.set i (some v)) H) : tSeq (tAsg (tC v) (gName i)) u D σ H := h
/-- how many times more nobody says otherwise -/
theorem more_ok {l : Nat} {g z : Int} (hl : 0 < l) (hg : 0 < g) (hz : 0 ≤ z) : ∃ j : Nat, (j : Int) = (if z / g < (l : Int) - 1 then z / g else (l : Int) - 1) ∧ j + 1 ≤ l ∧ (j : Int) * g ≤ z := by
  have h0 : 0 ≤ z / g := Int.ediv_nonneg hz (Int.le_of_lt hg)
  have h1 : z / g * g ≤ z := Int.ediv_mul_le z (by omega)
  by_cases c : z / g < (l : Int) - 1
  · rw [if_pos c]
    refine ⟨(z / g).toNat, by omega, by omega, ?_⟩
    rw [show (((z / g).toNat : Nat) : Int) = z / g by omega]
    exact h1
  · rw [if_neg c]
    refine ⟨l - 1, by omega, by omega, ?_⟩
    refine Int.le_trans (Int.mul_le_mul_of_nonneg_right (by omega) (Int.le_of_lt hg)) h1
section
variable {P : Program} {w : World} {K : PySem.W.Frag} {mg : Str → Option Value} {base : Heap} {CS CO CH : Addr}
abbrev sThrough_over : Stmt := top 39
theorem scThrough_over : FnScope ["part", "number", "slack", "counts", "left", "ahead", "own", "once", "grown", "more"] ["part", "number"] (defScope sThrough_over) := ⟨rfl, rfl, rfl, by decide +kernel, rfl, by decide +kernel, by decide +kernel⟩
theorem ok_through_over {d : Nat} (hd : d ≤ 8) (T : Txt K mg CS CO CH) (R : Raw K mg "through_over" sThrough_over ["part", "number"]) (D_lesser_slack : Dn P w K mg base "lesser_slack" 1 ["one", "other"] spLsl) (D_add_counts : Dn P w K mg base "add_counts" 1 ["counts", "more", "times"] spAddC)
    (D_through : Dn P w K mg base "through" (2 * d + 4) ["parts", "number"] (spThr CS CO d)) : Dn P w K mg base "through_over" (2 * d + 5) ["part", "number"] (spThrO CS CO d) := by
  refine R.ok scThrough_over (fun vs H Q E h => ?_) (fun f cdv A outer s H vs Q E hr h => ?_)
  · obtain ⟨v, n, e, rfl, _⟩ := h; rfl
  obtain ⟨v, n, e, rfl, ⟨x, dx, b, t, us, gs, rfl, hx, hb, hp, ht, hn, hw, rfl⟩, q⟩ := h
  have hu := hu_of hr
  refine ⟨_, (pss_cons (ps_set (i := 2) scThrough_over.nd rfl (Or.inl rfl) pe_non)
  (pss_cons (ps_set (i := 3) scThrough_over.nd rfl (Or.inl rfl) pe_dnewK)
  (pss_cons (ps_set (i := 4) scThrough_over.nd rfl (Or.inl rfl) (pe_fld (pv 0) rfl))
  (pss_cons (ps_while PassesOwn.never (pt_cmpR op_gt (pv 4) pe_int (nomark _))
  (pss_cons (ps_set (i := 5) scThrough_over.nd rfl (Or.inl rfl) (pv 1))
  (pss_cons (ps_asg (pe_callD D_through (hr.mono (by omega)) rfl (pa_cons (pe_fld (pv 0) rfl) (pa_cons (pv 1) pa_nil))) (pg_tup rfl (pgs_cons (pg_name (i := 1) scThrough_over.nd rfl (Or.inl rfl)) (pgs_cons (pg_name (i := 6) scThrough_over.nd rfl (Or.inl rfl)) (pgs_cons (pg_name (i := 7) scThrough_over.nd rfl (Or.inl rfl)) pgs_nil)))))
  (pss_cons (ps_set (i := 8) scThrough_over.nd rfl (Or.inl rfl) (pe_op op_sub (pv 1) (pv 5)))
  (pss_cons (ps_set (i := 9) scThrough_over.nd rfl (Or.inl rfl) (pe_ifExp (PW.pt (pw_or (pt_cmpR op_isN (pv 6) pe_non (nomark _)) (pw_or1 (pt_cmpR op_eq (pv 8) pe_int (nomark _))))) (pe_op op_sub (pv 4) pe_int) (pe_callB (call_min2 rfl) rfl T.b_min boot_min (pa_cons (pe_op op_sub (pv 4) pe_int) (pa_cons (pe_op op_fdivW (pv 6) (pv 8)) pa_nil)))))
  (pss_cons (ps_aug (i := 1) scThrough_over.nd rfl (Or.inl rfl) (pe_op op_mulW (pv 9) (pv 8)) ip_add)
  (pss_cons (ps_set (i := 2) scThrough_over.nd rfl (Or.inl rfl) (pe_callD D_lesser_slack (hr.mono (by omega)) rfl (pa_cons (pv 2) (pa_cons (pe_ifExp (pt_cmpR op_isN (pv 6) pe_non (nomark _)) pe_non (pe_op op_sub (pv 6) (pe_op op_mulW (pv 9) (pv 8)))) pa_nil))))
  (pss_cons (ps_expr (pe_callD D_add_counts (hr.mono (by omega)) rfl (pa_cons (pv 3) (pa_cons (pv 7) (pa_cons (pe_op op_add (pv 9) pe_int) pa_nil)))))
  (pss_one (ps_aug (i := 4) scThrough_over.nd rfl (Or.inl rfl) (pe_op op_add (pv 9) pe_int) ip_sub))))))))))
  (pss_one (ps_ret (pe_tup (pa_cons (pv 1) (pa_cons (pv 2) (pa_cons (pv 3) pa_nil)))))))))), ?_⟩
  refine fun c hc0 => ?_
  have s0 := same_new hc0 (.dK [])
  refine ⟨_, rfl, x, CO, dx, _, _, rfl, s0 _ _ hx, T.iO.cl, T.o1, of_times, ?_⟩
  generalize hX : 1000 * (cb d * (flat gs).length) = X
  refine ⟨fun m σ H' => ∃ (l : Nat) (lz num : Int) (sl : Option Int) (ks : List (Key × V)) (x5 x6 x7 x8 x9 : Option V), m = l ∧ σ = [some (.ref x), some (.int num), some (SayV sl), some (.ref c), some (.int lz), x5, x6, x7, x8, x9] ∧ lz = l ∧ l ≤ t ∧ num = tot (rep (t - l) (flat gs)) n ∧ Alike (rep (t - l) (flat gs)) n sl ∧
      Same H H' ∧ H' c = some (.dK ks) ∧ CntK H' ks ((t - l) * X), ⟨t, t, t, n, none, [], none, none, none, none, none, rfl, rfl, rfl, Nat.le_refl t, ?_, ?_, s0, upd_same, CntK.nil⟩, ?_⟩
  · rw [Nat.sub_self, rep_zero, tot_nil]
  · rw [Nat.sub_self, rep_zero]; exact Alike.nil n
  rintro l σ H' ⟨_, lz, num, sl, ks, x5, x6, x7, x8, x9, rfl, rfl, rfl, hlt, hnum, hal, s1, hc1, hk1⟩
  refine ⟨_, rfl, _, _, rfl, rfl, _, rfl, ?_⟩
  by_cases c0 : l = 0
  · rw [decide_eq_false (by omega)]
    refine iteF ?_
    refine ⟨_, rfl, _, rfl, _, rfl, (by show 3 ≤ sizeLine; rw [sizeLine_eq]; decide), fun p hp0 => ?_⟩
    have s2 := same_new hp0 (.tup [.int num, SayV sl, .ref c])
    rw [c0, Nat.sub_zero] at hnum hal hk1
    refine q _ p c ks sl (s1.trans s2) hc0 ?_ hal (s2 _ _ hc1) (hk1.mono ?_ fun r xs z => s2 _ _ z)
    · rw [upd_same, hnum]
    · show t * X ≤ 1000 * (cb d * (rep t (flat gs)).length)
      rw [rep_len, ← hX]
      have e1 : t * (1000 * (cb d * (flat gs).length)) = 1000 * (cb d * (t * (flat gs).length)) := by
        rw [Nat.mul_left_comm t 1000, Nat.mul_left_comm t (cb d)]
      omega
  · rw [decide_eq_true (by omega)]
    refine iteT ⟨fun σ' H' => ∃ m', m' < l ∧ _, fun _ _ z => z, ?_⟩
    refine ⟨_, rfl, ?_⟩
    refine ⟨_, rfl, x, CO, dx, _, _, rfl, s1 _ _ hx, T.iO.cl, T.o2, of_parts, _, rfl, b, num, gs, rfl, ⟨us, s1 _ _ hb, Paired.mapP hp fun _ _ z => z.same s1⟩, hw, hn, fun H2 p c2 ks2 own s2 hc2 hp2 hown hd2 hk2 => ?_⟩
    refine ⟨p, _, rfl, SqT.of hp2, rfl, _, _, rfl, _, _, rfl, _, _, rfl, rfl, ?_⟩
    refine ⟨_, rfl, _, rfl, _, _, rfl, rfl, ?_⟩
    dsimp only [gName]
    have hbd := tot_bd (flat gs) num
    generalize hg : tot (flat gs) num - num = g
    have g0 : 0 ≤ g := by omega
    have gb : g ≤ (flat gs).length := by omega
    -- more
    refine asg_mid (fun v => ∃ j : Nat, v = .int j ∧ j + 1 ≤ l ∧ ∀ z, own = some z → (j : Int) * g ≤ z) ?_ fun key => ?_
    · rintro _ ⟨j, rfl, hj, hjz⟩
      have wm : CMulW (j : Int) g := by
        rw [show g = ((g.toNat : Nat) : Int) by omega]
        exact mulw (by omega) (by omega)
      have tm := hown.times j (by rw [hg]; exact hjz)
      rw [hg] at tm
      have num2 : tot (flat gs) num + (j : Int) * g = num + ((j : Int) + 1) * g := by rw [Int.add_mul]; omega
      refine ⟨_, rfl, _, rfl, _, rfl, _, _, rfl, rfl, wm, _, _, rfl, rfl, ?_⟩
      -- slack
      have hkk : t - (l - (j + 1)) = (j + 1) + (t - l) := by omega
      refine ⟨_, rfl, arg1 (fun v H3 => v = SayV (own.map fun z => z - (j : Int) * g) ∧ H3 = H2) ?_ fun key2 => ?_⟩
      · rintro _ _ ⟨rfl, rfl⟩
        refine ⟨sl, own.map fun z => z - (j : Int) * g, rfl, ?_⟩
        have ncc : c ≠ c2 := fun z => by rw [z, hc2] at hc1; cases hc1
        have hm2 : cb d * (flat gs).length < 2 ^ 400 := by have := cb_lt hd hn; omega
        refine ⟨_, rfl, _, rfl, _, rfl, _, _, rfl, rfl, c, c2, j + 1, (t - l) * X, cb d * (flat gs).length, ks, ks2, by rw [Int.natCast_add]; rfl, s2 _ _ hc1, hd2, ncc, hk1.mono (Nat.le_refl _) fun r xs z => s2 _ _ z, hk2, hm2, by omega, fun H3 ks3 k3 hc3 hk3 => ?_⟩
        refine ⟨_, rfl, _, rfl, _, _, rfl, rfl, _, _, rfl, rfl, ?_⟩
        refine ⟨l - (j + 1), by omega, l - (j + 1), _, _, _, ks3, _, _, _, _, _, rfl, rfl, ?_, by omega, ?_, ?_, fun b o z => k3 b o (ne_of_none z hc0) (s2 _ _ (s1 _ _ z)), hc3, ?_⟩
        · show (l : Int) - ((j : Int) + 1) = ((l - (j + 1) : Nat) : Int)
          omega
        · show tot (flat gs) num + (j : Int) * g = _
          rw [hkk, rep_add, tot_append, ← hnum, tm.1, num2]
        · rw [hkk, rep_add]
          have hal2 := hal.append (A := rep (j + 1) (flat gs)) (s' := own.map fun z => z - (j : Int) * g) (by rw [← hnum]; exact tm.2)
          exact hal2
        · refine hk3.mono ?_ fun r xs z => z
          rw [hkk, Nat.add_mul (j + 1) (t - l) X]
          have : 1000 * (cb d * (flat gs).length * (j + 1)) = (j + 1) * X := by
            rw [← hX, Nat.mul_comm (cb d * (flat gs).length) (j + 1), Nat.mul_left_comm]
          omega
      · cases own with
        | none => exact ⟨_, rfl, rfl, true, rfl, iteT (key2 _ _ ⟨rfl, rfl⟩)⟩
        | some z => exact ⟨_, rfl, rfl, false, rfl, iteF ⟨_, rfl, _, rfl, _, rfl, _, _, rfl, rfl, wm, _, _, rfl, rfl, key2 _ _ ⟨rfl, rfl⟩⟩⟩
    · cases own with
      | none =>
        refine ⟨_, rfl, rfl, true, rfl, iteT (iteT ⟨_, rfl, _, _, rfl, rfl, key _ ⟨l - 1, ?_, by omega, fun z e => nomatch e⟩⟩)⟩
        rw [show ((l - 1 : Nat) : Int) = (l : Int) - 1 by omega]
      | some z =>
        have hz := hown.nn z rfl
        refine ⟨_, rfl, rfl, false, rfl, iteF ⟨_, rfl, rfl, _, rfl, ?_⟩⟩
        by_cases cg : g = 0
        · rw [decide_eq_true (by rw [cg])]
          refine iteT ⟨_, rfl, _, _, rfl, rfl, key _ ⟨l - 1, ?_, by omega, fun y e => ?_⟩⟩
          · rw [show ((l - 1 : Nat) : Int) = (l : Int) - 1 by omega]
          · cases e; rw [cg, Int.mul_zero]; exact hz
        · rw [decide_eq_false (by intro y; injection y with y; exact cg y)]
          obtain ⟨j, ej, hj, hjz⟩ := more_ok (l := l) (by omega) (by omega : 0 < g) hz
          refine iteF ⟨_, rfl, _, _, rfl, rfl, _, rfl, _, rfl, _, _, rfl, rfl, wide_div (b := 200) (by omega) ?_ (by decide) (by decide), _, _, rfl, key _ ⟨j, ?_, hj, fun y e => ?_⟩⟩
          · rw [show g = ((g.toNat : Nat) : Int) by omega]; exact big_lt (by omega)
          · rw [ej]
          · cases e; exact hjz
end
end Bo
set_option Elab.async false
set_option linter.all false
set_option maxRecDepth 100000
set_option maxHeartbeats 4000000
namespace Bo
open PySem L2 PySem.Spec PyProof.Rows

section
variable {P : Program} {w : World} {K : PySem.W.Frag} {mg : Str → Option Value} {base : Heap} {CS CO CH : Addr}
abbrev sThrough : Stmt := top 38
theorem scThrough : FnScope ["parts", "number", "slack", "counts", "part", "pair", "own", "more"] ["parts", "number"] (defScope sThrough) := ⟨rfl, rfl, rfl, by decide +kernel, rfl, by decide +kernel, by decide +kernel⟩
theorem ok_through {d : Nat} (hd : d ≤ 8) (T : Txt K mg CS CO CH) (R : Raw K mg "through" sThrough ["parts", "number"]) (D_lesser_slack : Dn P w K mg base "lesser_slack" 1 ["one", "other"] spLsl) (D_add_counts : Dn P w K mg base "add_counts" 1 ["counts", "more", "times"] spAddC)
    (D_word_of : Dn P w K mg base "word_of" 1 ["saying", "number"] spWord) (D_through_over : Dn P w K mg base "through_over" (2 * d + 3) ["part", "number"] (prv (spThrO CS CO) d)) : Dn P w K mg base "through" (2 * d + 4) ["parts", "number"] (spThr CS CO d) := by
  refine R.ok scThrough (fun vs H Q E h => ?_) (fun f cdv A outer s H vs Q E hr h => ?_)
  · obtain ⟨a, n, es, rfl, _⟩ := h; rfl
  obtain ⟨a, n, es, rfl, ⟨us, ha, hp⟩, hw, hn, q⟩ := h
  have hu := hu_of hr
  refine ⟨_, (pss_cons (ps_set (i := 2) scThrough.nd rfl (Or.inl rfl) pe_non)
  (pss_cons (ps_set (i := 3) scThrough.nd rfl (Or.inl rfl) pe_dnewK)
  (pss_cons (ps_for PassesOwn.never rfl (pi_list (pe_revL (pv 0))) (pg_name (i := 4) scThrough.nd rfl (Or.inl rfl))
  (pss_cons (ps_if (pt_val (pe_callB call_isi rfl T.b_isinstance boot_isinstance (pa_cons (pv 4) (pa_cons (pe_glob (v := .ref CS) rfl T.mgCS rfl) pa_nil)))) (pss_cons (ps_asg (pe_callD D_word_of (hr.mono (by omega)) rfl (pa_cons (pe_fld (pv 4) rfl) (pa_cons (pv 1) pa_nil))) (pg_tup rfl (pgs_cons (pg_name (i := 5) scThrough.nd rfl (Or.inl rfl)) (pgs_cons (pg_name (i := 6) scThrough.nd rfl (Or.inl rfl)) pgs_nil))))
  (pss_cons (ps_aug (i := 1) scThrough.nd rfl (Or.inl rfl) (pe_ix ix_list (pv 5) (pe_gi T.c_TRUE rfl) (fun _ _ => rfl)) ip_add)
  (pss_one (ps_set (i := 7) scThrough.nd rfl (Or.inl rfl) (pe_disp (pps_cons (pe_fld (pv 4) rfl) (pv 5) pps_nil) (by rfl) (by rfl) (fun z => by cases z) (by decide)))))) (pss_one (ps_asg (pe_callD D_through_over (hr.mono (by omega)) rfl (pa_cons (pv 4) (pa_cons (pv 1) pa_nil))) (pg_tup rfl (pgs_cons (pg_name (i := 1) scThrough.nd rfl (Or.inl rfl)) (pgs_cons (pg_name (i := 6) scThrough.nd rfl (Or.inl rfl)) (pgs_cons (pg_name (i := 7) scThrough.nd rfl (Or.inl rfl)) pgs_nil)))))))
  (pss_cons (ps_expr (pe_callD D_add_counts (hr.mono (by omega)) rfl (pa_cons (pv 3) (pa_cons (pv 7) (pa_cons pe_int pa_nil)))))
  (pss_one (ps_set (i := 2) scThrough.nd rfl (Or.inl rfl) (pe_callD D_lesser_slack (hr.mono (by omega)) rfl (pa_cons (pv 2) (pa_cons (pv 6) pa_nil))))))))
  (pss_one (ps_ret (pe_tup (pa_cons (pv 1) (pa_cons (pv 2) (pa_cons (pv 3) pa_nil))))))))), ?_⟩
  refine fun c hc0 => ?_
  have s0 := same_new hc0 (.dK [])
  refine ⟨_, rfl, a, us, rfl, SqL.of (s0 _ _ ha), fun b hb0 => ?_⟩
  have sb := same_new hb0 (.lst us.reverse)
  have hpr := prev hp
  refine ⟨b, rfl, ⟨_, SqL.of upd_same⟩, for_list (K := K) (a := b) (xs := us.reverse) (fun i σ H' => ∃ (num : Int) (sl : Option Int) (ks : List (Key × V)) (x4 x5 x6 x7 : Option V), σ = [some (.ref a), some (.int num), some (SayV sl), some (.ref c), x4, x5, x6, x7] ∧ num = tot (flat (es.reverse.take i).reverse) n ∧ Alike (flat (es.reverse.take i).reverse) n sl ∧
      Same H H' ∧ H' b = some (.lst us.reverse) ∧ H' c = some (.dK ks) ∧ CntK H' ks (cb d * (flat (es.reverse.take i).reverse).length))
    ⟨n, none, [], none, none, none, none, rfl, rfl, Alike.nil n, s0.trans sb, upd_same, sb _ _ upd_same, CntK.nil⟩ (fun i σ H' _ ⟨_, _, _, _, _, _, _, _, _, _, _, h, _⟩ => SqL.of h) ?_ ?_⟩
  · rintro i x σ H' hx ⟨num, sl, ks, x4, x5, x6, x7, rfl, hnum, hal, s1, hb1, hc1, hk1⟩
    obtain ⟨e, he, hpe⟩ := pget hpr hx
    have hel : e.1.length ≤ big := Nat.le_trans (flat_mem (List.mem_reverse.mp (List.mem_of_getElem? he))) hn
    have hrt : (es.reverse.take (i + 1)).reverse = e :: (es.reverse.take i).reverse := by rw [take_succ he, List.reverse_append]; rfl
    have hfl : flat (es.reverse.take (i + 1)).reverse = e.1 ++ flat (es.reverse.take i).reverse := by rw [hrt]; rfl
    refine seq_mid (fun σ' H2 => ∃ (num2 : Int) (own : Option Int) (c2 : Addr) (ks2 : List (Key × V)) (x5 : Option V) (m2 : Nat), σ' = [some (.ref a), some (.int num2), some (SayV sl), some (.ref c), some x, x5, some (SayV own), some (.ref c2)] ∧ num2 = tot e.1 num ∧ Alike e.1 num own ∧ Same H' H2 ∧ c ≠ c2 ∧ H2 c2 = some (.dK ks2) ∧ CntK H2 ks2 m2 ∧ m2 < 2 ^ 400 ∧ 1000 * m2 ≤ cb d * e.1.length) ?_ fun key => ?_
    · rintro σ' H2 ⟨num2, own, c2, ks2, x5', m2, rfl, hnum2, hown, s2, ncc, hd2, hk2, hm2, hm3⟩
      refine ⟨_, rfl, _, rfl, c, c2, 1, _, m2, ks, ks2, rfl, s2 _ _ hc1, hd2, ncc, hk1.mono (Nat.le_refl _) fun r xs z => s2 _ _ z, hk2, hm2, by decide, fun H3 ks3 k3 hc3 hk3 => ?_⟩
      refine ⟨_, rfl, _, rfl, sl, own, rfl, ?_⟩
      have ncb : b ≠ c := ne_of hb1 hc1 (fun z => nomatch z)
      refine ⟨num2, lsl sl own, ks3, _, _, _, _, rfl, ?_, ?_, fun y o z => k3 y o (ne_of_none z hc0) (s2 _ _ (s1 _ _ z)), k3 b _ ncb (s2 _ _ hb1), hc3, ?_⟩
      · rw [hfl, tot_append, ← hnum, hnum2]
      · rw [hfl]
        exact hal.append (by rw [← hnum]; exact hown)
      · refine hk3.mono ?_ fun r xs z => z
        rw [hfl, List.length_append, Nat.mul_add]
        omega
    · cases d with
      | zero => exact hpe.elim
      | succ d =>
        have hpe1 := hpe.same s1
        rcases hpe1 with ⟨p, dx', sa, kk, z, rfl, hp', k0, k1, hz, rfl⟩ | hov
        · refine ⟨_, rfl, _, _, _, _, true, rfl, .own CS, T.iS.ty hp', T.kSS, true, rfl, iteT ?_⟩
          refine ⟨_, rfl, p, CS, dx', _, _, rfl, hp', T.iS.cl, T.s1, sf_said, _, rfl, sa, z, num, rfl, hz, fun H2 p2 r ff tt s2 hp2 hr2 f0 f1 t0 t1 est => ?_⟩
          refine ⟨p2, _, rfl, SqT.of hp2, rfl, _, _, rfl, _, _, rfl, rfl, ?_⟩
          refine ⟨_, rfl, _, rfl, r, _, _, _, rfl, rfl, SqL.of hr2, atI_nat (j := 1) rfl, _, _, rfl, rfl, ?_⟩
          refine fun m hm0 => ?_
          have s3 := same_new hm0 (.dK [])
          refine ⟨_, rfl, p, CS, dx', _, _, rfl, s3 _ _ (s2 _ _ hp'), T.iS.cl, T.s2, sf_num, _, rfl, upd_same, [(.inl kk, .ref r)], rfl, (by show 1 ≤ 15; decide), ?_⟩
          rw [upd_upd]
          have s4 := same_new hm0 (.dK (mergeK [] [(.inl kk, .ref r)]))
          refine key _ _ ⟨_, wordSl z num, m, [(.inl kk, .ref r)], _, 1, rfl, est, Alike.word z num, s2.trans s4, ?_, upd_same, ?_, by decide, ?_⟩
          · exact ne_of_none (s2 _ _ hc1) hm0
          · refine ⟨?_, fun kv h => ?_⟩
            · exact List.nodup_cons.mpr ⟨(fun z => nomatch z), List.nodup_nil⟩
            · rw [List.mem_singleton.mp h]
              exact ⟨kk, r, ff, tt, rfl, k0, k1, rfl, s4 _ _ hr2, f0, by omega, t0, by omega⟩
          · show 1000 * 1 ≤ 1000000 * cb d * 1
            have := cb_pos d
            omega
        · obtain ⟨y, dx', b', t', us', gs', rfl, hy, g⟩ := id hov
          refine ⟨_, rfl, _, _, _, _, false, rfl, .own CS, T.iO.ty hy, T.kOS, false, rfl, iteF ?_⟩
          refine ⟨_, rfl, _, rfl, _, num, e, rfl, hov, fun H2 p2 c2 ks2 own s2 hc2 hp2 hown hd2 hk2 => ?_⟩
          refine ⟨p2, _, rfl, SqT.of hp2, rfl, _, _, rfl, _, _, rfl, _, _, rfl, rfl, ?_⟩
          refine key _ _ ⟨_, own, c2, ks2, _, _, rfl, rfl, hown, s2, (fun z => by rw [z, hc2] at hc1; cases hc1), hd2, hk2, cb_lt (by omega) hel, ?_⟩
          show 1000 * (1000 * (cb d * e.1.length)) ≤ 1000000 * cb d * e.1.length
          rw [Nat.mul_assoc 1000000]
          omega
  · rintro σ H' ⟨num, sl, ks, x4, x5, x6, x7, rfl, hnum, hal, s1, hb1, hc1, hk1⟩
    have el : us.reverse.length = es.reverse.length := Paired.length hpr
    rw [el, List.take_length, List.reverse_reverse] at hnum hal hk1
    refine ⟨_, rfl, _, rfl, _, rfl, (by show 3 ≤ sizeLine; rw [sizeLine_eq]; decide), fun p hp0 => ?_⟩
    have s2 := same_new hp0 (.tup [.int num, SayV sl, .ref c])
    exact q _ p c ks sl (s1.trans s2) hc0 (by rw [upd_same, hnum]) hal (s2 _ _ hc1) (hk1.mono (Nat.le_refl _) fun r xs z => s2 _ _ z)
theorem all_through (T : Txt K mg CS CO CH) (R : Raw K mg "through" sThrough ["parts", "number"]) (R2 : Raw K mg "through_over" sThrough_over ["part", "number"]) (D_lesser_slack : Dn P w K mg base "lesser_slack" 1 ["one", "other"] spLsl) (D_add_counts : Dn P w K mg base "add_counts" 1 ["counts", "more", "times"] spAddC)
    (D_word_of : Dn P w K mg base "word_of" 1 ["saying", "number"] spWord) : ∀ d, d ≤ 8 → Dn P w K mg base "through" (2 * d + 4) ["parts", "number"] (spThr CS CO d)
  | 0, h => ok_through h T R D_lesser_slack D_add_counts D_word_of (R2.no 3 _)
  | d + 1, h => ok_through h T R D_lesser_slack D_add_counts D_word_of (ok_through_over (by omega) T R2 D_lesser_slack D_add_counts (all_through T R R2 D_lesser_slack D_add_counts D_word_of d (by omega)))
def spTot (CS CO : Addr) (d : Nat) : Sp := fun vs H Q _ => ∃ (a : Addr) (n : Int) (es : List El), vs = [.ref a, .int n] ∧ ListH CS CO d H a es ∧ wsum es ≤ lim ∧ (flat es).length ≤ big ∧ ∀ H', Same H H' → Q (.int (tot (flat es) n)) H'
abbrev sTotal_of : Stmt := top 42
theorem scTotal_of : FnScope ["parts", "number"] ["parts", "number"] (defScope sTotal_of) := ⟨rfl, rfl, rfl, by decide +kernel, rfl, by decide +kernel, by decide +kernel⟩
theorem ok_total_of {d : Nat} (R : Raw K mg "total_of" sTotal_of ["parts", "number"]) (D_through : Dn P w K mg base "through" (2 * d + 4) ["parts", "number"] (spThr CS CO d)) : Dn P w K mg base "total_of" (2 * d + 5) ["parts", "number"] (spTot CS CO d) := by
  refine R.ok scTotal_of (fun vs H Q E h => ?_) (fun f cdv A outer s H vs Q E hr h => ?_)
  · obtain ⟨a, n, es, rfl, _⟩ := h; rfl
  obtain ⟨a, n, es, rfl, hL, hw, hn, q⟩ := h
  refine ⟨_, (pss_one (ps_ret (pe_ix ix_tup (pe_callD D_through (hr.mono (by omega)) rfl (pa_cons (pv 0) (pa_cons (pv 1) pa_nil))) pe_int (fun _ _ => rfl)))), ?_⟩
  refine ⟨_, rfl, _, rfl, a, n, es, rfl, hL, hw, hn, fun H2 p c ks sl s2 _ hp _ _ _ => ?_⟩
  exact ⟨p, _, _, _, rfl, rfl, SqT.of hp, atI_nat (j := 0) rfl, q H2 s2⟩
def spFarTotal (d : Nat) : Sp := fun vs H Q _ => ∃ (a : Addr) (n : Int) (es : List El), vs = [.ref a, .int n] ∧ LongH d H a es ∧ wsum es ≤ 1000 ∧ (flat es).length ≤ 999999999999999999999999999999 ∧ 0 ≤ n ∧ ∀ H', Same H H' → Q (.int (tot (flat es) n)) H'
abbrev sFar_total : Stmt := top 43
theorem scFar_total : FnScope ["long", "company", "parts"] ["long", "company"] (defScope sFar_total) := ⟨rfl, rfl, rfl, by decide +kernel, rfl, by decide +kernel, by decide +kernel⟩
theorem ok_far_total {d : Nat} (R : Raw K mg "far_total" sFar_total ["long", "company"]) (D_parts_of : Dn P w K mg base "parts_of" (2 * d + 6) ["long"] (spPartsOf CS CO d)) (D_need_number : Dn P w K mg base "need_number" 2 ["thing"] spNeedNum)
    (D_total_of : Dn P w K mg base "total_of" (2 * d + 5) ["parts", "number"] (spTot CS CO d)) : Dn P w K mg base "far_total" (2 * d + 7) ["long", "company"] (spFarTotal d) := by
  refine R.ok scFar_total (fun vs H Q E h => ?_) (fun f cdv A outer s H vs Q E hr h => ?_)
  · obtain ⟨a, n, es, rfl, _⟩ := h; rfl
  obtain ⟨a, n, es, rfl, hL, hw, hn, h0, q⟩ := h
  refine ⟨_, (pss_cons (ps_set (i := 2) scFar_total.nd rfl (Or.inl rfl) (pe_callD D_parts_of (hr.mono (by omega)) rfl (pa_cons (pv 0) pa_nil)))
  (pss_cons (ps_expr (pe_callD D_need_number (hr.mono (by omega)) rfl (pa_cons (pv 1) pa_nil)))
  (pss_one (ps_ret (pe_callD D_total_of (hr.mono (by omega)) rfl (pa_cons (pv 2) (pa_cons (pv 1) pa_nil))))))), ?_⟩
  refine ⟨_, rfl, a, es, H, rfl, Same.refl H, hL, hw, hn, fun H2 S2 r s2 o2 hL2 => ?_⟩
  refine ⟨_, rfl, n, rfl, h0, ?_⟩
  have hb : (999999999999999999999999999999 : Nat) ≤ big := by decide
  refine ⟨_, rfl, _, rfl, r, n, es, rfl, hL2.same o2.ok, (by rw [lim_eq]; omega), Nat.le_trans hn hb, fun H3 s3 => q H3 (s2.trans s3)⟩

/-! ### far.py: the wish -/
def spWsh (CS CO : Addr) (d : Nat) : Sp := fun vs H Q _ => ∃ (a : Addr) (n : Int) (es : List El), vs = [.ref a, .int n] ∧ ListH CS CO d H a es ∧ (flat es).length ≤ big ∧
  ∀ (H' : Hp) (p : Addr) (s : Option Int), Same H H' → H' p = some (.tup [.int (wsh (flat es) n), SayV s]) → WAlike (flat es) n s → Q (.ref p) H'
def spWshO (CS CO : Addr) (d : Nat) : Sp := fun vs H Q _ => ∃ (v : V) (n : Int) (e : El), vs = [v, .int n] ∧ OverAt CO (PartH CS CO d) H v e ∧
  ∀ (H' : Hp) (p : Addr) (s : Option Int), Same H H' → H' p = some (.tup [.int (wsh e.1 n), SayV s]) → WAlike e.1 n s → Q (.ref p) H'
abbrev sWished_over : Stmt := top 41
theorem scWished_over : FnScope ["part", "wish", "slack", "left", "ahead", "own", "fallen", "more"] ["part", "wish"] (defScope sWished_over) := ⟨rfl, rfl, rfl, by decide +kernel, rfl, by decide +kernel, by decide +kernel⟩
theorem ok_wished_over {d : Nat} (T : Txt K mg CS CO CH) (R : Raw K mg "wished_over" sWished_over ["part", "wish"]) (D_lesser_slack : Dn P w K mg base "lesser_slack" 1 ["one", "other"] spLsl)
    (D_wished : Dn P w K mg base "wished" (2 * d + 4) ["parts", "wish"] (spWsh CS CO d)) : Dn P w K mg base "wished_over" (2 * d + 5) ["part", "wish"] (spWshO CS CO d) := by
  refine R.ok scWished_over (fun vs H Q E h => ?_) (fun f cdv A outer s H vs Q E hr h => ?_)
  · obtain ⟨v, n, e, rfl, _⟩ := h; rfl
  obtain ⟨v, n, e, rfl, ⟨x, dx, b, t, us, gs, rfl, hx, hb, hp, ht, hn, hw, rfl⟩, q⟩ := h
  refine ⟨_, (pss_cons (ps_set (i := 2) scWished_over.nd rfl (Or.inl rfl) pe_non)
  (pss_cons (ps_set (i := 3) scWished_over.nd rfl (Or.inl rfl) (pe_fld (pv 0) rfl))
  (pss_cons (ps_while PassesOwn.never (pt_cmpR op_gt (pv 3) pe_int (nomark _))
  (pss_cons (ps_set (i := 4) scWished_over.nd rfl (Or.inl rfl) (pv 1))
  (pss_cons (ps_asg (pe_callD D_wished (hr.mono (by omega)) rfl (pa_cons (pe_fld (pv 0) rfl) (pa_cons (pv 1) pa_nil))) (pg_tup rfl (pgs_cons (pg_name (i := 1) scWished_over.nd rfl (Or.inl rfl)) (pgs_cons (pg_name (i := 5) scWished_over.nd rfl (Or.inl rfl)) pgs_nil))))
  (pss_cons (ps_set (i := 6) scWished_over.nd rfl (Or.inl rfl) (pe_op op_sub (pv 4) (pv 1)))
  (pss_cons (ps_set (i := 7) scWished_over.nd rfl (Or.inl rfl) (pe_ifExp (PW.pt (pw_or (pt_cmpR op_isN (pv 5) pe_non (nomark _)) (pw_or1 (pt_cmpR op_eq (pv 6) pe_int (nomark _))))) (pe_op op_sub (pv 3) pe_int) (pe_callB (call_min2 rfl) rfl T.b_min boot_min (pa_cons (pe_op op_sub (pv 3) pe_int) (pa_cons (pe_op op_fdivW (pv 5) (pv 6)) pa_nil)))))
  (pss_cons (ps_aug (i := 1) scWished_over.nd rfl (Or.inl rfl) (pe_op op_mulW (pv 7) (pv 6)) ip_sub)
  (pss_cons (ps_set (i := 2) scWished_over.nd rfl (Or.inl rfl) (pe_callD D_lesser_slack (hr.mono (by omega)) rfl (pa_cons (pv 2) (pa_cons (pe_ifExp (pt_cmpR op_isN (pv 5) pe_non (nomark _)) pe_non (pe_op op_sub (pv 5) (pe_op op_mulW (pv 7) (pv 6)))) pa_nil))))
  (pss_one (ps_aug (i := 3) scWished_over.nd rfl (Or.inl rfl) (pe_op op_add (pv 7) pe_int) ip_sub)))))))))
  (pss_one (ps_ret (pe_tup (pa_cons (pv 1) (pa_cons (pv 2) pa_nil)))))))), ?_⟩
  refine ⟨_, rfl, x, CO, dx, _, _, rfl, hx, T.iO.cl, T.o1, of_times, ?_⟩
  refine ⟨fun m σ H' => ∃ (l : Nat) (lz num : Int) (sl : Option Int) (x4 x5 x6 x7 : Option V), m = l ∧ σ = [some (.ref x), some (.int num), some (SayV sl), some (.int lz), x4, x5, x6, x7] ∧ lz = l ∧ l ≤ t ∧ num = wsh (rep (t - l) (flat gs)) n ∧ WAlike (rep (t - l) (flat gs)) n sl ∧ Same H H',
    ⟨t, t, t, n, none, none, none, none, none, rfl, rfl, rfl, Nat.le_refl t, ?_, ?_, Same.refl H⟩, ?_⟩
  · rw [Nat.sub_self, rep_zero, wsh_nil]
  · rw [Nat.sub_self, rep_zero]; exact WAlike.nil n
  rintro l σ H' ⟨_, lz, num, sl, x4, x5, x6, x7, rfl, rfl, rfl, hlt, hnum, hal, s1⟩
  refine ⟨_, rfl, _, _, rfl, rfl, _, rfl, ?_⟩
  by_cases c0 : l = 0
  · rw [decide_eq_false (by omega)]
    refine iteF ?_
    refine ⟨_, rfl, _, rfl, (by show 2 ≤ sizeLine; rw [sizeLine_eq]; decide), fun p hp0 => ?_⟩
    rw [c0, Nat.sub_zero] at hnum hal
    exact q _ p sl (s1.trans (same_new hp0 _)) (by rw [upd_same, hnum]) hal
  · rw [decide_eq_true (by omega)]
    refine iteT ⟨fun σ' H' => ∃ m', m' < l ∧ _, fun _ _ z => z, ?_⟩
    refine ⟨_, rfl, ?_⟩
    refine ⟨_, rfl, x, CO, dx, _, _, rfl, s1 _ _ hx, T.iO.cl, T.o2, of_parts, _, rfl, b, num, gs, rfl, ⟨us, s1 _ _ hb, Paired.mapP hp fun _ _ z => z.same s1⟩, hn, fun H2 p own s2 hp2 hown => ?_⟩
    refine ⟨p, _, rfl, SqT.of hp2, rfl, _, _, rfl, _, _, rfl, rfl, ?_⟩
    refine ⟨_, rfl, _, rfl, _, _, rfl, rfl, ?_⟩
    dsimp only [gName]
    have hbd := wsh_bd (flat gs) num
    generalize hg : num - wsh (flat gs) num = g
    have g0 : 0 ≤ g := by omega
    have gb : g ≤ (flat gs).length := by omega
    refine asg_mid (fun v => ∃ j : Nat, v = .int j ∧ j + 1 ≤ l ∧ ∀ z, own = some z → (j : Int) * g ≤ z) ?_ fun key => ?_
    · rintro _ ⟨j, rfl, hj, hjz⟩
      have wm : CMulW (j : Int) g := by
        rw [show g = ((g.toNat : Nat) : Int) by omega]
        exact mulw (by omega) (by omega)
      have tm := hown.times j (by rw [hg]; exact hjz)
      rw [hg] at tm
      have num2 : wsh (flat gs) num - (j : Int) * g = num - ((j : Int) + 1) * g := by rw [Int.add_mul]; omega
      refine ⟨_, rfl, _, rfl, _, rfl, _, _, rfl, rfl, wm, _, _, rfl, rfl, ?_⟩
      have hkk : t - (l - (j + 1)) = (t - l) + (j + 1) := by omega
      refine ⟨_, rfl, arg1 (fun v H3 => v = SayV (own.map fun z => z - (j : Int) * g) ∧ H3 = H2) ?_ fun key2 => ?_⟩
      · rintro _ _ ⟨rfl, rfl⟩
        refine ⟨sl, own.map fun z => z - (j : Int) * g, rfl, ?_⟩
        refine ⟨_, rfl, _, rfl, _, _, rfl, rfl, _, _, rfl, rfl, ?_⟩
        refine ⟨l - (j + 1), by omega, l - (j + 1), _, _, _, _, _, _, _, rfl, rfl, ?_, by omega, ?_, ?_, s1.trans s2⟩
        · show (l : Int) - ((j : Int) + 1) = ((l - (j + 1) : Nat) : Int)
          omega
        · show wsh (flat gs) num - (j : Int) * g = _
          rw [hkk, rep_add, wsh_append, ← hnum, tm.1, num2]
        · rw [hkk, rep_add]
          exact hal.append (B := rep (j + 1) (flat gs)) (s' := own.map fun z => z - (j : Int) * g) (by rw [← hnum]; exact tm.2)
      · cases own with
        | none => exact ⟨_, rfl, rfl, true, rfl, iteT (key2 _ _ ⟨rfl, rfl⟩)⟩
        | some z => exact ⟨_, rfl, rfl, false, rfl, iteF ⟨_, rfl, _, rfl, _, rfl, _, _, rfl, rfl, wm, _, _, rfl, rfl, key2 _ _ ⟨rfl, rfl⟩⟩⟩
    · cases own with
      | none =>
        refine ⟨_, rfl, rfl, true, rfl, iteT (iteT ⟨_, rfl, _, _, rfl, rfl, key _ ⟨l - 1, ?_, by omega, fun z e => nomatch e⟩⟩)⟩
        rw [show ((l - 1 : Nat) : Int) = (l : Int) - 1 by omega]
      | some z =>
        have hz := hown.nn z rfl
        refine ⟨_, rfl, rfl, false, rfl, iteF ⟨_, rfl, rfl, _, rfl, ?_⟩⟩
        by_cases cg : g = 0
        · rw [decide_eq_true (by rw [cg])]
          refine iteT ⟨_, rfl, _, _, rfl, rfl, key _ ⟨l - 1, ?_, by omega, fun y e => ?_⟩⟩
          · rw [show ((l - 1 : Nat) : Int) = (l : Int) - 1 by omega]
          · cases e; rw [cg, Int.mul_zero]; exact hz
        · rw [decide_eq_false (by intro y; injection y with y; exact cg y)]
          obtain ⟨j, ej, hj, hjz⟩ := more_ok (l := l) (by omega) (by omega : 0 < g) hz
          refine iteF ⟨_, rfl, _, _, rfl, rfl, _, rfl, _, rfl, _, _, rfl, rfl, wide_div (b := 200) (by omega) ?_ (by decide) (by decide), _, _, rfl, key _ ⟨j, ?_, hj, fun y e => ?_⟩⟩
          · rw [show g = ((g.toNat : Nat) : Int) by omega]; exact big_lt (by omega)
          · rw [ej]
          · cases e; exact hjz
abbrev sWished : Stmt := top 40
theorem scWished : FnScope ["parts", "wish", "slack", "part", "own", "least", "most"] ["parts", "wish"] (defScope sWished) := ⟨rfl, rfl, rfl, by decide +kernel, rfl, by decide +kernel, by decide +kernel⟩
theorem ok_wished {d : Nat} (T : Txt K mg CS CO CH) (R : Raw K mg "wished" sWished ["parts", "wish"]) (D_lesser_slack : Dn P w K mg base "lesser_slack" 1 ["one", "other"] spLsl)
    (D_wished_over : Dn P w K mg base "wished_over" (2 * d + 3) ["part", "wish"] (prv (spWshO CS CO) d)) : Dn P w K mg base "wished" (2 * d + 4) ["parts", "wish"] (spWsh CS CO d) := by
  refine R.ok scWished (fun vs H Q E h => ?_) (fun f cdv A outer s H vs Q E hr h => ?_)
  · obtain ⟨a, n, es, rfl, _⟩ := h; rfl
  obtain ⟨a, n, es, rfl, ⟨us, ha, hp⟩, hn, q⟩ := h
  refine ⟨_, (pss_cons (ps_set (i := 2) scWished.nd rfl (Or.inl rfl) pe_non)
  (pss_cons (ps_for PassesOwn.never rfl (pi_list (pv 0)) (pg_name (i := 3) scWished.nd rfl (Or.inl rfl))
  (pss_cons (ps_set (i := 4) scWished.nd rfl (Or.inl rfl) pe_non)
  (pss_cons (ps_if (pt_not (pt_val (pe_callB call_isi rfl T.b_isinstance boot_isinstance (pa_cons (pv 3) (pa_cons (pe_glob (v := .ref CS) rfl T.mgCS rfl) pa_nil))))) (pss_one (ps_asg (pe_callD D_wished_over (hr.mono (by omega)) rfl (pa_cons (pv 3) (pa_cons (pv 1) pa_nil))) (pg_tup rfl (pgs_cons (pg_name (i := 1) scWished.nd rfl (Or.inl rfl)) (pgs_cons (pg_name (i := 4) scWished.nd rfl (Or.inl rfl)) pgs_nil))))) (pss_cons (ps_asg (pe_fld (pv 3) rfl) (pg_tup rfl (pgs_cons (pg_name (i := 5) scWished.nd rfl (Or.inl rfl)) (pgs_cons (pg_name (i := 6) scWished.nd rfl (Or.inl rfl)) pgs_nil))))
  (pss_one (ps_if (PW.pt (pw_and (pt_cmpR op_notN (pv 6) pe_non (nomark _)) (pw_and1 (pt_cmpR op_gt (pv 1) (pe_op op_add (pv 6) pe_int) (nomark _))))) (pss_one (ps_set (i := 4) scWished.nd rfl (Or.inl rfl) (pe_op op_sub (pe_op op_sub (pv 1) (pv 6)) pe_int))) (pss_one (ps_if (pt_cmpR op_gt (pv 1) (pv 5) (nomark _)) (pss_cons (ps_set (i := 4) scWished.nd rfl (Or.inl rfl) (pe_op op_sub (pe_op op_sub (pv 1) (pv 5)) pe_int))
  (pss_one (ps_aug (i := 1) scWished.nd rfl (Or.inl rfl) pe_int ip_sub))) pss_nil))))))
  (pss_one (ps_set (i := 2) scWished.nd rfl (Or.inl rfl) (pe_callD D_lesser_slack (hr.mono (by omega)) rfl (pa_cons (pv 2) (pa_cons (pv 4) pa_nil))))))))
  (pss_one (ps_ret (pe_tup (pa_cons (pv 1) (pa_cons (pv 2) pa_nil))))))), ?_⟩
  refine ⟨_, rfl, a, rfl, ⟨_, SqL.of ha⟩, for_list (K := K) (a := a) (xs := us) (fun i σ H' => ∃ (num : Int) (sl : Option Int) (x3 x4 x5 x6 : Option V), σ = [some (.ref a), some (.int num), some (SayV sl), x3, x4, x5, x6] ∧ num = wsh (flat (es.take i)) n ∧ WAlike (flat (es.take i)) n sl ∧ Same H H')
    ⟨n, none, none, none, none, none, rfl, rfl, WAlike.nil n, Same.refl H⟩ (fun i σ H' _ ⟨_, _, _, _, _, _, _, _, _, s⟩ => SqL.of (s _ _ ha)) ?_ ?_⟩
  · rintro i x σ H' hx ⟨num, sl, x3, x4, x5, x6, rfl, hnum, hal, s1⟩
    obtain ⟨e, he, hpe⟩ := pget hp hx
    dsimp only [gName]
    refine seq_set ?_
    refine seq_mid (fun σ' H2 => ∃ (num2 : Int) (own : Option Int) (x5 x6 : Option V), σ' = [some (.ref a), some (.int num2), some (SayV sl), some x, some (SayV own), x5, x6] ∧ num2 = wsh e.1 num ∧ WAlike e.1 num own ∧ Same H' H2) ?_ fun key => ?_
    · rintro σ' H2 ⟨num2, own, x5, x6, rfl, hnum2, hown, s2⟩
      refine ⟨_, rfl, _, rfl, sl, own, rfl, ?_⟩
      refine ⟨num2, lsl sl own, _, _, _, _, rfl, ?_, ?_, s1.trans s2⟩
      · rw [flat_take he, wsh_append, ← hnum, hnum2]
      · rw [flat_take he]
        exact hal.append (by rw [← hnum]; exact hown)
    · cases d with
      | zero => exact hpe.elim
      | succ d =>
        have hpe1 := hpe.same s1
        rcases hpe1 with ⟨p, dx', sa, kk, ⟨l, m⟩, rfl, hp', k0, k1, ⟨hz, z0, z1⟩, rfl⟩ | hov
        · refine ⟨_, rfl, _, _, _, _, true, rfl, .own CS, T.iS.ty hp', T.kSS, true, rfl, iteF ?_⟩
          refine ⟨_, rfl, p, CS, dx', _, _, rfl, hp', T.iS.cl, T.s1, sf_said, sa, _, rfl, SqT.of hz, rfl, _, _, rfl, _, _, rfl, rfl, ?_⟩
          have al := WAlike.word (l, m) num
          have ew : wsh [(l, m)] num = wst num (l, m) := rfl
          cases m with
          | none =>
            refine ⟨_, rfl, rfl, false, rfl, iteF (iteF ?_)⟩
            refine ⟨_, rfl, _, rfl, _, _, rfl, rfl, _, rfl, ?_⟩
            by_cases c : l < num
            · rw [decide_eq_true c]
              refine iteT ⟨_, rfl, _, rfl, _, _, rfl, rfl, _, _, rfl, rfl, _, rfl, _, _, rfl, rfl, ?_⟩
              refine key _ _ ⟨_, some (num - l - 1), _, _, rfl, ?_, ?_, Same.refl _⟩
              · rw [ew]; unfold wst; rw [if_neg (by show ¬ (false = true); exact Bool.false_ne_true), if_pos c]
              · have e2 : wishSl (l, none) num = some (num - l - 1) := by unfold wishSl; rw [if_neg (by show ¬ (false = true); exact Bool.false_ne_true), if_pos c]
                rw [e2] at al; exact al
            · rw [decide_eq_false c]
              refine iteF (key _ _ ⟨num, none, _, _, rfl, ?_, ?_, Same.refl _⟩)
              · rw [ew]; unfold wst; rw [if_neg (by show ¬ (false = true); exact Bool.false_ne_true), if_neg c]
              · have e2 : wishSl (l, none) num = none := by unfold wishSl; rw [if_neg (by show ¬ (false = true); exact Bool.false_ne_true), if_neg c]
                rw [e2] at al; exact al
          | some m =>
            refine ⟨_, rfl, rfl, true, rfl, iteT ?_⟩
            refine ⟨_, rfl, _, rfl, _, _, rfl, rfl, _, _, rfl, rfl, _, rfl, ?_⟩
            by_cases c : m + 1 < num
            · rw [decide_eq_true c]
              have ct : tooM (some m) num = true := decide_eq_true c
              refine iteT ⟨_, rfl, _, rfl, _, _, rfl, rfl, _, _, rfl, rfl, ?_⟩
              refine key _ _ ⟨num, some (num - m - 2), some (.int l), some (.int m), rfl, ?_, ?_, Same.refl _⟩
              · rw [ew]; unfold wst; rw [if_pos (by show tooM (some m) num = true; exact ct)]
              · have e2 : wishSl (l, some m) num = some (num - m - 2) := by unfold wishSl; rw [if_pos (by show tooM (some m) num = true; exact ct)]
                rw [e2] at al; exact al
            · rw [decide_eq_false c]
              have ct : tooM (some m) num = false := decide_eq_false c
              refine iteF ⟨_, rfl, _, rfl, _, _, rfl, rfl, _, rfl, ?_⟩
              by_cases c2 : l < num
              · rw [decide_eq_true c2]
                refine iteT ⟨_, rfl, _, rfl, _, _, rfl, rfl, _, _, rfl, rfl, _, rfl, _, _, rfl, rfl, ?_⟩
                refine key _ _ ⟨_, some (num - l - 1), _, _, rfl, ?_, ?_, Same.refl _⟩
                · rw [ew]; unfold wst; rw [if_neg (by show ¬ (tooM (some m) num = true); rw [ct]; exact Bool.false_ne_true), if_pos c2]
                · have e2 : wishSl (l, some m) num = some (num - l - 1) := by unfold wishSl; rw [if_neg (by show ¬ (tooM (some m) num = true); rw [ct]; exact Bool.false_ne_true), if_pos c2]
                  rw [e2] at al; exact al
              · rw [decide_eq_false c2]
                refine iteF (key _ _ ⟨num, none, _, _, rfl, ?_, ?_, Same.refl _⟩)
                · rw [ew]; unfold wst; rw [if_neg (by show ¬ (tooM (some m) num = true); rw [ct]; exact Bool.false_ne_true), if_neg c2]
                · have e2 : wishSl (l, some m) num = none := by unfold wishSl; rw [if_neg (by show ¬ (tooM (some m) num = true); rw [ct]; exact Bool.false_ne_true), if_neg c2]
                  rw [e2] at al; exact al
        · obtain ⟨y, dx', b', t', us', gs', rfl, hy, g⟩ := id hov
          refine ⟨_, rfl, _, _, _, _, false, rfl, .own CS, T.iO.ty hy, T.kOS, false, rfl, iteT ?_⟩
          refine ⟨_, rfl, _, rfl, _, num, e, rfl, hov, fun H2 p2 own s2 hp2 hown => ?_⟩
          refine ⟨p2, _, rfl, SqT.of hp2, rfl, _, _, rfl, _, _, rfl, rfl, ?_⟩
          exact key _ _ ⟨_, own, _, _, rfl, rfl, hown, s2⟩
  · rintro σ H' ⟨num, sl, x3, x4, x5, x6, rfl, hnum, hal, s1⟩
    have el : us.length = es.length := Paired.length hp
    rw [el, List.take_length] at hnum hal
    refine ⟨_, rfl, _, rfl, (by show 2 ≤ sizeLine; rw [sizeLine_eq]; decide), fun p hp0 => ?_⟩
    exact q _ p sl (s1.trans (same_new hp0 _)) (by rw [upd_same, hnum]) hal
theorem all_wished (T : Txt K mg CS CO CH) (R : Raw K mg "wished" sWished ["parts", "wish"]) (R2 : Raw K mg "wished_over" sWished_over ["part", "wish"]) (D_lesser_slack : Dn P w K mg base "lesser_slack" 1 ["one", "other"] spLsl) : ∀ d, Dn P w K mg base "wished" (2 * d + 4) ["parts", "wish"] (spWsh CS CO d)
  | 0 => ok_wished T R D_lesser_slack (R2.no 3 _)
  | d + 1 => ok_wished T R D_lesser_slack (ok_wished_over T R2 D_lesser_slack (all_wished T R R2 D_lesser_slack d))
end
end Bo
set_option Elab.async false
set_option linter.all false
set_option maxRecDepth 100000
set_option maxHeartbeats 4000000
namespace Bo
open PySem L2 PySem.Spec PyProof.Rows

/-! ### halls.py: names -/
def OkName (x : Str) : Prop := x = "a" ∨ x = "b" ∨ x = "c"
theorem OkName.cps {x : Str} (h : OkName x) : ∃ c, x.cps = #[c] ∧ c ∈ ("abcdefghijklmnopqrstuvwxyz" : Str).cps.toList := by
  rcases h with rfl | rfl | rfl
  · exact ⟨97, by decide +kernel, by decide +kernel⟩
  · exact ⟨98, by decide +kernel, by decide +kernel⟩
  · exact ⟨99, by decide +kernel, by decide +kernel⟩
def spName : Sp := fun vs H Q _ => ∃ x : Str, vs = [.str x] ∧ OkName x ∧ ∀ H', Same H H' → Q (.bl true) H'
def spNeedName : Sp := fun vs H Q _ => ∃ x : Str, vs = [.str x] ∧ OkName x ∧ ∀ H', Same H H' → Q .non H'
def spNeedFew : Sp := fun vs H Q _ => ∃ n : Int, vs = [.int n] ∧ n ≤ 999999999999999999999999999999 ∧ Q .non H
section
variable {P : Program} {w : World} {K : PySem.W.Frag} {mg : Str → Option Value} {base : Heap} {CS CO CH : Addr}
abbrev sIs_name : Stmt := top 47
theorem scIs_name : FnScope ["thing", "sign"] ["thing"] (defScope sIs_name) := ⟨rfl, rfl, rfl, by decide +kernel, rfl, by decide +kernel, by decide +kernel⟩
theorem ok_is_name (T : Txt K mg CS CO CH) (R : Raw K mg "is_name" sIs_name ["thing"]) : Dn P w K mg base "is_name" 1 ["thing"] spName := by
  refine R.ok scIs_name (fun vs H Q E h => ?_) (fun f cdv A outer s H vs Q E hr h => ?_)
  · obtain ⟨x, rfl, _⟩ := h; rfl
  obtain ⟨x, rfl, hx, q⟩ := h
  refine ⟨_, (pss_cons (ps_if (PW.pt (pw_or (pt_not (pt_val (pe_callB call_isi rfl T.b_isinstance boot_isinstance (pa_cons (pv 0) (pa_cons (pe_bltn (v := .ty "str") rfl T.b_str boot_str rfl) pa_nil))))) (pw_or1 (pt_not (pt_chain op_le op_le pe_int (pe_callB call_len_str rfl T.b_len boot_len (pa_cons (pv 0) pa_nil)) (pe_gi T.c_MOST_LETTERS rfl)))))) (pss_one (ps_ret pe_bl)) pss_nil)
  (pss_one (ps_ret (pe_callB (cr_all rfl) rfl T.b_all boot_all (pa_cons (pe_lc (own := [("sign", 1)]) (g := gName 1) (tt := tYes) rfl scIs_name.nd (pi_str (pv 0)) (blkOk_by (own := [("sign", 1)]) (N := ["thing", "sign"]) (sc := defScope sIs_name) (by decide +kernel)) (fun _ _ _ _ _ => pg_name (i := 1) scIs_name.nd rfl (Or.inl rfl)) (fun _ _ _ _ _ => pts_nil) (fun _ _ _ _ _ => (pe_cmpR op_in_sign (pv 1) (pe_gs T.c_LETTERS rfl) rfl))) pa_nil))))), ?_⟩
  obtain ⟨c, hc, hm⟩ := hx.cps
  have hlen : x.length = 1 := by
    show x.cps.size = 1
    rw [hc]; rfl
  refine ⟨_, rfl, _, _, _, _, true, rfl, .ty "str", .base (.str _), kit_ty (by decide +kernel), true, rfl, iteF ?_⟩
  refine ⟨_, rfl, x, rfl, by rw [hlen, sizeLine_eq]; decide, ?_⟩
  rw [hlen]
  refine ⟨_, _, rfl, rfl, true, rfl, iteT ⟨_, _, rfl, rfl, true, rfl, iteF ?_⟩⟩
  refine ⟨_, rfl, x, rfl, fun D hD => ?_⟩
  refine ⟨fun i m H' => Same H H' ∧ m = 1 - i ∧ i ≤ 1 ∧ H' D = some (.lst ((List.replicate i true).map V.bl)), ⟨1, same_new hD _, rfl, Nat.zero_le _, upd_same⟩, ?_⟩
  rintro i m H' ⟨s1, rfl, hi, hd⟩
  by_cases c0 : i = 0
  · subst c0
    refine .inr ⟨?_, fun H2 => Same H H2 ∧ H2 D = some (.lst ([true].map V.bl)), fun H2 ⟨s2, h2⟩ => ⟨0, by decide, s2, rfl, Nat.le_refl 1, h2⟩, fun y H2 hy => ?_⟩
    · show 0 < x.cps.size
      rw [hc]; exact Nat.one_pos
    · obtain ⟨rfl, c', hc', rfl⟩ := hy
      have ec : c' = c := by
        rw [hc] at hc'
        exact (Option.some.inj hc').symm
      subst ec
      refine ⟨rfl, tyes ?_⟩
      refine ⟨_, rfl, c', _, rfl, rfl, _, hd, by rw [sizeLine_eq]; decide, same_grow s1 hD, ?_⟩
      rw [upd_same, decide_eq_true hm]; rfl
  · have c1 : i = 1 := by omega
    subst c1
    refine .inl ⟨?_, ?_⟩
    · show x.cps.size ≤ 1
      rw [hc]; exact Nat.le_refl 1
    · exact ⟨D, [true], rfl, SqL.of hd, q H' s1⟩
abbrev sNeed_name : Stmt := top 48
theorem scNeed_name : FnScope ["thing"] ["thing"] (defScope sNeed_name) := ⟨rfl, rfl, rfl, by decide +kernel, rfl, by decide +kernel, by decide +kernel⟩
theorem ok_need_name (R : Raw K mg "need_name" sNeed_name ["thing"]) (D_is_name : Dn P w K mg base "is_name" 1 ["thing"] spName) : Dn P w K mg base "need_name" 2 ["thing"] spNeedName := by
  refine R.ok scNeed_name (fun vs H Q E h => ?_) (fun f cdv A outer s H vs Q E hr h => ?_)
  · obtain ⟨x, rfl, _⟩ := h; rfl
  obtain ⟨x, rfl, hx, q⟩ := h
  refine ⟨_, (pss_one (ps_if (pt_not (pt_val (pe_callD D_is_name (hr.mono (by omega)) rfl (pa_cons (pv 0) pa_nil)))) (pss_one ps_never) pss_nil)), ?_⟩
  exact ⟨_, rfl, x, rfl, hx, fun H1 s1 => ⟨true, rfl, iteF (q H1 s1)⟩⟩
abbrev sNeed_few : Stmt := top 49
theorem scNeed_few : FnScope ["many"] ["many"] (defScope sNeed_few) := ⟨rfl, rfl, rfl, by decide +kernel, rfl, by decide +kernel, by decide +kernel⟩
theorem ok_need_few (T : Txt K mg CS CO CH) (R : Raw K mg "need_few" sNeed_few ["many"]) : Dn P w K mg base "need_few" 1 ["many"] spNeedFew := by
  refine R.ok scNeed_few (fun vs H Q E h => ?_) (fun f cdv A outer s H vs Q E hr h => ?_)
  · obtain ⟨n, rfl, _⟩ := h; rfl
  obtain ⟨n, rfl, hn, q⟩ := h
  refine ⟨_, (pss_one (ps_if (pt_cmpR op_gt (pv 0) (pe_gi T.c_MOST_PEOPLE rfl) (nomark _)) (pss_one ps_never) pss_nil)), ?_⟩
  refine ⟨_, rfl, _, _, rfl, rfl, false, ?_, iteF q⟩
  show V.bl (decide ((999999999999999999999999999999 : Int) < n)) = V.bl false
  rw [decide_eq_false (by omega)]

/-! ### halls.py: what a hall is -/
structure HallD where
  h : Addr
  rd : Addr
  da : Addr
  ua : Addr
  dn : List V
  us : List V
  ks : List (Key × V)
def Refs (xs : List V) : Prop := ∀ v ∈ xs, ∃ t, v = V.ref t
structure HallS (CH : Addr) (S H : Hp) (x : HallD) : Prop where
  ob : ∃ dx, H x.h = some (.ins CH dx (hallF x.rd x.da x.ua))
  ro : H x.rd = some (.dK x.ks)
  don : H x.da = some (.lst x.dn)
  und : H x.ua = some (.lst x.us)
  dr : Refs x.dn
  ur : Refs x.us
  ne : x.da ≠ x.ua
  sh : S x.h = none
  sd : S x.da = none
  su : S x.ua = none
def Exc (x : HallD) (H H' : Hp) : Prop := ∀ b o, b ≠ x.h → b ≠ x.da → b ≠ x.ua → H b = some o → H' b = some o
abbrev mp : Nat := 999999999999999999999999999999
def RowP (CS CO : Addr) (d M n : Nat) (S : Hp) (v : V) (L : List Say) : Prop := ∃ a es, v = .ref a ∧ ListH CS CO d S a es ∧ flat es = L ∧ wsum es ≤ n ∧ (∀ e ∈ es, e.2 ≤ M) ∧ L.length ≤ mp
def RowS (CS CO : Addr) (d M n : Nat) (S : Hp) (v : V) (L : List Say) : Prop := ∃ a es, v = .ref a ∧ ListH CS CO d S a es ∧ flat es = L ∧ wsum es ≤ n ∧ (∀ e ∈ es, e.2 ≤ M ∧ 0 < e.1.length) ∧ L.length ≤ mp
abbrev Rs := List (Str × List Say)
def RowsR (R : V → List Say → Prop) (ks : List (Key × V)) (rs : Rs) : Prop := Paired (fun (kv : Key × V) (r : Str × List Say) => kv.1 = Sum.inr r.1 ∧ R kv.2 r.2) ks rs
def getR : Rs → Str → Option (List Say)
  | [], _ => none
  | (y, L) :: r, x => if y = x then some L else getR r x
def putR : Rs → Str → List Say → Rs
  | [], x, L => [(x, L)]
  | (y, L') :: r, x, L => if y = x then (y, L) :: r else (y, L') :: putR r x L
def dropR : Rs → Str → Rs
  | [], _ => []
  | (y, L) :: r, x => if y = x then dropR r x else (y, L) :: dropR r x
theorem RowS.p {d M n : Nat} {S : Hp} {v : V} {L : List Say} (h : RowS CS CO d M n S v L) : RowP CS CO d M n S v L := by
  obtain ⟨a, es, h1, h2, h3, h4, h5, h6⟩ := h
  exact ⟨a, es, h1, h2, h3, h4, fun e z => (h5 e z).1, h6⟩
theorem RowS.same {d M n : Nat} {S S' : Hp} {v : V} {L : List Say} (s : Same S S') (h : RowS CS CO d M n S v L) : RowS CS CO d M n S' v L := by
  obtain ⟨a, es, h1, h2, h3, h4, h5, h6⟩ := h
  exact ⟨a, es, h1, h2.same s, h3, h4, h5, h6⟩
theorem RowP.same {d M n : Nat} {S S' : Hp} {v : V} {L : List Say} (s : Same S S') (h : RowP CS CO d M n S v L) : RowP CS CO d M n S' v L := by
  obtain ⟨a, es, h1, h2, h3, h4, h5, h6⟩ := h
  exact ⟨a, es, h1, h2.same s, h3, h4, h5, h6⟩
theorem RowS.mono {d M n d' M' n' : Nat} {S : Hp} {v : V} {L : List Say} (h : RowS CS CO d M n S v L) (hd : d ≤ d') (hM : M ≤ M') (hn : n ≤ n') : RowS CS CO d' M' n' S v L := by
  obtain ⟨a, es, h1, h2, h3, h4, h5, h6⟩ := h
  exact ⟨a, es, h1, h2.le hd, h3, by omega, fun e z => ⟨by have := (h5 e z).1; omega, (h5 e z).2⟩, h6⟩
theorem RowP.mono {d M n d' M' n' : Nat} {S : Hp} {v : V} {L : List Say} (h : RowP CS CO d M n S v L) (hd : d ≤ d') (hM : M ≤ M') (hn : n ≤ n') : RowP CS CO d' M' n' S v L := by
  obtain ⟨a, es, h1, h2, h3, h4, h5, h6⟩ := h
  exact ⟨a, es, h1, h2.le hd, h3, by omega, fun e z => by have := h5 e z; omega, h6⟩
theorem RowsR.imp {R R' : V → List Say → Prop} {ks : List (Key × V)} {rs : Rs} (h : RowsR R ks rs) (i : ∀ v L, R v L → R' v L) : RowsR R' ks rs := Paired.mapP h fun _ _ z => ⟨z.1, i _ _ z.2⟩
theorem RowsR.get {R : V → List Say → Prop} {x : Str} {L : List Say} : ∀ {ks : List (Key × V)} {rs : Rs}, RowsR R ks rs → getR rs x = some L → ∃ v, valV ks (.inr x) = some v ∧ R v L
  | _, _, .nil, h => nomatch h
  | (k, v) :: _, (y, L') :: _, .cons h t, e => by
    obtain ⟨h1, h2⟩ := h
    have h1 : k = Sum.inr y := h1
    unfold getR at e
    by_cases c : y = x
    · rw [if_pos c] at e
      cases e
      exact ⟨v, valV_pos (h1.trans (congrArg Sum.inr c)), h2⟩
    · rw [if_neg c] at e
      obtain ⟨u, h3, h4⟩ := RowsR.get (show RowsR R _ _ from t) e
      exact ⟨u, by rw [valV_neg (fun z => c (Sum.inr.inj (h1.symm.trans z)))]; exact h3, h4⟩
theorem RowsR.none {R : V → List Say → Prop} {x : Str} : ∀ {ks : List (Key × V)} {rs : Rs}, RowsR R ks rs → getR rs x = none → valV ks (.inr x) = none
  | _, _, .nil, _ => rfl
  | (k, v) :: _, (y, L') :: _, .cons h t, e => by
    obtain ⟨h1, h2⟩ := h
    have h1 : k = Sum.inr y := h1
    unfold getR at e
    by_cases c : y = x
    · rw [if_pos c] at e; cases e
    · rw [if_neg c] at e
      rw [valV_neg (fun z => c (Sum.inr.inj (h1.symm.trans z)))]
      exact RowsR.none (show RowsR R _ _ from t) e
theorem RowsR.len {R : V → List Say → Prop} {ks : List (Key × V)} {rs : Rs} (h : RowsR R ks rs) : ks.length = rs.length := Paired.length h
theorem putK_cons {p : Key × V} {r : List (Key × V)} {k : Key} {v : V} (nd : ((p :: r).map (·.1)).Nodup) : putK (p :: r) k v = if p.1 = k then (p.1, v) :: r else p :: putK r k v := by
  by_cases c : p.1 = k
  · rw [if_pos c]
    unfold putK
    rw [if_pos (by rw [List.any_cons, decide_eq_true c, Bool.true_or]), List.map_cons, if_pos c]
    refine congrArg _ ?_
    have hn : ∀ q ∈ r, ¬ q.1 = k := fun q hq e => by
      have := (List.nodup_cons.mp nd).1
      exact this (List.mem_map.mpr ⟨q, hq, e.trans c.symm⟩)
    conv => rhs; rw [← List.map_id r]
    exact List.map_congr_left fun q hq => if_neg (hn q hq)
  · rw [if_neg c]
    unfold putK
    rw [List.any_cons, decide_eq_false c, Bool.false_or]
    by_cases e : (r.any fun kv => decide (kv.1 = k)) = true
    · rw [if_pos e, if_pos e, List.map_cons, if_neg c]
    · rw [if_neg e, if_neg e]; rfl
theorem RowsR.keys {R : V → List Say → Prop} : ∀ {ks : List (Key × V)} {rs : Rs}, RowsR R ks rs → ks.map (·.1) = (rs.map (·.1)).map Sum.inr
  | _, _, .nil => rfl
  | (k, v) :: _, (y, L') :: _, .cons h t => by
    have h1 : k = Sum.inr y := h.1
    rw [List.map_cons, List.map_cons, List.map_cons, RowsR.keys (show RowsR R _ _ from t), h1]
theorem nd_keys {l : List Str} (h : l.Nodup) : (l.map (Sum.inr : Str → Key)).Nodup := by
  unfold List.Nodup at h ⊢
  rw [List.pairwise_map]
  exact h.imp fun z e => z (Sum.inr.inj e)
theorem RowsR.put {R : V → List Say → Prop} {x : Str} {v : V} {L : List Say} (hv : R v L) : ∀ {ks : List (Key × V)} {rs : Rs}, RowsR R ks rs → (rs.map (·.1)).Nodup → RowsR R (putK ks (.inr x) v) (putR rs x L)
  | _, _, .nil, _ => .cons ⟨rfl, hv⟩ .nil
  | (k, u) :: ks, (y, L') :: rs, .cons h t, nd => by
    have h1 : k = Sum.inr y := h.1
    have t' : RowsR R ks rs := t
    have hk := RowsR.keys (show RowsR R ((k, u) :: ks) ((y, L') :: rs) from .cons h t)
    rw [putK_cons (by rw [hk]; exact nd_keys nd)]
    unfold putR
    by_cases c : y = x
    · rw [if_pos c, if_pos (h1.trans (congrArg Sum.inr c))]
      exact .cons ⟨h1, hv⟩ t'
    · rw [if_neg c, if_neg (fun z => c (Sum.inr.inj (h1.symm.trans z)))]
      exact .cons h (RowsR.put hv t' (List.nodup_cons.mp nd).2)
theorem RowsR.drop {R : V → List Say → Prop} {x : Str} : ∀ {ks : List (Key × V)} {rs : Rs}, RowsR R ks rs → RowsR R (dropK ks (.inr x)) (dropR rs x)
  | _, _, .nil => .nil
  | (k, u) :: ks, (y, L') :: rs, .cons h t => by
    have h1 : k = Sum.inr y := h.1
    have t' : RowsR R ks rs := t
    unfold dropR
    by_cases c : y = x
    · rw [if_pos c, dropK_pos (h1.trans (congrArg Sum.inr c))]
      exact RowsR.drop t'
    · rw [if_neg c, dropK_neg (fun z => c (Sum.inr.inj (h1.symm.trans z)))]
      exact .cons h (RowsR.drop t')
end
end Bo
set_option Elab.async false
set_option linter.all false
set_option maxRecDepth 100000
set_option maxHeartbeats 4000000
namespace Bo
open PySem L2 PySem.Spec PyProof.Rows

/-- over a dict's items into a new dict -/
theorem dc_items {d : Addr} {od : Obj} {kvs : List (Key × V)} {g : TG} {tt : TT} {tk tv : TE} {vs : List Nat} {σ : L2.St} {H1 : Hp} {D : Addr} {Qd : Hp → Prop} (Pv : Nat → Hp → Prop) (h0 : Pv 0 (upd H1 D (.dK []))) (hl : ∀ i H, i ≤ kvs.length → Pv i H → H d = some (.frz od (.dK kvs)))
    (hs : ∀ i k v T H, kvs[i]? = some (k, v) → Pv i H → H T = none → g (.ref T) (wipe σ vs) (upd H T (.tup [kV k, v])) fun σ2 H2 => wipe σ2 vs = wipe σ vs ∧ tt σ2 H2 fun b H3 =>
      if b = true then tk σ2 H3 fun y H4 => tv σ2 H4 fun z H5 => ∃ kvs' k', y = kV k' ∧ H5 D = some (.dK kvs') ∧ kvs'.length < sizeLine ∧ Pv (i + 1) (upd H5 D (.dK (putK kvs' k' z))) else Pv (i + 1) H3) (hd : ∀ H, Pv kvs.length H → Qd H) :
    ∃ W : Nat → Nat → Hp → Prop, (∃ m, W 0 m (upd H1 D (.dK []))) ∧ ∀ i m H, W i m H →
      ((Iti d od kvs).stop i H ∧ Qd H) ∨ ((Iti d od kvs).go i H ∧ ∃ Nx : Hp → Prop, (∀ H', Nx H' → ∃ m', m' < m ∧ W (i + 1) m' H') ∧ ∀ x H', (Iti d od kvs).yld i H x H' → g x (wipe σ vs) H' fun σ2 H2 => wipe σ2 vs = wipe σ vs ∧ tt σ2 H2 fun b H3 =>
        if b = true then tk σ2 H3 fun y H4 => tv σ2 H4 fun z H5 => ∃ kvs' k', y = kV k' ∧ H5 D = some (.dK kvs') ∧ kvs'.length < sizeLine ∧ Nx (upd H5 D (.dK (putK kvs' k' z))) else Nx H3) := by
  refine ⟨fun i m H => m = kvs.length - i ∧ i ≤ kvs.length ∧ Pv i H, ⟨kvs.length, by simp, Nat.zero_le _, h0⟩, ?_⟩
  rintro i m H ⟨rfl, hi, p⟩
  have q := hl i H hi p
  by_cases hlt : i < kvs.length
  · refine .inr ⟨⟨q, hlt⟩, Pv (i + 1), fun H' p' => ⟨kvs.length - (i + 1), by omega, rfl, hlt, p'⟩, fun x H' y => ?_⟩
    obtain ⟨T, k, v, e1, rfl, e2, rfl⟩ := y
    exact hs i k v T H e1 p e2
  · have e : i = kvs.length := by omega
    subst e
    exact .inl ⟨⟨q, Nat.le_refl _⟩, hd H p⟩
structure HR (CS CO CH : Addr) (d M n : Nat) (S H : Hp) (x : HallD) (rs : Rs) : Prop where
  sH : Same S H
  hs : HallS CH S H x
  ro : RowsR (RowS CS CO d M n S) x.ks rs
  nd : (rs.map (·.1)).Nodup
theorem HallS.same {CH : Addr} {S H H' : Hp} {x : HallD} (h : HallS CH S H x) (s : Same H H') : HallS CH S H' x := by
  obtain ⟨dx, h1⟩ := h.ob
  exact ⟨⟨dx, s _ _ h1⟩, s _ _ h.ro, s _ _ h.don, s _ _ h.und, h.dr, h.ur, h.ne, h.sh, h.sd, h.su⟩
theorem HR.same {CS CO CH : Addr} {d M n : Nat} {S H H' : Hp} {x : HallD} {rs : Rs} (h : HR CS CO CH d M n S H x rs) (s : Same H H') : HR CS CO CH d M n S H' x rs := ⟨h.sH.trans s, h.hs.same s, h.ro, h.nd⟩
structure Deed (CH : Addr) (S H S' H' : Hp) (x x' : HallD) : Prop where
  h : x'.h = x.h
  da : x'.da = x.da
  sol : Sol S H S' H'
  hs : HallS CH S' H' x'
  ex : Exc x H H'
  ua : H x'.ua = none
  us : x'.us = []
  dn : ∃ t dv, x'.dn = x.dn ++ [.ref t] ∧ H' t = some (.tup [dv, .ref x.rd])
def spParts (CS CO CH : Addr) : Sp := fun vs H Q _ => ∃ (d M n : Nat) (S : Hp) (x : HallD) (rs : Rs) (nm : Str) (L : List Say), vs = [.ref x.h, .str nm] ∧ OkName nm ∧ HR CS CO CH d M n S H x rs ∧ getR rs nm = some L ∧
  ∀ (H' : Hp) (a : Addr) (es : List El), Same H H' → ListH CS CO d S a es → flat es = L → wsum es ≤ n → (∀ e ∈ es, e.2 ≤ M ∧ 0 < e.1.length) → L.length ≤ mp → Q (.ref a) H'
def spFree (CS CO CH : Addr) : Sp := fun vs H Q _ => ∃ (d M n : Nat) (S : Hp) (x : HallD) (rs : Rs) (nm : Str), vs = [.ref x.h, .str nm] ∧ OkName nm ∧ HR CS CO CH d M n S H x rs ∧ getR rs nm = none ∧ ∀ H', Same H H' → Q .non H'
def spKeep (CS CO CH : Addr) : Sp := fun vs H Q _ => ∃ (d M n : Nat) (S : Hp) (x : HallD) (rs : Rs) (rr : Addr) (dv : V) (ks : List (Key × V)), vs = [.ref x.h, dv, .ref rr] ∧ d ≤ 8 ∧ Same S H ∧ HallS CH S H x ∧ H rr = some (.dK ks) ∧ S rr = none ∧ RowsR (RowP CS CO d M n S) ks rs ∧ (rs.map (·.1)).Nodup ∧ n ≤ lim ∧
  x.dn.length ≤ 100 ∧ rs.length ≤ 100 ∧ ∀ (H' S' : Hp) (x' : HallD), Deed CH S H S' H' x x' → RowsR (RowS CS CO d M n S') x'.ks rs → Q .non H'
def spHallI (CS CO CH : Addr) : Sp := fun vs H Q _ => ∃ (h dx : Addr), vs = [.ref h] ∧ H h = some (.ins CH dx []) ∧
  ∀ (H' : Hp) (rd da ua : Addr), (∀ b o, b ≠ h → H b = some o → H' b = some o) → H' h = some (.ins CH dx (hallF rd da ua)) → H' rd = some (.dK []) → H' da = some (.lst []) → H' ua = some (.lst []) → da ≠ ua → H rd = none → H da = none → H ua = none → Q .non H'
section
variable {P : Program} {w : World} {K : PySem.W.Frag} {mg : Str → Option Value} {base : Heap} {CS CO CH : Addr}
abbrev sHallI : Stmt := inClass (top 54) 0
theorem scHallI : FnScope ["self"] ["self"] (defScope sHallI) := ⟨rfl, rfl, rfl, by decide +kernel, rfl, by decide +kernel, by decide +kernel⟩
theorem ok_HallI (T : Txt K mg CS CO CH) (R : RawC K mg "Hall" CH "Hall.__init__" sHallI ["self"]) : DnC P w K mg base "Hall" CH 1 ["self"] (spHallI CS CO CH) := by
  refine R.ok scHallI (fun vs H Q E h => ?_) (fun f cdv A outer s H vs Q E hr h => ?_)
  · obtain ⟨h, dx, rfl, _⟩ := h; rfl
  obtain ⟨h, dx, rfl, hh, q⟩ := h
  refine ⟨_, (pss_cons (ps_fld (pv 0) pe_dnewK rfl)
  (pss_cons (ps_fld (pv 0) (pe_lst pa_nil) rfl)
  (pss_one (ps_fld (pv 0) (pe_lst pa_nil) rfl)))), ?_⟩
  refine fun rd hrd => ?_
  have n1 : h ≠ rd := ne_of_none hh hrd
  refine ⟨_, rfl, h, CH, dx, [], rfl, by rw [upd_ne n1]; exact hh, T.cH, T.h1, (by show 0 < 1000; decide), ?_⟩
  refine ⟨Nat.zero_le _, fun da hda => ?_⟩
  have n2 : h ≠ da := ne_of_none upd_same hda
  rw [upd_ne n2.symm] at hda
  have n3 : rd ≠ da := ne_of_none upd_same hda
  rw [upd_ne n3.symm] at hda
  refine ⟨_, rfl, h, CH, dx, _, rfl, by rw [upd_ne n2]; exact upd_same, T.cH, T.h2, (by show 1 < 1000; decide), ?_⟩
  refine ⟨Nat.zero_le _, fun ua hua => ?_⟩
  have n4 : h ≠ ua := ne_of_none upd_same hua
  rw [upd_ne n4.symm] at hua
  have n5 : da ≠ ua := ne_of_none upd_same hua
  rw [upd_ne n5.symm, upd_ne n4.symm] at hua
  have n6 : rd ≠ ua := ne_of_none upd_same hua
  rw [upd_ne n6.symm] at hua
  refine ⟨_, rfl, h, CH, dx, _, rfl, by rw [upd_ne n4]; exact upd_same, T.cH, T.h3, (by rw [pf_nil, pf_neg (by decide +kernel), pf_nil]; show 2 < 1000; decide), ?_⟩
  rw [hf_make]
  refine q _ rd da ua (fun b o e1 e2 => ?_) upd_same ?_ ?_ ?_ n5 hrd hda hua
  · rw [upd_ne e1, upd_ne (ne_of_none e2 hua), upd_ne e1, upd_ne (ne_of_none e2 hda), upd_ne e1, upd_ne (ne_of_none e2 hrd)]; exact e2
  · rw [upd_ne n1.symm, upd_ne n6, upd_ne n1.symm, upd_ne n3, upd_ne n1.symm, upd_same]
  · rw [upd_ne n2.symm, upd_ne n5, upd_ne n2.symm, upd_same]
  · rw [upd_ne n4.symm, upd_same]
abbrev sHparts : Stmt := inClass (top 54) 2
theorem scHparts : FnScope ["self", "name"] ["self", "name"] (defScope sHparts) := ⟨rfl, rfl, rfl, by decide +kernel, rfl, by decide +kernel, by decide +kernel⟩
theorem ok_hparts (T : Txt K mg CS CO CH) (R : RawM K CH "s10_parts" "Hall.s10_parts" sHparts ["self", "name"]) (D_need_name : Dn P w K mg base "need_name" 2 ["thing"] spNeedName) : DnM P w K mg base CH "s10_parts" 3 ["self", "name"] (spParts CS CO CH) := by
  refine R.ok scHparts (fun vs H Q E h => ?_) (fun f cdv A outer s H vs Q E hr h => ?_)
  · obtain ⟨d, M, n, S, x, rs, nm, L, rfl, _⟩ := h; rfl
  obtain ⟨d, M, n, S, x, rs, nm, L, rfl, hnm, hh, hg, q⟩ := h
  have hu := hu_of hr
  refine ⟨_, (pss_cons (ps_expr (pe_callD D_need_name (hr.mono (by omega)) rfl (pa_cons (pv 1) pa_nil)))
  (pss_cons (ps_if (pt_cmp (pc_dnotin hu (pv 1) (pe_fld (pv 0) rfl))) (pss_one ps_never) pss_nil)
  (pss_one (ps_ret (pe_dget hu (pe_fld (pv 0) rfl) (pv 1) (fun _ _ => rfl)))))), ?_⟩
  refine ⟨_, rfl, nm, rfl, hnm, fun H1 s1 => ?_⟩
  have hh1 := hh.same s1
  obtain ⟨dx, hob⟩ := hh1.hs.ob
  obtain ⟨v, hv, a, es, rfl, h2, h3, h4, h5, h6⟩ := hh1.ro.get hg
  refine ⟨_, rfl, _, rfl, x.h, CH, dx, _, _, rfl, hob, T.cH, T.h1, hf_rows, x.rd, _, rfl, DGet.k (k := Sum.inr nm) hh1.hs.ro, false, ?_, iteF ?_⟩
  · rw [hv]; rfl
  refine ⟨_, rfl, x.h, CH, dx, _, _, rfl, hob, T.cH, T.h1, hf_rows, _, rfl, x.rd, .ref a, rfl, ?_, q H1 a es s1 h2 h3 h4 h5 h6⟩
  rw [← hv]
  exact DGet.k (k := Sum.inr nm) hh1.hs.ro
abbrev sHfree : Stmt := inClass (top 54) 3
theorem scHfree : FnScope ["self", "name"] ["self", "name"] (defScope sHfree) := ⟨rfl, rfl, rfl, by decide +kernel, rfl, by decide +kernel, by decide +kernel⟩
theorem ok_hfree (T : Txt K mg CS CO CH) (R : RawM K CH "s10_free" "Hall.s10_free" sHfree ["self", "name"]) (D_need_name : Dn P w K mg base "need_name" 2 ["thing"] spNeedName) : DnM P w K mg base CH "s10_free" 3 ["self", "name"] (spFree CS CO CH) := by
  refine R.ok scHfree (fun vs H Q E h => ?_) (fun f cdv A outer s H vs Q E hr h => ?_)
  · obtain ⟨d, M, n, S, x, rs, nm, rfl, _⟩ := h; rfl
  obtain ⟨d, M, n, S, x, rs, nm, rfl, hnm, hh, hg, q⟩ := h
  have hu := hu_of hr
  refine ⟨_, (pss_cons (ps_expr (pe_callD D_need_name (hr.mono (by omega)) rfl (pa_cons (pv 1) pa_nil)))
  (pss_one (ps_if (pt_cmp (pc_din hu (pv 1) (pe_fld (pv 0) rfl))) (pss_one ps_never) pss_nil))), ?_⟩
  refine ⟨_, rfl, nm, rfl, hnm, fun H1 s1 => ?_⟩
  have hh1 := hh.same s1
  obtain ⟨dx, hob⟩ := hh1.hs.ob
  have hv := hh1.ro.none hg
  refine ⟨_, rfl, _, rfl, x.h, CH, dx, _, _, rfl, hob, T.cH, T.h1, hf_rows, x.rd, _, rfl, DGet.k (k := Sum.inr nm) hh1.hs.ro, false, ?_, iteF (q H1 s1)⟩
  rw [hv]; rfl
abbrev sHkeep : Stmt := inClass (top 54) 4
theorem scHkeep : FnScope ["self", "deed", "rows", "name", "parts"] ["self", "deed", "rows"] (defScope sHkeep) := ⟨rfl, rfl, rfl, by decide +kernel, rfl, by decide +kernel, by decide +kernel⟩
theorem ok_hkeep (T : Txt K mg CS CO CH) (R : RawM K CH "s10_keep" "Hall.s10_keep" sHkeep ["self", "deed", "rows"]) (A_slim : ∀ d, d ≤ 8 → Dn P w K mg base "slim" 9 ["parts"] (spSlim CS CO d)) : DnM P w K mg base CH "s10_keep" 10 ["self", "deed", "rows"] (spKeep CS CO CH) := by
  refine R.ok scHkeep (fun vs H Q E h => ?_) (fun f cdv A outer s H vs Q E hr h => ?_)
  · obtain ⟨d, M, n, S, x, rs, rr, dv, ks, rfl, _⟩ := h; rfl
  obtain ⟨d, M, n, S, x, rs, rr, dv, ks, rfl, hd, hS, hs, hrr, hSr, hro, hnd, hn, hdl, hrl, q⟩ := h
  have D_slim := A_slim d hd
  refine ⟨_, (pss_cons (ps_expr (pe_bm PySem.F.plainAttrs_list PySem.F.slot_list_append PySem.F.type_list_append mt_append (pe_fld (pv 0) rfl) (pa_cons (pe_tup (pa_cons (pv 1) (pa_cons (pe_fld (pv 0) rfl) pa_nil))) pa_nil)))
  (pss_cons (ps_fld (pv 0) (pe_lst pa_nil) rfl)
  (pss_one (ps_fld (pv 0) (pe_lock (pe_dc (own := [("name", 3), ("parts", 4)]) (g := gTup K 2 (gCons (gName 3) (gCons (gName 4) gNil))) (tt := tYes) rfl scHkeep.nd (pi_items (pv 2)) (blkOk_by (own := [("name", 3), ("parts", 4)]) (N := ["self", "deed", "rows", "name", "parts"]) (sc := defScope sHkeep) (by decide +kernel)) (fun _ _ _ _ _ => pg_tup rfl (pgs_cons (pg_name (i := 3) scHkeep.nd rfl (Or.inl rfl)) (pgs_cons (pg_name (i := 4) scHkeep.nd rfl (Or.inl rfl)) pgs_nil))) (fun _ _ _ _ _ => pts_nil) (fun _ _ _ _ _ => (pv 3)) (fun _ _ _ _ _ => (pe_callD D_slim (hr.mono (by omega)) rfl (pa_cons (pv 4) pa_nil))))) rfl)))), ?_⟩
  obtain ⟨dx, hob⟩ := hs.ob
  have two : (2 : Nat) ≤ sizeLine := by rw [sizeLine_eq]; decide
  refine ⟨_, rfl, x.h, CH, dx, _, _, rfl, hob, T.cH, T.h2, hf_done, .inl ⟨rfl, _, SqL.of hs.don⟩, _, rfl, _, rfl, x.h, CH, dx, _, _, rfl, hob, T.cH, T.h1, hf_rows, two, fun t ht0 => ?_⟩
  have st := same_new ht0 (.tup [dv, .ref x.rd])
  refine ⟨x.da, _, _, rfl, rfl, st _ _ hs.don, (by rw [sizeLine_eq]; omega), ?_⟩
  have nhd : x.h ≠ x.da := ne_of hob hs.don (fun z => nomatch z)
  have nhu : x.h ≠ x.ua := ne_of hob hs.und (fun z => nomatch z)
  have nrh : rr ≠ x.h := ne_of hrr hob (fun z => nomatch z)
  have nrd : rr ≠ x.da := ne_of hrr hs.don (fun z => nomatch z)
  have ntd : t ≠ x.da := ne_of upd_same (st _ _ hs.don) (fun z => nomatch z)
  have nth : t ≠ x.h := ne_of upd_same (st _ _ hob) (fun z => nomatch z)
  have o1 := ((Sol.refl hS).new ht0 (.tup [dv, .ref x.rd])).write hs.sd (.lst (x.dn ++ [.ref t]))
  generalize hH1 : upd (upd H t (.tup [dv, .ref x.rd])) x.da (.lst (x.dn ++ [.ref t])) = H1 at o1 ⊢
  have k1 : ∀ b o, b ≠ x.da → H b = some o → H1 b = some o := fun b o e1 e2 => by rw [← hH1, upd_ne e1]; exact st _ _ e2
  have g1 : H1 x.da = some (.lst (x.dn ++ [.ref t])) := by rw [← hH1, upd_same]
  have gt : H1 t = some (.tup [dv, .ref x.rd]) := by rw [← hH1, upd_ne ntd, upd_same]
  have hob1 := k1 _ _ nhd hob
  -- self.s10_undone = []
  refine ⟨Nat.zero_le _, fun ua hua => ?_⟩
  have nhu2 : x.h ≠ ua := ne_of_none hob1 hua
  refine ⟨_, rfl, x.h, CH, dx, _, rfl, by rw [upd_ne nhu2]; exact hob1, T.cH, T.h3, (by show 3 < 1000; decide), ?_⟩
  rw [hf_put_undone]
  have o2 := (o1.new hua (.lst [])).write hs.sh (.ins CH dx (hallF x.rd x.da ua))
  have Hua : H ua = none := by
    cases z : H ua with
    | none => rfl
    | some o =>
      have e : ua ≠ x.da := fun y => by rw [y, g1] at hua; cases hua
      rw [k1 _ _ e z] at hua; cases hua
  generalize hH2 : upd (upd H1 ua (.lst [])) x.h (.ins CH dx (hallF x.rd x.da ua)) = H2 at o2 ⊢
  have k2 : ∀ b o, b ≠ x.h → H1 b = some o → H2 b = some o := fun b o e1 e2 => by rw [← hH2, upd_ne e1, upd_ne (ne_of_none e2 hua)]; exact e2
  have hob2 : H2 x.h = some (.ins CH dx (hallF x.rd x.da ua)) := by rw [← hH2, upd_same]
  have hua2 : H2 ua = some (.lst []) := by rw [← hH2, upd_ne nhu2.symm, upd_same]
  have hrr2 := k2 _ _ nrh (k1 _ _ nrd hrr)
  -- the new rows
  refine ⟨rr, _, hrr2, True.intro, fun od => ?_⟩
  refine ⟨_, rfl, rr, od, ks, rfl, upd_same, fun D hD => ?_⟩
  have nDr : D ≠ rr := fun z => by rw [z, upd_same] at hD; cases hD
  have HD2 : H2 D = none := by rw [upd_ne nDr] at hD; exact hD
  have HD0 : H D = none := by
    cases z : H D with
    | none => rfl
    | some o =>
      have e1 : D ≠ x.da := fun y => by
        have := k2 _ _ nhd.symm g1
        rw [← y, HD2] at this; cases this
      have e2 : D ≠ x.h := fun y => by rw [y, hob2] at HD2; cases HD2
      have := k2 _ _ e2 (k1 _ _ e1 z)
      rw [HD2] at this; cases this
  have SD : S D = none := hS.free HD0
  have oS := (o2.write hSr (.frz od (.dK ks))).new hD (.dK [])
  obtain ⟨Hs, hHs⟩ : ∃ z, upd (upd H2 rr (.frz od (.dK ks))) D (.dK []) = z := ⟨_, rfl⟩
  rw [hHs] at oS
  have ks_ : ∀ b o, b ≠ rr → H2 b = some o → Hs b = some o := fun b o e1 e2 => by rw [← hHs, upd_ne (ne_of_none e2 HD2), upd_ne e1]; exact e2
  have hDs : Hs D = some (.dK []) := by rw [← hHs, upd_same]
  have hrs : Hs rr = some (.frz od (.dK ks)) := by rw [← hHs, upd_ne nDr.symm, upd_same]
  refine dc_items (fun i H' => ∃ (S1 : Hp) (kv : List (Key × V)), H' D = some (.dK kv) ∧ Sol S Hs S1 H' ∧ (∀ b o, b ≠ D → Hs b = some o → H' b = some o) ∧ RowsR (RowS CS CO d M n S1) kv (rs.take i))
    ?_ (fun i H' _ ⟨_, _, _, _, g, _⟩ => g _ _ nDr.symm hrs) ?_ ?_
  · rw [hHs]
    exact ⟨S, [], hDs, Sol.refl oS.ok, fun b o _ e => e, .nil⟩
  · rintro i k v T' H' hi ⟨S1, kv, hDk, o1', g', hkv⟩ hT
    obtain ⟨⟨nm, L⟩, hri, hke, a, es, hv, hL, hfl, hw, hM, hmp⟩ := pget hro hi
    obtain rfl : k = Sum.inr nm := hke
    obtain rfl : v = .ref a := hv
    have sT := same_new hT (.tup [kV (Sum.inr nm), .ref a])
    refine ⟨T', _, rfl, SqT.of upd_same, rfl, _, _, rfl, _, _, rfl, rfl, rfl, tyes ?_⟩
    refine ⟨_, rfl, _, rfl, a, M, es, S1, rfl, o1'.ok.trans sT, hL.same o1'.up, (by omega), hM, fun H5 S5 r es' s5 o5 hL5 ef ew eM => ?_⟩
    have hil := (List.getElem?_eq_some_iff.mp hri).1
    have kvl := hkv.len
    rw [List.length_take] at kvl
    have hD5 := s5 _ _ (sT _ _ hDk)
    have S1D : S1 D = none := o1'.no _ SD (by rw [hDs]; exact fun z => nomatch z)
    have o15 := (o1'.same sT).trans o5
    have S5D : S5 D = none := o15.no _ SD (by rw [hDs]; exact fun z => nomatch z)
    refine ⟨kv, .inr nm, rfl, hD5, (by rw [sizeLine_eq]; omega), S5, _, upd_same, o15.write S5D _, fun b o e1 e2 => ?_, ?_⟩
    · rw [upd_ne e1]
      exact s5 _ _ (sT _ _ (g' _ _ e1 e2))
    · have hnone : getR (rs.take i) nm = none := by
        have key : ∀ (l : Rs), nm ∉ l.map (·.1) → getR l nm = none := fun l => by
          induction l with
          | nil => intro _; rfl
          | cons p r ih =>
            obtain ⟨y, L'⟩ := p
            intro z
            rw [List.map_cons, List.mem_cons, not_or] at z
            unfold getR
            rw [if_neg (fun e => z.1 e.symm)]
            exact ih z.2
        refine key _ fun z => ?_
        have hnd2 := hnd
        rw [← List.take_append_drop i rs, List.map_append, drop_cons hri, List.map_cons] at hnd2
        have := (List.nodup_append.mp hnd2).2.2 nm z nm List.mem_cons_self
        exact this rfl
      rw [putK_new _ (hkv.none hnone), take_succ hri]
      refine papp (Paired.mapP hkv fun _ _ z => ⟨z.1, z.2.same o5.up⟩) (pone ⟨rfl, r, es', rfl, hL5, by rw [ef]; exact hfl, by omega, eM, hmp⟩)
  · rintro H' ⟨S1, kv, hDk, oL, g', hkv⟩
    have el : ks.length = rs.length := Paired.length hro
    rw [el, List.take_length] at hkv
    refine ⟨g' _ _ nDr.symm hrs, ?_⟩
    have oA := oS.trans oL
    have Sr1 : S1 rr = none := oA.no _ hSr (by rw [hrr]; exact fun z => nomatch z)
    have Sh1 : S1 x.h = none := oA.no _ hs.sh (by rw [hob]; exact fun z => nomatch z)
    have Sd1 : S1 x.da = none := oA.no _ hs.sd (by rw [hs.don]; exact fun z => nomatch z)
    have Sua : S ua = none := hS.free Hua
    have nrua : ua ≠ rr := fun z => by rw [z, hrr] at Hua; cases Hua
    have hua3 := ks_ _ _ nrua hua2
    have Su1 : S1 ua = none := oL.no _ Sua (by rw [hua3]; exact fun z => nomatch z)
    have nhD : x.h ≠ D := ne_of_none hob2 HD2
    have hob3 := g' _ _ nhD (ks_ _ _ nrh.symm hob2)
    refine ⟨_, rfl, x.h, CH, dx, _, rfl, by rw [upd_ne nrh.symm]; exact hob3, T.cH, T.h1, (by show 3 < 1000; decide), ?_⟩
    rw [hf_put_rows]
    have oF := (oA.write Sr1 (.dK ks)).write Sh1 (.ins CH dx (hallF D x.da ua))
    have chain : ∀ b o, b ≠ x.h → b ≠ x.da → b ≠ rr → H b = some o → upd (upd H' rr (.dK ks)) x.h (.ins CH dx (hallF D x.da ua)) b = some o := fun b o e1 e2 e3 e4 => by
      rw [upd_ne e1, upd_ne e3]
      exact g' _ _ (ne_of_none e4 HD0) (ks_ _ _ e3 (k2 _ _ e1 (k1 _ _ e2 e4)))
    have g1' := k2 _ _ nhd.symm g1
    have ndaD : x.da ≠ D := ne_of_none g1' HD2
    have nuaD : ua ≠ D := ne_of_none hua2 HD2
    have ndu : x.da ≠ ua := ne_of_none g1 hua
    refine q _ S1 { h := x.h, rd := D, da := x.da, ua := ua, dn := x.dn ++ [.ref t], us := [], ks := kv } ⟨rfl, rfl, oF, ⟨⟨dx, upd_same⟩, ?_, ?_, ?_, ?_, (fun v z => nomatch z), ndu, Sh1, Sd1, Su1⟩, fun b o e1 e2 _ e4 => ?_, Hua, rfl, t, dv, rfl, ?_⟩ hkv
    · show upd (upd H' rr (.dK ks)) x.h _ D = some (.dK kv)
      rw [upd_ne nhD.symm, upd_ne nDr]; exact hDk
    · show upd (upd H' rr (.dK ks)) x.h _ x.da = some (.lst (x.dn ++ [.ref t]))
      rw [upd_ne nhd.symm, upd_ne nrd.symm]; exact g' _ _ ndaD (ks_ _ _ nrd.symm g1')
    · show upd (upd H' rr (.dK ks)) x.h _ ua = some (.lst [])
      rw [upd_ne nhu2.symm, upd_ne nrua]; exact g' _ _ nuaD hua3
    · intro v z
      rcases List.mem_append.mp z with z | z
      · exact hs.dr v z
      · exact ⟨t, List.mem_singleton.mp z⟩
    · by_cases e3 : b = rr
      · subst e3
        rw [upd_ne e1, upd_same, ← e4, hrr]
      · exact chain b o e1 e2 e3 e4
    · have ntr : t ≠ rr := fun z => by rw [z, hrr] at ht0; cases ht0
      have gt2 := k2 _ _ nth gt
      rw [upd_ne nth, upd_ne ntr]
      exact g' _ _ (ne_of_none gt2 HD2) (ks_ _ _ ntr gt2)
end
end Bo
set_option Elab.async false
set_option linter.all false
set_option maxRecDepth 100000
set_option maxHeartbeats 4000000
namespace Bo
open PySem L2 PySem.Spec PyProof.Rows

theorem HallS.sol {CH : Addr} {S H S' H' : Hp} {x : HallD} (h : HallS CH S H x) (o : Sol S H S' H') (s : Same H H') : HallS CH S' H' x := by
  obtain ⟨dx, h1⟩ := h.ob
  exact ⟨⟨dx, s _ _ h1⟩, s _ _ h.ro, s _ _ h.don, s _ _ h.und, h.dr, h.ur, h.ne, o.no _ h.sh (by rw [h1]; exact fun z => nomatch z), o.no _ h.sd (by rw [h.don]; exact fun z => nomatch z), o.no _ h.su (by rw [h.und]; exact fun z => nomatch z)⟩
theorem HR.sol {CS CO CH : Addr} {d M n : Nat} {S H S' H' : Hp} {x : HallD} {rs : Rs} (h : HR CS CO CH d M n S H x rs) (o : Sol S H S' H') (s : Same H H') : HR CS CO CH d M n S' H' x rs :=
  ⟨o.ok, h.hs.sol o s, h.ro.imp fun _ _ z => z.same o.up, h.nd⟩
theorem Deed.pre {CH : Addr} {S H S2 H2 S' H' : Hp} {x x' : HallD} (o : Sol S H S2 H2) (s : Same H H2) (d : Deed CH S2 H2 S' H' x x') : Deed CH S H S' H' x x' :=
  ⟨d.h, d.da, o.trans d.sol, d.hs, fun b ob e1 e2 e3 e4 => d.ex b ob e1 e2 e3 (s _ _ e4), s.free d.ua, d.us, d.dn⟩
/-- the rows behind a deed -/
abbrev After (CS CO CH : Addr) (d M n : Nat) (S H : Hp) (x : HallD) (rs : Rs) (Q : VK) : Prop := ∀ (H' S' : Hp) (x' : HallD), Deed CH S H S' H' x x' → RowsR (RowS CS CO d M n S') x'.ks rs → Q .non H'
def spBegin (CS CO CH : Addr) : Sp := fun vs H Q _ => ∃ (d M n : Nat) (S : Hp) (x : HallD) (rs : Rs) (nm : Str) (a : Addr) (es : List El), vs = [.ref x.h, .str nm, .ref a] ∧ OkName nm ∧ HR CS CO CH d M n S H x rs ∧ d ≤ 8 ∧ getR rs nm = none ∧ LongH d S a es ∧
  wsum es ≤ 1000 ∧ (flat es).length ≤ mp ∧ wsum es ≤ n ∧ wsum es ≤ M ∧ n ≤ lim ∧ x.dn.length ≤ 100 ∧ rs.length ≤ 99 ∧ After CS CO CH d M n S H x (putR rs nm (flat es)) Q
def spStepIn (CS CO CH : Addr) : Sp := fun vs H Q _ => ∃ (d M n : Nat) (S : Hp) (x : HallD) (rs : Rs) (nm : Str) (L : List Say) (k : Nat) (sa : Addr) (z : Say), vs = [.ref x.h, .str nm, .int k, .ref sa] ∧ OkName nm ∧ HR CS CO CH d M n S H x rs ∧ d ≤ 8 ∧ getR rs nm = some L ∧ k ≤ L.length ∧ SayAt S sa z ∧
  L.length + 1 ≤ mp ∧ 1 ≤ d ∧ 1 ≤ M ∧ 2 * (n + d * M) + 1 ≤ lim ∧ x.dn.length ≤ 100 ∧ rs.length ≤ 99 ∧ After CS CO CH d M (2 * (n + d * M) + 1) S H x (putR rs nm (L.take k ++ [z] ++ L.drop k)) Q
def spGo (CS CO CH : Addr) : Sp := fun vs H Q _ => ∃ (d M n : Nat) (S : Hp) (x : HallD) (rs : Rs) (nm : Str) (L : List Say) (k : Nat), vs = [.ref x.h, .str nm, .int k] ∧ OkName nm ∧ HR CS CO CH d M n S H x rs ∧ d ≤ 8 ∧ getR rs nm = some L ∧ k < L.length ∧
  2 * (n + d * M) + 1 ≤ lim ∧ x.dn.length ≤ 100 ∧ rs.length ≤ 99 ∧ After CS CO CH d M (2 * (n + d * M) + 1) S H x (putR rs nm (L.take k ++ L.drop (k + 1))) Q
def spResay (CS CO CH : Addr) : Sp := fun vs H Q _ => ∃ (d M n : Nat) (S : Hp) (x : HallD) (rs : Rs) (nm : Str) (L : List Say) (k : Nat) (sa : Addr) (z : Say), vs = [.ref x.h, .str nm, .int k, .ref sa] ∧ OkName nm ∧ HR CS CO CH d M n S H x rs ∧ d ≤ 8 ∧ getR rs nm = some L ∧ k < L.length ∧ SayAt S sa z ∧
  1 ≤ d ∧ 1 ≤ M ∧ 2 * (n + d * M) + 1 ≤ lim ∧ x.dn.length ≤ 100 ∧ rs.length ≤ 99 ∧ After CS CO CH d M (2 * (n + d * M) + 1) S H x (putR rs nm (L.take k ++ [z] ++ L.drop (k + 1))) Q
def spCut (CS CO CH : Addr) : Sp := fun vs H Q _ => ∃ (d M n : Nat) (S : Hp) (x : HallD) (rs : Rs) (nm nm2 : Str) (L : List Say) (k : Nat), vs = [.ref x.h, .str nm, .int k, .str nm2] ∧ OkName nm ∧ OkName nm2 ∧ HR CS CO CH d M n S H x rs ∧ d ≤ 8 ∧ getR rs nm = some L ∧ getR rs nm2 = none ∧ k ≤ L.length ∧
  n + d * M ≤ lim ∧ x.dn.length ≤ 100 ∧ rs.length ≤ 90 ∧ After CS CO CH d M (n + d * M) S H x (putR (putR rs nm (L.take k)) nm2 (L.drop k)) Q
def spJoin (CS CO CH : Addr) : Sp := fun vs H Q _ => ∃ (d M n : Nat) (S : Hp) (x : HallD) (rs : Rs) (nm nm2 : Str) (L L2 : List Say), vs = [.ref x.h, .str nm, .str nm2] ∧ OkName nm ∧ OkName nm2 ∧ nm ≠ nm2 ∧ HR CS CO CH d M n S H x rs ∧ d ≤ 8 ∧ getR rs nm = some L ∧ getR rs nm2 = some L2 ∧ L.length + L2.length ≤ mp ∧
  2 * n ≤ lim ∧ x.dn.length ≤ 100 ∧ rs.length ≤ 99 ∧ After CS CO CH d M (2 * n) S H x (dropR (putR rs nm (L ++ L2)) nm2) Q
def spOver (CS CO CH : Addr) : Sp := fun vs H Q _ => ∃ (d M n : Nat) (S : Hp) (x : HallD) (rs : Rs) (nm : Str) (L : List Say) (m : Nat), vs = [.ref x.h, .str nm, .int m] ∧ OkName nm ∧ HR CS CO CH d M n S H x rs ∧ d ≤ 7 ∧ getR rs nm = some L ∧ m ≤ big ∧ L.length * m ≤ mp ∧
  n + 1 ≤ lim ∧ x.dn.length ≤ 100 ∧ rs.length ≤ 99 ∧ After CS CO CH (d + 1) (M + n + 1) (n + 1) S H x (putR rs nm (rep m L)) Q
def spTurn (CS CO CH : Addr) : Sp := fun vs H Q _ => ∃ (d M n : Nat) (S : Hp) (x : HallD) (rs : Rs) (nm : Str) (L : List Say), vs = [.ref x.h, .str nm] ∧ OkName nm ∧ HR CS CO CH d M n S H x rs ∧ d ≤ 8 ∧ getR rs nm = some L ∧
  n ≤ lim ∧ x.dn.length ≤ 100 ∧ rs.length ≤ 99 ∧ After CS CO CH d M n S H x (putR rs nm L.reverse) Q
theorem mp_big : mp ≤ big := by decide
theorem putR_nd {rs : Rs} {nm : Str} {L : List Say} : (rs.map (·.1)).Nodup → ((putR rs nm L).map (·.1)).Nodup := by
  have key : ∀ (rs : Rs) (y : Str), y ∈ (putR rs nm L).map (·.1) → y = nm ∨ y ∈ rs.map (·.1) := fun rs => by
    induction rs with
    | nil => intro y h; exact .inl (List.mem_singleton.mp h)
    | cons p r ih =>
      obtain ⟨q, L'⟩ := p
      intro y h
      unfold putR at h
      by_cases c : q = nm
      · rw [if_pos c] at h; exact .inr h
      · rw [if_neg c] at h
        rcases List.mem_cons.mp h with h | h
        · exact .inr (List.mem_cons.mpr (.inl h))
        · rcases ih y h with h | h
          · exact .inl h
          · exact .inr (List.mem_cons_of_mem _ h)
  induction rs with
  | nil => intro _; exact List.nodup_cons.mpr ⟨(fun z => nomatch z), List.nodup_nil⟩
  | cons p r ih =>
    obtain ⟨q, L'⟩ := p
    intro h
    obtain ⟨h1, h2⟩ := List.nodup_cons.mp h
    unfold putR
    by_cases c : q = nm
    · rw [if_pos c]; exact h
    · rw [if_neg c]
      refine List.nodup_cons.mpr ⟨fun z => ?_, ih h2⟩
      rcases key r q z with z | z
      · exact c z
      · exact h1 z
theorem putR_len (rs : Rs) (nm : Str) (L : List Say) : (putR rs nm L).length ≤ rs.length + 1 := by
  induction rs with
  | nil => exact Nat.le_refl 1
  | cons p r ih =>
    obtain ⟨q, L'⟩ := p
    unfold putR
    split
    · exact Nat.le_succ _
    · exact Nat.succ_le_succ ih
theorem keep_of {CS CO CH : Addr} {d0 M0 n0 d M n : Nat} {S H S3 H3 : Hp} {x : HallD} {rs0 rs : Rs} {rr : Addr} {dv : V} {ks : List (Key × V)} {Q : VK} {E : XK} (hh : HR CS CO CH d0 M0 n0 S H x rs0) (s : Same H H3) (o : Sol S H S3 H3) (hrr : H3 rr = some (.dK ks)) (Srr : S3 rr = none)
    (ro : RowsR (RowP CS CO d M n S3) ks rs) (nd : (rs.map (·.1)).Nodup) (hd : d ≤ 8) (hn : n ≤ lim) (hdl : x.dn.length ≤ 100) (hrl : rs.length ≤ 100) (q : After CS CO CH d M n S H x rs Q) : spKeep CS CO CH [.ref x.h, dv, .ref rr] H3 Q E :=
  ⟨d, M, n, S3, x, rs, rr, dv, ks, rfl, hd, o.ok, hh.hs.sol o s, hrr, Srr, ro, nd, hn, hdl, hrl, fun H6 S6 x' de hro => q H6 S6 x' (Deed.pre o s de) hro⟩
theorem dropR_nd {rs : Rs} {nm : Str} : (rs.map (·.1)).Nodup → ((dropR rs nm).map (·.1)).Nodup := by
  have key : ∀ (rs : Rs) (y : Str), y ∈ (dropR rs nm).map (·.1) → y ∈ rs.map (·.1) := fun rs => by
    induction rs with
    | nil => intro y h; exact h
    | cons p r ih =>
      obtain ⟨q, L'⟩ := p
      intro y h
      unfold dropR at h
      by_cases c : q = nm
      · rw [if_pos c] at h; exact List.mem_cons_of_mem _ (ih y h)
      · rw [if_neg c] at h
        rcases List.mem_cons.mp h with h | h
        · exact List.mem_cons.mpr (.inl h)
        · exact List.mem_cons_of_mem _ (ih y h)
  induction rs with
  | nil => intro h; exact h
  | cons p r ih =>
    obtain ⟨q, L'⟩ := p
    intro h
    obtain ⟨h1, h2⟩ := List.nodup_cons.mp h
    unfold dropR
    by_cases c : q = nm
    · rw [if_pos c]; exact ih h2
    · rw [if_neg c]
      exact List.nodup_cons.mpr ⟨fun z => h1 (key r q z), ih h2⟩
theorem dropR_len (rs : Rs) (nm : Str) : (dropR rs nm).length ≤ rs.length := by
  induction rs with
  | nil => exact Nat.le_refl 0
  | cons p r ih =>
    obtain ⟨q, L'⟩ := p
    unfold dropR
    split
    · exact Nat.le_succ_of_le ih
    · exact Nat.succ_le_succ ih
theorem nat_in {d M n : Nat} (h : n + d * M ≤ lim) : n ≤ lim := Nat.le_trans (Nat.le_add_right _ _) h
/-- a method's name is no attribute of a hall -/
theorem hno {r d u : Addr} {x : Str} (h : x ≠ "s10_rows" ∧ x ≠ "s10_done" ∧ x ≠ "s10_undone") : (hallF r d u).lookup x = none := hf_no h.1 h.2.1 h.2.2
section
variable {P : Program} {w : World} {K : PySem.W.Frag} {mg : Str → Option Value} {base : Heap} {CS CO CH : Addr}
abbrev sHbegin : Stmt := inClass (top 54) 5
theorem scHbegin : FnScope ["self", "name", "long", "parts", "rows"] ["self", "name", "long"] (defScope sHbegin) := ⟨rfl, rfl, rfl, by decide +kernel, rfl, by decide +kernel, by decide +kernel⟩
theorem ok_hbegin (T : Txt K mg CS CO CH) (R : RawM K CH "begin" "Hall.begin" sHbegin ["self", "name", "long"]) (D_hfree : DnM P w K mg base CH "s10_free" 3 ["self", "name"] (spFree CS CO CH)) (D_hkeep : DnM P w K mg base CH "s10_keep" 10 ["self", "deed", "rows"] (spKeep CS CO CH))
    (A_parts_of : ∀ d, d ≤ 8 → Dn P w K mg base "parts_of" 22 ["long"] (spPartsOf CS CO d)) : DnM P w K mg base CH "begin" 23 ["self", "name", "long"] (spBegin CS CO CH) := by
  refine R.ok scHbegin (fun vs H Q E h => ?_) (fun f cdv A outer s H vs Q E hr h => ?_)
  · obtain ⟨d, M, n, S, x, rs, nm, a, es, rfl, _⟩ := h; rfl
  obtain ⟨d, M, n, S, x, rs, nm, a, es, rfl, hnm, hh, hd, hg, hL, hw, hmp, hwn, hwM, hn, hdl, hrl, q⟩ := h
  have hu := hu_of hr
  have D_parts_of := A_parts_of d hd
  refine ⟨_, (pss_cons (ps_expr (pe_methD (pv 0) T.cH D_hfree (hr.mono (by omega)) (pa_cons (pv 1) pa_nil)))
  (pss_cons (ps_set (i := 3) scHbegin.nd rfl (Or.inl rfl) (pe_callD D_parts_of (hr.mono (by omega)) rfl (pa_cons (pv 2) pa_nil)))
  (pss_cons (ps_set (i := 4) scHbegin.nd rfl (Or.inl rfl) (pe_callTy call_dictD rfl T.b_dict boot_dict (pa_cons (pe_fld (pv 0) rfl) pa_nil)))
  (pss_cons (ps_dput hu (pv 4) (pv 1) (pv 3) rfl)
  (pss_one (ps_expr (pe_methD (pv 0) T.cH D_hkeep (hr.mono (by omega)) (pa_cons (pe_tup (pa_cons pe_str (pa_cons (pv 1) (pa_cons (pv 3) pa_nil)))) (pa_cons (pv 4) pa_nil))))))))), ?_⟩
  obtain ⟨dx, hob⟩ := hh.hs.ob
  refine ⟨_, rfl, x.h, dx, _, rfl, hob, hf_no (by decide +kernel) (by decide +kernel) (by decide +kernel), _, rfl, d, M, n, S, x, rs, nm, rfl, hnm, hh, hg, fun H1 s1 => ?_⟩
  refine ⟨_, rfl, a, es, S, rfl, hh.sH.trans s1, hL, hw, hmp, fun H2 S2 r s2 o2 hL2 => ?_⟩
  have s12 := s1.trans s2
  have o12 : Sol S H S2 H2 := ((Sol.refl hh.sH).same s1).trans o2
  have hh2 := hh.sol o12 s12
  obtain ⟨dx2, hob2⟩ := hh2.hs.ob
  refine ⟨_, rfl, x.h, CH, dx2, _, _, rfl, hob2, T.cH, T.h1, hf_rows, x.rd, x.ks, rfl, .inl hh2.hs.ro, fun rr hrr => ?_⟩
  have s3 := same_new hrr (.dK x.ks)
  refine ⟨_, rfl, _, rfl, _, rfl, rr, _, rfl, DPut.k (k := Sum.inr nm) upd_same (by rw [hh.ro.len, sizeLine_eq]; omega), ?_⟩
  rw [upd_upd]
  have s4 := same_new hrr (.dK (putK x.ks (.inr nm) (.ref r)))
  have o4 := o12.new hrr (.dK (putK x.ks (.inr nm) (.ref r)))
  have hh4 := hh2.same s4
  obtain ⟨dx4, hob4⟩ := hh4.hs.ob
  have Srr : S2 rr = none := hh2.sH.free hrr
  refine ⟨_, rfl, x.h, dx4, _, rfl, hob4, hf_no (by decide +kernel) (by decide +kernel) (by decide +kernel), _, rfl, _, rfl, (by show 3 ≤ sizeLine; rw [sizeLine_eq]; decide), fun t ht0 => ⟨_, rfl, ?_⟩⟩
  have s5 := same_new ht0 (.tup [.str "begin", .str nm, .ref r])
  have hh5 := hh4.same s5
  refine ⟨d, M, n, S2, x, putR rs nm (flat es), rr, .ref t, putK x.ks (.inr nm) (.ref r), rfl, hd, hh5.sH, hh5.hs, s5 _ _ upd_same, Srr, RowsR.put ?_ (hh2.ro.imp fun _ _ z => z.p) hh.nd, putR_nd hh.nd, hn, hdl, Nat.le_trans (putR_len _ _ _) (by omega), fun H6 S6 x' de hro => ?_⟩
  · exact ⟨r, es, rfl, hL2, rfl, hwn, fun e z => Nat.le_trans (wsum_mem z) hwM, hmp⟩
  · exact q H6 S6 x' (Deed.pre (o4.new ht0 _) ((s12.trans s4).trans s5) de) hro
end
end Bo
set_option Elab.async false
set_option linter.all false
set_option maxRecDepth 100000
set_option maxHeartbeats 4000000
namespace Bo
open PySem L2 PySem.Spec PyProof.Rows

section
variable {P : Program} {w : World} {K : PySem.W.Frag} {mg : Str → Option Value} {base : Heap} {CS CO CH : Addr}
abbrev sHstep_in : Stmt := inClass (top 54) 6
theorem scHstep_in : FnScope ["self", "name", "place", "saying", "parts", "rows"] ["self", "name", "place", "saying"] (defScope sHstep_in) := ⟨rfl, rfl, rfl, by decide +kernel, rfl, by decide +kernel, by decide +kernel⟩
theorem ok_hstep_in (T : Txt K mg CS CO CH) (R : RawM K CH "step_in" "Hall.step_in" sHstep_in ["self", "name", "place", "saying"]) (D_hparts : DnM P w K mg base CH "s10_parts" 3 ["self", "name"] (spParts CS CO CH)) (D_hkeep : DnM P w K mg base CH "s10_keep" 10 ["self", "deed", "rows"] (spKeep CS CO CH))
    (D_need_place : Dn P w K mg base "need_place" 2 ["thing", "most"] spNeedPlace) (D_need_saying : Dn P w K mg base "need_saying" 3 ["thing"] spNeedSay) (D_need_few : Dn P w K mg base "need_few" 1 ["many"] spNeedFew) (D_laid_many : Dn P w K mg base "laid_many" 1 ["parts"] (spLaid CS CO)) (D_Spot : DnC P w K mg base "Spot" CS 1 ["self", "saying", "number"] (spSpotI CS))
    (A_head : ∀ d, d ≤ 8 → Dn P w K mg base "head" 12 ["parts", "place"] (spHead CS CO d)) (A_tail : ∀ d, d ≤ 8 → Dn P w K mg base "tail" 12 ["parts", "place"] (spTail CS CO d)) : DnM P w K mg base CH "step_in" 23 ["self", "name", "place", "saying"] (spStepIn CS CO CH) := by
  refine R.ok scHstep_in (fun vs H Q E h => ?_) (fun f cdv A outer s H vs Q E hr h => ?_)
  · obtain ⟨d, M, n, S, x, rs, nm, L, k, sa, z, rfl, _⟩ := h; rfl
  obtain ⟨d, M, n, S, x, rs, nm, L, k, sa, z, rfl, hnm, hh, hd, hg, hk, hz, hmp, hd1, hM1, hlim, hdl, hrl, q⟩ := h
  have hmp' : L.length + 1 ≤ 999999999999999999999999999999 := hmp
  have hu := hu_of hr
  have D_head := A_head d hd
  have D_tail := A_tail d hd
  refine ⟨_, (pss_cons (ps_set (i := 4) scHstep_in.nd rfl (Or.inl rfl) (pe_methD (pv 0) T.cH D_hparts (hr.mono (by omega)) (pa_cons (pv 1) pa_nil)))
  (pss_cons (ps_expr (pe_callD D_need_place (hr.mono (by omega)) rfl (pa_cons (pv 2) (pa_cons (pe_callD D_laid_many (hr.mono (by omega)) rfl (pa_cons (pv 4) pa_nil)) pa_nil))))
  (pss_cons (ps_expr (pe_callD D_need_saying (hr.mono (by omega)) rfl (pa_cons (pv 3) pa_nil)))
  (pss_cons (ps_expr (pe_callD D_need_few (hr.mono (by omega)) rfl (pa_cons (pe_op op_add (pe_callD D_laid_many (hr.mono (by omega)) rfl (pa_cons (pv 4) pa_nil)) pe_int) pa_nil)))
  (pss_cons (ps_set (i := 5) scHstep_in.nd rfl (Or.inl rfl) (pe_callTy call_dictD rfl T.b_dict boot_dict (pa_cons (pe_fld (pv 0) rfl) pa_nil)))
  (pss_cons (ps_dput hu (pv 5) (pv 1) (pe_op op_cat (pe_op op_cat (pe_callD D_head (hr.mono (by omega)) rfl (pa_cons (pv 4) (pa_cons (pv 2) pa_nil))) (pe_lst (pa_cons (pe_spot D_Spot (hr.mono (by omega)) rfl (pa_cons (pv 3) (pa_cons pe_int pa_nil))) pa_nil))) (pe_callD D_tail (hr.mono (by omega)) rfl (pa_cons (pv 4) (pa_cons (pv 2) pa_nil)))) rfl)
  (pss_one (ps_expr (pe_methD (pv 0) T.cH D_hkeep (hr.mono (by omega)) (pa_cons (pe_tup (pa_cons pe_str (pa_cons (pv 1) (pa_cons (pv 2) (pa_cons (pv 3) pa_nil))))) (pa_cons (pv 5) pa_nil))))))))))), ?_⟩
  obtain ⟨dx, hob⟩ := hh.hs.ob
  have one : (1 : Nat) ≤ sizeLine := by rw [sizeLine_eq]; decide
  have hlt := lim_lt
  have l1 : n + d * M ≤ lim := by omega
  refine ⟨_, rfl, x.h, dx, _, rfl, hob, hno (by decide +kernel), _, rfl, d, M, n, S, x, rs, nm, L, rfl, hnm, hh, hg, fun H1 a es s1 hL hfl hw hM hLm => ?_⟩
  have hMM : ∀ e ∈ es, e.2 ≤ M := fun e z => (hM e z).1
  have hkb : k ≤ big := Nat.le_trans (Nat.le_trans hk hLm) mp_big
  have hwl : wsum es ≤ lim := Nat.le_trans hw (nat_in l1)
  have hS1 := hh.sH.trans s1
  refine ⟨_, rfl, _, rfl, d, a, es, rfl, hL.same hS1, hwl, fun H2 s2 => ⟨k, _, rfl, Int.natCast_nonneg _, by rw [hfl]; omega, ?_⟩⟩
  refine ⟨_, rfl, sa, z, rfl, hz.same (hS1.trans s2), ?_⟩
  refine ⟨_, rfl, d, a, es, rfl, hL.same (hS1.trans s2), hwl, fun H3 s3 => ⟨_, _, rfl, rfl, _, rfl, by rw [hfl]; omega, ?_⟩⟩
  have s13 := (s1.trans s2).trans s3
  have hS3 := hh.sH.trans s13
  have hh3 := hh.same s13
  obtain ⟨dx3, hob3⟩ := hh3.hs.ob
  refine ⟨_, rfl, x.h, CH, dx3, _, _, rfl, hob3, T.cH, T.h1, hf_rows, x.rd, x.ks, rfl, .inl hh3.hs.ro, fun rr hrr => ?_⟩
  have srr := same_new hrr (.dK x.ks)
  have Srr : S rr = none := hS3.free hrr
  have oR : Sol S H S (upd H3 rr (.dK x.ks)) := ((Sol.refl hh.sH).same s13).new hrr _
  -- the new row
  refine ⟨_, rfl, _, rfl, a, k, M, es, S, rfl, oR.ok, hL, hkb, by omega, hMM, fun H4 S4 r4 es4 s4 o4 hL4 ef4 ew4 eM4 => ?_⟩
  refine ⟨_, rfl, sa, 0, z, S4, rfl, o4.ok, hz.same o4.up, by decide, by decide, fun y H5 S5 s5 o5 hsp => ⟨one, fun l hl => ?_⟩⟩
  obtain ⟨u4, hu4, hp4⟩ := hL4
  have len4 := PartH.len hp4
  have o6 := o5.laid hl (.lst [.ref y])
  have S5l : S5 l = none := o5.ok.free hl
  have hu4' := same_new hl (.lst [.ref y]) _ _ (o5.ok _ _ (o5.up _ _ hu4))
  refine ⟨r4, l, _, _, rfl, rfl, hu4', upd_same, (by show u4.length + 1 ≤ sizeLine; omega), fun p1 hp1 => ?_⟩
  have o7 := o6.laid hp1 (.lst (u4 ++ [.ref y]))
  have S6p : upd S5 l (.lst [.ref y]) p1 = none := o6.ok.free hp1
  have up57 := (same_new S5l (.lst [.ref y])).trans (same_new S6p (.lst (u4 ++ [.ref y])))
  generalize hS7 : upd (upd S5 l (.lst [.ref y])) p1 (.lst (u4 ++ [.ref y])) = S7 at o7 up57
  have hp1S : S7 p1 = some (.lst (u4 ++ [.ref y])) := by rw [← hS7, upd_same]
  have s57 := (same_new hl (.lst [.ref y])).trans (same_new hp1 (.lst (u4 ++ [.ref y])))
  generalize upd (upd H5 l (.lst [.ref y])) p1 (.lst (u4 ++ [.ref y])) = H7 at o7 s57 ⊢
  have o47 := o4.trans o7
  refine ⟨_, rfl, _, rfl, a, k, M, es, S7, rfl, o47.ok, hL.same o47.up, hkb, by omega, hMM, fun H8 S8 r8 es8 s8 o8 hL8 ef8 ew8 eM8 => ?_⟩
  obtain ⟨u8, hu8, hp8⟩ := hL8
  have len8 := PartH.len hp8
  refine ⟨p1, r8, _, _, rfl, rfl, o8.ok _ _ (o8.up _ _ hp1S), o8.ok _ _ hu8, (by rw [List.length_append]; show u4.length + 1 + u8.length ≤ sizeLine; omega), fun p2 hp2 => ?_⟩
  have o9 := o8.laid hp2 (.lst ((u4 ++ [.ref y]) ++ u8))
  have S8p : S8 p2 = none := o8.ok.free hp2
  have oA := (oR.trans o47).trans o9
  have o4a := o47.trans o9
  have pfin : Paired (PartH CS CO d (upd S8 p2 (.lst ((u4 ++ [.ref y]) ++ u8)))) ((u4 ++ [.ref y]) ++ u8) ((es4 ++ [([z], 1)]) ++ es8) := by
    have up48 := o7.up.trans o9.up
    refine papp (papp (Paired.mapP hp4 fun _ _ w => w.same up48) (pone ?_)) (Paired.mapP hp8 fun _ _ w => w.same (same_new S8p _))
    cases d with
    | zero => exact absurd hd1 (Nat.not_lt_zero 0)
    | succ d => exact PartH.same ((up57.trans o8.up).trans (same_new S8p _)) (.inl hsp : PartH CS CO (d + 1) S5 (.ref y) ([z], 1))
  generalize hS9 : upd S8 p2 (.lst ((u4 ++ [.ref y]) ++ u8)) = S9 at oA o9 o4a pfin
  have hp2S : S9 p2 = some (.lst ((u4 ++ [.ref y]) ++ u8)) := by rw [← hS9, upd_same]
  have srA := (((s4.trans s5).trans s57).trans s8).trans (same_new hp2 (.lst ((u4 ++ [.ref y]) ++ u8)))
  generalize upd H8 p2 (.lst ((u4 ++ [.ref y]) ++ u8)) = HA at oA o9 o4a srA ⊢
  have hrA := srA _ _ upd_same
  have S9r : S9 rr = none := o4a.no _ Srr (by rw [upd_same]; exact fun z => nomatch z)
  refine ⟨_, rfl, _, rfl, rr, _, rfl, DPut.k (k := Sum.inr nm) hrA (by rw [hh.ro.len, sizeLine_eq]; omega), ?_⟩
  have sHA := (s13.trans srr).trans srA
  have oB := oA.write S9r (.dK (putK x.ks (.inr nm) (.ref p2)))
  have sHB : Same H (upd HA rr (.dK (putK x.ks (.inr nm) (.ref p2)))) := same_grow sHA (s13.free hrr)
  have hhB := hh.sol oB sHB
  obtain ⟨dxB, hobB⟩ := hhB.hs.ob
  refine ⟨_, rfl, x.h, dxB, _, rfl, hobB, hno (by decide +kernel), _, rfl, _, rfl, _, rfl, (by show 4 ≤ sizeLine; rw [sizeLine_eq]; decide), fun t ht0 => ⟨_, rfl, ?_⟩⟩
  refine keep_of (E := E0) hh (sHB.trans (same_new ht0 _)) (oB.new ht0 _) (same_new ht0 _ _ _ upd_same) S9r (RowsR.put ⟨p2, _, rfl, ⟨_, hp2S, pfin⟩, ?_, ?_, ?_, ?_⟩ (hh.ro.imp fun _ _ w => (w.same oB.up).p.mono (Nat.le_refl d) (Nat.le_refl M) (by omega)) hh.nd) (putR_nd hh.nd) hd hlim hdl (Nat.le_trans (putR_len _ _ _) (by omega)) q
  · rw [flat_append, flat_append, flat_one, ef4, ef8, hfl]
  · rw [wsum_append, wsum_append, wsum_one]; omega
  · intro e' he'
    rcases List.mem_append.mp he' with w | w
    · rcases List.mem_append.mp w with w | w
      · exact eM4 e' w
      · rw [List.mem_singleton.mp w]; exact hM1
    · exact eM8 e' w
  · rw [List.length_append, List.length_append, List.length_take, List.length_drop, List.length_singleton]; omega
abbrev sHresay : Stmt := inClass (top 54) 8
theorem scHresay : FnScope ["self", "name", "place", "saying", "parts", "rows"] ["self", "name", "place", "saying"] (defScope sHresay) := ⟨rfl, rfl, rfl, by decide +kernel, rfl, by decide +kernel, by decide +kernel⟩
theorem ok_hresay (T : Txt K mg CS CO CH) (R : RawM K CH "resay" "Hall.resay" sHresay ["self", "name", "place", "saying"]) (D_hparts : DnM P w K mg base CH "s10_parts" 3 ["self", "name"] (spParts CS CO CH)) (D_hkeep : DnM P w K mg base CH "s10_keep" 10 ["self", "deed", "rows"] (spKeep CS CO CH))
    (D_need_place : Dn P w K mg base "need_place" 2 ["thing", "most"] spNeedPlace) (D_need_saying : Dn P w K mg base "need_saying" 3 ["thing"] spNeedSay) (D_laid_many : Dn P w K mg base "laid_many" 1 ["parts"] (spLaid CS CO)) (D_Spot : DnC P w K mg base "Spot" CS 1 ["self", "saying", "number"] (spSpotI CS))
    (A_head : ∀ d, d ≤ 8 → Dn P w K mg base "head" 12 ["parts", "place"] (spHead CS CO d)) (A_tail : ∀ d, d ≤ 8 → Dn P w K mg base "tail" 12 ["parts", "place"] (spTail CS CO d)) : DnM P w K mg base CH "resay" 23 ["self", "name", "place", "saying"] (spResay CS CO CH) := by
  refine R.ok scHresay (fun vs H Q E h => ?_) (fun f cdv A outer s H vs Q E hr h => ?_)
  · obtain ⟨d, M, n, S, x, rs, nm, L, k, sa, z, rfl, _⟩ := h; rfl
  obtain ⟨d, M, n, S, x, rs, nm, L, k, sa, z, rfl, hnm, hh, hd, hg, hk, hz, hd1, hM1, hlim, hdl, hrl, q⟩ := h
  have hu := hu_of hr
  have D_head := A_head d hd
  have D_tail := A_tail d hd
  refine ⟨_, (pss_cons (ps_set (i := 4) scHresay.nd rfl (Or.inl rfl) (pe_methD (pv 0) T.cH D_hparts (hr.mono (by omega)) (pa_cons (pv 1) pa_nil)))
  (pss_cons (ps_expr (pe_callD D_need_place (hr.mono (by omega)) rfl (pa_cons (pv 2) (pa_cons (pe_op op_sub (pe_callD D_laid_many (hr.mono (by omega)) rfl (pa_cons (pv 4) pa_nil)) pe_int) pa_nil))))
  (pss_cons (ps_expr (pe_callD D_need_saying (hr.mono (by omega)) rfl (pa_cons (pv 3) pa_nil)))
  (pss_cons (ps_set (i := 5) scHresay.nd rfl (Or.inl rfl) (pe_callTy call_dictD rfl T.b_dict boot_dict (pa_cons (pe_fld (pv 0) rfl) pa_nil)))
  (pss_cons (ps_dput hu (pv 5) (pv 1) (pe_op op_cat (pe_op op_cat (pe_callD D_head (hr.mono (by omega)) rfl (pa_cons (pv 4) (pa_cons (pv 2) pa_nil))) (pe_lst (pa_cons (pe_spot D_Spot (hr.mono (by omega)) rfl (pa_cons (pv 3) (pa_cons pe_int pa_nil))) pa_nil))) (pe_callD D_tail (hr.mono (by omega)) rfl (pa_cons (pv 4) (pa_cons (pe_op op_add (pv 2) pe_int) pa_nil)))) rfl)
  (pss_one (ps_expr (pe_methD (pv 0) T.cH D_hkeep (hr.mono (by omega)) (pa_cons (pe_tup (pa_cons pe_str (pa_cons (pv 1) (pa_cons (pv 2) (pa_cons (pv 3) pa_nil))))) (pa_cons (pv 5) pa_nil)))))))))), ?_⟩
  obtain ⟨dx, hob⟩ := hh.hs.ob
  have one : (1 : Nat) ≤ sizeLine := by rw [sizeLine_eq]; decide
  have hlt := lim_lt
  have l1 : n + d * M ≤ lim := by omega
  refine ⟨_, rfl, x.h, dx, _, rfl, hob, hno (by decide +kernel), _, rfl, d, M, n, S, x, rs, nm, L, rfl, hnm, hh, hg, fun H1 a es s1 hL hfl hw hM hLm => ?_⟩
  have hMM : ∀ e ∈ es, e.2 ≤ M := fun e z => (hM e z).1
  have hkb : k ≤ big := Nat.le_trans (Nat.le_trans (Nat.le_of_lt hk) hLm) mp_big
  have hwl : wsum es ≤ lim := Nat.le_trans hw (nat_in l1)
  have hS1 := hh.sH.trans s1
  refine ⟨_, rfl, _, rfl, d, a, es, rfl, hL.same hS1, hwl, fun H3 s3 => ⟨_, _, rfl, rfl, k, _, rfl, Int.natCast_nonneg _, by rw [hfl]; omega, ?_⟩⟩
  refine ⟨_, rfl, sa, z, rfl, hz.same (hS1.trans s3), ?_⟩
  have s13 := s1.trans s3
  have hS3 := hh.sH.trans s13
  have hh3 := hh.same s13
  obtain ⟨dx3, hob3⟩ := hh3.hs.ob
  refine ⟨_, rfl, x.h, CH, dx3, _, _, rfl, hob3, T.cH, T.h1, hf_rows, x.rd, x.ks, rfl, .inl hh3.hs.ro, fun rr hrr => ?_⟩
  have srr := same_new hrr (.dK x.ks)
  have Srr : S rr = none := hS3.free hrr
  have oR : Sol S H S (upd H3 rr (.dK x.ks)) := ((Sol.refl hh.sH).same s13).new hrr _
  -- the new row
  refine ⟨_, rfl, _, rfl, a, k, M, es, S, rfl, oR.ok, hL, hkb, by omega, hMM, fun H4 S4 r4 es4 s4 o4 hL4 ef4 ew4 eM4 => ?_⟩
  refine ⟨_, rfl, sa, 0, z, S4, rfl, o4.ok, hz.same o4.up, by decide, by decide, fun y H5 S5 s5 o5 hsp => ⟨one, fun l hl => ?_⟩⟩
  obtain ⟨u4, hu4, hp4⟩ := hL4
  have len4 := PartH.len hp4
  have o6 := o5.laid hl (.lst [.ref y])
  have S5l : S5 l = none := o5.ok.free hl
  have hu4' := same_new hl (.lst [.ref y]) _ _ (o5.ok _ _ (o5.up _ _ hu4))
  refine ⟨r4, l, _, _, rfl, rfl, hu4', upd_same, (by show u4.length + 1 ≤ sizeLine; omega), fun p1 hp1 => ?_⟩
  have o7 := o6.laid hp1 (.lst (u4 ++ [.ref y]))
  have S6p : upd S5 l (.lst [.ref y]) p1 = none := o6.ok.free hp1
  have up57 := (same_new S5l (.lst [.ref y])).trans (same_new S6p (.lst (u4 ++ [.ref y])))
  generalize hS7 : upd (upd S5 l (.lst [.ref y])) p1 (.lst (u4 ++ [.ref y])) = S7 at o7 up57
  have hp1S : S7 p1 = some (.lst (u4 ++ [.ref y])) := by rw [← hS7, upd_same]
  have s57 := (same_new hl (.lst [.ref y])).trans (same_new hp1 (.lst (u4 ++ [.ref y])))
  generalize upd (upd H5 l (.lst [.ref y])) p1 (.lst (u4 ++ [.ref y])) = H7 at o7 s57 ⊢
  have o47 := o4.trans o7
  refine ⟨_, rfl, _, rfl, _, _, rfl, rfl, a, k + 1, M, es, S7, rfl, o47.ok, hL.same o47.up, Nat.le_trans hk (Nat.le_trans hLm mp_big), by omega, hMM, fun H8 S8 r8 es8 s8 o8 hL8 ef8 ew8 eM8 => ?_⟩
  obtain ⟨u8, hu8, hp8⟩ := hL8
  have len8 := PartH.len hp8
  refine ⟨p1, r8, _, _, rfl, rfl, o8.ok _ _ (o8.up _ _ hp1S), o8.ok _ _ hu8, (by rw [List.length_append]; show u4.length + 1 + u8.length ≤ sizeLine; omega), fun p2 hp2 => ?_⟩
  have o9 := o8.laid hp2 (.lst ((u4 ++ [.ref y]) ++ u8))
  have S8p : S8 p2 = none := o8.ok.free hp2
  have oA := (oR.trans o47).trans o9
  have o4a := o47.trans o9
  have pfin : Paired (PartH CS CO d (upd S8 p2 (.lst ((u4 ++ [.ref y]) ++ u8)))) ((u4 ++ [.ref y]) ++ u8) ((es4 ++ [([z], 1)]) ++ es8) := by
    have up48 := o7.up.trans o9.up
    refine papp (papp (Paired.mapP hp4 fun _ _ w => w.same up48) (pone ?_)) (Paired.mapP hp8 fun _ _ w => w.same (same_new S8p _))
    cases d with
    | zero => exact absurd hd1 (Nat.not_lt_zero 0)
    | succ d => exact PartH.same ((up57.trans o8.up).trans (same_new S8p _)) (.inl hsp : PartH CS CO (d + 1) S5 (.ref y) ([z], 1))
  generalize hS9 : upd S8 p2 (.lst ((u4 ++ [.ref y]) ++ u8)) = S9 at oA o9 o4a pfin
  have hp2S : S9 p2 = some (.lst ((u4 ++ [.ref y]) ++ u8)) := by rw [← hS9, upd_same]
  have srA := (((s4.trans s5).trans s57).trans s8).trans (same_new hp2 (.lst ((u4 ++ [.ref y]) ++ u8)))
  generalize upd H8 p2 (.lst ((u4 ++ [.ref y]) ++ u8)) = HA at oA o9 o4a srA ⊢
  have hrA := srA _ _ upd_same
  have S9r : S9 rr = none := o4a.no _ Srr (by rw [upd_same]; exact fun z => nomatch z)
  refine ⟨_, rfl, _, rfl, rr, _, rfl, DPut.k (k := Sum.inr nm) hrA (by rw [hh.ro.len, sizeLine_eq]; omega), ?_⟩
  have sHA := (s13.trans srr).trans srA
  have oB := oA.write S9r (.dK (putK x.ks (.inr nm) (.ref p2)))
  have sHB : Same H (upd HA rr (.dK (putK x.ks (.inr nm) (.ref p2)))) := same_grow sHA (s13.free hrr)
  have hhB := hh.sol oB sHB
  obtain ⟨dxB, hobB⟩ := hhB.hs.ob
  refine ⟨_, rfl, x.h, dxB, _, rfl, hobB, hno (by decide +kernel), _, rfl, _, rfl, _, rfl, (by show 4 ≤ sizeLine; rw [sizeLine_eq]; decide), fun t ht0 => ⟨_, rfl, ?_⟩⟩
  refine keep_of (E := E0) hh (sHB.trans (same_new ht0 _)) (oB.new ht0 _) (same_new ht0 _ _ _ upd_same) S9r (RowsR.put ⟨p2, _, rfl, ⟨_, hp2S, pfin⟩, ?_, ?_, ?_, ?_⟩ (hh.ro.imp fun _ _ w => (w.same oB.up).p.mono (Nat.le_refl d) (Nat.le_refl M) (by omega)) hh.nd) (putR_nd hh.nd) hd hlim hdl (Nat.le_trans (putR_len _ _ _) (by omega)) q
  · rw [flat_append, flat_append, flat_one, ef4, ef8, hfl]
  · rw [wsum_append, wsum_append, wsum_one]; omega
  · intro e' he'
    rcases List.mem_append.mp he' with w | w
    · rcases List.mem_append.mp w with w | w
      · exact eM4 e' w
      · rw [List.mem_singleton.mp w]; exact hM1
    · exact eM8 e' w
  · rw [List.length_append, List.length_append, List.length_take, List.length_drop, List.length_singleton]; omega
abbrev sHgo : Stmt := inClass (top 54) 7
theorem scHgo : FnScope ["self", "name", "place", "parts", "rows"] ["self", "name", "place"] (defScope sHgo) := ⟨rfl, rfl, rfl, by decide +kernel, rfl, by decide +kernel, by decide +kernel⟩
theorem ok_hgo (T : Txt K mg CS CO CH) (R : RawM K CH "go" "Hall.go" sHgo ["self", "name", "place"]) (D_hparts : DnM P w K mg base CH "s10_parts" 3 ["self", "name"] (spParts CS CO CH)) (D_hkeep : DnM P w K mg base CH "s10_keep" 10 ["self", "deed", "rows"] (spKeep CS CO CH))
    (D_need_place : Dn P w K mg base "need_place" 2 ["thing", "most"] spNeedPlace) (D_laid_many : Dn P w K mg base "laid_many" 1 ["parts"] (spLaid CS CO))
    (A_head : ∀ d, d ≤ 8 → Dn P w K mg base "head" 12 ["parts", "place"] (spHead CS CO d)) (A_tail : ∀ d, d ≤ 8 → Dn P w K mg base "tail" 12 ["parts", "place"] (spTail CS CO d)) : DnM P w K mg base CH "go" 23 ["self", "name", "place"] (spGo CS CO CH) := by
  refine R.ok scHgo (fun vs H Q E h => ?_) (fun f cdv A outer s H vs Q E hr h => ?_)
  · obtain ⟨d, M, n, S, x, rs, nm, L, k, rfl, _⟩ := h; rfl
  obtain ⟨d, M, n, S, x, rs, nm, L, k, rfl, hnm, hh, hd, hg, hk, hlim, hdl, hrl, q⟩ := h
  have hu := hu_of hr
  have D_head := A_head d hd
  have D_tail := A_tail d hd
  refine ⟨_, (pss_cons (ps_set (i := 3) scHgo.nd rfl (Or.inl rfl) (pe_methD (pv 0) T.cH D_hparts (hr.mono (by omega)) (pa_cons (pv 1) pa_nil)))
  (pss_cons (ps_expr (pe_callD D_need_place (hr.mono (by omega)) rfl (pa_cons (pv 2) (pa_cons (pe_op op_sub (pe_callD D_laid_many (hr.mono (by omega)) rfl (pa_cons (pv 3) pa_nil)) pe_int) pa_nil))))
  (pss_cons (ps_set (i := 4) scHgo.nd rfl (Or.inl rfl) (pe_callTy call_dictD rfl T.b_dict boot_dict (pa_cons (pe_fld (pv 0) rfl) pa_nil)))
  (pss_cons (ps_dput hu (pv 4) (pv 1) (pe_op op_cat (pe_callD D_head (hr.mono (by omega)) rfl (pa_cons (pv 3) (pa_cons (pv 2) pa_nil))) (pe_callD D_tail (hr.mono (by omega)) rfl (pa_cons (pv 3) (pa_cons (pe_op op_add (pv 2) pe_int) pa_nil)))) rfl)
  (pss_one (ps_expr (pe_methD (pv 0) T.cH D_hkeep (hr.mono (by omega)) (pa_cons (pe_tup (pa_cons pe_str (pa_cons (pv 1) (pa_cons (pv 2) pa_nil)))) (pa_cons (pv 4) pa_nil))))))))), ?_⟩
  obtain ⟨dx, hob⟩ := hh.hs.ob
  have one : (1 : Nat) ≤ sizeLine := by rw [sizeLine_eq]; decide
  have hlt := lim_lt
  have l1 : n + d * M ≤ lim := by omega
  refine ⟨_, rfl, x.h, dx, _, rfl, hob, hno (by decide +kernel), _, rfl, d, M, n, S, x, rs, nm, L, rfl, hnm, hh, hg, fun H1 a es s1 hL hfl hw hM hLm => ?_⟩
  have hMM : ∀ e ∈ es, e.2 ≤ M := fun e z => (hM e z).1
  have hkb : k ≤ big := Nat.le_trans (Nat.le_trans (Nat.le_of_lt hk) hLm) mp_big
  have hwl : wsum es ≤ lim := Nat.le_trans hw (nat_in l1)
  have hS1 := hh.sH.trans s1
  refine ⟨_, rfl, _, rfl, d, a, es, rfl, hL.same hS1, hwl, fun H3 s3 => ⟨_, _, rfl, rfl, k, _, rfl, Int.natCast_nonneg _, by rw [hfl]; omega, ?_⟩⟩
  have s13 := s1.trans s3
  have hS3 := hh.sH.trans s13
  have hh3 := hh.same s13
  obtain ⟨dx3, hob3⟩ := hh3.hs.ob
  refine ⟨_, rfl, x.h, CH, dx3, _, _, rfl, hob3, T.cH, T.h1, hf_rows, x.rd, x.ks, rfl, .inl hh3.hs.ro, fun rr hrr => ?_⟩
  have srr := same_new hrr (.dK x.ks)
  have Srr : S rr = none := hS3.free hrr
  have oR : Sol S H S (upd H3 rr (.dK x.ks)) := ((Sol.refl hh.sH).same s13).new hrr _
  -- the new row
  refine ⟨_, rfl, _, rfl, a, k, M, es, S, rfl, oR.ok, hL, hkb, by omega, hMM, fun H4 S4 r4 es4 s4 o4 hL4 ef4 ew4 eM4 => ?_⟩
  obtain ⟨u4, hu4, hp4⟩ := hL4
  have len4 := PartH.len hp4
  have o34 := oR.trans o4
  refine ⟨_, rfl, _, rfl, _, _, rfl, rfl, a, k + 1, M, es, S4, rfl, o4.ok, hL.same o4.up, Nat.le_trans hk (Nat.le_trans hLm mp_big), by omega, hMM, fun H8 S8 r8 es8 s8 o8 hL8 ef8 ew8 eM8 => ?_⟩
  obtain ⟨u8, hu8, hp8⟩ := hL8
  have len8 := PartH.len hp8
  refine ⟨r4, r8, _, _, rfl, rfl, o8.ok _ _ (o8.up _ _ hu4), o8.ok _ _ hu8, (by omega), fun p2 hp2 => ?_⟩
  have o9 := o8.laid hp2 (.lst (u4 ++ u8))
  have S8p : S8 p2 = none := o8.ok.free hp2
  have oA := (oR.trans (o4.trans o8)).trans ((Sol.refl o8.ok).laid hp2 (.lst (u4 ++ u8)))
  have o4a := (o4.trans o8).trans ((Sol.refl o8.ok).laid hp2 (.lst (u4 ++ u8)))
  have pfin : Paired (PartH CS CO d (upd S8 p2 (.lst (u4 ++ u8)))) (u4 ++ u8) (es4 ++ es8) := by
    exact papp (Paired.mapP hp4 fun _ _ w => w.same (o8.up.trans (same_new S8p _))) (Paired.mapP hp8 fun _ _ w => w.same (same_new S8p _))
  generalize hS9 : upd S8 p2 (.lst (u4 ++ u8)) = S9 at oA o9 o4a pfin
  have hp2S : S9 p2 = some (.lst (u4 ++ u8)) := by rw [← hS9, upd_same]
  have srA := (s4.trans s8).trans (same_new hp2 (.lst (u4 ++ u8)))
  generalize upd H8 p2 (.lst (u4 ++ u8)) = HA at oA o9 o4a srA ⊢
  have hrA := srA _ _ upd_same
  have S9r : S9 rr = none := o4a.no _ Srr (by rw [upd_same]; exact fun z => nomatch z)
  refine ⟨_, rfl, _, rfl, rr, _, rfl, DPut.k (k := Sum.inr nm) hrA (by rw [hh.ro.len, sizeLine_eq]; omega), ?_⟩
  have sHA := (s13.trans srr).trans srA
  have oB := oA.write S9r (.dK (putK x.ks (.inr nm) (.ref p2)))
  have sHB : Same H (upd HA rr (.dK (putK x.ks (.inr nm) (.ref p2)))) := same_grow sHA (s13.free hrr)
  have hhB := hh.sol oB sHB
  obtain ⟨dxB, hobB⟩ := hhB.hs.ob
  refine ⟨_, rfl, x.h, dxB, _, rfl, hobB, hno (by decide +kernel), _, rfl, _, rfl, (by show 3 ≤ sizeLine; rw [sizeLine_eq]; decide), fun t ht0 => ⟨_, rfl, ?_⟩⟩
  refine keep_of (E := E0) hh (sHB.trans (same_new ht0 _)) (oB.new ht0 _) (same_new ht0 _ _ _ upd_same) S9r (RowsR.put ⟨p2, _, rfl, ⟨_, hp2S, pfin⟩, ?_, ?_, ?_, ?_⟩ (hh.ro.imp fun _ _ w => (w.same oB.up).p.mono (Nat.le_refl d) (Nat.le_refl M) (by omega)) hh.nd) (putR_nd hh.nd) hd hlim hdl (Nat.le_trans (putR_len _ _ _) (by omega)) q
  · rw [flat_append, ef4, ef8, hfl]
  · rw [wsum_append]; omega
  · intro e' he'
    rcases List.mem_append.mp he' with w | w
    · exact eM4 e' w
    · exact eM8 e' w
  · rw [List.length_append, List.length_take, List.length_drop]; omega
end
end Bo
set_option Elab.async false
set_option linter.all false
set_option maxRecDepth 100000
set_option maxHeartbeats 4000000
namespace Bo
open PySem L2 PySem.Spec PyProof.Rows

section
variable {P : Program} {w : World} {K : PySem.W.Frag} {mg : Str → Option Value} {base : Heap} {CS CO CH : Addr}
abbrev sHcut : Stmt := inClass (top 54) 9
theorem scHcut : FnScope ["self", "name", "place", "other", "parts", "rows"] ["self", "name", "place", "other"] (defScope sHcut) := ⟨rfl, rfl, rfl, by decide +kernel, rfl, by decide +kernel, by decide +kernel⟩
theorem ok_hcut (T : Txt K mg CS CO CH) (R : RawM K CH "cut" "Hall.cut" sHcut ["self", "name", "place", "other"]) (D_hparts : DnM P w K mg base CH "s10_parts" 3 ["self", "name"] (spParts CS CO CH)) (D_hfree : DnM P w K mg base CH "s10_free" 3 ["self", "name"] (spFree CS CO CH)) (D_hkeep : DnM P w K mg base CH "s10_keep" 10 ["self", "deed", "rows"] (spKeep CS CO CH))
    (D_need_place : Dn P w K mg base "need_place" 2 ["thing", "most"] spNeedPlace) (D_laid_many : Dn P w K mg base "laid_many" 1 ["parts"] (spLaid CS CO))
    (A_head : ∀ d, d ≤ 8 → Dn P w K mg base "head" 12 ["parts", "place"] (spHead CS CO d)) (A_tail : ∀ d, d ≤ 8 → Dn P w K mg base "tail" 12 ["parts", "place"] (spTail CS CO d)) : DnM P w K mg base CH "cut" 23 ["self", "name", "place", "other"] (spCut CS CO CH) := by
  refine R.ok scHcut (fun vs H Q E h => ?_) (fun f cdv A outer s H vs Q E hr h => ?_)
  · obtain ⟨d, M, n, S, x, rs, nm, nm2, L, k, rfl, _⟩ := h; rfl
  obtain ⟨d, M, n, S, x, rs, nm, nm2, L, k, rfl, hnm, hnm2, hh, hd, hg, hg2, hk, hlim, hdl, hrl, q⟩ := h
  have hu := hu_of hr
  have D_head := A_head d hd
  have D_tail := A_tail d hd
  refine ⟨_, (pss_cons (ps_set (i := 4) scHcut.nd rfl (Or.inl rfl) (pe_methD (pv 0) T.cH D_hparts (hr.mono (by omega)) (pa_cons (pv 1) pa_nil)))
  (pss_cons (ps_expr (pe_methD (pv 0) T.cH D_hfree (hr.mono (by omega)) (pa_cons (pv 3) pa_nil)))
  (pss_cons (ps_expr (pe_callD D_need_place (hr.mono (by omega)) rfl (pa_cons (pv 2) (pa_cons (pe_callD D_laid_many (hr.mono (by omega)) rfl (pa_cons (pv 4) pa_nil)) pa_nil))))
  (pss_cons (ps_set (i := 5) scHcut.nd rfl (Or.inl rfl) (pe_callTy call_dictD rfl T.b_dict boot_dict (pa_cons (pe_fld (pv 0) rfl) pa_nil)))
  (pss_cons (ps_asg (pe_tup (pa_cons (pe_callD D_head (hr.mono (by omega)) rfl (pa_cons (pv 4) (pa_cons (pv 2) pa_nil))) (pa_cons (pe_callD D_tail (hr.mono (by omega)) rfl (pa_cons (pv 4) (pa_cons (pv 2) pa_nil))) pa_nil))) (pg_tup rfl (pgs_cons (pg_sub (pv 5) (pv 1) (set_dict hu)) (pgs_cons (pg_sub (pv 5) (pv 3) (set_dict hu)) pgs_nil))))
  (pss_one (ps_expr (pe_methD (pv 0) T.cH D_hkeep (hr.mono (by omega)) (pa_cons (pe_tup (pa_cons pe_str (pa_cons (pv 1) (pa_cons (pv 2) (pa_cons (pv 3) pa_nil))))) (pa_cons (pv 5) pa_nil)))))))))), ?_⟩
  obtain ⟨dx, hob⟩ := hh.hs.ob
  refine ⟨_, rfl, x.h, dx, _, rfl, hob, hno (by decide +kernel), _, rfl, d, M, n, S, x, rs, nm, L, rfl, hnm, hh, hg, fun H1 a es s1 hL hfl hw hM hLm => ?_⟩
  have hMM : ∀ e ∈ es, e.2 ≤ M := fun e z => (hM e z).1
  have hkb : k ≤ big := Nat.le_trans (Nat.le_trans hk hLm) mp_big
  have hwl : wsum es ≤ lim := Nat.le_trans hw (nat_in hlim)
  have hh1 := hh.same s1
  obtain ⟨dx1, hob1⟩ := hh1.hs.ob
  refine ⟨_, rfl, x.h, dx1, _, rfl, hob1, hno (by decide +kernel), _, rfl, d, M, n, S, x, rs, nm2, rfl, hnm2, hh1, hg2, fun H2 s2 => ?_⟩
  refine ⟨_, rfl, _, rfl, d, a, es, rfl, hL.same ((hh.sH.trans s1).trans s2), hwl, fun H3 s3 => ⟨k, _, rfl, Int.natCast_nonneg _, by rw [hfl]; omega, ?_⟩⟩
  have s13 := (s1.trans s2).trans s3
  have hS3 := hh.sH.trans s13
  have hh3 := hh.same s13
  obtain ⟨dx3, hob3⟩ := hh3.hs.ob
  refine ⟨_, rfl, x.h, CH, dx3, _, _, rfl, hob3, T.cH, T.h1, hf_rows, x.rd, x.ks, rfl, .inl hh3.hs.ro, fun rr hrr => ?_⟩
  have srr := same_new hrr (.dK x.ks)
  have Srr : S rr = none := hS3.free hrr
  have oR : Sol S H S (upd H3 rr (.dK x.ks)) := ((Sol.refl hh.sH).same s13).new hrr _
  refine ⟨_, rfl, _, rfl, a, k, M, es, S, rfl, oR.ok, hL, hkb, by omega, hMM, fun H4 S4 r4 es4 s4 o4 hL4 ef4 ew4 eM4 => ?_⟩
  refine ⟨_, rfl, _, rfl, a, k, M, es, S4, rfl, o4.ok, hL.same o4.up, hkb, by omega, hMM, fun H8 S8 r8 es8 s8 o8 hL8 ef8 ew8 eM8 => ?_⟩
  refine ⟨(by show 2 ≤ sizeLine; rw [sizeLine_eq]; decide), fun tp htp => ?_⟩
  have stp := same_new htp (.tup [.ref r4, .ref r8])
  have s48 := (s4.trans s8).trans stp
  have hrA := s48 _ _ (upd_same (H := H3) (a := rr) (o := .dK x.ks))
  have oA := (oR.trans (o4.trans o8)).new htp (.tup [.ref r4, .ref r8])
  have S8r : S8 rr = none := (o4.trans o8).no _ Srr (by rw [upd_same]; exact fun z => nomatch z)
  have sHA := (s13.trans srr).trans s48
  refine ⟨tp, _, rfl, SqT.of upd_same, rfl, _, _, rfl, ?_⟩
  refine ⟨_, rfl, _, rfl, rr, _, rfl, DPut.k (k := Sum.inr nm) hrA (by rw [hh.ro.len, sizeLine_eq]; omega), _, _, rfl, ?_⟩
  refine ⟨_, rfl, _, rfl, rr, _, rfl, DPut.k (k := Sum.inr nm2) upd_same (by have := length_putK x.ks (.inr nm) (.ref r4); rw [hh.ro.len] at this; rw [sizeLine_eq]; omega), rfl, ?_⟩
  rw [upd_upd]
  have oB := oA.write S8r (.dK (putK (putK x.ks (.inr nm) (.ref r4)) (.inr nm2) (.ref r8)))
  have sHB : Same H (upd (upd H8 tp (.tup [.ref r4, .ref r8])) rr (.dK (putK (putK x.ks (.inr nm) (.ref r4)) (.inr nm2) (.ref r8)))) := same_grow sHA (s13.free hrr)
  have hhB := hh.sol oB sHB
  obtain ⟨dxB, hobB⟩ := hhB.hs.ob
  refine ⟨_, rfl, x.h, dxB, _, rfl, hobB, hno (by decide +kernel), _, rfl, _, rfl, _, rfl, (by show 4 ≤ sizeLine; rw [sizeLine_eq]; decide), fun t ht0 => ⟨_, rfl, ?_⟩⟩
  have r1 : RowsR (RowP CS CO d M (n + d * M) S8) (putK x.ks (.inr nm) (.ref r4)) (putR rs nm (L.take k)) := RowsR.put ⟨r4, es4, rfl, hL4.same o8.up, by rw [ef4, hfl], by omega, eM4, by rw [List.length_take]; omega⟩ (hh.ro.imp fun _ _ w => (w.same oB.up).p.mono (Nat.le_refl d) (Nat.le_refl M) (by omega)) hh.nd
  refine keep_of (E := E0) hh (sHB.trans (same_new ht0 _)) (oB.new ht0 _) (same_new ht0 _ _ _ upd_same) S8r (RowsR.put ⟨r8, es8, rfl, hL8, by rw [ef8, hfl], by omega, eM8, by rw [List.length_drop]; omega⟩ r1 (putR_nd hh.nd)) (putR_nd (putR_nd hh.nd)) hd hlim hdl ?_ q
  have l1 := putR_len (putR rs nm (L.take k)) nm2 (L.drop k)
  have l2 := putR_len rs nm (L.take k)
  omega
abbrev sHjoin_to : Stmt := inClass (top 54) 10
theorem scHjoin_to : FnScope ["self", "name", "other", "parts", "more", "rows"] ["self", "name", "other"] (defScope sHjoin_to) := ⟨rfl, rfl, rfl, by decide +kernel, rfl, by decide +kernel, by decide +kernel⟩
theorem ok_hjoin_to (T : Txt K mg CS CO CH) (R : RawM K CH "join_to" "Hall.join_to" sHjoin_to ["self", "name", "other"]) (D_hparts : DnM P w K mg base CH "s10_parts" 3 ["self", "name"] (spParts CS CO CH)) (D_hkeep : DnM P w K mg base CH "s10_keep" 10 ["self", "deed", "rows"] (spKeep CS CO CH))
    (D_need_few : Dn P w K mg base "need_few" 1 ["many"] spNeedFew) (D_laid_many : Dn P w K mg base "laid_many" 1 ["parts"] (spLaid CS CO)) : DnM P w K mg base CH "join_to" 23 ["self", "name", "other"] (spJoin CS CO CH) := by
  refine R.ok scHjoin_to (fun vs H Q E h => ?_) (fun f cdv A outer s H vs Q E hr h => ?_)
  · obtain ⟨d, M, n, S, x, rs, nm, nm2, L, L2, rfl, _⟩ := h; rfl
  obtain ⟨d, M, n, S, x, rs, nm, nm2, L, L2, rfl, hnm, hnm2, hne, hh, hd, hg, hg2, hmp, hlim, hdl, hrl, q⟩ := h
  have hmp' : L.length + L2.length ≤ 999999999999999999999999999999 := hmp
  have hu := hu_of hr
  refine ⟨_, (pss_cons (ps_par (i := 3) (j := 4) rfl scHjoin_to.nd rfl rfl (by decide) rfl rfl (pa_cons (pe_methD (pv 0) T.cH D_hparts (hr.mono (by omega)) (pa_cons (pv 1) pa_nil)) (pa_cons (pe_methD (pv 0) T.cH D_hparts (hr.mono (by omega)) (pa_cons (pv 2) pa_nil)) pa_nil)) (by rfl))
  (pss_cons (ps_if (pt_cmpR op_eq (pv 1) (pv 2) (nomark _)) (pss_one ps_never) pss_nil)
  (pss_cons (ps_expr (pe_callD D_need_few (hr.mono (by omega)) rfl (pa_cons (pe_op op_add (pe_callD D_laid_many (hr.mono (by omega)) rfl (pa_cons (pv 3) pa_nil)) (pe_callD D_laid_many (hr.mono (by omega)) rfl (pa_cons (pv 4) pa_nil))) pa_nil)))
  (pss_cons (ps_set (i := 5) scHjoin_to.nd rfl (Or.inl rfl) (pe_callTy call_dictD rfl T.b_dict boot_dict (pa_cons (pe_fld (pv 0) rfl) pa_nil)))
  (pss_cons (ps_dput hu (pv 5) (pv 1) (pe_op op_cat (pv 3) (pv 4)) rfl)
  (pss_cons (ps_expr (pe_dpop1 (pv 5) (pv 2) ⟨rfl, rfl, rfl, rfl⟩))
  (pss_one (ps_expr (pe_methD (pv 0) T.cH D_hkeep (hr.mono (by omega)) (pa_cons (pe_tup (pa_cons pe_str (pa_cons (pv 1) (pa_cons (pv 2) pa_nil)))) (pa_cons (pv 5) pa_nil))))))))))), ?_⟩
  obtain ⟨dx, hob⟩ := hh.hs.ob
  have hlt := lim_lt
  refine ⟨_, rfl, x.h, dx, _, rfl, hob, hno (by decide +kernel), _, rfl, d, M, n, S, x, rs, nm, L, rfl, hnm, hh, hg, fun H1 a es s1 hL hfl hw hM hLm => ?_⟩
  have hh1 := hh.same s1
  obtain ⟨dx1, hob1⟩ := hh1.hs.ob
  refine ⟨_, rfl, x.h, dx1, _, rfl, hob1, hno (by decide +kernel), _, rfl, d, M, n, S, x, rs, nm2, L2, rfl, hnm2, hh1, hg2, fun H2 a2 es2 s2 hL2 hfl2 hw2 hM2 hLm2 => ?_⟩
  refine ⟨_, _, rfl, ?_⟩
  refine ⟨_, rfl, _, rfl, rfl, false, ?_, iteF ?_⟩
  · rw [decide_eq_false (by intro z; injection z with z; exact hne z)]
  have hS2 := (hh.sH.trans s1).trans s2
  refine ⟨_, rfl, d, a, es, rfl, hL.same hS2, by omega, fun H3 s3 => ⟨_, rfl, d, a2, es2, rfl, hL2.same (hS2.trans s3), by omega, fun H4 s4 => ⟨_, _, rfl, rfl, _, rfl, by rw [hfl, hfl2]; omega, ?_⟩⟩⟩
  have s14 := ((s1.trans s2).trans s3).trans s4
  have hS4 := hh.sH.trans s14
  have hh4 := hh.same s14
  obtain ⟨dx4, hob4⟩ := hh4.hs.ob
  refine ⟨_, rfl, x.h, CH, dx4, _, _, rfl, hob4, T.cH, T.h1, hf_rows, x.rd, x.ks, rfl, .inl hh4.hs.ro, fun rr hrr => ?_⟩
  have srr := same_new hrr (.dK x.ks)
  have Srr : S rr = none := hS4.free hrr
  have oR : Sol S H S (upd H4 rr (.dK x.ks)) := ((Sol.refl hh.sH).same s14).new hrr _
  obtain ⟨u, hua, hup⟩ := hL
  obtain ⟨u2, hua2, hup2⟩ := hL2
  have len1 := PartH.len hup
  have len2 := PartH.len hup2
  refine ⟨_, rfl, _, rfl, a, a2, _, _, rfl, rfl, srr _ _ (hS4 _ _ hua), srr _ _ (hS4 _ _ hua2), by omega, fun p hp0 => ?_⟩
  have oA := oR.laid hp0 (.lst (u ++ u2))
  have sp := same_new hp0 (.lst (u ++ u2))
  have Sp : S p = none := oR.ok.free hp0
  have nrp : rr ≠ p := ne_of_none upd_same hp0
  have hpS : upd S p (.lst (u ++ u2)) p = some (.lst (u ++ u2)) := upd_same
  have pfin : Paired (PartH CS CO d (upd S p (.lst (u ++ u2)))) (u ++ u2) (es ++ es2) := Paired.mapP (papp hup hup2) fun _ _ w => w.same (same_new Sp _)
  have hrA := sp _ _ (upd_same (H := H4) (a := rr) (o := .dK x.ks))
  have SAr : upd S p (.lst (u ++ u2)) rr = none := by rw [upd_ne nrp]; exact Srr
  generalize upd S p (.lst (u ++ u2)) = SA at oA hpS pfin SAr
  refine ⟨_, rfl, _, rfl, rr, _, rfl, DPut.k (k := Sum.inr nm) hrA (by rw [hh.ro.len, sizeLine_eq]; omega), ?_⟩
  have r1 : RowsR (RowP CS CO d M (2 * n) SA) (putK x.ks (.inr nm) (.ref p)) (putR rs nm (L ++ L2)) := RowsR.put ⟨p, es ++ es2, rfl, ⟨_, hpS, pfin⟩, by rw [flat_append, hfl, hfl2], by rw [wsum_append]; omega, fun e z => (List.mem_append.mp z).elim (fun z => (hM e z).1) (fun z => (hM2 e z).1), by rw [List.length_append]; exact hmp⟩
    (hh.ro.imp fun _ _ w => (w.same oA.up).p.mono (Nat.le_refl d) (Nat.le_refl M) (by omega)) hh.nd
  have hgp : ∃ v, valV (putK x.ks (.inr nm) (.ref p)) (.inr nm2) = some v := by
    obtain ⟨v, hv, _⟩ := hh.ro.get hg2
    refine ⟨v, ?_⟩
    rw [valV_put, if_neg (fun z => hne (Sum.inr.inj z).symm)]
    exact hv
  obtain ⟨v2, hv2⟩ := hgp
  refine ⟨_, rfl, rr, rfl, .inl ⟨_, .inl upd_same⟩, _, rfl, _, .inr nm2, v2, upd_same, rfl, hv2, ?_⟩
  rw [upd_upd]
  have oB := oA.write SAr (.dK (dropK (putK x.ks (.inr nm) (.ref p)) (.inr nm2)))
  have sHB : Same H (upd (upd (upd H4 rr (.dK x.ks)) p (.lst (u ++ u2))) rr (.dK (dropK (putK x.ks (.inr nm) (.ref p)) (.inr nm2)))) := same_grow ((s14.trans srr).trans sp) (s14.free hrr)
  have hhB := hh.sol oB sHB
  obtain ⟨dxB, hobB⟩ := hhB.hs.ob
  refine ⟨_, rfl, x.h, dxB, _, rfl, hobB, hno (by decide +kernel), _, rfl, _, rfl, (by show 3 ≤ sizeLine; rw [sizeLine_eq]; decide), fun t ht0 => ⟨_, rfl, ?_⟩⟩
  refine keep_of (E := E0) hh (sHB.trans (same_new ht0 _)) (oB.new ht0 _) (same_new ht0 _ _ _ upd_same) SAr r1.drop (dropR_nd (putR_nd hh.nd)) hd hlim hdl ?_ q
  have l1 := dropR_len (putR rs nm (L ++ L2)) nm2
  have l2 := putR_len rs nm (L ++ L2)
  omega
abbrev sHsay_over : Stmt := inClass (top 54) 11
theorem scHsay_over : FnScope ["self", "name", "many", "parts", "rows"] ["self", "name", "many"] (defScope sHsay_over) := ⟨rfl, rfl, rfl, by decide +kernel, rfl, by decide +kernel, by decide +kernel⟩
theorem ok_hsay_over (T : Txt K mg CS CO CH) (R : RawM K CH "say_over" "Hall.say_over" sHsay_over ["self", "name", "many"]) (D_hparts : DnM P w K mg base CH "s10_parts" 3 ["self", "name"] (spParts CS CO CH)) (D_hkeep : DnM P w K mg base CH "s10_keep" 10 ["self", "deed", "rows"] (spKeep CS CO CH))
    (D_need_number : Dn P w K mg base "need_number" 2 ["thing"] spNeedNum) (D_need_few : Dn P w K mg base "need_few" 1 ["many"] spNeedFew) (D_laid_many : Dn P w K mg base "laid_many" 1 ["parts"] (spLaid CS CO))
    (A_over_and_over : ∀ d, d ≤ 7 → Dn P w K mg base "over_and_over" 12 ["parts", "times"] (spOao CS CO d)) : DnM P w K mg base CH "say_over" 23 ["self", "name", "many"] (spOver CS CO CH) := by
  refine R.ok scHsay_over (fun vs H Q E h => ?_) (fun f cdv A outer s H vs Q E hr h => ?_)
  · obtain ⟨d, M, n, S, x, rs, nm, L, m, rfl, _⟩ := h; rfl
  obtain ⟨d, M, n, S, x, rs, nm, L, m, rfl, hnm, hh, hd, hg, hm, hmp, hlim, hdl, hrl, q⟩ := h
  have hmp' : L.length * m ≤ 999999999999999999999999999999 := hmp
  have hu := hu_of hr
  have D_over_and_over := A_over_and_over d hd
  refine ⟨_, (pss_cons (ps_set (i := 3) scHsay_over.nd rfl (Or.inl rfl) (pe_methD (pv 0) T.cH D_hparts (hr.mono (by omega)) (pa_cons (pv 1) pa_nil)))
  (pss_cons (ps_expr (pe_callD D_need_number (hr.mono (by omega)) rfl (pa_cons (pv 2) pa_nil)))
  (pss_cons (ps_expr (pe_callD D_need_few (hr.mono (by omega)) rfl (pa_cons (pe_op op_mulW (pe_callD D_laid_many (hr.mono (by omega)) rfl (pa_cons (pv 3) pa_nil)) (pv 2)) pa_nil)))
  (pss_cons (ps_set (i := 4) scHsay_over.nd rfl (Or.inl rfl) (pe_callTy call_dictD rfl T.b_dict boot_dict (pa_cons (pe_fld (pv 0) rfl) pa_nil)))
  (pss_cons (ps_dput hu (pv 4) (pv 1) (pe_callD D_over_and_over (hr.mono (by omega)) rfl (pa_cons (pv 3) (pa_cons (pv 2) pa_nil))) rfl)
  (pss_one (ps_expr (pe_methD (pv 0) T.cH D_hkeep (hr.mono (by omega)) (pa_cons (pe_tup (pa_cons pe_str (pa_cons (pv 1) (pa_cons (pv 2) pa_nil)))) (pa_cons (pv 4) pa_nil)))))))))), ?_⟩
  obtain ⟨dx, hob⟩ := hh.hs.ob
  refine ⟨_, rfl, x.h, dx, _, rfl, hob, hno (by decide +kernel), _, rfl, d, M, n, S, x, rs, nm, L, rfl, hnm, hh, hg, fun H1 a es s1 hL hfl hw hM hLm => ?_⟩
  have hS1 := hh.sH.trans s1
  refine ⟨_, rfl, (m : Int), rfl, Int.natCast_nonneg _, ?_⟩
  refine ⟨_, rfl, d, a, es, rfl, hL.same hS1, by omega, fun H2 s2 => ⟨_, rfl, _, _, rfl, rfl, mulw (by rw [hfl]; exact Nat.le_trans hLm mp_big) hm, _, rfl, ?_, ?_⟩⟩
  · rw [hfl, ← Int.natCast_mul]; omega
  have s12 := s1.trans s2
  have hS2 := hh.sH.trans s12
  have hh2 := hh.same s12
  obtain ⟨dx2, hob2⟩ := hh2.hs.ob
  refine ⟨_, rfl, x.h, CH, dx2, _, _, rfl, hob2, T.cH, T.h1, hf_rows, x.rd, x.ks, rfl, .inl hh2.hs.ro, fun rr hrr => ?_⟩
  have srr := same_new hrr (.dK x.ks)
  have Srr : S rr = none := hS2.free hrr
  have oR : Sol S H S (upd H2 rr (.dK x.ks)) := ((Sol.refl hh.sH).same s12).new hrr _
  refine ⟨_, rfl, _, rfl, a, m, es, S, rfl, oR.ok, hL, by omega, fun e z => (hM e z).2, hm, by rw [hfl]; exact Nat.le_trans hmp mp_big, by rw [hfl]; exact Nat.le_trans hLm mp_big, fun H4 S4 r4 es4 s4 o4 hL4 ef4 ew4 eM4 => ?_⟩
  have hrA := s4 _ _ (upd_same (H := H2) (a := rr) (o := .dK x.ks))
  have oA := oR.trans o4
  have S4r : S4 rr = none := o4.no _ Srr (by rw [upd_same]; exact fun z => nomatch z)
  refine ⟨_, rfl, _, rfl, rr, _, rfl, DPut.k (k := Sum.inr nm) hrA (by rw [hh.ro.len, sizeLine_eq]; omega), ?_⟩
  have oB := oA.write S4r (.dK (putK x.ks (.inr nm) (.ref r4)))
  have sHB : Same H (upd H4 rr (.dK (putK x.ks (.inr nm) (.ref r4)))) := same_grow ((s12.trans srr).trans s4) (s12.free hrr)
  have hhB := hh.sol oB sHB
  obtain ⟨dxB, hobB⟩ := hhB.hs.ob
  refine ⟨_, rfl, x.h, dxB, _, rfl, hobB, hno (by decide +kernel), _, rfl, _, rfl, (by show 3 ≤ sizeLine; rw [sizeLine_eq]; decide), fun t ht0 => ⟨_, rfl, ?_⟩⟩
  refine keep_of (E := E0) hh (sHB.trans (same_new ht0 _)) (oB.new ht0 _) (same_new ht0 _ _ _ upd_same) S4r (RowsR.put ⟨r4, es4, rfl, hL4, by rw [ef4, hfl], by omega, fun e z => Nat.le_trans (wsum_mem z) (by omega), by rw [rep_len, Nat.mul_comm]; exact hmp⟩ (hh.ro.imp fun _ _ w => (w.same oB.up).p.mono (Nat.le_succ d) (by omega) (by omega)) hh.nd) (putR_nd hh.nd) (by omega) hlim hdl (Nat.le_trans (putR_len _ _ _) (by omega)) q
abbrev sHturn_about : Stmt := inClass (top 54) 12
theorem scHturn_about : FnScope ["self", "name", "parts", "rows"] ["self", "name"] (defScope sHturn_about) := ⟨rfl, rfl, rfl, by decide +kernel, rfl, by decide +kernel, by decide +kernel⟩
theorem ok_hturn_about (T : Txt K mg CS CO CH) (R : RawM K CH "turn_about" "Hall.turn_about" sHturn_about ["self", "name"]) (D_hparts : DnM P w K mg base CH "s10_parts" 3 ["self", "name"] (spParts CS CO CH)) (D_hkeep : DnM P w K mg base CH "s10_keep" 10 ["self", "deed", "rows"] (spKeep CS CO CH))
    (A_about : ∀ d, d ≤ 8 → Dn P w K mg base "about" 12 ["parts"] (spAbout CS CO d)) : DnM P w K mg base CH "turn_about" 23 ["self", "name"] (spTurn CS CO CH) := by
  refine R.ok scHturn_about (fun vs H Q E h => ?_) (fun f cdv A outer s H vs Q E hr h => ?_)
  · obtain ⟨d, M, n, S, x, rs, nm, L, rfl, _⟩ := h; rfl
  obtain ⟨d, M, n, S, x, rs, nm, L, rfl, hnm, hh, hd, hg, hlim, hdl, hrl, q⟩ := h
  have hu := hu_of hr
  have D_about := A_about d hd
  refine ⟨_, (pss_cons (ps_set (i := 2) scHturn_about.nd rfl (Or.inl rfl) (pe_methD (pv 0) T.cH D_hparts (hr.mono (by omega)) (pa_cons (pv 1) pa_nil)))
  (pss_cons (ps_set (i := 3) scHturn_about.nd rfl (Or.inl rfl) (pe_callTy call_dictD rfl T.b_dict boot_dict (pa_cons (pe_fld (pv 0) rfl) pa_nil)))
  (pss_cons (ps_dput hu (pv 3) (pv 1) (pe_callD D_about (hr.mono (by omega)) rfl (pa_cons (pv 2) pa_nil)) rfl)
  (pss_one (ps_expr (pe_methD (pv 0) T.cH D_hkeep (hr.mono (by omega)) (pa_cons (pe_tup (pa_cons pe_str (pa_cons (pv 1) pa_nil))) (pa_cons (pv 3) pa_nil)))))))), ?_⟩
  obtain ⟨dx, hob⟩ := hh.hs.ob
  refine ⟨_, rfl, x.h, dx, _, rfl, hob, hno (by decide +kernel), _, rfl, d, M, n, S, x, rs, nm, L, rfl, hnm, hh, hg, fun H2 a es s12 hL hfl hw hM hLm => ?_⟩
  have hS2 := hh.sH.trans s12
  have hh2 := hh.same s12
  obtain ⟨dx2, hob2⟩ := hh2.hs.ob
  refine ⟨_, rfl, x.h, CH, dx2, _, _, rfl, hob2, T.cH, T.h1, hf_rows, x.rd, x.ks, rfl, .inl hh2.hs.ro, fun rr hrr => ?_⟩
  have srr := same_new hrr (.dK x.ks)
  have Srr : S rr = none := hS2.free hrr
  have oR : Sol S H S (upd H2 rr (.dK x.ks)) := ((Sol.refl hh.sH).same s12).new hrr _
  refine ⟨_, rfl, a, M, es, S, rfl, oR.ok, hL, by omega, fun e z => (hM e z).1, fun H4 S4 r4 es4 s4 o4 hL4 ef4 ew4 eM4 => ?_⟩
  have hrA := s4 _ _ (upd_same (H := H2) (a := rr) (o := .dK x.ks))
  have oA := oR.trans o4
  have S4r : S4 rr = none := o4.no _ Srr (by rw [upd_same]; exact fun z => nomatch z)
  refine ⟨_, rfl, _, rfl, rr, _, rfl, DPut.k (k := Sum.inr nm) hrA (by rw [hh.ro.len, sizeLine_eq]; omega), ?_⟩
  have oB := oA.write S4r (.dK (putK x.ks (.inr nm) (.ref r4)))
  have sHB : Same H (upd H4 rr (.dK (putK x.ks (.inr nm) (.ref r4)))) := same_grow ((s12.trans srr).trans s4) (s12.free hrr)
  have hhB := hh.sol oB sHB
  obtain ⟨dxB, hobB⟩ := hhB.hs.ob
  refine ⟨_, rfl, x.h, dxB, _, rfl, hobB, hno (by decide +kernel), _, rfl, (by show 2 ≤ sizeLine; rw [sizeLine_eq]; decide), fun t ht0 => ⟨_, rfl, ?_⟩⟩
  exact keep_of (E := E0) hh (sHB.trans (same_new ht0 _)) (oB.new ht0 _) (same_new ht0 _ _ _ upd_same) S4r (RowsR.put ⟨r4, es4, rfl, hL4, by rw [ef4, hfl], by omega, eM4, by rw [List.length_reverse]; exact hLm⟩ (hh.ro.imp fun _ _ w => (w.same oB.up).p) hh.nd) (putR_nd hh.nd) hd hlim hdl (Nat.le_trans (putR_len _ _ _) (by omega)) q
end
end Bo
set_option Elab.async false
set_option linter.all false
set_option maxRecDepth 100000
set_option maxHeartbeats 4000000
namespace Bo
open PySem L2 PySem.Spec PyProof.Rows

def spUndo (CH : Addr) : Sp := fun vs H Q _ => ∃ (S : Hp) (x : HallD) (dn0 : List V) (t rd0 : Addr) (dv : V) (ks0 : List (Key × V)), vs = [.ref x.h] ∧ Same S H ∧ HallS CH S H x ∧ x.dn = dn0 ++ [.ref t] ∧ H t = some (.tup [dv, .ref rd0]) ∧ H rd0 = some (.dK ks0) ∧ x.us.length ≤ 100 ∧ x.dn.length ≤ 1000 ∧
  ∀ (H' : Hp) (t2 : Addr), Sol S H S H' → Exc x H H' → HallS CH S H' { h := x.h, rd := rd0, da := x.da, ua := x.ua, dn := dn0, us := x.us ++ [.ref t2], ks := ks0 } → Q .non H'
def spNames (CS CO CH : Addr) : Sp := fun vs H Q _ => ∃ (d M n : Nat) (S : Hp) (x : HallD) (rs : Rs), vs = [.ref x.h] ∧ HR CS CO CH d M n S H x rs ∧ rs.length ≤ 50 ∧ ∀ (H' : Hp) (p : Addr) (ys : List Str), Same H H' → ys.Perm (rs.map (·.1)) → sortedS ys = true → H' p = some (.lst (ys.map V.str)) → Q (.ref p) H'
def spPeople (CS CO CH : Addr) : Sp := fun vs H Q _ => ∃ (d M n : Nat) (S : Hp) (x : HallD) (rs : Rs) (nm : Str) (L : List Say), vs = [.ref x.h, .str nm] ∧ OkName nm ∧ HR CS CO CH d M n S H x rs ∧ n ≤ lim ∧ getR rs nm = some L ∧ ∀ H', Same H H' → Q (.int L.length) H'
def spTotal (CS CO CH : Addr) : Sp := fun vs H Q _ => ∃ (d M n : Nat) (S : Hp) (x : HallD) (rs : Rs) (nm : Str) (L : List Say) (c : Int), vs = [.ref x.h, .str nm, .int c] ∧ OkName nm ∧ HR CS CO CH d M n S H x rs ∧ d ≤ 8 ∧ n ≤ lim ∧ getR rs nm = some L ∧ 0 ≤ c ∧ ∀ H', Same H H' → Q (.int (tot L c)) H'
def spLeast (CS CO CH : Addr) : Sp := fun vs H Q _ => ∃ (d M n : Nat) (S : Hp) (x : HallD) (rs : Rs) (nm : Str) (L : List Say) (c : Int), vs = [.ref x.h, .str nm, .int c] ∧ OkName nm ∧ HR CS CO CH d M n S H x rs ∧ d ≤ 8 ∧ n ≤ lim ∧ getR rs nm = some L ∧ 0 ≤ c ∧ ∀ H', Same H H' → Q (.int (wsh L c)) H'
def spSaying (CS CO CH : Addr) : Sp := fun vs H Q _ => ∃ (d M n : Nat) (S : Hp) (x : HallD) (rs : Rs) (nm : Str) (L : List Say) (k : Nat), vs = [.ref x.h, .str nm, .int k] ∧ OkName nm ∧ HR CS CO CH d M n S H x rs ∧ d ≤ 8 ∧ n ≤ lim ∧ getR rs nm = some L ∧ k < L.length ∧
  ∀ (H' : Hp) (sa : Addr) (z : Say), Same H H' → SayAt S sa z → L[k]? = some z → Q (.ref sa) H'
def spTog (CS CO CH : Addr) : Sp := fun vs H Q _ => ∃ (d M n : Nat) (S : Hp) (x : HallD) (rs : Rs) (a : Addr) (nms : List Str) (Ls : List (List Say)) (c : Int), vs = [.ref x.h, .ref a, .int c] ∧ HR CS CO CH d M n S H x rs ∧ d ≤ 8 ∧ n ≤ lim ∧
  (H a = some (.lst (nms.map V.str)) ∨ H a = some (.tup (nms.map V.str))) ∧ Paired (fun nm L => OkName nm ∧ getR rs nm = some L) nms Ls ∧ nms.length ≤ 100 ∧ 0 ≤ c ∧ ∀ H', Same H H' → Q (.int (Ls.foldr tot c)) H'
section
variable {P : Program} {w : World} {K : PySem.W.Frag} {mg : Str → Option Value} {base : Heap} {CS CO CH : Addr}
abbrev sHundo : Stmt := inClass (top 54) 14
theorem scHundo : FnScope ["self", "deed", "ahead"] ["self"] (defScope sHundo) := ⟨rfl, rfl, rfl, by decide +kernel, rfl, by decide +kernel, by decide +kernel⟩
theorem ok_hundo (T : Txt K mg CS CO CH) (R : RawM K CH "undo" "Hall.undo" sHundo ["self"]) : DnM P w K mg base CH "undo" 10 ["self"] (spUndo CH) := by
  refine R.ok scHundo (fun vs H Q E h => ?_) (fun f cdv A outer s H vs Q E hr h => ?_)
  · obtain ⟨S, x, dn0, t, rd0, dv, ks0, rfl, _⟩ := h; rfl
  obtain ⟨S, x, dn0, t, rd0, dv, ks0, rfl, hS, hs, hdn, ht, hrd0, hul, hdl, q⟩ := h
  refine ⟨_, (pss_cons (ps_if (pt_cmpR (op_eqNil hr.units0) (pe_fld (pv 0) rfl) (pe_lst pa_nil) (nomark _)) (pss_one ps_never) pss_nil)
  (pss_cons (ps_asg (pe_bm0 PySem.F.plainAttrs_list PySem.F.slot_list_pop PySem.F.type_list_pop mt_pop (pe_fld (pv 0) rfl)) (pg_tup rfl (pgs_cons (pg_name (i := 1) scHundo.nd rfl (Or.inl rfl)) (pgs_cons (pg_name (i := 2) scHundo.nd rfl (Or.inl rfl)) pgs_nil))))
  (pss_cons (ps_expr (pe_bm PySem.F.plainAttrs_list PySem.F.slot_list_append PySem.F.type_list_append mt_append (pe_fld (pv 0) rfl) (pa_cons (pe_tup (pa_cons (pv 1) (pa_cons (pe_fld (pv 0) rfl) pa_nil))) pa_nil)))
  (pss_one (ps_fld (pv 0) (pv 2) rfl))))), ?_⟩
  obtain ⟨dx, hob⟩ := hs.ob
  have two : (2 : Nat) ≤ sizeLine := by rw [sizeLine_eq]; decide
  refine ⟨_, rfl, x.h, CH, dx, _, _, rfl, hob, T.cH, T.h2, hf_done, Nat.zero_le _, fun l hl => ?_⟩
  have sl := same_new hl (.lst [])
  refine ⟨x.da, l, _, rfl, rfl, SqL.of (sl _ _ hs.don), SqL.of upd_same, false, ?_, iteF ?_⟩
  · rw [decide_eq_false]
    rw [hdn]
    intro z
    have := congrArg List.length z
    rw [List.length_append] at this
    exact absurd this (Nat.succ_ne_zero _)
  have ob1 := sl _ _ hob
  have oS := (Sol.refl hS).new hl (.lst [])
  have hdon := sl _ _ hs.don
  have hund := sl _ _ hs.und
  have ht1 := sl _ _ ht
  have hrd1 := sl _ _ hrd0
  generalize upd H l (.lst []) = H1 at sl ob1 oS hdon hund ht1 hrd1 ⊢
  refine ⟨_, rfl, x.h, CH, dx, _, _, rfl, ob1, T.cH, T.h2, hf_done, .inl ⟨rfl, _, SqL.of hdon⟩, x.da, _, .ref t, rfl, rfl, hdon, ?_, ?_⟩
  · rw [hdn, List.length_append]
    show (dn0 ++ [V.ref t])[dn0.length + 1 - 1]? = _
    rw [Nat.add_sub_cancel, List.getElem?_append_right (Nat.le_refl _), Nat.sub_self]; rfl
  have nhd : x.h ≠ x.da := ne_of ob1 hdon (fun z => nomatch z)
  have nhu : x.h ≠ x.ua := ne_of ob1 hund (fun z => nomatch z)
  have ntd : t ≠ x.da := ne_of ht1 hdon (fun z => nomatch z)
  have nth : t ≠ x.h := ne_of ht1 ob1 (fun z => nomatch z)
  have nru : rd0 ≠ x.ua := ne_of hrd1 hund (fun z => nomatch z)
  have nrh : rd0 ≠ x.h := ne_of hrd1 ob1 (fun z => nomatch z)
  have nrd : rd0 ≠ x.da := ne_of hrd1 hdon (fun z => nomatch z)
  have edn : x.dn.dropLast = dn0 := by rw [hdn, List.dropLast_concat]
  rw [edn]
  have oT := oS.write hs.sd (.lst dn0)
  have k1 : ∀ b o, b ≠ x.da → H1 b = some o → upd H1 x.da (.lst dn0) b = some o := fun b o e1 e2 => by rw [upd_ne e1]; exact e2
  have g1 : upd H1 x.da (.lst dn0) x.da = some (.lst dn0) := upd_same
  generalize upd H1 x.da (.lst dn0) = H2 at oT k1 g1 ⊢
  refine ⟨t, _, rfl, SqT.of (k1 _ _ ntd ht1), rfl, _, _, rfl, _, _, rfl, rfl, ?_⟩
  have ob2 := k1 _ _ nhd ob1
  have und2 := k1 _ _ hs.ne.symm hund
  refine ⟨_, rfl, x.h, CH, dx, _, _, rfl, ob2, T.cH, T.h3, hf_undone, .inl ⟨rfl, _, SqL.of und2⟩, _, rfl, _, rfl, x.h, CH, dx, _, _, rfl, ob2, T.cH, T.h1, hf_rows, two, fun t2 ht2 => ?_⟩
  have s3 := same_new ht2 (.tup [dv, .ref x.rd])
  have oU := oT.new ht2 (.tup [dv, .ref x.rd])
  generalize upd H2 t2 (.tup [dv, .ref x.rd]) = H3 at s3 oU ⊢
  refine ⟨x.ua, _, _, rfl, rfl, s3 _ _ und2, by rw [sizeLine_eq]; omega, ?_⟩
  have oV := oU.write hs.su (.lst (x.us ++ [.ref t2]))
  have k4 : ∀ b o, b ≠ x.ua → H3 b = some o → upd H3 x.ua (.lst (x.us ++ [.ref t2])) b = some o := fun b o e1 e2 => by rw [upd_ne e1]; exact e2
  have g4 : upd H3 x.ua (.lst (x.us ++ [.ref t2])) x.ua = some (.lst (x.us ++ [.ref t2])) := upd_same
  generalize upd H3 x.ua (.lst (x.us ++ [.ref t2])) = H4 at oV k4 g4 ⊢
  have ob4 := k4 _ _ nhu (s3 _ _ ob2)
  refine ⟨_, rfl, _, rfl, x.h, CH, dx, _, rfl, ob4, T.cH, T.h1, (by show 3 < 1000; decide), ?_⟩
  rw [hf_put_rows]
  have oW := oV.write hs.sh (.ins CH dx (hallF rd0 x.da x.ua))
  have chain : ∀ b o, b ≠ x.h → b ≠ x.da → b ≠ x.ua → H1 b = some o → upd H4 x.h (.ins CH dx (hallF rd0 x.da x.ua)) b = some o := fun b o e1 e2 e3 e4 => by
    rw [upd_ne e1]; exact k4 _ _ e3 (s3 _ _ (k1 _ _ e2 e4))
  refine q _ t2 oW (fun b o e1 e2 e3 e4 => chain b o e1 e2 e3 (sl _ _ e4)) ⟨⟨dx, upd_same⟩, chain _ _ nrh nrd nru hrd1, ?_, ?_, ?_, ?_, hs.ne, hs.sh, hs.sd, hs.su⟩
  · show upd H4 x.h _ x.da = some (.lst dn0)
    rw [upd_ne nhd.symm]; exact k4 _ _ hs.ne (s3 _ _ g1)
  · show upd H4 x.h _ x.ua = some (.lst (x.us ++ [.ref t2]))
    rw [upd_ne nhu.symm]; exact g4
  · intro v z
    exact hs.dr v (by rw [hdn]; exact List.mem_append.mpr (.inl z))
  · intro v z
    rcases List.mem_append.mp z with z | z
    · exact hs.ur v z
    · exact ⟨t2, List.mem_singleton.mp z⟩
abbrev sHnames : Stmt := inClass (top 54) 16
theorem scHnames : FnScope ["self"] ["self"] (defScope sHnames) := ⟨rfl, rfl, rfl, by decide +kernel, rfl, by decide +kernel, by decide +kernel⟩
theorem ok_hnames (T : Txt K mg CS CO CH) (R : RawM K CH "names" "Hall.names" sHnames ["self"]) : DnM P w K mg base CH "names" 10 ["self"] (spNames CS CO CH) := by
  refine R.ok scHnames (fun vs H Q E h => ?_) (fun f cdv A outer s H vs Q E hr h => ?_)
  · obtain ⟨d, M, n, S, x, rs, rfl, _⟩ := h; rfl
  obtain ⟨d, M, n, S, x, rs, rfl, hh, hl, q⟩ := h
  refine ⟨_, (pss_one (ps_ret (pe_callB (call_sortedD rfl) rfl T.b_sorted boot_sorted (pa_cons (pe_fld (pv 0) rfl) pa_nil)))), ?_⟩
  obtain ⟨dx, hob⟩ := hh.hs.ob
  refine ⟨_, rfl, x.h, CH, dx, _, _, rfl, hob, T.cH, T.h1, hf_rows, x.rd, x.ks, rs.map (·.1), rfl, .inl hh.hs.ro, hh.ro.keys, by rw [List.length_map]; omega, fun ys p hp hs hp0 => ?_⟩
  exact q _ p ys (same_new hp0 _) hp hs upd_same
abbrev sHpeople : Stmt := inClass (top 54) 17
theorem scHpeople : FnScope ["self", "name"] ["self", "name"] (defScope sHpeople) := ⟨rfl, rfl, rfl, by decide +kernel, rfl, by decide +kernel, by decide +kernel⟩
theorem ok_hpeople (T : Txt K mg CS CO CH) (R : RawM K CH "people" "Hall.people" sHpeople ["self", "name"]) (D_hparts : DnM P w K mg base CH "s10_parts" 3 ["self", "name"] (spParts CS CO CH)) (D_laid_many : Dn P w K mg base "laid_many" 1 ["parts"] (spLaid CS CO)) : DnM P w K mg base CH "people" 23 ["self", "name"] (spPeople CS CO CH) := by
  refine R.ok scHpeople (fun vs H Q E h => ?_) (fun f cdv A outer s H vs Q E hr h => ?_)
  · obtain ⟨d, M, n, S, x, rs, nm, L, rfl, _⟩ := h; rfl
  obtain ⟨d, M, n, S, x, rs, nm, L, rfl, hnm, hh, hlim, hg, q⟩ := h
  refine ⟨_, (pss_one (ps_ret (pe_callD D_laid_many (hr.mono (by omega)) rfl (pa_cons (pe_methD (pv 0) T.cH D_hparts (hr.mono (by omega)) (pa_cons (pv 1) pa_nil)) pa_nil)))), ?_⟩
  obtain ⟨dx, hob⟩ := hh.hs.ob
  refine ⟨_, rfl, x.h, dx, _, rfl, hob, hno (by decide +kernel), _, rfl, d, M, n, S, x, rs, nm, L, rfl, hnm, hh, hg, fun H1 a es s1 hL hfl hw hM hLm => ?_⟩
  refine ⟨d, a, es, rfl, hL.same (hh.sH.trans s1), by omega, fun H2 s2 => ?_⟩
  rw [hfl]
  exact q H2 (s1.trans s2)
abbrev sHtotal : Stmt := inClass (top 54) 18
theorem scHtotal : FnScope ["self", "name", "company", "parts"] ["self", "name", "company"] (defScope sHtotal) := ⟨rfl, rfl, rfl, by decide +kernel, rfl, by decide +kernel, by decide +kernel⟩
theorem ok_htotal (T : Txt K mg CS CO CH) (R : RawM K CH "total" "Hall.total" sHtotal ["self", "name", "company"]) (D_hparts : DnM P w K mg base CH "s10_parts" 3 ["self", "name"] (spParts CS CO CH)) (D_need_number : Dn P w K mg base "need_number" 2 ["thing"] spNeedNum)
    (A_total_of : ∀ d, d ≤ 8 → Dn P w K mg base "total_of" 21 ["parts", "number"] (spTot CS CO d)) : DnM P w K mg base CH "total" 23 ["self", "name", "company"] (spTotal CS CO CH) := by
  refine R.ok scHtotal (fun vs H Q E h => ?_) (fun f cdv A outer s H vs Q E hr h => ?_)
  · obtain ⟨d, M, n, S, x, rs, nm, L, c, rfl, _⟩ := h; rfl
  obtain ⟨d, M, n, S, x, rs, nm, L, c, rfl, hnm, hh, hd, hlim, hg, hc, q⟩ := h
  have D_total_of := A_total_of d hd
  refine ⟨_, (pss_cons (ps_set (i := 3) scHtotal.nd rfl (Or.inl rfl) (pe_methD (pv 0) T.cH D_hparts (hr.mono (by omega)) (pa_cons (pv 1) pa_nil)))
  (pss_cons (ps_expr (pe_callD D_need_number (hr.mono (by omega)) rfl (pa_cons (pv 2) pa_nil)))
  (pss_one (ps_ret (pe_callD D_total_of (hr.mono (by omega)) rfl (pa_cons (pv 3) (pa_cons (pv 2) pa_nil))))))), ?_⟩
  obtain ⟨dx, hob⟩ := hh.hs.ob
  refine ⟨_, rfl, x.h, dx, _, rfl, hob, hno (by decide +kernel), _, rfl, d, M, n, S, x, rs, nm, L, rfl, hnm, hh, hg, fun H1 a es s1 hL hfl hw hM hLm => ?_⟩
  refine ⟨_, rfl, c, rfl, hc, ?_⟩
  refine ⟨_, rfl, _, rfl, a, c, es, rfl, hL.same (hh.sH.trans s1), by omega, by rw [hfl]; exact Nat.le_trans hLm mp_big, fun H2 s2 => ?_⟩
  rw [hfl]
  exact q H2 (s1.trans s2)
abbrev sHleast : Stmt := inClass (top 54) 19
theorem scHleast : FnScope ["self", "name", "total", "parts"] ["self", "name", "total"] (defScope sHleast) := ⟨rfl, rfl, rfl, by decide +kernel, rfl, by decide +kernel, by decide +kernel⟩
theorem ok_hleast (T : Txt K mg CS CO CH) (R : RawM K CH "least" "Hall.least" sHleast ["self", "name", "total"]) (D_hparts : DnM P w K mg base CH "s10_parts" 3 ["self", "name"] (spParts CS CO CH)) (D_need_number : Dn P w K mg base "need_number" 2 ["thing"] spNeedNum)
    (A_wished : ∀ d, d ≤ 8 → Dn P w K mg base "wished" 20 ["parts", "wish"] (spWsh CS CO d)) : DnM P w K mg base CH "least" 23 ["self", "name", "total"] (spLeast CS CO CH) := by
  refine R.ok scHleast (fun vs H Q E h => ?_) (fun f cdv A outer s H vs Q E hr h => ?_)
  · obtain ⟨d, M, n, S, x, rs, nm, L, c, rfl, _⟩ := h; rfl
  obtain ⟨d, M, n, S, x, rs, nm, L, c, rfl, hnm, hh, hd, hlim, hg, hc, q⟩ := h
  have D_wished := A_wished d hd
  refine ⟨_, (pss_cons (ps_set (i := 3) scHleast.nd rfl (Or.inl rfl) (pe_methD (pv 0) T.cH D_hparts (hr.mono (by omega)) (pa_cons (pv 1) pa_nil)))
  (pss_cons (ps_expr (pe_callD D_need_number (hr.mono (by omega)) rfl (pa_cons (pv 2) pa_nil)))
  (pss_one (ps_ret (pe_ix ix_tup (pe_callD D_wished (hr.mono (by omega)) rfl (pa_cons (pv 3) (pa_cons (pv 2) pa_nil))) pe_int (fun _ _ => rfl)))))), ?_⟩
  obtain ⟨dx, hob⟩ := hh.hs.ob
  refine ⟨_, rfl, x.h, dx, _, rfl, hob, hno (by decide +kernel), _, rfl, d, M, n, S, x, rs, nm, L, rfl, hnm, hh, hg, fun H1 a es s1 hL hfl hw hM hLm => ?_⟩
  refine ⟨_, rfl, c, rfl, hc, ?_⟩
  refine ⟨_, rfl, _, rfl, a, c, es, rfl, hL.same (hh.sH.trans s1), by rw [hfl]; exact Nat.le_trans hLm mp_big, fun H2 p sl s2 hp _ => ?_⟩
  refine ⟨p, _, _, _, rfl, rfl, SqT.of hp, atI_nat (j := 0) rfl, ?_⟩
  rw [hfl]
  exact q H2 (s1.trans s2)
abbrev sHsaying : Stmt := inClass (top 54) 20
theorem scHsaying : FnScope ["self", "name", "place", "parts"] ["self", "name", "place"] (defScope sHsaying) := ⟨rfl, rfl, rfl, by decide +kernel, rfl, by decide +kernel, by decide +kernel⟩
theorem ok_hsaying (T : Txt K mg CS CO CH) (R : RawM K CH "saying" "Hall.saying" sHsaying ["self", "name", "place"]) (D_hparts : DnM P w K mg base CH "s10_parts" 3 ["self", "name"] (spParts CS CO CH)) (D_need_place : Dn P w K mg base "need_place" 2 ["thing", "most"] spNeedPlace) (D_laid_many : Dn P w K mg base "laid_many" 1 ["parts"] (spLaid CS CO))
    (A_spot_at : ∀ d, d ≤ 8 → Dn P w K mg base "spot_at" 9 ["parts", "place"] (spSpotAt CS CO d)) : DnM P w K mg base CH "saying" 23 ["self", "name", "place"] (spSaying CS CO CH) := by
  refine R.ok scHsaying (fun vs H Q E h => ?_) (fun f cdv A outer s H vs Q E hr h => ?_)
  · obtain ⟨d, M, n, S, x, rs, nm, L, k, rfl, _⟩ := h; rfl
  obtain ⟨d, M, n, S, x, rs, nm, L, k, rfl, hnm, hh, hd, hlim, hg, hk, q⟩ := h
  have D_spot_at := A_spot_at d hd
  refine ⟨_, (pss_cons (ps_set (i := 3) scHsaying.nd rfl (Or.inl rfl) (pe_methD (pv 0) T.cH D_hparts (hr.mono (by omega)) (pa_cons (pv 1) pa_nil)))
  (pss_cons (ps_expr (pe_callD D_need_place (hr.mono (by omega)) rfl (pa_cons (pv 2) (pa_cons (pe_op op_sub (pe_callD D_laid_many (hr.mono (by omega)) rfl (pa_cons (pv 3) pa_nil)) pe_int) pa_nil))))
  (pss_one (ps_ret (pe_fld (pe_callD D_spot_at (hr.mono (by omega)) rfl (pa_cons (pv 3) (pa_cons (pv 2) pa_nil))) rfl))))), ?_⟩
  obtain ⟨dx, hob⟩ := hh.hs.ob
  refine ⟨_, rfl, x.h, dx, _, rfl, hob, hno (by decide +kernel), _, rfl, d, M, n, S, x, rs, nm, L, rfl, hnm, hh, hg, fun H1 a es s1 hL hfl hw hM hLm => ?_⟩
  have hS1 := hh.sH.trans s1
  refine ⟨_, rfl, _, rfl, d, a, es, rfl, hL.same hS1, by omega, fun H3 s3 => ⟨_, _, rfl, rfl, k, _, rfl, Int.natCast_nonneg _, by rw [hfl]; omega, ?_⟩⟩
  refine ⟨_, rfl, _, rfl, a, k, es, S, rfl, hS1.trans s3, hL, by rw [hfl]; exact hk, fun y z hz hsp => ?_⟩
  obtain ⟨p', dx', sa, kk, z', ep, hp', k0, k1, hsa, e2⟩ := hsp
  obtain rfl : y = p' := V.ref.inj ep
  have ez : z = z' := by
    have := congrArg Prod.fst e2
    exact List.head_eq_of_cons_eq this
  subst ez
  refine ⟨y, CS, dx', _, _, rfl, (hS1.trans s3) _ _ hp', T.iS.cl, T.s1, sf_said, ?_⟩
  rw [hfl] at hz
  exact q H3 sa z (s1.trans s3) hsa hz
abbrev sHtogether : Stmt := inClass (top 54) 23
theorem scHtogether : FnScope ["self", "names", "company", "rows", "found", "parts", "name"] ["self", "names", "company"] (defScope sHtogether) := ⟨rfl, rfl, rfl, by decide +kernel, rfl, by decide +kernel, by decide +kernel⟩
theorem ok_htogether (T : Txt K mg CS CO CH) (R : RawM K CH "together" "Hall.together" sHtogether ["self", "names", "company"]) (D_hparts : DnM P w K mg base CH "s10_parts" 3 ["self", "name"] (spParts CS CO CH)) (D_need_number : Dn P w K mg base "need_number" 2 ["thing"] spNeedNum)
    (A_total_of : ∀ d, d ≤ 8 → Dn P w K mg base "total_of" 21 ["parts", "number"] (spTot CS CO d)) : DnM P w K mg base CH "together" 23 ["self", "names", "company"] (spTog CS CO CH) := by
  refine R.ok scHtogether (fun vs H Q E h => ?_) (fun f cdv A outer s H vs Q E hr h => ?_)
  · obtain ⟨d, M, n, S, x, rs, a, nms, Ls, c, rfl, _⟩ := h; rfl
  obtain ⟨d, M, n, S, x, rs, a, nms, Ls, c, rfl, hh, hd, hlim, ha, hp, hl, hc, q⟩ := h
  have D_total_of := A_total_of d hd
  obtain ⟨dx, hob⟩ := hh.hs.ob
  have two : (2 : Nat) ≤ sizeLine := by rw [sizeLine_eq]; decide
  -- what one turn of the comprehension makes
  have turn : ∀ (σ : L2.St) (D : Addr) (i : Nat) (v : V) (H' : Hp) (accs : List V), σ[0]? = some (some (.ref x.h)) → σ[6]? = some (some v) → (nms.map V.str)[i]? = some v → Same H H' → H D = none → H' D = some (.lst accs) → Paired (RowS CS CO d M n S) accs (Ls.take i) →
      tMeth CH "s10_parts" (spParts CS CO CH) [] E0 (tVar 0) (tCons (tVar 6) tNil) σ H' fun y H4 => ∃ acc, H4 D = some (.lst acc) ∧ acc.length < sizeLine ∧ (∃ accs, Same H (upd H4 D (.lst (acc ++ [y]))) ∧ upd H4 D (.lst (acc ++ [y])) D = some (.lst accs) ∧ Paired (RowS CS CO d M n S) accs (Ls.take (i + 1))) := by
    rintro σ D i v H' accs h0 h6 hi s1 hD hd' hpa
    rw [List.getElem?_map] at hi
    cases ei : nms[i]? with
    | none => rw [ei] at hi; cases hi
    | some nm =>
      rw [ei] at hi
      obtain rfl : V.str nm = v := Option.some.inj hi
      obtain ⟨L, hL, hnm, hg⟩ := pget hp ei
      have hh1 := hh.same s1
      obtain ⟨dx1, hob1⟩ := hh1.hs.ob
      refine ⟨_, h0, x.h, dx1, _, rfl, hob1, hno (by decide +kernel), _, h6, d, M, n, S, x, rs, nm, L, rfl, hnm, hh1, hg, fun H1 b es s2 hLs hfl hw hM hLm => ?_⟩
      have hil := (List.getElem?_eq_some_iff.mp ei).1
      have el : accs.length = (Ls.take i).length := Paired.length hpa
      rw [List.length_take] at el
      refine ⟨accs, s2 _ _ hd', by rw [sizeLine_eq]; omega, _, same_grow (s1.trans s2) hD, upd_same, ?_⟩
      rw [take_succ hL]
      exact papp hpa (pone ⟨b, es, rfl, hLs, hfl, hw, hM, hLm⟩)
  rcases ha with ha | ha
  · refine ⟨_, (pss_cons (ps_if (pt_not (pt_val (pe_callB call_isiT rfl T.b_isinstance boot_isinstance (pa_cons (pv 1) (pa_cons (pe_tup (pa_cons (pe_bltn (v := .ty "list") rfl T.b_list boot_list rfl) (pa_cons (pe_bltn (v := .ty "tuple") rfl T.b_tuple boot_tuple rfl) pa_nil))) pa_nil))))) (pss_one ps_never) pss_nil)
  (pss_cons (ps_setLc (i := 3) (own := [("name", 6)]) (g := gName 6) (tt := tYes) rfl scHtogether.nd rfl rfl (sw_true rfl rfl rfl (by decide +kernel)) (pi_list (pv 1)) (blkOk_by (own := [("name", 6)]) (N := ["self", "names", "company", "rows", "found", "parts", "name"]) (sc := defScope sHtogether) (by decide +kernel)) (fun _ _ _ _ _ => pg_name (i := 6) scHtogether.nd rfl (Or.inl rfl)) (fun _ _ _ _ _ => pts_nil) (fun _ _ _ _ _ => (pe_methD (pv 0) T.cH D_hparts (hr.mono (by omega)) (pa_cons (pv 6) pa_nil))))
  (pss_cons (ps_expr (pe_callD D_need_number (hr.mono (by omega)) rfl (pa_cons (pv 2) pa_nil)))
  (pss_cons (ps_set (i := 4) scHtogether.nd rfl (Or.inl rfl) (pv 2))
  (pss_cons (ps_for PassesOwn.never rfl (pi_list (pe_revL (pv 3))) (pg_name (i := 5) scHtogether.nd rfl (Or.inl rfl))
  (pss_one (ps_set (i := 4) scHtogether.nd rfl (Or.inl rfl) (pe_callD D_total_of (hr.mono (by omega)) rfl (pa_cons (pv 5) (pa_cons (pv 4) pa_nil))))))
  (pss_one (ps_ret (pv 4)))))))), ?_⟩
    refine ⟨_, rfl, two, fun tp htp => ?_⟩
    have s0 : Same H (upd H tp (.tup [.ty "list", .ty "tuple"])) := same_new htp _
    refine ⟨_, tp, _, _, _, true, rfl, upd_same, .cons (.ty "list") (.cons (.ty "tuple") .nil), .base (.lst (s0 _ _ ha)), kitAny_cons (b := true) (kit_ty (by decide +kernel)) (fun z => nomatch z) (fun _ => rfl), true, rfl, iteF ?_⟩
    refine ⟨_, rfl, a, rfl, ⟨_, SqL.of (s0 _ _ ha)⟩, fun D hD => ?_⟩
    have hD0 : H D = none := s0.free hD
    refine lc_list (K := K) (a := a) (xs := nms.map V.str) (fun i H' => ∃ accs, Same H H' ∧ H' D = some (.lst accs) ∧ Paired (RowS CS CO d M n S) accs (Ls.take i)) ⟨[], s0.trans (same_new hD _), upd_same, .nil⟩ (fun i H' _ ⟨_, s, _⟩ => SqL.of (s _ _ ha)) ?_ ?_
    · rintro i v H' hi ⟨accs, s1, hd', hpa⟩
      exact ⟨rfl, tyes (turn _ D i v H' accs rfl rfl hi s1 hD0 hd' hpa)⟩
    · rintro H1 ⟨accs, s1, hD1, hpa⟩
      rw [List.length_map, Paired.length hp, List.take_length] at hpa
      refine ⟨_, rfl, c, rfl, hc, ?_⟩
      refine ⟨_, rfl, ?_⟩
      refine ⟨_, rfl, D, accs, rfl, SqL.of hD1, fun b hb0 => ?_⟩
      have sb := same_new hb0 (.lst accs.reverse)
      have hpr := prev hpa
      refine ⟨b, rfl, ⟨_, SqL.of upd_same⟩, for_list (K := K) (a := b) (xs := accs.reverse) (fun i σ H' => ∃ (num : Int) (x5 : Option V), σ = [some (.ref x.h), some (.ref a), some (.int c), some (.ref D), some (.int num), x5, none] ∧ num = (Ls.reverse.take i).foldl (fun c L => tot L c) c ∧ Same H H' ∧ H' b = some (.lst accs.reverse))
        ⟨c, none, rfl, rfl, s1.trans sb, upd_same⟩ (fun i σ H' _ ⟨_, _, _, _, _, h⟩ => SqL.of h) ?_ ?_⟩
      · rintro i v σ H' hv ⟨num, x5, rfl, hnum, s2, hb2⟩
        obtain ⟨L, hL, y, es, rfl, hLs, hfl, hw, hM, hLm⟩ := pget hpr hv
        refine ⟨_, rfl, _, rfl, y, num, es, rfl, hLs.same (hh.sH.trans s2), by omega, by rw [hfl]; exact Nat.le_trans hLm mp_big, fun H2 s3 => ?_⟩
        refine ⟨_, _, rfl, ?_, s2.trans s3, s3 _ _ hb2⟩
        rw [take_succ hL, List.foldl_append, hfl, hnum]
        rfl
      · rintro σ H' ⟨num, x5, rfl, hnum, s2, hb2⟩
        have el : accs.reverse.length = Ls.reverse.length := Paired.length hpr
        rw [el, List.take_length, List.foldl_reverse] at hnum
        refine ⟨_, rfl, ?_⟩
        rw [hnum]
        exact q H' s2
  · refine ⟨_, (pss_cons (ps_if (pt_not (pt_val (pe_callB call_isiT rfl T.b_isinstance boot_isinstance (pa_cons (pv 1) (pa_cons (pe_tup (pa_cons (pe_bltn (v := .ty "list") rfl T.b_list boot_list rfl) (pa_cons (pe_bltn (v := .ty "tuple") rfl T.b_tuple boot_tuple rfl) pa_nil))) pa_nil))))) (pss_one ps_never) pss_nil)
  (pss_cons (ps_setLc (i := 3) (own := [("name", 6)]) (g := gName 6) (tt := tYes) rfl scHtogether.nd rfl rfl (sw_true rfl rfl rfl (by decide +kernel)) (pi_tup (pv 1)) (blkOk_by (own := [("name", 6)]) (N := ["self", "names", "company", "rows", "found", "parts", "name"]) (sc := defScope sHtogether) (by decide +kernel)) (fun _ _ _ _ _ => pg_name (i := 6) scHtogether.nd rfl (Or.inl rfl)) (fun _ _ _ _ _ => pts_nil) (fun _ _ _ _ _ => (pe_methD (pv 0) T.cH D_hparts (hr.mono (by omega)) (pa_cons (pv 6) pa_nil))))
  (pss_cons (ps_expr (pe_callD D_need_number (hr.mono (by omega)) rfl (pa_cons (pv 2) pa_nil)))
  (pss_cons (ps_set (i := 4) scHtogether.nd rfl (Or.inl rfl) (pv 2))
  (pss_cons (ps_for PassesOwn.never rfl (pi_list (pe_revL (pv 3))) (pg_name (i := 5) scHtogether.nd rfl (Or.inl rfl))
  (pss_one (ps_set (i := 4) scHtogether.nd rfl (Or.inl rfl) (pe_callD D_total_of (hr.mono (by omega)) rfl (pa_cons (pv 5) (pa_cons (pv 4) pa_nil))))))
  (pss_one (ps_ret (pv 4)))))))), ?_⟩
    refine ⟨_, rfl, two, fun tp htp => ?_⟩
    have s0 : Same H (upd H tp (.tup [.ty "list", .ty "tuple"])) := same_new htp _
    refine ⟨_, tp, _, _, _, true, rfl, upd_same, .cons (.ty "list") (.cons (.ty "tuple") .nil), .base (.tup (s0 _ _ ha)), kitAny_cons (b := false) (kit_ty (by decide +kernel)) (fun _ => kitAny_cons (b := true) (kit_ty (by decide +kernel)) (fun z => nomatch z) (fun _ => rfl)) (fun z => nomatch z), true, rfl, iteF ?_⟩
    refine ⟨_, rfl, a, rfl, ⟨_, SqT.of (s0 _ _ ha)⟩, fun D hD => ?_⟩
    have hD0 : H D = none := s0.free hD
    refine lc_tup (K := K) (a := a) (xs := nms.map V.str) (fun i H' => ∃ accs, Same H H' ∧ H' D = some (.lst accs) ∧ Paired (RowS CS CO d M n S) accs (Ls.take i)) ⟨[], s0.trans (same_new hD _), upd_same, .nil⟩ (fun i H' _ ⟨_, s, _⟩ => SqT.of (s _ _ ha)) ?_ ?_
    · rintro i v H' hi ⟨accs, s1, hd', hpa⟩
      exact ⟨rfl, tyes (turn _ D i v H' accs rfl rfl hi s1 hD0 hd' hpa)⟩
    · rintro H1 ⟨accs, s1, hD1, hpa⟩
      rw [List.length_map, Paired.length hp, List.take_length] at hpa
      refine ⟨_, rfl, c, rfl, hc, ?_⟩
      refine ⟨_, rfl, ?_⟩
      refine ⟨_, rfl, D, accs, rfl, SqL.of hD1, fun b hb0 => ?_⟩
      have sb := same_new hb0 (.lst accs.reverse)
      have hpr := prev hpa
      refine ⟨b, rfl, ⟨_, SqL.of upd_same⟩, for_list (K := K) (a := b) (xs := accs.reverse) (fun i σ H' => ∃ (num : Int) (x5 : Option V), σ = [some (.ref x.h), some (.ref a), some (.int c), some (.ref D), some (.int num), x5, none] ∧ num = (Ls.reverse.take i).foldl (fun c L => tot L c) c ∧ Same H H' ∧ H' b = some (.lst accs.reverse))
        ⟨c, none, rfl, rfl, s1.trans sb, upd_same⟩ (fun i σ H' _ ⟨_, _, _, _, _, h⟩ => SqL.of h) ?_ ?_⟩
      · rintro i v σ H' hv ⟨num, x5, rfl, hnum, s2, hb2⟩
        obtain ⟨L, hL, y, es, rfl, hLs, hfl, hw, hM, hLm⟩ := pget hpr hv
        refine ⟨_, rfl, _, rfl, y, num, es, rfl, hLs.same (hh.sH.trans s2), by omega, by rw [hfl]; exact Nat.le_trans hLm mp_big, fun H2 s3 => ?_⟩
        refine ⟨_, _, rfl, ?_, s2.trans s3, s3 _ _ hb2⟩
        rw [take_succ hL, List.foldl_append, hfl, hnum]
        rfl
      · rintro σ H' ⟨num, x5, rfl, hnum, s2, hb2⟩
        have el : accs.reverse.length = Ls.reverse.length := Paired.length hpr
        rw [el, List.take_length, List.foldl_reverse] at hnum
        refine ⟨_, rfl, ?_⟩
        rw [hnum]
        exact q H' s2
end
end Bo
set_option Elab.async false
set_option linter.all false
set_option maxRecDepth 100000
set_option maxHeartbeats 4000000
namespace Bo
open PySem L2 PySem.Spec PyProof.Rows

/-! ### the law's own helpers: draws -/
def UrnAt (H : Hp) (u : Addr) (n : Nat) : Prop := ∃ a b c : Int, H u = some (.lst [.int a, .int b, .int c]) ∧ 0 ≤ b ∧ b < 2 ^ 160 ∧ 0 ≤ c ∧ c + n ≤ 1000000
theorem UrnAt.le {H : Hp} {u : Addr} {n m : Nat} (h : UrnAt H u n) (hm : m ≤ n) : UrnAt H u m := by
  obtain ⟨a, b, c, h1, h2, h3, h4, h5⟩ := h
  exact ⟨a, b, c, h1, h2, h3, h4, by omega⟩
theorem UrnAt.same {H H' : Hp} {u : Addr} {n : Nat} (h : UrnAt H u n) (s : Same H H') : UrnAt H' u n := by
  obtain ⟨a, b, c, h1, h2⟩ := h
  exact ⟨a, b, c, s _ _ h1, h2⟩
theorem UrnAt.there {H : Hp} {u : Addr} {n : Nat} (h : UrnAt H u n) : H u ≠ none := by
  obtain ⟨a, b, c, h1, _⟩ := h
  rw [h1]; exact fun z => nomatch z
def ExU (u : Addr) (H H' : Hp) : Prop := ∀ b o, b ≠ u → H b = some o → H' b = some o
theorem ExU.trans {u : Addr} {H H1 H2 : Hp} (a : ExU u H H1) (b : ExU u H1 H2) : ExU u H H2 := fun c o h1 h2 => b c o h1 (a c o h1 h2)
theorem ExU.of {u : Addr} {H H' : Hp} (s : Same H H') : ExU u H H' := fun _ _ _ h => s _ _ h
theorem ExU.dom {u : Addr} {H H' : Hp} {n : Nat} (e : ExU u H H') (h : UrnAt H' u n) : ∀ b, H b ≠ none → H' b ≠ none := fun b z => by
  by_cases c : b = u
  · rw [c]; exact h.there
  · cases q : H b with
    | none => exact absurd q z
    | some o => rw [e b o c q]; exact fun y => nomatch y
theorem ExU.free {u : Addr} {H H' : Hp} {n : Nat} (e : ExU u H H') (h : UrnAt H' u n) {p : Addr} (hp : H' p = none) : H p = none := by
  cases q : H p with
  | none => rfl
  | some o => exact absurd hp (e.dom h p (by rw [q]; exact fun z => nomatch z))
theorem ExU.sol {u : Addr} {S H S1 H1 H2 : Hp} {n : Nat} (o : Sol S H S1 H1) (su : S1 u = none) (e : ExU u H1 H2) (h : UrnAt H2 u n) : Sol S H S1 H2 :=
  ⟨o.up, fun b ob z => e b ob (ne_of_none z su) (o.ok b ob z), o.no, fun b z => e.dom h b (o.dom b z)⟩
theorem atI_ex {xs : List V} {r : Int} (h0 : 0 ≤ r) (h1 : r < xs.length) : ∃ v, atI xs r = some v ∧ v ∈ xs := by
  have hr : r.toNat < xs.length := by omega
  refine ⟨xs[r.toNat], ?_, List.getElem_mem hr⟩
  have e : ((r.toNat : Nat) : Int) = r := by omega
  have h2 := atI_nat (List.getElem?_eq_getElem hr)
  rw [e] at h2
  exact h2
def spUrn (K : PySem.W.Frag) : Sp := fun vs H Q _ => ∃ (a : Addr) (ns : List Int) (k : Int), vs = [.ref a, .int k] ∧ SqL K H a (ns.map V.int) ∧ 0 ≤ k ∧ k ≤ 100 ∧ ∀ (H' : Hp) (u : Addr), Same H H' → H u = none → UrnAt H' u 1000000 → Q (.ref u) H'
def spBall : Sp := fun vs H Q _ => ∃ (u : Addr) (n : Nat) (many : Int), vs = [.ref u, .int many] ∧ UrnAt H u (n + 1) ∧ 0 < many ∧ many.natAbs < 2 ^ 200 ∧ ∀ (H' : Hp) (r : Int), ExU u H H' → UrnAt H' u n → 0 ≤ r → r < many → Q (.int r) H'
def spSayg : Sp := fun vs H Q _ => ∃ (u : Addr) (n : Nat) (wide : Int), vs = [.ref u, .int wide] ∧ UrnAt H u (n + 8) ∧ 0 < wide ∧ wide.natAbs < 2 ^ 200 ∧ ∀ (H' : Hp) (sa : Addr) (s : Say), ExU u H H' → UrnAt H' u n → SayAt H' sa s → H sa = none → Q (.ref sa) H'
def spLPpl (d : Nat) : Sp := fun vs H Q _ => ∃ (a : Addr) (es : List El), vs = [.ref a] ∧ LongH d H a es ∧ Q (.int (flat es).length) H
def spLSay (d : Nat) : Sp := fun vs H Q _ => ∃ (a : Addr) (es : List El) (S : Hp), vs = [.ref a] ∧ Same S H ∧ LongH d S a es ∧ wsum es ≤ lim ∧
  ∀ (H' : Hp) (r : Addr) (us : List V), Same H H' → H r = none → H' r = some (.lst us) → (∀ v ∈ us, ∃ sa s, v = .ref sa ∧ SayAt S sa s) → us.length ≤ wsum es → Q (.ref r) H'
def spComp : Sp := fun vs H Q _ => ∃ (u r : Addr) (n : Nat) (us : List V), vs = [.ref u, .ref r] ∧ UrnAt H u (n + 5) ∧ H r = some (.lst us) ∧ (∀ v ∈ us, ∃ sa s, v = .ref sa ∧ SayAt H sa s) ∧ us.length ≤ lim ∧ ∀ (H' : Hp) (c : Int), ExU u H H' → UrnAt H' u n → 0 ≤ c → Q (.int c) H'
theorem pow_ok {i : Int} {j : Nat} {b : Nat} (hi : i.natAbs < 2 ^ b) (h : b * j ≤ 134217728) : CPowW i (j : Int) := by
  refine ⟨Int.natCast_nonneg _, ?_⟩
  have h1 := PyProof.Rows.intBits_le hi
  have h2 : Builtin.Int.intBits i * j ≤ b * j := Nat.mul_le_mul_right j h1
  have e : (2 : Int) ^ 27 = 134217728 := by decide
  rw [e]
  have : ((Builtin.Int.intBits i * j : Nat) : Int) ≤ 134217728 := by omega
  rw [Int.natCast_mul] at this
  exact this
theorem mulw2 {i j : Int} (hi : i.natAbs < 2 ^ 200) (hj : j.natAbs < 2 ^ 200) : CMulW i j := wide_mul (a := 200) (b := 200) hi hj (by decide) (by decide) (by decide)
section
variable {P : Program} {w : World} {K : PySem.W.Frag} {mg : Str → Option Value} {base : Heap} {CS CO CH : Addr}
abbrev sLurn : Stmt := top 56
theorem scLurn : FnScope ["_law_script", "_law_k", "_law_cell"] ["_law_script", "_law_k"] (defScope sLurn) := ⟨rfl, rfl, rfl, by decide +kernel, rfl, by decide +kernel, by decide +kernel⟩
theorem ok_lurn (T : Txt K mg CS CO CH) (R : Raw K mg "_law_urn" sLurn ["_law_script", "_law_k"]) : Dn P w K mg base "_law_urn" 1 ["_law_script", "_law_k"] (spUrn K) := by
  refine R.ok scLurn (fun vs H Q E h => ?_) (fun f cdv A outer s H vs Q E hr h => ?_)
  · obtain ⟨a, ns, k, rfl, _⟩ := h; rfl
  obtain ⟨a, ns, k, rfl, ha, k0, k1, q⟩ := h
  refine ⟨_, (pss_cons (ps_set (i := 2) scLurn.nd rfl (Or.inl rfl) pe_int)
  (pss_cons (ps_if (pt_cmpR op_lt (pv 1) (pe_callB call_len_seq rfl T.b_len boot_len (pa_cons (pv 0) pa_nil)) (nomark _)) (pss_one (ps_set (i := 2) scLurn.nd rfl (Or.inl rfl) (pe_ix ix_list (pv 0) (pv 1) (fun _ _ => rfl)))) pss_nil)
  (pss_one (ps_ret (pe_lst (pa_cons (pe_callB (call_max2 rfl) rfl T.b_max boot_max (pa_cons pe_int (pa_cons (pe_op op_sub (pe_callB call_abs rfl T.b_abs boot_abs (pa_cons (pv 2) pa_nil)) (pe_op op_powW pe_int pe_int)) pa_nil))) (pa_cons (pe_op op_add (pe_op op_add (pe_op op_mulW (pe_op op_mod (pv 2) (pe_op op_add (pe_op op_powW pe_int pe_int) pe_int)) pe_int) (pe_op op_mulW pe_int (pv 1))) pe_int) (pa_cons pe_int pa_nil)))))))), ?_⟩
  have three : (3 : Nat) ≤ sizeLine := by rw [sizeLine_eq]; decide
  dsimp only [gName]
  refine seq_set ?_
  refine seq_mid (fun σ' H2 => ∃ c : Int, σ' = [some (.ref a), some (.int k), some (.int c)] ∧ H2 = H) ?_ fun key => ?_
  · rintro σ' _ ⟨c, rfl, rfl⟩
    have hp18 : CPowW 10 18 := pow_ok (b := 4) (j := 18) (by decide) (by decide)
    have hp41 : CPowW 10 41 := pow_ok (b := 4) (j := 41) (by decide) (by decide)
    refine ⟨_, rfl, _, rfl, _, _, rfl, rfl, hp18, _, _, rfl, rfl, _, _, rfl, ?_⟩
    have e41 : (10 : Int) ^ (41 : Int).toNat + 3 = 100000000000000000000000000000000000000003 := by decide
    have m0 : 0 ≤ c % (10 ^ (41 : Int).toNat + 3) := Int.emod_nonneg _ (by rw [e41]; decide)
    have m1 : c % (10 ^ (41 : Int).toNat + 3) < 10 ^ (41 : Int).toNat + 3 := Int.emod_lt_of_pos _ (by rw [e41]; decide)
    refine ⟨_, rfl, _, _, rfl, rfl, hp41, _, _, rfl, rfl, _, _, rfl, rfl, (by show (0:Int) < _; rw [e41]; decide), _, _, rfl, rfl, ?_, ?_⟩
    · refine mulw2 ?_ (by decide)
      rw [e41] at m0 m1 ⊢
      omega
    · refine ⟨_, rfl, _, _, rfl, rfl, mulw2 (by decide) (by omega), _, _, rfl, rfl, _, _, rfl, rfl, three, fun u hu0 => ?_⟩
      refine q _ u (same_new hu0 _) hu0 ⟨_, _, _, upd_same, ?_, ?_, Int.le_refl 0, by decide⟩
      · rw [e41] at m0 ⊢; omega
      · rw [e41] at m0 m1 ⊢; omega
  · refine ⟨_, rfl, _, rfl, a, _, rfl, .inl ha, _, _, rfl, rfl, _, rfl, ?_⟩
    by_cases c : k < ((ns.map V.int).length : Int)
    · rw [decide_eq_true c]
      obtain ⟨v, hv, hm⟩ := atI_ex k0 c
      obtain ⟨z, _, rfl⟩ := List.mem_map.mp hm
      exact iteT ⟨_, rfl, _, rfl, a, _, _, _, rfl, rfl, ha, hv, key _ _ ⟨z, rfl, rfl⟩⟩
    · rw [decide_eq_false c]
      exact iteF (key _ _ ⟨0, rfl, rfl⟩)
abbrev sLball : Stmt := top 57
theorem scLball : FnScope ["_law_urn_here", "_law_many", "_law_found", "_law_mixed"] ["_law_urn_here", "_law_many"] (defScope sLball) := ⟨rfl, rfl, rfl, by decide +kernel, rfl, by decide +kernel, by decide +kernel⟩
theorem ok_lball (R : Raw K mg "_law_ball" sLball ["_law_urn_here", "_law_many"]) : Dn P w K mg base "_law_ball" 1 ["_law_urn_here", "_law_many"] spBall := by
  refine R.ok scLball (fun vs H Q E h => ?_) (fun f cdv A outer s H vs Q E hr h => ?_)
  · obtain ⟨u, n, many, rfl, _⟩ := h; rfl
  obtain ⟨u, n, many, rfl, ⟨a, b, c, hu, b0, b1, c0, c1⟩, m0, m1, q⟩ := h
  refine ⟨_, (pss_cons (ps_if (pt_cmpR op_gt (pe_ix ix_list (pv 0) pe_int (fun _ _ => rfl)) pe_int (nomark _)) (pss_cons (ps_set (i := 2) scLball.nd rfl (Or.inl rfl) (pe_op op_mod (pe_ix ix_list (pv 0) pe_int (fun _ _ => rfl)) (pv 1)))
  (pss_cons (ps_asg (pe_op op_fdivW (pe_ix ix_list (pv 0) pe_int (fun _ _ => rfl)) (pv 1)) (pg_sub (pv 0) pe_int set_list))
  (pss_one (ps_ret (pv 2))))) pss_nil)
  (pss_cons (ps_asg (pe_op op_add (pe_ix ix_list (pv 0) pe_int (fun _ _ => rfl)) pe_int) (pg_sub (pv 0) pe_int set_list))
  (pss_cons (ps_set (i := 3) scLball.nd rfl (Or.inl rfl) (pe_op op_mod (pe_op op_powW (pe_op op_add (pe_ix ix_list (pv 0) pe_int (fun _ _ => rfl)) (pe_op op_mulW pe_int (pe_ix ix_list (pv 0) pe_int (fun _ _ => rfl)))) pe_int) (pe_op op_add (pe_op op_powW pe_int pe_int) pe_int)))
  (pss_cons (ps_set (i := 3) scLball.nd rfl (Or.inl rfl) (pe_op op_mod (pe_op op_add (pe_op op_add (pe_op op_mulW (pv 3) (pv 3)) (pe_op op_mulW pe_int (pe_ix ix_list (pv 0) pe_int (fun _ _ => rfl)))) pe_int) (pe_op op_add (pe_op op_powW pe_int pe_int) pe_int)))
  (pss_one (ps_ret (pe_op op_mod (pe_op op_fdivW (pv 3) pe_int) (pv 1)))))))), ?_⟩
  refine ⟨_, rfl, u, _, _, _, rfl, rfl, SqL.of hu, atI_nat (j := 0) rfl, _, _, rfl, rfl, _, rfl, ?_⟩
  by_cases ca : 0 < a
  · rw [decide_eq_true ca]
    refine iteT ⟨_, rfl, u, _, _, _, rfl, rfl, SqL.of hu, atI_nat (j := 0) rfl, _, rfl, _, _, rfl, rfl, m0, ?_⟩
    refine ⟨_, rfl, u, _, _, _, rfl, rfl, SqL.of hu, atI_nat (j := 0) rfl, _, rfl, _, _, rfl, rfl, wide_div m0 m1 (by decide) (by decide), ?_⟩
    refine ⟨_, rfl, u, _, _, 0, rfl, rfl, hu, rfl, ?_⟩
    refine ⟨_, rfl, q _ _ (fun x o e z => by rw [upd_ne e]; exact z) ⟨_, b, c, upd_same, b0, b1, c0, by omega⟩ (Int.emod_nonneg _ (by omega)) (Int.emod_lt_of_pos _ m0)⟩
  · rw [decide_eq_false ca]
    refine iteF ?_
    refine ⟨_, rfl, u, _, _, _, rfl, rfl, SqL.of hu, atI_nat (j := 2) rfl, _, _, rfl, rfl, ?_⟩
    refine ⟨_, rfl, u, _, _, 2, rfl, rfl, hu, rfl, ?_⟩
    generalize hg : upd H u (HO.lst _) = H2
    have hu2 : H2 u = some (.lst [.int a, .int b, .int (c + 1)]) := by rw [← hg]; exact upd_same
    have hx : ExU u H H2 := fun x o e z => by rw [← hg, upd_ne e]; exact z
    have e43 : (10 : Int) ^ (43 : Int).toNat + 61 = 10000000000000000000000000000000000000000061 := by decide
    have e42 : (10 : Int) ^ (42 : Int).toNat + 11 = 1000000000000000000000000000000000000000011 := by decide
    have gg : 0 ≤ b + 86028121 * (c + 1) := by omega
    have p3 : CPowW (b + 86028121 * (c + 1)) 3 := pow_ok (b := 162) (j := 3) (by omega) (by decide)
    have hp43 : CPowW 10 43 := pow_ok (b := 4) (j := 43) (by decide) (by decide)
    have hp42 : CPowW 10 42 := pow_ok (b := 4) (j := 42) (by decide) (by decide)
    refine ⟨_, rfl, u, _, _, _, rfl, rfl, SqL.of hu2, atI_nat (j := 1) rfl, _, rfl, u, _, _, _, rfl, rfl, SqL.of hu2, atI_nat (j := 2) rfl, _, _, rfl, rfl, mulw2 (by decide) (by omega), _, _, rfl, rfl, _, _, rfl, rfl, p3, ?_⟩
    refine ⟨_, _, rfl, rfl, hp43, _, _, rfl, rfl, _, _, rfl, rfl, (by show (0:Int) < _; rw [e43]; decide), ?_⟩
    have lt : ((b + 86028121 * (c + 1)) ^ (3 : Int).toNat % (10 ^ (43 : Int).toNat + 61)).natAbs < 2 ^ 200 := by
      have g0 : 0 ≤ (b + 86028121 * (c + 1)) ^ (3 : Int).toNat % (10 ^ (43 : Int).toNat + 61) := Int.emod_nonneg _ (by rw [e43]; decide)
      have g1 : (b + 86028121 * (c + 1)) ^ (3 : Int).toNat % (10 ^ (43 : Int).toNat + 61) < 10 ^ (43 : Int).toNat + 61 := Int.emod_lt_of_pos _ (by rw [e43]; decide)
      generalize (b + 86028121 * (c + 1)) ^ (3 : Int).toNat % (10 ^ (43 : Int).toNat + 61) = z at g0 g1 ⊢
      rw [e43] at g1
      omega
    refine ⟨_, rfl, _, rfl, _, _, rfl, rfl, mulw2 lt lt, _, rfl, u, _, _, _, rfl, rfl, SqL.of hu2, atI_nat (j := 2) rfl, _, _, rfl, rfl, mulw2 (by decide) (by omega), _, _, rfl, rfl, _, _, rfl, rfl, ?_⟩
    refine ⟨_, _, rfl, rfl, hp42, _, _, rfl, rfl, _, _, rfl, rfl, (by show (0:Int) < _; rw [e42]; decide), ?_⟩
    refine ⟨_, rfl, _, _, rfl, rfl, wide_div (b := 30) (by decide) (by decide) (by decide) (by decide), _, rfl, _, _, rfl, rfl, m0, ?_⟩
    exact q _ _ hx ⟨_, b, c + 1, hu2, b0, b1, by omega, by omega⟩ (Int.emod_nonneg _ (by omega)) (Int.emod_lt_of_pos _ m0)
end
end Bo
set_option Elab.async false
set_option linter.all false
set_option maxRecDepth 100000
set_option maxHeartbeats 4000000
namespace Bo
open PySem L2 PySem.Spec PyProof.Rows

theorem mul200 {a b : Nat} {i j : Int} (hi : i.natAbs < 2 ^ a) (hj : j.natAbs < 2 ^ b) (h0 : 0 < a) (h1 : 0 < b) (h : a + b ≤ 1000000) : CMulW i j := wide_mul hi hj h0 h1 h
/-- the drawn index finds something -/
theorem ex_at {xs : List V} {r : Int} (h0 : 0 ≤ r) (h1 : r < xs.length) {p : V → Prop} (h : ∀ v ∈ xs, p v) : ∃ v, atI xs r = some v ∧ p v := by
  obtain ⟨v, a, b⟩ := atI_ex h0 h1
  exact ⟨v, a, h v b⟩
theorem ex_of {H : Hp} {m : Addr} {xs : List V} (_ : H m = some (.lst xs)) {r : Int} (h0 : 0 ≤ r) (h1 : r < xs.length) {p : V → Prop} (h : ∀ v ∈ xs, p v) : ∃ v, atI xs r = some v ∧ p v := ex_at h0 h1 h
section
variable {P : Program} {w : World} {K : PySem.W.Frag} {mg : Str → Option Value} {base : Heap} {CS CO CH : Addr}
abbrev sLsaying : Stmt := top 58
theorem scLsaying : FnScope ["_law_urn_here", "_law_wide", "_law_least", "_law_way"] ["_law_urn_here", "_law_wide"] (defScope sLsaying) := ⟨rfl, rfl, rfl, by decide +kernel, rfl, by decide +kernel, by decide +kernel⟩
theorem ok_lsaying (R : Raw K mg "_law_saying" sLsaying ["_law_urn_here", "_law_wide"]) (D_lball : Dn P w K mg base "_law_ball" 1 ["_law_urn_here", "_law_many"] spBall) : Dn P w K mg base "_law_saying" 2 ["_law_urn_here", "_law_wide"] spSayg := by
  refine R.ok scLsaying (fun vs H Q E h => ?_) (fun f cdv A outer s H vs Q E hr h => ?_)
  · obtain ⟨u, n, wide, rfl, _⟩ := h; rfl
  obtain ⟨u, n, wide, rfl, hu, w0, w1, q⟩ := h
  have four : (4 : Nat) ≤ sizeLine := by rw [sizeLine_eq]; decide
  have two : (2 : Nat) ≤ sizeLine := by rw [sizeLine_eq]; decide
  refine ⟨_, (pss_cons (ps_set (i := 2) scLsaying.nd rfl (Or.inl rfl) (pe_ix ix_list (pe_lst (pa_cons pe_int (pa_cons (pe_callD D_lball (hr.mono (by omega)) rfl (pa_cons (pv 0) (pa_cons pe_int pa_nil))) (pa_cons (pe_callD D_lball (hr.mono (by omega)) rfl (pa_cons (pv 0) (pa_cons (pv 1) pa_nil))) (pa_cons (pe_callD D_lball (hr.mono (by omega)) rfl (pa_cons (pv 0) (pa_cons (pv 1) pa_nil))) pa_nil))))) (pe_callD D_lball (hr.mono (by omega)) rfl (pa_cons (pv 0) (pa_cons pe_int pa_nil))) (fun _ _ => rfl)))
  (pss_cons (ps_set (i := 3) scLsaying.nd rfl (Or.inl rfl) (pe_callD D_lball (hr.mono (by omega)) rfl (pa_cons (pv 0) (pa_cons pe_int pa_nil))))
  (pss_cons (ps_if (pt_cmpR op_eq (pv 3) pe_int (nomark _)) (pss_one (ps_ret (pe_tup (pa_cons (pv 2) (pa_cons pe_non pa_nil))))) pss_nil)
  (pss_one (ps_ret (pe_tup (pa_cons (pv 2) (pa_cons (pe_op op_add (pv 2) (pe_ix ix_list (pe_lst (pa_cons pe_int (pa_cons (pe_callD D_lball (hr.mono (by omega)) rfl (pa_cons (pv 0) (pa_cons pe_int pa_nil))) (pa_cons (pe_callD D_lball (hr.mono (by omega)) rfl (pa_cons (pv 0) (pa_cons pe_int pa_nil))) (pa_cons (pe_callD D_lball (hr.mono (by omega)) rfl (pa_cons (pv 0) (pa_cons (pv 1) pa_nil))) pa_nil))))) (pv 3) (fun _ _ => rfl))) pa_nil)))))))), ?_⟩
  refine ⟨_, rfl, u, n + 7, 4, rfl, hu, by decide, by decide, fun H1 r1 x1 u1 p1 _ => ?_⟩
  refine ⟨_, rfl, _, rfl, u, n + 6, wide, rfl, u1, w0, w1, fun H2 r2 x2 u2 p2 _ => ?_⟩
  refine ⟨_, rfl, _, rfl, u, n + 5, wide, rfl, u2, w0, w1, fun H3 r3 x3 u3 p3 _ => ?_⟩
  refine ⟨four, fun l hl0 => ?_⟩
  have hlu : l ≠ u := fun e => u3.there (e ▸ hl0)
  refine ⟨_, rfl, u, n + 4, 4, rfl, u3.same (same_new hl0 _), by decide, by decide, fun H4 r4 x4 u4 p4 q4 => ?_⟩
  obtain ⟨v, hv, i, rfl, hi⟩ := ex_at (xs := [.int 0, .int r1, .int r2, .int r3]) p4 q4 (p := fun v => ∃ i : Int, v = .int i ∧ 0 ≤ i) (by
    intro v hv
    simp only [List.mem_cons, List.not_mem_nil, or_false] at hv
    rcases hv with rfl | rfl | rfl | rfl
    · exact ⟨0, rfl, Int.le_refl 0⟩
    · exact ⟨_, rfl, p1⟩
    · exact ⟨_, rfl, p2⟩
    · exact ⟨_, rfl, p3⟩)
  have hl : H4 l = some (.lst [.int 0, .int r1, .int r2, .int r3]) := x4 _ _ hlu upd_same
  have e4 : ExU u H H4 := (((x1.trans x2).trans x3).trans (ExU.of (same_new hl0 _))).trans x4
  refine ⟨l, _, _, _, rfl, rfl, SqL.of hl, hv, ?_⟩
  refine ⟨_, rfl, u, n + 3, 5, rfl, u4, by decide, by decide, fun H5 r5 x5 u5 p5 q5 => ?_⟩
  have e5 := e4.trans x5
  refine ⟨_, rfl, rfl, _, rfl, ?_⟩
  by_cases c : r5 = 4
  · rw [decide_eq_true (by rw [c])]
    refine iteT ⟨_, rfl, two, fun t ht0 => ?_⟩
    exact q _ t (i, none) (e5.trans (ExU.of (same_new ht0 _))) ((u5.same (same_new ht0 _)).le (by omega)) ⟨upd_same, hi, fun k z => nomatch z⟩ (e5.free u5 ht0)
  · rw [decide_eq_false (fun z => c (by injection z))]
    refine iteF ?_
    refine ⟨_, rfl, _, rfl, _, rfl, u, n + 2, 3, rfl, u5, by decide, by decide, fun H6 r6 x6 u6 p6 _ => ?_⟩
    refine ⟨_, rfl, u, n + 1, 9, rfl, u6, by decide, by decide, fun H7 r7 x7 u7 p7 _ => ?_⟩
    refine ⟨_, rfl, _, rfl, u, n, wide, rfl, u7, w0, w1, fun H8 r8 x8 u8 p8 _ => ?_⟩
    refine ⟨four, fun l2 hl2 => ?_⟩
    obtain ⟨v, hv, j, rfl, hj⟩ := ex_at (xs := [.int 0, .int r6, .int r7, .int r8]) p5 (show r5 < 4 by omega) (p := fun v => ∃ i : Int, v = .int i ∧ 0 ≤ i) (by
      intro v hv
      simp only [List.mem_cons, List.not_mem_nil, or_false] at hv
      rcases hv with rfl | rfl | rfl | rfl
      · exact ⟨0, rfl, Int.le_refl 0⟩
      · exact ⟨_, rfl, p6⟩
      · exact ⟨_, rfl, p7⟩
      · exact ⟨_, rfl, p8⟩)
    refine ⟨_, rfl, l2, _, _, _, rfl, rfl, SqL.of upd_same, hv, _, _, rfl, rfl, two, fun t ht0 => ?_⟩
    have e9 := (((e5.trans x6).trans x7).trans x8).trans (ExU.of (same_new hl2 (.lst [.int 0, .int r6, .int r7, .int r8])))
    have u9 := u8.same (same_new hl2 (.lst [.int 0, .int r6, .int r7, .int r8]))
    exact q _ t (i, some (i + j)) (e9.trans (ExU.of (same_new ht0 _))) (u9.same (same_new ht0 _)) ⟨upd_same, hi, fun k z => by injection z with z; rw [← z]; exact Int.le_add_of_nonneg_right hj⟩ (e9.free u9 ht0)
abbrev sLpeople : Stmt := top 59
theorem scLpeople : FnScope ["_law_long_here", "_law_found", "_law_item"] ["_law_long_here"] (defScope sLpeople) := ⟨rfl, rfl, rfl, by decide +kernel, rfl, by decide +kernel, by decide +kernel⟩
theorem ok_lpeople {d : Nat} (R : Raw K mg "_law_people" sLpeople ["_law_long_here"]) (D_lpeople : Dn P w K mg base "_law_people" (d + 1) ["_law_long_here"] (prv spLPpl d)) : Dn P w K mg base "_law_people" (d + 2) ["_law_long_here"] (spLPpl d) := by
  refine R.ok scLpeople (fun vs H Q E h => ?_) (fun f cdv A outer s H vs Q E hr h => ?_)
  · obtain ⟨a, es, rfl, _⟩ := h; rfl
  obtain ⟨a, es, rfl, ⟨us, ha, hp⟩, q⟩ := h
  refine ⟨_, (pss_cons (ps_set (i := 1) scLpeople.nd rfl (Or.inl rfl) pe_int)
  (pss_cons (ps_for PassesOwn.never rfl (pi_list (pv 0)) (pg_name (i := 2) scLpeople.nd rfl (Or.inl rfl))
  (pss_one (ps_set (i := 1) scLpeople.nd rfl (Or.inl rfl) (pe_op op_add (pv 1) (pe_ifExp (pt_cmpR op_eq (pe_ix ix_tup (pv 2) pe_int (fun _ _ => rfl)) pe_str (nomark _)) (pe_op op_mulW (pe_ix ix_tup (pv 2) pe_int (fun _ _ => rfl)) (pe_callD D_lpeople (hr.mono (by omega)) rfl (pa_cons (pe_ix ix_tup (pv 2) pe_int (fun _ _ => rfl)) pa_nil))) pe_int)))))
  (pss_one (ps_ret (pv 1))))), ?_⟩
  refine ⟨_, rfl, a, rfl, ⟨_, SqL.of ha⟩, for_list (K := K) (a := a) (xs := us) (fun i σ H' => ∃ (u : Option V), σ = [some (.ref a), some (.int (flat (es.take i)).length), u] ∧ H' = H)
    ⟨none, rfl, rfl⟩ (fun i σ H1 _ ⟨_, _, e⟩ => by rw [e]; exact SqL.of ha) ?_ ?_⟩
  · rintro i x σ H2 hx ⟨u, rfl, e2⟩
    subst H2
    obtain ⟨e, he, hpe⟩ := pget hp hx
    have fin : ∀ k : Int, k = e.1.length → ∃ (u : Option V), [some (V.ref a), some (V.int (((flat (es.take i)).length : Int) + k)), some x] = [some (V.ref a), some (V.int (flat (es.take (i + 1))).length), u] ∧ H = H := fun k hk => by
      refine ⟨some x, ?_, rfl⟩
      rw [hk, flat_take he, List.length_append, Int.natCast_add]
    cases d with
    | zero => exact hpe.elim
    | succ d =>
      rcases hpe with ⟨sa, z, rfl, hz, rfl⟩ | ⟨y, b, t, ws, fs, rfl, hy, hb, hpr, ht, hn, hw, rfl⟩
      · exact ⟨_, rfl, _, rfl, sa, _, _, _, rfl, rfl, SqT.of hz.1, atI_nat (j := 0) rfl, rfl, false, by rw [decide_eq_false (fun z => nomatch z)], iteF ⟨_, _, rfl, rfl, fin 1 rfl⟩⟩
      · refine ⟨_, rfl, _, rfl, y, _, _, _, rfl, rfl, SqT.of hy, atI_nat (j := 0) rfl, rfl, true, by rw [decide_eq_true rfl], iteT ?_⟩
        refine ⟨_, rfl, y, _, _, _, rfl, rfl, SqT.of hy, atI_nat (j := 1) rfl, _, rfl, y, _, _, _, rfl, rfl, SqT.of hy, atI_nat (j := 2) rfl, b, fs, rfl, ⟨ws, hb, hpr⟩, _, _, rfl, rfl, mulw ht hn, ?_⟩
        exact ⟨_, _, rfl, rfl, fin _ (by rw [rep_len, Int.natCast_mul])⟩
  · rintro σ _ ⟨u, rfl, rfl⟩
    have el : us.length = es.length := Paired.length hp
    rw [el, List.take_length]
    exact ⟨_, rfl, q⟩
theorem all_lpeople (R : Raw K mg "_law_people" sLpeople ["_law_long_here"]) : ∀ d, Dn P w K mg base "_law_people" (d + 2) ["_law_long_here"] (spLPpl d)
  | 0 => ok_lpeople R (R.no 1 _)
  | d + 1 => ok_lpeople R (all_lpeople R d)
abbrev sLsayings : Stmt := top 61
theorem scLsayings : FnScope ["_law_long_here", "_law_found", "_law_item"] ["_law_long_here"] (defScope sLsayings) := ⟨rfl, rfl, rfl, by decide +kernel, rfl, by decide +kernel, by decide +kernel⟩
theorem ok_lsayings {d : Nat} (R : Raw K mg "_law_sayings" sLsayings ["_law_long_here"]) (D_lsayings : Dn P w K mg base "_law_sayings" (d + 1) ["_law_long_here"] (prv spLSay d)) : Dn P w K mg base "_law_sayings" (d + 2) ["_law_long_here"] (spLSay d) := by
  refine R.ok scLsayings (fun vs H Q E h => ?_) (fun f cdv A outer s H vs Q E hr h => ?_)
  · obtain ⟨a, es, S, rfl, _⟩ := h; rfl
  obtain ⟨a, es, S, rfl, hS, ⟨us, haS, hp⟩, hw, q⟩ := h
  have ha := hS _ _ haS
  refine ⟨_, (pss_cons (ps_set (i := 1) scLsayings.nd rfl (Or.inl rfl) (pe_lst pa_nil))
  (pss_cons (ps_for PassesOwn.never rfl (pi_list (pv 0)) (pg_name (i := 2) scLsayings.nd rfl (Or.inl rfl))
  (pss_one (ps_expr (pe_bm PySem.F.plainAttrs_list PySem.F.slot_list_extend PySem.F.type_list_extend mt_extend (pv 1) (pa_cons (pe_ifExp (pt_cmpR op_eq (pe_ix ix_tup (pv 2) pe_int (fun _ _ => rfl)) pe_str (nomark _)) (pe_callD D_lsayings (hr.mono (by omega)) rfl (pa_cons (pe_ix ix_tup (pv 2) pe_int (fun _ _ => rfl)) pa_nil)) (pe_lst (pa_cons (pv 2) pa_nil))) pa_nil)))))
  (pss_one (ps_ret (pv 1))))), ?_⟩
  refine ⟨Nat.zero_le _, fun r hr0 => ?_⟩
  refine ⟨_, rfl, a, rfl, ⟨_, SqL.of (same_new hr0 _ _ _ ha)⟩, for_list (K := K) (a := a) (xs := us) (fun i σ H' => ∃ (u : Option V) (vs : List V), σ = [some (.ref a), some (.ref r), u] ∧ Same H H' ∧ H' r = some (.lst vs) ∧ (∀ v ∈ vs, ∃ sa s, v = .ref sa ∧ SayAt S sa s) ∧ vs.length ≤ wsum (es.take i))
    ⟨none, [], rfl, same_new hr0 _, upd_same, (fun v hv => nomatch hv), Nat.zero_le _⟩ (fun i σ H1 _ ⟨_, _, _, s, _⟩ => SqL.of (s _ _ ha)) ?_ ?_⟩
  · rintro i x σ H1 hx ⟨u, vs, rfl, s1, h1, hv, hl⟩
    obtain ⟨e, he, hpe⟩ := pget hp hx
    have hw1 := wsum_take he
    have hw2 := wsum_take_le es (i + 1)
    have fin : ∀ (H2 : Hp) (b : Addr) (zs : List V), Same H1 H2 → H1 b = none → H2 b = some (.lst zs) → (∀ v ∈ zs, ∃ sa s, v = .ref sa ∧ SayAt S sa s) → zs.length ≤ e.2 → 
        rExtend (.ref r) [.ref b] H2 fun _ H3 => ∃ (u : Option V) (vs : List V), [some (.ref a), some (.ref r), some x] = [some (.ref a), some (.ref r), u] ∧ Same H H3 ∧ H3 r = some (.lst vs) ∧ (∀ v ∈ vs, ∃ sa s, v = .ref sa ∧ SayAt S sa s) ∧ vs.length ≤ wsum (es.take (i + 1)) := fun H2 b zs s2 hb0 hb hz hn => by
      refine ⟨r, b, vs, zs, rfl, rfl, s2 _ _ h1, hb, ?_, _, _, rfl, same_grow (s1.trans s2) hr0, upd_same, ?_, ?_⟩
      · rw [sizeLine_eq]; have := lim_eq; omega
      · intro v hm
        rcases List.mem_append.mp hm with hm | hm
        · exact hv v hm
        · exact hz v hm
      · rw [List.length_append, hw1]; omega
    cases d with
    | zero => exact hpe.elim
    | succ d =>
      rcases hpe with ⟨sa, z, rfl, hz, rfl⟩ | ⟨y, b, t, ws, fs, rfl, hy, hb, hpr, ht, hn, hwf, rfl⟩
      · refine ⟨_, rfl, .inl ⟨rfl, _, SqL.of h1⟩, _, rfl, sa, _, _, _, rfl, rfl, SqT.of (s1 _ _ (hS _ _ hz.1)), atI_nat (j := 0) rfl, rfl, false, by rw [decide_eq_false (fun z => nomatch z)], iteF ?_⟩
        refine ⟨_, rfl, (by show 1 ≤ sizeLine; rw [sizeLine_eq]; decide), fun p hp0 => ?_⟩
        exact fin _ p _ (same_new hp0 _) hp0 upd_same (fun v hm => by rw [List.mem_singleton] at hm; exact ⟨sa, z, hm, hz⟩) (Nat.le_refl 1)
      · refine ⟨_, rfl, .inl ⟨rfl, _, SqL.of h1⟩, _, rfl, y, _, _, _, rfl, rfl, SqT.of (s1 _ _ (hS _ _ hy)), atI_nat (j := 0) rfl, rfl, true, by rw [decide_eq_true rfl], iteT ?_⟩
        refine ⟨_, rfl, y, _, _, _, rfl, rfl, SqT.of (s1 _ _ (hS _ _ hy)), atI_nat (j := 2) rfl, b, fs, S, rfl, hS.trans s1, ⟨ws, hb, hpr⟩, hwf, fun H2 r2 zs s2 r20 hr2 hz hzl => ?_⟩
        exact fin H2 r2 zs s2 r20 hr2 hz (Nat.le_trans hzl (Nat.le_add_left _ _))
  · rintro σ H1 ⟨u, vs, rfl, s1, h1, hv, hl⟩
    have el : us.length = es.length := Paired.length hp
    rw [el, List.take_length] at hl
    exact ⟨_, rfl, q _ r vs s1 hr0 h1 hv hl⟩
theorem all_lsayings (R : Raw K mg "_law_sayings" sLsayings ["_law_long_here"]) : ∀ d, Dn P w K mg base "_law_sayings" (d + 2) ["_law_long_here"] (spLSay d)
  | 0 => ok_lsayings R (R.no 1 _)
  | d + 1 => ok_lsayings R (all_lsayings R d)
abbrev sLcompany : Stmt := top 62
theorem scLcompany : FnScope ["_law_urn_here", "_law_sayings_here", "_law_least", "_law_most", "_law_near"] ["_law_urn_here", "_law_sayings_here"] (defScope sLcompany) := ⟨rfl, rfl, rfl, by decide +kernel, rfl, by decide +kernel, by decide +kernel⟩
theorem ok_lcompany (T : Txt K mg CS CO CH) (R : Raw K mg "_law_company" sLcompany ["_law_urn_here", "_law_sayings_here"]) (D_lball : Dn P w K mg base "_law_ball" 1 ["_law_urn_here", "_law_many"] spBall) : Dn P w K mg base "_law_company" 2 ["_law_urn_here", "_law_sayings_here"] spComp := by
  refine R.ok scLcompany (fun vs H Q E h => ?_) (fun f cdv A outer s H vs Q E hr h => ?_)
  · obtain ⟨u, r, n, us, rfl, _⟩ := h; rfl
  obtain ⟨u, r, n, us, rfl, hu, hr1, hs, hl, q⟩ := h
  have five : (5 : Nat) ≤ sizeLine := by rw [sizeLine_eq]; decide
  have e29 : (10 : Int) ^ (29 : Int).toNat = 100000000000000000000000000000 := by decide
  have hp29 : CPowW 10 29 := pow_ok (b := 4) (j := 29) (by decide) (by decide)
  have hur : r ≠ u := fun e => by
    obtain ⟨a, b, c, h1, _⟩ := hu
    rw [e, h1] at hr1
    injection hr1 with hr1
    injection hr1 with hr1
    obtain ⟨sa, s, h2, _⟩ := hs (.int a) (by rw [← hr1]; exact List.mem_cons_self)
    exact nomatch h2
  have hsu : ∀ {H' : Hp} {sa : Addr} {s : Say}, ExU u H H' → SayAt H sa s → SayAt H' sa s := fun x z => ⟨x _ _ (fun e => by
    obtain ⟨a, b, c, h1, _⟩ := hu
    have := z.1
    rw [e, h1] at this
    exact nomatch this) z.1, z.2⟩
  refine ⟨_, (pss_cons (ps_if (pt_cmpR (op_eqNil hr.units0) (pv 1) (pe_lst pa_nil) (nomark _)) (pss_one (ps_ret (pe_callD D_lball (hr.mono (by omega)) rfl (pa_cons (pv 0) (pa_cons pe_int pa_nil))))) pss_nil)
  (pss_cons (ps_asg (pe_ix ix_list (pv 1) (pe_callD D_lball (hr.mono (by omega)) rfl (pa_cons (pv 0) (pa_cons (pe_callB call_len_seq rfl T.b_len boot_len (pa_cons (pv 1) pa_nil)) pa_nil))) (fun _ _ => rfl)) (pg_tup rfl (pgs_cons (pg_name (i := 2) scLcompany.nd rfl (Or.inl rfl)) (pgs_cons (pg_name (i := 3) scLcompany.nd rfl (Or.inl rfl)) pgs_nil))))
  (pss_cons (ps_set (i := 4) scLcompany.nd rfl (Or.inl rfl) (pe_callB (call_max2 rfl) rfl T.b_max boot_max (pa_cons pe_int (pa_cons (pe_op op_sub (pe_ifExp (pt_cmpR op_isN (pv 3) pe_non (nomark _)) (pv 2) (pv 3)) (pe_callD D_lball (hr.mono (by omega)) rfl (pa_cons (pv 0) (pa_cons pe_int pa_nil)))) pa_nil))))
  (pss_one (ps_ret (pe_ix ix_list (pe_lst (pa_cons pe_int (pa_cons (pe_callD D_lball (hr.mono (by omega)) rfl (pa_cons (pv 0) (pa_cons pe_int pa_nil))) (pa_cons (pv 4) (pa_cons (pe_op op_fdivW (pv 4) pe_int) (pa_cons (pe_callD D_lball (hr.mono (by omega)) rfl (pa_cons (pv 0) (pa_cons (pe_op op_powW pe_int pe_int) pa_nil))) pa_nil)))))) (pe_callD D_lball (hr.mono (by omega)) rfl (pa_cons (pv 0) (pa_cons pe_int pa_nil))) (fun _ _ => rfl))))))), ?_⟩
  refine ⟨_, rfl, Nat.zero_le _, fun l hl0 => ?_⟩
  have s0 := same_new hl0 (.lst [])
  have u0 := hu.same s0
  refine ⟨r, l, us, rfl, rfl, SqL.of (s0 _ _ hr1), SqL.of upd_same, _, rfl, ?_⟩
  by_cases c : us = []
  · rw [decide_eq_true c]
    exact iteT ⟨_, rfl, u, n + 4, 99, rfl, u0, by decide, by decide, fun H1 r1 x1 u1 p1 _ => q _ _ ((ExU.of s0).trans x1) (u1.le (by omega)) p1⟩
  rw [decide_eq_false c]
  refine iteF ?_
  have hpos : 0 < us.length := Nat.pos_of_ne_zero (fun e => c (List.length_eq_zero_iff.mp e))
  refine ⟨_, rfl, _, rfl, _, rfl, r, us, rfl, .inl (SqL.of (s0 _ _ hr1)), u, n + 4, us.length, rfl, u0, by omega, by have := lim_eq; omega, fun H1 r1 x1 u1 p1 q1 => ?_⟩
  have e1 := (ExU.of s0).trans x1
  obtain ⟨v, hv, sa, ⟨ls, ms⟩, rfl, hsa⟩ := ex_at p1 q1 hs
  refine ⟨r, _, _, _, rfl, rfl, SqL.of (e1 _ _ hur hr1), hv, ?_⟩
  refine ⟨sa, _, rfl, SqT.of (hsu e1 hsa).1, rfl, _, _, rfl, _, _, rfl, rfl, ?_⟩
  rcases ms with _ | k
  case' none => refine ⟨_, rfl, rfl, true, rfl, iteT ⟨_, rfl, ?_⟩⟩
  case' some => refine ⟨_, rfl, rfl, false, rfl, iteF ⟨_, rfl, ?_⟩⟩
  all_goals
    refine ⟨_, rfl, u, n + 3, 9, rfl, u1, by decide, by decide, fun H2 r2 x2 u2 p2 _ => ?_⟩
    refine ⟨_, _, rfl, rfl, _, _, rfl, ?_⟩
    have z0 : ∀ y : Int, 0 ≤ (if y > 0 then y else 0) := fun y => by split <;> omega
    refine ⟨_, rfl, u, n + 2, 12, rfl, u2, by decide, by decide, fun H3 r3 x3 u3 p3 _ => ?_⟩
    refine ⟨_, rfl, _, rfl, _, _, rfl, rfl, wide_div (b := 2) (by decide) (by decide) (by decide) (by decide), ?_⟩
    refine ⟨_, rfl, _, _, rfl, rfl, hp29, u, n + 1, _, rfl, u3, (by show (0:Int) < _; rw [e29]; decide), (by rw [e29]; decide), fun H4 r4 x4 u4 p4 _ => ?_⟩
    refine ⟨five, fun m hm0 => ?_⟩
    refine ⟨_, rfl, u, n, 5, rfl, u4.same (same_new hm0 _), by decide, by decide, fun H5 r5 x5 u5 p5 q5 => ?_⟩
    have hm5 := x5 m _ (fun e => u4.there (e ▸ hm0)) upd_same
    obtain ⟨v, hv, i, rfl, hi⟩ := ex_of hm5 p5 q5 (p := fun v => ∃ i : Int, v = .int i ∧ 0 ≤ i) (by
      intro v hv
      simp only [List.mem_cons, List.not_mem_nil, or_false] at hv
      rcases hv with rfl | rfl | rfl | rfl | rfl
      · exact ⟨0, rfl, Int.le_refl 0⟩
      · exact ⟨r3, rfl, p3⟩
      · exact ⟨_, rfl, z0 _⟩
      · exact ⟨_, rfl, Int.ediv_nonneg (z0 _) (by decide)⟩
      · exact ⟨r4, rfl, p4⟩)
    refine ⟨m, _, _, _, rfl, rfl, SqL.of hm5, hv, ?_⟩
    exact q _ i ((((e1.trans x2).trans x3).trans x4).trans ((ExU.of (same_new hm0 _)).trans x5)) u5 hi
end
end Bo
set_option Elab.async false
set_option linter.all false
set_option maxRecDepth 100000
set_option maxHeartbeats 4000000
namespace Bo
open PySem L2 PySem.Spec PyProof.Rows

/-! ### the law's own helpers: a drawn long row -/
def kb : Nat → Nat
  | 0 => 9
  | d + 1 => 11 + 5 * kb d
def tw : Nat → Nat
  | 0 => 1
  | d + 1 => 1 + 5 * tw d
def PlanAt (H : Hp) (pl : Addr) : Prop := ∃ p0 p1 p2 : Int, H pl = some (.lst [.int p0, .int p1, .int p2]) ∧ 0 ≤ p1 ∧ p1 ≤ 100000000000000000000000000000 ∧ 0 < p2 ∧ p2 ≤ 100000000000000000000000000000
def Ex2 (u pl : Addr) (H H' : Hp) : Prop := ∀ b o, b ≠ u → b ≠ pl → H b = some o → H' b = some o
theorem Ex2.trans {u pl : Addr} {H H1 H2 : Hp} (a : Ex2 u pl H H1) (b : Ex2 u pl H1 H2) : Ex2 u pl H H2 := fun c o h1 h2 h3 => b c o h1 h2 (a c o h1 h2 h3)
theorem Ex2.of {u pl : Addr} {H H' : Hp} (s : Same H H') : Ex2 u pl H H' := fun _ _ _ _ h => s _ _ h
theorem ExU.to2 {u pl : Addr} {H H' : Hp} (s : ExU u H H') : Ex2 u pl H H' := fun _ _ h _ z => s _ _ h z
theorem Ex2.grow {u pl : Addr} {H H1 : Hp} {r : Addr} {o : HO} (h : Ex2 u pl H H1) (r0 : H r = none) : Ex2 u pl H (upd H1 r o) := fun b z h1 h2 q => by rw [upd_ne (ne_of_none q r0)]; exact h b z h1 h2 q
theorem PlanAt.same {H H' : Hp} {pl : Addr} (h : PlanAt H pl) (s : Same H H') : PlanAt H' pl := by
  obtain ⟨a, b, c, h1, h2⟩ := h
  exact ⟨a, b, c, s _ _ h1, h2⟩
theorem PlanAt.ex {H H' : Hp} {u pl : Addr} (h : PlanAt H pl) (s : ExU u H H') (n : pl ≠ u) : PlanAt H' pl := by
  obtain ⟨a, b, c, h1, h2⟩ := h
  exact ⟨a, b, c, s _ _ n h1, h2⟩
theorem PlanAt.there {H : Hp} {u : Addr} (h : PlanAt H u) : H u ≠ none := by
  obtain ⟨a, b, c, h1, _⟩ := h
  rw [h1]; exact fun z => nomatch z
theorem UrnAt.wr {H : Hp} {u p : Addr} {o : HO} {n : Nat} (h : UrnAt H u n) (ne : u ≠ p) : UrnAt (upd H p o) u n := by
  obtain ⟨a, b, c, h1, h2⟩ := h
  exact ⟨a, b, c, by rw [upd_ne ne]; exact h1, h2⟩
theorem PlanAt.wr {H : Hp} {u p : Addr} {o : HO} (h : PlanAt H u) (ne : u ≠ p) : PlanAt (upd H p o) u := by
  obtain ⟨a, b, c, h1, h2⟩ := h
  exact ⟨a, b, c, by rw [upd_ne ne]; exact h1, h2⟩
/-- a row that is built while draws are made -/
theorem Bld.ex {R : Hp → V → El → Prop} {S H S1 H1 H2 : Hp} {r u : Addr} {vs : List V} {es : List El} {n : Nat} (b : Bld R S H r S1 H1 vs es) (su : S1 u = none) (e : ExU u H1 H2) (h : UrnAt H2 u n) (ru : r ≠ u) : Bld R S H r S1 H2 vs es :=
  ⟨b.sol.trans (ExU.sol (Sol.refl b.sol.ok) su e h), b.r0, b.rS, e _ _ ru b.r1, b.pr⟩
theorem Bld.wr {R : Hp → V → El → Prop} {S H S1 H1 : Hp} {r p : Addr} {vs : List V} {es : List El} (b : Bld R S H r S1 H1 vs es) (su : S1 p = none) (rp : r ≠ p) (o : HO) : Bld R S H r S1 (upd H1 p o) vs es :=
  ⟨b.sol.write su o, b.r0, b.rS, by rw [upd_ne rp]; exact b.r1, b.pr⟩
def spLong (d : Nat) : Sp := fun vs H Q _ => ∃ (u pl : Addr) (n : Nat) (room : Int) (S : Hp), vs = [.ref u, .ref pl, .int d, .int room] ∧ Same S H ∧ S u = none ∧ S pl = none ∧ UrnAt H u (n + (1 + 5 * kb d)) ∧ PlanAt H pl ∧ pl ≠ u ∧ 0 ≤ room ∧ room ≤ 700000000000000000000000000000 ∧
  ∀ (H' S' : Hp) (r : Addr) (es : List El), Ex2 u pl H H' → UrnAt H' u n → PlanAt H' pl → Sol S H S' H' → LongH (d + 1) S' r es → wsum es ≤ 5 * tw d → ((flat es).length : Int) ≤ room → H r = none → Q (.ref r) H'
theorem tw_le {d : Nat} (hd : d ≤ 2) : tw d ≤ 31 := by
  have e : d = 0 ∨ d = 1 ∨ d = 2 := by omega
  rcases e with rfl | rfl | rfl <;> decide
section
variable {P : Program} {w : World} {K : PySem.W.Frag} {mg : Str → Option Value} {base : Heap} {CS CO CH : Addr}
abbrev sLlong : Stmt := top 60
theorem scLlong : FnScope ["_law_urn_here", "_law_plan", "_law_deep", "_law_room", "_law_found", "_law_k", "_law_again", "_law_inner", "_law_many"] ["_law_urn_here", "_law_plan", "_law_deep", "_law_room"] (defScope sLlong) := ⟨rfl, rfl, rfl, by decide +kernel, rfl, by decide +kernel, by decide +kernel⟩
theorem ok_llong {d : Nat} (hd : d ≤ 2) (T : Txt K mg CS CO CH) (R : Raw K mg "_law_long" sLlong ["_law_urn_here", "_law_plan", "_law_deep", "_law_room"]) (D_lball : Dn P w K mg base "_law_ball" 1 ["_law_urn_here", "_law_many"] spBall) (D_lsaying : Dn P w K mg base "_law_saying" 2 ["_law_urn_here", "_law_wide"] spSayg)
    (D_lpeople : Dn P w K mg base "_law_people" (d + 2) ["_law_long_here"] (spLPpl d)) (D_llong : Dn P w K mg base "_law_long" (d + 3) ["_law_urn_here", "_law_plan", "_law_deep", "_law_room"] (prv spLong d)) : Dn P w K mg base "_law_long" (d + 4) ["_law_urn_here", "_law_plan", "_law_deep", "_law_room"] (spLong d) := by
  refine R.ok scLlong (fun vs H Q E h => ?_) (fun f cdv A outer s H vs Q E hr h => ?_)
  · obtain ⟨u, pl, n, room, S, rfl, _⟩ := h; rfl
  obtain ⟨u, pl, n, room, S, rfl, hS, su, spl, hu, hpl, hne, r0, r1, q⟩ := h
  have six : (6 : Nat) ≤ sizeLine := by rw [sizeLine_eq]; decide
  have three : (3 : Nat) ≤ sizeLine := by rw [sizeLine_eq]; decide
  have htw := tw_le hd
  have hlim := lim_eq
  refine ⟨_, (pss_cons (ps_set (i := 4) scLlong.nd rfl (Or.inl rfl) (pe_lst pa_nil))
  (pss_cons (ps_for PassesOwn.never rfl (pi_range1 rfl T.b_range (pa_cons (pe_ix ix_list (pe_lst (pa_cons pe_int (pa_cons pe_int (pa_cons pe_int (pa_cons pe_int (pa_cons pe_int (pa_cons pe_int pa_nil))))))) (pe_callD D_lball (hr.mono (by omega)) rfl (pa_cons (pv 0) (pa_cons pe_int pa_nil))) (fun _ _ => rfl)) pa_nil)) (pg_name (i := 5) scLlong.nd rfl (Or.inl rfl))
  (pss_cons (ps_set (i := 6) scLlong.nd rfl (Or.inl rfl) (pe_and (pe_cmpR op_gt (pv 2) pe_int (nomark _)) (pe_one (pe_cmpR op_gt (pe_callD D_lball (hr.mono (by omega)) rfl (pa_cons (pv 0) (pa_cons pe_int pa_nil))) pe_int (nomark _)))))
  (pss_one (ps_if (PW.pt (pw_and (pt_cmpR op_gt (pe_ix ix_list (pv 1) pe_int (fun _ _ => rfl)) pe_int (nomark _)) (pw_and1 (pt_cmpR op_gt (pv 3) pe_int (nomark _))))) (pss_cons (ps_asg (pe_op op_sub (pe_ix ix_list (pv 1) pe_int (fun _ _ => rfl)) pe_int) (pg_sub (pv 1) pe_int set_list))
  (pss_one (ps_if (pt_val (pv 6)) (pss_cons (ps_set (i := 7) scLlong.nd rfl (Or.inl rfl) (pe_callD D_llong (hr.mono (by omega)) rfl (pa_cons (pv 0) (pa_cons (pv 1) (pa_cons (pe_op op_sub (pv 2) pe_int) (pa_cons (pv 3) pa_nil))))))
  (pss_cons (ps_set (i := 8) scLlong.nd rfl (Or.inl rfl) (pe_ix ix_list (pe_lst (pa_cons (pe_callD D_lball (hr.mono (by omega)) rfl (pa_cons (pv 0) (pa_cons pe_int pa_nil))) (pa_cons (pe_op op_add pe_int (pe_callD D_lball (hr.mono (by omega)) rfl (pa_cons (pv 0) (pa_cons pe_int pa_nil)))) (pa_cons (pe_callD D_lball (hr.mono (by omega)) rfl (pa_cons (pv 0) (pa_cons (pe_op op_add (pe_ix ix_list (pv 1) pe_int (fun _ _ => rfl)) pe_int) pa_nil))) pa_nil)))) (pe_callD D_lball (hr.mono (by omega)) rfl (pa_cons (pv 0) (pa_cons pe_int pa_nil))) (fun _ _ => rfl)))
  (pss_cons (ps_set (i := 8) scLlong.nd rfl (Or.inl rfl) (pe_callB (call_min2 rfl) rfl T.b_min boot_min (pa_cons (pv 8) (pa_cons (pe_op op_fdivW (pv 3) (pe_callB (call_max2 rfl) rfl T.b_max boot_max (pa_cons pe_int (pa_cons (pe_callD D_lpeople (hr.mono (by omega)) rfl (pa_cons (pv 7) pa_nil)) pa_nil)))) pa_nil))))
  (pss_cons (ps_expr (pe_bm PySem.F.plainAttrs_list PySem.F.slot_list_append PySem.F.type_list_append mt_append (pv 4) (pa_cons (pe_tup (pa_cons pe_str (pa_cons (pv 8) (pa_cons (pv 7) pa_nil)))) pa_nil)))
  (pss_one (ps_set (i := 3) scLlong.nd rfl (Or.inl rfl) (pe_op op_sub (pv 3) (pe_op op_mulW (pv 8) (pe_callD D_lpeople (hr.mono (by omega)) rfl (pa_cons (pv 7) pa_nil)))))))))) (pss_cons (ps_expr (pe_bm PySem.F.plainAttrs_list PySem.F.slot_list_append PySem.F.type_list_append mt_append (pv 4) (pa_cons (pe_callD D_lsaying (hr.mono (by omega)) rfl (pa_cons (pv 0) (pa_cons (pe_ix ix_list (pv 1) pe_int (fun _ _ => rfl)) pa_nil))) pa_nil)))
  (pss_one (ps_set (i := 3) scLlong.nd rfl (Or.inl rfl) (pe_op op_sub (pv 3) pe_int))))))) pss_nil))))
  (pss_one (ps_ret (pv 4))))), ?_⟩
  refine ⟨Nat.zero_le _, fun r hr0 => ?_⟩
  have hru : r ≠ u := fun e => hu.there (e ▸ hr0)
  have hrp : r ≠ pl := fun e => hpl.there (e ▸ hr0)
  have B0 : Bld (ItemH (d + 1)) S H r S (upd H r (.lst [])) [] [] := Bld.init hS hr0
  have u0 := hu.same (same_new hr0 (.lst []))
  have p0 := hpl.same (same_new hr0 (.lst []))
  have x0 : Ex2 u pl H (upd H r (.lst [])) := Ex2.of (same_new hr0 _)
  generalize upd H r (.lst []) = Ha at B0 u0 p0 x0
  refine ⟨six, fun l hl0 => ?_⟩
  have B1 := B0.same (same_new hl0 (.lst [.int 3, .int 1, .int 2, .int 4, .int 5, .int 0]))
  have u1 := u0.same (same_new hl0 (.lst [.int 3, .int 1, .int 2, .int 4, .int 5, .int 0]))
  have p1 := p0.same (same_new hl0 (.lst [.int 3, .int 1, .int 2, .int 4, .int 5, .int 0]))
  have x1 : Ex2 u pl H _ := x0.trans (Ex2.of (same_new hl0 (.lst [.int 3, .int 1, .int 2, .int 4, .int 5, .int 0])))
  have hl1 : upd Ha l (.lst [.int 3, .int 1, .int 2, .int 4, .int 5, .int 0]) l = _ := upd_same
  have hlu : l ≠ u := fun e => u0.there (e ▸ hl0)
  refine ⟨_, rfl, u, n + 5 * kb d, 6, rfl, u1.le (by omega), by decide, by decide, fun H2 r2 x2 u2 y0 y1 => ?_⟩
  have B2 := B1.ex su x2 u2 hru
  have p2 := p1.ex x2 hne
  have x2' : Ex2 u pl H H2 := x1.trans x2.to2
  have hl2 := x2 _ _ hlu hl1
  obtain ⟨v, hv, N, rfl, hN⟩ := ex_of hl2 y0 y1 (p := fun v => ∃ j : Nat, v = .int j ∧ j ≤ 5) (by
    intro v hv
    simp only [List.mem_cons, List.not_mem_nil, or_false] at hv
    rcases hv with rfl | rfl | rfl | rfl | rfl | rfl
    · exact ⟨3, rfl, by decide⟩
    · exact ⟨1, rfl, by decide⟩
    · exact ⟨2, rfl, by decide⟩
    · exact ⟨4, rfl, by decide⟩
    · exact ⟨5, rfl, by decide⟩
    · exact ⟨0, rfl, by decide⟩)
  refine ⟨l, _, _, _, rfl, rfl, SqL.of hl2, hv, N, rfl, by omega, by omega, ?_⟩
  rw [Int.toNat_natCast]
  have hkb : ∃ kk, kb d = kk + 1 := by cases d with | zero => exact ⟨8, rfl⟩ | succ d => exact ⟨10 + 5 * kb d, by show 11 + 5 * kb d = _; omega⟩
  obtain ⟨kk, hkk⟩ := hkb
  have hk8 : 8 ≤ kk := by cases d with | zero => (have : (9 : Nat) = kk + 1 := hkk); omega | succ d => (have : 11 + 5 * kb d = kk + 1 := hkk); omega
  have htw1 : 1 ≤ tw d := by cases d with | zero => exact Nat.le_refl 1 | succ d => exact Nat.le_add_right 1 _
  refine for_range (fun i σ H1 => ∃ (rm : Int) (x5 x6 x7 x8 : Option V) (S1 : Hp) (vs : List V) (es : List El), σ = [some (.ref u), some (.ref pl), some (.int d), some (.int rm), some (.ref r), x5, x6, x7, x8] ∧ Ex2 u pl H H1 ∧ UrnAt H1 u (n + (5 - i) * kb d) ∧ PlanAt H1 pl ∧ Bld (ItemH (d + 1)) S H r S1 H1 vs es ∧
    wsum es ≤ i * tw d ∧ ((flat es).length : Int) + rm = room ∧ 0 ≤ rm) ⟨room, none, none, none, none, S, [], [], rfl, x2', u2, p2, B2, Nat.zero_le _, Int.zero_add _, r0⟩ ?_ ?_
  · rintro i σ H3 hi ⟨rm, x5, x6, x7, x8, S1, vs, es, rfl, ex, uu, pp, B, hw, hsum, hrm⟩
    have hi5 : (5 - i) * kb d = (5 - (i + 1)) * kb d + kb d := by
      rw [show 5 - i = (5 - (i + 1)) + 1 by omega, Nat.succ_mul]
    rw [hi5] at uu
    generalize hM : n + (5 - (i + 1)) * kb d = M
    have uu : UrnAt H3 u (M + kk + 1) := uu.le (by omega)
    dsimp only [gName]
    refine seq_mid (fun σ' H' => ∃ c : Bool, σ' = [some (.ref u), some (.ref pl), some (.int d), some (.int rm), some (.ref r), some (.int (0 + i)), some (.bl c), x7, x8] ∧ ExU u H3 H' ∧ UrnAt H' u (M + kk) ∧ (c = true → 0 < d)) ?_ fun key => ?_
    · rintro σ' H4 ⟨c, rfl, e4, u4, hc⟩
      have su1 : S1 u = none := B.sol.no u su hu.there
      have sp1 : S1 pl = none := B.sol.no pl spl hpl.there
      have B4 := B.ex su1 e4 u4 hru
      have p4 := pp.ex e4 hne
      have ex4 := ex.trans e4.to2
      have hwi : wsum es ≤ (i + 1) * tw d := by rw [Nat.succ_mul]; omega
      obtain ⟨q0, q1, q2, hp, q1a, q1b, q2a, q2b⟩ := id p4
      refine ⟨_, rfl, pl, _, _, _, rfl, rfl, SqL.of hp, atI_nat (j := 0) rfl, _, _, rfl, rfl, _, rfl, ?_⟩
      by_cases c0 : q0 > 0
      case neg =>
        rw [decide_eq_false c0]
        exact iteF (iteF ⟨rm, _, _, _, _, S1, vs, es, rfl, ex4, u4.le (by omega), p4, B4, hwi, hsum, hrm⟩)
      rw [decide_eq_true c0]
      refine iteT ⟨_, rfl, _, _, rfl, rfl, _, rfl, ?_⟩
      by_cases c1 : rm > 0
      case neg =>
        rw [decide_eq_false c1]
        exact iteF ⟨rm, _, _, _, _, S1, vs, es, rfl, ex4, u4.le (by omega), p4, B4, hwi, hsum, hrm⟩
      rw [decide_eq_true c1]
      refine iteT ?_
      refine ⟨_, rfl, pl, _, _, _, rfl, rfl, SqL.of hp, atI_nat (j := 0) rfl, _, _, rfl, rfl, ?_⟩
      refine ⟨_, rfl, pl, _, _, 0, rfl, rfl, hp, rfl, ?_⟩
      generalize hg : upd H4 pl (HO.lst _) = H5
      have hp5 : H5 pl = some (.lst [.int (q0 - 1), .int q1, .int q2]) := by rw [← hg]; exact upd_same
      have p5 : PlanAt H5 pl := ⟨_, _, _, hp5, q1a, q1b, q2a, q2b⟩
      have u5 : UrnAt H5 u (M + kk) := hg ▸ u4.wr hne.symm
      have B5 : Bld (ItemH (d + 1)) S H r S1 H5 vs es := hg ▸ B4.wr sp1 hrp _
      have ex5 : Ex2 u pl H H5 := ex4.trans (fun b o _ h2 h3 => by rw [← hg, upd_ne h2]; exact h3)
      clear hg
      have hvl : vs.length < sizeLine := by
        have h1 := ItemH.len B5.pr
        have h2 : i * tw d ≤ 5 * 31 := Nat.mul_le_mul (by omega) htw
        rw [sizeLine_eq]; omega
      refine ⟨_, rfl, c, rfl, ?_⟩
      cases c with
      | false =>
        refine iteF ?_
        refine ⟨_, rfl, .inl ⟨rfl, _, SqL.of B5.r1⟩, _, rfl, _, rfl, pl, _, _, _, rfl, rfl, SqL.of hp5, atI_nat (j := 2) rfl, u, M + kk - 8, q2, rfl, u5.le (by omega), q2a, by omega, fun H6 sa z x6 u6 hz hz0 => ?_⟩
        have B6 := B5.ex su1 x6 u6 hru
        have hs1 : S1 sa = none := B5.sol.ok.free hz0
        have so : Sol S1 H5 (upd S1 sa (.tup [.int z.1, SayV z.2])) H6 := (ExU.sol (Sol.refl B5.sol.ok) su1 x6 u6).seal hz0 hs1 hz.1
        have B7 := (B5.step itemR so B6.r1).push (e := ([z], 1)) (.inl ⟨sa, z, rfl, ⟨upd_same, hz.2⟩, rfl⟩)
        refine ⟨r, _, _, rfl, rfl, B6.r1, hvl, ?_⟩
        refine ⟨_, rfl, _, _, rfl, rfl, rm - 1, _, _, _, _, _, vs ++ [V.ref sa], es ++ [([z], 1)], rfl, (ex5.trans x6.to2).grow hr0, ?_, (p5.ex x6 hne).wr (Ne.symm hrp), B7, ?_, ?_, by omega⟩
        · exact (u6.wr (Ne.symm hru)).le (by omega)
        · rw [Nat.succ_mul, wsum_append, wsum_one]; show wsum es + 1 ≤ _; omega
        · rw [flat_append, List.length_append]
          show (((flat es).length + 1 : Nat) : Int) + (rm - 1) = room
          omega
      | true =>
        refine iteT ?_
        obtain ⟨d', rfl⟩ : ∃ d', d = d' + 1 := ⟨d - 1, by have := hc rfl; omega⟩
        have hkk2 : 11 + 5 * kb d' = kk + 1 := hkk
        refine ⟨_, rfl, _, rfl, _, rfl, _, _, rfl, rfl, _, rfl, u, pl, M + 9, rm, S1, (by show [V.ref u, V.ref pl, V.int (((d' + 1 : Nat) : Int) - 1), V.int rm] = _; rw [show ((d' + 1 : Nat) : Int) - 1 = (d' : Int) by omega]), B5.sol.ok, su1, sp1, u5.le (by omega), p5, hne, hrm, by omega, fun H6 S6 r6 es6 x6 u6 p6 sol6 L6 w6 n6 _ => ?_⟩
        have su6 : S6 u = none := sol6.no u su1 u5.there
        have B6 := B5.step itemR sol6 (x6 _ _ hru hrp B5.r1)
        have ex6 := ex5.trans x6
        refine ⟨_, rfl, u, M + 8, 4, rfl, u6, by decide, by decide, fun H7 r7 x7 u7 a7 b7 => ?_⟩
        have B7 := B6.ex su6 x7 u7 hru
        refine ⟨_, rfl, u, M + 7, 9, rfl, u7, by decide, by decide, fun H8 r8 x8 u8 a8 b8 => ?_⟩
        have B8 := B7.ex su6 x8 u8 hru
        have p8 := (p6.ex x7 hne).ex x8 hne
        have ex8 := (ex6.trans x7.to2).trans x8.to2
        obtain ⟨q0', q1', q2', hp8, q1a', q1b', q2a', q2b'⟩ := id p8
        refine ⟨_, _, rfl, rfl, _, rfl, _, rfl, pl, _, _, _, rfl, rfl, SqL.of hp8, atI_nat (j := 1) rfl, _, _, rfl, rfl, u, M + 6, q1' + 1, rfl, u8, by omega, by omega, fun H9 r9 x9 u9 a9 b9 => ?_⟩
        have B9 := B8.ex su6 x9 u9 hru
        refine ⟨three, fun l2 hl2 => ?_⟩
        have B10 := B9.same (same_new hl2 (.lst [.int r7, .int (2 + r8), .int r9]))
        have u10 := u9.same (same_new hl2 (.lst [.int r7, .int (2 + r8), .int r9]))
        have ex10 := (ex8.trans x9.to2).trans (Ex2.of (same_new hl2 (.lst [.int r7, .int (2 + r8), .int r9])))
        have p10 := (p8.ex x9 hne).same (same_new hl2 (.lst [.int r7, .int (2 + r8), .int r9]))
        have hl2u : l2 ≠ u := fun e => u9.there (e ▸ hl2)
        have hl3 : upd H9 l2 (.lst [.int r7, .int (2 + r8), .int r9]) l2 = _ := upd_same
        refine ⟨_, rfl, u, M + 5, 3, rfl, u10, by decide, by decide, fun H11 r11 x11 u11 a11 b11 => ?_⟩
        have B11 := B10.ex su6 x11 u11 hru
        have p11 := p10.ex x11 hne
        have ex11 := ex10.trans x11.to2
        have hl4 := x11 _ _ hl2u hl3
        obtain ⟨v, hv, m, rfl, m0, m1⟩ := ex_of hl4 a11 b11 (p := fun v => ∃ m : Int, v = .int m ∧ 0 ≤ m ∧ m ≤ 100000000000000000000000000000) (by
          intro v hv
          simp only [List.mem_cons, List.not_mem_nil, or_false] at hv
          rcases hv with rfl | rfl | rfl
          · exact ⟨_, rfl, a7, by omega⟩
          · exact ⟨_, rfl, by omega, by omega⟩
          · exact ⟨_, rfl, a9, by omega⟩)
        refine ⟨l2, _, _, _, rfl, rfl, SqL.of hl4, hv, ?_⟩
        have L11 : LongH (d' + 1) H11 r6 es6 := L6.same B11.sol.ok
        have hlen : ((flat es6).length : Int) ≤ 700000000000000000000000000000 := by omega
        have hpp : 1 ≤ (if ((flat es6).length : Int) > 1 then ((flat es6).length : Int) else 1) ∧ ((flat es6).length : Int) ≤ (if ((flat es6).length : Int) > 1 then ((flat es6).length : Int) else 1) ∧ (if ((flat es6).length : Int) > 1 then ((flat es6).length : Int) else 1) ≤ 700000000000000000000000000000 := by split <;> omega
        refine ⟨_, rfl, _, rfl, _, rfl, r6, es6, rfl, L11, _, _, rfl, _, _, rfl, rfl, wide_div (b := 110) (by omega) (by omega) (by decide) (by decide), _, _, rfl, ?_⟩
        generalize (if ((flat es6).length : Int) > 1 then ((flat es6).length : Int) else 1) = pp at hpp ⊢
        obtain ⟨t, ht, ht1, ht2⟩ : ∃ t : Nat, (t : Int) = (if rm / pp < m then rm / pp else m) ∧ (t : Int) ≤ 100000000000000000000000000000 ∧ (t : Int) * (flat es6).length ≤ rm := by
          have h0 : 0 ≤ rm / pp := Int.ediv_nonneg hrm (by omega)
          have hq : rm / pp * pp ≤ rm := Int.ediv_mul_le rm (by omega)
          have hx : 0 ≤ (if rm / pp < m then rm / pp else m) ∧ (if rm / pp < m then rm / pp else m) ≤ 100000000000000000000000000000 ∧ (if rm / pp < m then rm / pp else m) ≤ rm / pp := by split <;> omega
          refine ⟨(if rm / pp < m then rm / pp else m).toNat, by omega, by omega, ?_⟩
          rw [Int.toNat_of_nonneg hx.1]
          exact Int.le_trans (Int.mul_le_mul hx.2.2 hpp.2.1 (Int.natCast_nonneg _) h0) hq
        rw [← ht]
        refine ⟨_, rfl, .inl ⟨rfl, _, SqL.of B11.r1⟩, _, rfl, _, rfl, three, fun tp htp => ?_⟩
        have hrt : r ≠ tp := ne_of_none B11.r1 htp
        have hut : u ≠ tp := fun e => u11.there (e ▸ htp)
        have hplt : pl ≠ tp := fun e => p11.there (e ▸ htp)
        have sol12 : Sol S6 H11 (upd S6 tp (.tup [.str "again", .int t, .ref r6])) (upd H11 tp (.tup [.str "again", .int t, .ref r6])) := (Sol.refl B11.sol.ok).laid htp _
        have hr12 : upd H11 tp (.tup [.str "again", .int t, .ref r6]) r = some (.lst vs) := by rw [upd_ne hrt]; exact B11.r1
        have s6 : Same S6 (upd S6 tp (.tup [.str "again", .int t, .ref r6])) := same_new (B11.sol.ok.free htp) _
        obtain ⟨ws, hws, hpr⟩ := L6.same s6
        have hwb : wsum es6 ≤ lim := by
          have : 1 + 5 * tw d' ≤ 31 := htw
          omega
        have B12 := (B11.step itemR sol12 hr12).push (e := (rep t (flat es6), 1 + wsum es6)) (.inr ⟨tp, r6, t, ws, es6, rfl, upd_same, hws, hpr, by have : big = 2 ^ 128 := rfl; omega, by have : big = 2 ^ 128 := rfl; omega, hwb, rfl⟩)
        refine ⟨r, _, _, rfl, rfl, hr12, hvl, ?_⟩
        have ex12 := (ex11.trans (Ex2.of (same_new htp (.tup [.str "again", .int t, .ref r6])))).grow (o := .lst (vs ++ [V.ref tp])) hr0
        have L12 := L6.same (s6.trans B12.sol.ok)
        refine ⟨_, rfl, _, rfl, _, rfl, r6, es6, rfl, L12, _, _, rfl, rfl, mulw2 (by omega) (by omega), _, _, rfl, rfl, ?_⟩
        refine ⟨rm - t * (flat es6).length, _, _, _, _, _, vs ++ [V.ref tp], es ++ [(rep t (flat es6), 1 + wsum es6)], rfl, ex12, ((u11.wr hut).wr (Ne.symm hru)).le (by omega), (p11.wr hplt).wr (Ne.symm hrp), B12, ?_, ?_, by omega⟩
        · rw [Nat.succ_mul, wsum_append, wsum_one]
          show wsum es + (1 + wsum es6) ≤ i * (1 + 5 * tw d') + (1 + 5 * tw d')
          have : wsum es ≤ i * (1 + 5 * tw d') := hw
          omega
        · rw [flat_append, flat_one, List.length_append, rep_len, Int.natCast_add, Int.natCast_mul]
          omega
    · refine ⟨_, rfl, _, _, rfl, rfl, _, rfl, ?_⟩
      by_cases c : (d : Int) > 0
      · rw [decide_eq_true c, if_pos rfl]
        refine ⟨_, rfl, u, M + kk, 5, rfl, uu, by decide, by decide, fun H4 r4 x4 u4 _ _ => ?_⟩
        exact ⟨_, _, rfl, rfl, key _ _ ⟨_, rfl, x4, u4, fun _ => by omega⟩⟩
      · rw [decide_eq_false c, if_neg (fun z => nomatch z)]
        exact key _ _ ⟨false, rfl, ExU.of (Same.refl _), uu.le (by omega), fun z => nomatch z⟩
  · rintro σ H3 ⟨rm, x5, x6, x7, x8, S1, vs, es, rfl, ex, uu, pp, B, hw, hsum, hrm⟩
    obtain ⟨s1, s2, s3⟩ := B.seal itemR
    refine ⟨_, rfl, q _ _ r es ex (uu.le (by omega)) pp s1 ⟨vs, s2, s3⟩ (Nat.le_trans hw (Nat.mul_le_mul_right _ hN)) (by omega) hr0⟩
theorem all_llong (T : Txt K mg CS CO CH) (R : Raw K mg "_law_long" sLlong ["_law_urn_here", "_law_plan", "_law_deep", "_law_room"]) (D_lball : Dn P w K mg base "_law_ball" 1 ["_law_urn_here", "_law_many"] spBall) (D_lsaying : Dn P w K mg base "_law_saying" 2 ["_law_urn_here", "_law_wide"] spSayg)
    (D_lpeople : ∀ d, Dn P w K mg base "_law_people" (d + 2) ["_law_long_here"] (spLPpl d)) : Dn P w K mg base "_law_long" 6 ["_law_urn_here", "_law_plan", "_law_deep", "_law_room"] (spLong 2) :=
  ok_llong (d := 2) (by decide) T R D_lball D_lsaying (D_lpeople 2) (ok_llong (d := 1) (by decide) T R D_lball D_lsaying (D_lpeople 1) (ok_llong (d := 0) (by decide) T R D_lball D_lsaying (D_lpeople 0) (R.no 3 _)))
/-! a row of people far apart -/
def spFar : Sp := fun vs H Q _ => ∃ (u : Addr) (n : Nat) (S : Hp), vs = [.ref u, .int 12, .int 2] ∧ Same S H ∧ S u = none ∧ UrnAt H u (n + 1459) ∧
  ∀ (H' S' : Hp) (r : Addr) (es : List El), ExU u H H' → UrnAt H' u n → Sol S H S' H' → LongH 3 S' r es → wsum es ≤ 155 → ((flat es).length : Int) ≤ 700000000000000000000000000000 → H r = none → Q (.ref r) H'
abbrev sLfar : Stmt := top 63
theorem scLfar : FnScope ["_law_urn_here", "_law_most", "_law_deep", "_law_far_here", "_law_wide"] ["_law_urn_here", "_law_most", "_law_deep"] (defScope sLfar) := ⟨rfl, rfl, rfl, by decide +kernel, rfl, by decide +kernel, by decide +kernel⟩
theorem ok_lfar (R : Raw K mg "_law_far" sLfar ["_law_urn_here", "_law_most", "_law_deep"]) (D_lball : Dn P w K mg base "_law_ball" 1 ["_law_urn_here", "_law_many"] spBall) (D_llong : Dn P w K mg base "_law_long" 6 ["_law_urn_here", "_law_plan", "_law_deep", "_law_room"] (spLong 2)) :
    Dn P w K mg base "_law_far" 7 ["_law_urn_here", "_law_most", "_law_deep"] spFar := by
  refine R.ok scLfar (fun vs H Q E h => ?_) (fun f cdv A outer s H vs Q E hr h => ?_)
  · obtain ⟨u, n, S, rfl, _⟩ := h; rfl
  obtain ⟨u, n, S, rfl, hS, su, hu, q⟩ := h
  have four : (4 : Nat) ≤ sizeLine := by rw [sizeLine_eq]; decide
  have three : (3 : Nat) ≤ sizeLine := by rw [sizeLine_eq]; decide
  have hp : ∀ j : Nat, j ≤ 100 → CPowW 10 j := fun j hj => pow_ok (b := 4) (j := j) (by decide) (by omega)
  have e5 : (10 : Int) ^ (5 : Int).toNat = 100000 := by decide
  have e6 : (10 : Int) ^ (6 : Int).toNat = 1000000 := by decide
  have e9 : (10 : Int) ^ (9 : Int).toNat = 1000000000 := by decide
  have e12 : (10 : Int) ^ (12 : Int).toNat = 1000000000000 := by decide
  have e15 : (10 : Int) ^ (15 : Int).toNat = 1000000000000000 := by decide
  have e29 : (10 : Int) ^ (29 : Int).toNat = 100000000000000000000000000000 := by decide
  refine ⟨_, (pss_cons (ps_set (i := 3) scLfar.nd rfl (Or.inl rfl) (pe_ix ix_list (pe_lst (pa_cons pe_int (pa_cons (pe_op op_powW pe_int pe_int) (pa_cons (pe_op op_powW pe_int pe_int) (pa_cons (pe_op op_powW pe_int pe_int) pa_nil))))) (pe_callD D_lball (hr.mono (by omega)) rfl (pa_cons (pv 0) (pa_cons pe_int pa_nil))) (fun _ _ => rfl)))
  (pss_cons (ps_set (i := 4) scLfar.nd rfl (Or.inl rfl) (pe_ix ix_list (pe_lst (pa_cons pe_int (pa_cons (pe_op op_powW pe_int pe_int) (pa_cons (pe_op op_powW pe_int pe_int) (pa_cons (pe_op op_powW pe_int pe_int) pa_nil))))) (pe_callD D_lball (hr.mono (by omega)) rfl (pa_cons (pv 0) (pa_cons pe_int pa_nil))) (fun _ _ => rfl)))
  (pss_one (ps_ret (pe_callD D_llong (hr.mono (by omega)) rfl (pa_cons (pv 0) (pa_cons (pe_lst (pa_cons (pv 1) (pa_cons (pv 3) (pa_cons (pv 4) pa_nil)))) (pa_cons (pv 2) (pa_cons (pe_ix ix_list (pe_lst (pa_cons (pe_op op_mulW pe_int (pe_op op_powW pe_int pe_int)) (pa_cons (pe_op op_mulW pe_int (pe_op op_powW pe_int pe_int)) (pa_cons (pe_op op_powW pe_int pe_int) pa_nil)))) (pe_callD D_lball (hr.mono (by omega)) rfl (pa_cons (pv 0) (pa_cons pe_int pa_nil))) (fun _ _ => rfl)) pa_nil))))))))), ?_⟩
  refine ⟨_, _, rfl, rfl, hp 5 (by decide), _, _, rfl, rfl, hp 12 (by decide), _, _, rfl, rfl, hp 29 (by decide), four, fun l hl0 => ?_⟩
  have s1 := same_new hl0 (.lst [.int 9, .int (10 ^ (5 : Int).toNat), .int (10 ^ (12 : Int).toNat), .int (10 ^ (29 : Int).toNat)])
  have u1 := hu.same s1
  have hl1 : upd H l (.lst [.int 9, .int (10 ^ (5 : Int).toNat), .int (10 ^ (12 : Int).toNat), .int (10 ^ (29 : Int).toNat)]) l = _ := upd_same
  have hlu : l ≠ u := fun e => hu.there (e ▸ hl0)
  refine ⟨_, rfl, u, n + 1458, 4, rfl, u1, by decide, by decide, fun H2 r2 x2 u2 a2 b2 => ?_⟩
  have hl2 := x2 _ _ hlu hl1
  obtain ⟨v, hv, f1, rfl, f10, f11⟩ := ex_of hl2 a2 b2 (p := fun v => ∃ m : Int, v = .int m ∧ 0 ≤ m ∧ m ≤ 100000000000000000000000000000) (by
    intro v hv
    simp only [List.mem_cons, List.not_mem_nil, or_false] at hv
    rcases hv with rfl | rfl | rfl | rfl
    · exact ⟨9, rfl, by decide, by decide⟩
    · exact ⟨_, rfl, by rw [e5]; decide, by rw [e5]; decide⟩
    · exact ⟨_, rfl, by rw [e12]; decide, by rw [e12]; decide⟩
    · exact ⟨_, rfl, by rw [e29]; decide, by rw [e29]; decide⟩)
  refine ⟨l, _, _, _, rfl, rfl, SqL.of hl2, hv, ?_⟩
  have x2' := (ExU.of s1).trans x2
  refine ⟨_, _, rfl, rfl, hp 6 (by decide), _, _, rfl, rfl, hp 15 (by decide), _, _, rfl, rfl, hp 29 (by decide), four, fun k hk0 => ?_⟩
  have s3 := same_new hk0 (.lst [.int 30, .int (10 ^ (6 : Int).toNat), .int (10 ^ (15 : Int).toNat), .int (10 ^ (29 : Int).toNat)])
  have u3 := u2.same s3
  have hk1 : upd H2 k (.lst [.int 30, .int (10 ^ (6 : Int).toNat), .int (10 ^ (15 : Int).toNat), .int (10 ^ (29 : Int).toNat)]) k = _ := upd_same
  have hku : k ≠ u := fun e => u2.there (e ▸ hk0)
  refine ⟨_, rfl, u, n + 1457, 4, rfl, u3, by decide, by decide, fun H4 r4 x4 u4 a4 b4 => ?_⟩
  have hk2 := x4 _ _ hku hk1
  obtain ⟨v, hv, f2, rfl, f20, f21⟩ := ex_of hk2 a4 b4 (p := fun v => ∃ m : Int, v = .int m ∧ 0 < m ∧ m ≤ 100000000000000000000000000000) (by
    intro v hv
    simp only [List.mem_cons, List.not_mem_nil, or_false] at hv
    rcases hv with rfl | rfl | rfl | rfl
    · exact ⟨30, rfl, by decide, by decide⟩
    · exact ⟨_, rfl, by rw [e6]; decide, by rw [e6]; decide⟩
    · exact ⟨_, rfl, by rw [e15]; decide, by rw [e15]; decide⟩
    · exact ⟨_, rfl, by rw [e29]; decide, by rw [e29]; decide⟩)
  refine ⟨k, _, _, _, rfl, rfl, SqL.of hk2, hv, ?_⟩
  have x4' := (x2'.trans (ExU.of s3)).trans x4
  have so4 : Sol S H S H4 := ExU.sol (Sol.refl hS) su x4' u4
  refine ⟨_, rfl, _, rfl, _, rfl, _, rfl, three, fun pl hpl0 => ?_⟩
  have s5 := same_new hpl0 (.lst [.int 12, .int f1, .int f2])
  have u5 := u4.same s5
  have so5 := so4.same s5
  have hpu : pl ≠ u := fun e => u4.there (e ▸ hpl0)
  have p5 : PlanAt (upd H4 pl (.lst [.int 12, .int f1, .int f2])) pl := ⟨_, _, _, upd_same, f10, f11, f20, f21⟩
  have x5 := x4'.trans (ExU.of s5)
  have hSpl : S pl = none := so4.ok.free hpl0
  have hHpl : H pl = none := x4'.free u4 hpl0
  generalize upd H4 pl (.lst [.int 12, .int f1, .int f2]) = H5 at u5 so5 p5 x5
  refine ⟨_, rfl, _, _, rfl, rfl, hp 29 (by decide), _, _, rfl, rfl, mulw2 (by decide) (by rw [e29]; decide), _, _, rfl, rfl, hp 29 (by decide), _, _, rfl, rfl, mulw2 (by decide) (by rw [e29]; decide), _, _, rfl, rfl, hp 9 (by decide), three, fun m hm0 => ?_⟩
  have s6 := same_new hm0 (.lst [.int (7 * 10 ^ (29 : Int).toNat), .int (7 * 10 ^ (29 : Int).toNat), .int (10 ^ (9 : Int).toNat)])
  have u6 := u5.same s6
  have so6 := so5.same s6
  have p6 := p5.same s6
  have x6 := x5.trans (ExU.of s6)
  have hm1 : upd H5 m (.lst [.int (7 * 10 ^ (29 : Int).toNat), .int (7 * 10 ^ (29 : Int).toNat), .int (10 ^ (9 : Int).toNat)]) m = _ := upd_same
  have hmu : m ≠ u := fun e => u5.there (e ▸ hm0)
  refine ⟨_, rfl, u, n + 1456, 3, rfl, u6, by decide, by decide, fun H7 r7 x7 u7 a7 b7 => ?_⟩
  have so7 := ExU.sol so6 su x7 u7
  have p7 := p6.ex x7 hpu
  have x7' := x6.trans x7
  have hm2 := x7 _ _ hmu hm1
  obtain ⟨v, hv, rm, rfl, g0, g1⟩ := ex_of hm2 a7 b7 (p := fun v => ∃ m : Int, v = .int m ∧ 0 ≤ m ∧ m ≤ 700000000000000000000000000000) (by
    intro v hv
    simp only [List.mem_cons, List.not_mem_nil, or_false] at hv
    rcases hv with rfl | rfl | rfl
    · exact ⟨_, rfl, by rw [e29]; decide, by rw [e29]; decide⟩
    · exact ⟨_, rfl, by rw [e29]; decide, by rw [e29]; decide⟩
    · exact ⟨_, rfl, by rw [e9]; decide, by rw [e9]; decide⟩)
  refine ⟨m, _, _, _, rfl, rfl, SqL.of hm2, hv, ?_⟩
  refine ⟨u, pl, n, rm, S, rfl, so7.ok, su, hSpl, u7, p7, hpu, g0, g1, fun H8 S8 r8 es x8 u8 p8 so8 L8 w8 n8 h80 => ?_⟩
  refine q H8 S8 r8 es (fun b o hb ho => ?_) u8 (so7.trans so8) L8 w8 (by omega) ?_
  · exact x8 b o hb (ne_of_none ho hHpl) (x7' b o hb ho)
  · exact x7'.free u7 h80
end
end Bo
set_option Elab.async false
set_option linter.all false
set_option maxRecDepth 100000
set_option maxHeartbeats 4000000
namespace Bo
open PySem L2 PySem.Spec PyProof.Rows

/-! ### the law's own helpers: what is told of a hall -/
abbrev Tv := Int × Int × Int
def TCell (H : Hp) (v : V) (t : Tv) : Prop := ∃ p, v = .ref p ∧ H p = some (.lst [.int t.1, .int t.2.1, .int t.2.2])
def ToldAt (H : Hp) (r : Addr) (ts : List Tv) : Prop := ∃ vs, H r = some (.lst vs) ∧ Paired (TCell H) vs ts
def tv (c : Int) (L : List Say) : Tv := (L.length, tot L c, wsh L c)
theorem TCell.same {H H' : Hp} {v : V} {t : Tv} (s : Same H H') (h : TCell H v t) : TCell H' v t := by
  obtain ⟨p, e, h⟩ := h
  exact ⟨p, e, s _ _ h⟩
theorem ToldAt.same {H H' : Hp} {r : Addr} {ts : List Tv} (h : ToldAt H r ts) (s : Same H H') : ToldAt H' r ts := by
  obtain ⟨vs, e, h⟩ := h
  exact ⟨vs, s _ _ e, Paired.mapP h fun _ _ z => z.same s⟩
def spTold (CS CO CH : Addr) : Sp := fun vs H Q _ => ∃ (d M n : Nat) (S : Hp) (x : HallD) (rs : Rs) (a : Addr) (nms : List Str) (Ls : List (List Say)) (c : Int), vs = [.ref x.h, .ref a, .int c] ∧ HR CS CO CH d M n S H x rs ∧ d ≤ 8 ∧ n ≤ lim ∧
  H a = some (.lst (nms.map V.str)) ∧ Paired (fun nm L => OkName nm ∧ getR rs nm = some L) nms Ls ∧ nms.length ≤ 100 ∧ 0 ≤ c ∧ ∀ (H' S' : Hp) (r : Addr), Same H H' → Sol S H S' H' → ToldAt S' r (Ls.map (tv c)) → Q (.ref r) H'
section
variable {P : Program} {w : World} {K : PySem.W.Frag} {mg : Str → Option Value} {base : Heap} {CS CO CH : Addr}
abbrev sLtold : Stmt := top 64
theorem scLtold : FnScope ["_law_hall", "_law_names", "_law_company_here", "_law_name"] ["_law_hall", "_law_names", "_law_company_here"] (defScope sLtold) := ⟨rfl, rfl, rfl, by decide +kernel, rfl, by decide +kernel, by decide +kernel⟩
theorem ok_ltold (T : Txt K mg CS CO CH) (R : Raw K mg "_law_told" sLtold ["_law_hall", "_law_names", "_law_company_here"]) (D_hpeople : DnM P w K mg base CH "people" 23 ["self", "name"] (spPeople CS CO CH)) (D_htotal : DnM P w K mg base CH "total" 23 ["self", "name", "company"] (spTotal CS CO CH))
    (D_hleast : DnM P w K mg base CH "least" 23 ["self", "name", "total"] (spLeast CS CO CH)) : Dn P w K mg base "_law_told" 24 ["_law_hall", "_law_names", "_law_company_here"] (spTold CS CO CH) := by
  refine R.ok scLtold (fun vs H Q E h => ?_) (fun f cdv A outer s H vs Q E hr h => ?_)
  · obtain ⟨d, M, n, S, x, rs, a, nms, Ls, c, rfl, _⟩ := h; rfl
  obtain ⟨d, M, n, S, x, rs, a, nms, Ls, c, rfl, hh, hd, hlim, ha, hp, hl, hc, q⟩ := h
  have three : (3 : Nat) ≤ sizeLine := by rw [sizeLine_eq]; decide
  refine ⟨_, (pss_one (ps_ret (pe_lc (own := [("_law_name", 3)]) (g := gName 3) (tt := tYes) rfl scLtold.nd (pi_list (pv 1)) (blkOk_by (own := [("_law_name", 3)]) (N := ["_law_hall", "_law_names", "_law_company_here", "_law_name"]) (sc := defScope sLtold) (by decide +kernel)) (fun _ _ _ _ _ => pg_name (i := 3) scLtold.nd rfl (Or.inl rfl)) (fun _ _ _ _ _ => pts_nil) (fun _ _ _ _ _ => (pe_lst (pa_cons (pe_methD (pv 0) T.cH D_hpeople (hr.mono (by omega)) (pa_cons (pv 3) pa_nil)) (pa_cons (pe_methD (pv 0) T.cH D_htotal (hr.mono (by omega)) (pa_cons (pv 3) (pa_cons (pv 2) pa_nil))) (pa_cons (pe_methD (pv 0) T.cH D_hleast (hr.mono (by omega)) (pa_cons (pv 3) (pa_cons (pv 2) pa_nil))) pa_nil)))))))), ?_⟩
  refine ⟨_, rfl, a, rfl, ⟨_, SqL.of ha⟩, fun D hD => ?_⟩
  refine lc_list (K := K) (a := a) (xs := nms.map V.str) (fun i H' => ∃ accs S1, Same H H' ∧ Sol S H S1 H' ∧ S1 D = none ∧ H' D = some (.lst accs) ∧ Paired (TCell S1) accs ((Ls.map (tv c)).take i))
    ⟨[], S, same_new hD _, (Sol.refl hh.sH).new hD _, hh.sH.free hD, upd_same, .nil⟩ (fun i H' _ ⟨_, _, s, _⟩ => SqL.of (s _ _ ha)) ?_ ?_
  · rintro i v H1 hi ⟨accs, S1, s1, so, hS1, hd1, hpa⟩
    refine ⟨rfl, tyes ?_⟩
    rw [List.getElem?_map] at hi
    cases ei : nms[i]? with
    | none => rw [ei] at hi; cases hi
    | some nm =>
      rw [ei] at hi
      obtain rfl : V.str nm = v := Option.some.inj hi
      obtain ⟨L, hL, hnm, hg⟩ := pget hp ei
      have hh1 := hh.same s1
      obtain ⟨dx1, hob1⟩ := hh1.hs.ob
      refine ⟨_, rfl, x.h, dx1, _, rfl, hob1, hno (by decide +kernel), _, rfl, d, M, n, S, x, rs, nm, L, rfl, hnm, hh1, hlim, hg, fun H2 s2 => ?_⟩
      refine ⟨_, rfl, x.h, dx1, _, rfl, s2 _ _ hob1, hno (by decide +kernel), _, rfl, _, rfl, d, M, n, S, x, rs, nm, L, c, rfl, hnm, hh1.same s2, hd, hlim, hg, hc, fun H3 s3 => ?_⟩
      have s23 := s2.trans s3
      refine ⟨_, rfl, x.h, dx1, _, rfl, s23 _ _ hob1, hno (by decide +kernel), _, rfl, _, rfl, d, M, n, S, x, rs, nm, L, c, rfl, hnm, hh1.same s23, hd, hlim, hg, hc, fun H4 s4 => ?_⟩
      have s24 := s23.trans s4
      refine ⟨three, fun p hp0 => ?_⟩
      have hd4 := s24 _ _ hd1
      have nDp : D ≠ p := ne_of_none hd4 hp0
      have so5 := (so.same s24).laid hp0 (.lst [.int L.length, .int (tot L c), .int (wsh L c)])
      have sS : Same S1 (upd S1 p (.lst [.int L.length, .int (tot L c), .int (wsh L c)])) := same_new ((so.same s24).ok.free hp0) _
      have hil := (List.getElem?_eq_some_iff.mp ei).1
      have el : accs.length = ((Ls.map (tv c)).take i).length := Paired.length hpa
      rw [List.length_take] at el
      have hS5 : upd S1 p (.lst [.int L.length, .int (tot L c), .int (wsh L c)]) D = none := by rw [upd_ne nDp]; exact hS1
      refine ⟨accs, by rw [upd_ne nDp]; exact hd4, by rw [sizeLine_eq]; omega, _, _, same_grow ((s1.trans s24).trans (same_new hp0 _)) hD, so5.write hS5 _, hS5, upd_same, ?_⟩
      rw [take_succ (show (Ls.map (tv c))[i]? = some (tv c L) by rw [List.getElem?_map, hL]; rfl)]
      exact papp (Paired.mapP hpa fun _ _ z => z.same sS) (pone ⟨p, rfl, upd_same⟩)
  · rintro H1 ⟨accs, S1, s1, so, hS1, hd1, hpa⟩
    rw [List.length_map, Paired.length hp, show Ls.length = (Ls.map (tv c)).length by rw [List.length_map], List.take_length] at hpa
    exact q H1 _ D s1 (so.seal hD hS1 hd1) ⟨accs, upd_same, Paired.mapP hpa fun _ _ z => z.same (same_new hS1 _)⟩
end
end Bo
set_option Elab.async false
set_option linter.all false
set_option maxRecDepth 100000
set_option maxHeartbeats 4000000
namespace Bo
open PySem L2 PySem.Spec PyProof.Rows

/-! ### the hall of the law: two rows -/
theorem ne_ab : ("a" : Str) ≠ "b" := by decide +kernel
theorem ne_ac : ("a" : Str) ≠ "c" := by decide +kernel
theorem ne_bc : ("b" : Str) ≠ "c" := by decide +kernel
def r2 (A B : List Say) : Rs := [("a", A), ("b", B)]
def r3 (A B C : List Say) : Rs := [("a", A), ("b", B), ("c", C)]
theorem r2_a (A B : List Say) : getR (r2 A B) "a" = some A := if_pos rfl
theorem r2_b (A B : List Say) : getR (r2 A B) "b" = some B := (if_neg ne_ab).trans (if_pos rfl)
theorem r2_c (A B : List Say) : getR (r2 A B) "c" = none := (if_neg ne_ac).trans (if_neg ne_bc)
theorem r3_a (A B C : List Say) : getR (r3 A B C) "a" = some A := if_pos rfl
theorem r3_b (A B C : List Say) : getR (r3 A B C) "b" = some B := (if_neg ne_ab).trans (if_pos rfl)
theorem r3_c (A B C : List Say) : getR (r3 A B C) "c" = some C := (if_neg ne_ac).trans ((if_neg ne_bc).trans (if_pos rfl))
theorem put_a (A B L : List Say) : putR (r2 A B) "a" L = r2 L B := if_pos rfl
theorem put_b (A B L : List Say) : putR (r2 A B) "b" L = r2 A L := by unfold r2 putR; rw [if_neg ne_ab]; unfold putR; rw [if_pos rfl]
theorem put_c (A B L : List Say) : putR (r2 A B) "c" L = r3 A B L := by unfold r2 putR; rw [if_neg ne_ac]; unfold putR; rw [if_neg ne_bc]; rfl
theorem put3_a (A B C L : List Say) : putR (r3 A B C) "a" L = r3 L B C := if_pos rfl
theorem drop_c (A B C : List Say) : dropR (r3 A B C) "c" = r2 A B := by unfold r3 dropR; rw [if_neg ne_ac]; unfold dropR; rw [if_neg ne_bc]; unfold dropR; rw [if_pos rfl]; rfl
theorem r2_nd (A B : List Say) : ((r2 A B).map (·.1)).Nodup := by show (["a", "b"] : List Str).Nodup; decide +kernel
theorem r3_nd (A B C : List Say) : ((r3 A B C).map (·.1)).Nodup := by show (["a", "b", "c"] : List Str).Nodup; decide +kernel
theorem ok_a : OkName "a" := .inl rfl
theorem ok_b : OkName "b" := .inr (.inl rfl)
theorem ok_c : OkName "c" := .inr (.inr rfl)
/-- sorted names are these names -/
theorem abc_of {ys : List Str} (hp : ys.Perm ["a", "b", "c"]) (hs : sortedS ys = true) : ys = (["a", "b", "c"] : List Str) := by
  have h3 := hp.length_eq
  have nd : ys.Nodup := hp.nodup_iff.mpr (by decide +kernel)
  match ys, h3 with
  | [x, y, z], _ =>
    have m : ∀ v ∈ [x, y, z], v = "a" ∨ v = "b" ∨ v = ("c" : Str) := fun v hv => by
      have := hp.mem_iff.mp hv
      simpa using this
    have hx := m x (by simp)
    have hy := m y (by simp)
    have hz := m z (by simp)
    rcases hx with rfl | rfl | rfl <;> rcases hy with rfl | rfl | rfl <;> rcases hz with rfl | rfl | rfl <;> first
      | rfl
      | exact absurd nd (by decide +kernel)
      | exact absurd hs (by decide +kernel)
theorem HallS.nu {CH : Addr} {S H : Hp} {x : HallD} {u : Addr} {n : Nat} (h : HallS CH S H x) (hu : UrnAt H u n) : u ≠ x.h ∧ u ≠ x.da ∧ u ≠ x.ua ∧ u ≠ x.rd := by
  obtain ⟨dx, h1⟩ := h.ob
  obtain ⟨a, b, c, h2, _⟩ := hu
  refine ⟨ne_of h2 h1 (fun z => nomatch z), fun e => ?_, fun e => ?_, ne_of h2 h.ro (fun z => nomatch z)⟩
  · have h3 := h.don
    rw [← e, h2] at h3
    injection h3 with h3
    injection h3 with h3
    obtain ⟨t, ht⟩ := h.dr (.int a) (by rw [← h3]; exact List.mem_cons_self)
    exact nomatch ht
  · have h3 := h.und
    rw [← e, h2] at h3
    injection h3 with h3
    injection h3 with h3
    obtain ⟨t, ht⟩ := h.ur (.int a) (by rw [← h3]; exact List.mem_cons_self)
    exact nomatch ht
theorem HallS.exu {CH : Addr} {S H H' : Hp} {x : HallD} {u : Addr} {n : Nat} (h : HallS CH S H x) (hu : UrnAt H u n) (e : ExU u H H') : HallS CH S H' x := by
  obtain ⟨n1, n2, n3, n4⟩ := h.nu hu
  obtain ⟨dx, h1⟩ := h.ob
  exact ⟨⟨dx, e _ _ n1.symm h1⟩, e _ _ n4.symm h.ro, e _ _ n2.symm h.don, e _ _ n3.symm h.und, h.dr, h.ur, h.ne, h.sh, h.sd, h.su⟩
theorem HR.exu {CS CO CH : Addr} {d M n m : Nat} {S H H' : Hp} {x : HallD} {rs : Rs} {u : Addr} (h : HR CS CO CH d M n S H x rs) (hu : UrnAt H u m) (su : S u = none) (e : ExU u H H') : HR CS CO CH d M n S H' x rs :=
  ⟨fun b o z => e _ _ (ne_of_none z su) (h.sH _ _ z), h.hs.exu hu e, h.ro, h.nd⟩
theorem HallS.urn {CH : Addr} {S H H' : Hp} {x : HallD} {u : Addr} {n : Nat} (h : HallS CH S H x) (hu : UrnAt H u n) (e : Exc x H H') : UrnAt H' u n := by
  obtain ⟨n1, n2, n3, _⟩ := h.nu hu
  obtain ⟨a, b, c, h2, h3⟩ := hu
  exact ⟨a, b, c, e _ _ n1 n2 n3 h2, h3⟩
def tdat (t : Tv) : PyData := .list [.int t.1, .int t.2.1, .int t.2.2]
theorem TCell.dp {K : PySem.W.Frag} {H : Hp} : ∀ {vs : List V} {ts : List Tv}, Paired (TCell H) vs ts → DpAll K H vs (ts.map tdat)
  | _, _, .nil => .nil
  | _, _, .cons h t => by
    obtain ⟨p, rfl, h1⟩ := h
    exact .cons (.lst (SqL.of h1) (.cons (.int _) (.cons (.int _) (.cons (.int _) .nil)))) (TCell.dp t)
theorem ToldAt.dp {K : PySem.W.Frag} {H : Hp} {r : Addr} {ts : List Tv} (h : ToldAt H r ts) : Dp K H (.ref r) (.list (ts.map tdat)) := by
  obtain ⟨vs, h1, h2⟩ := h
  exact .lst (SqL.of h1) (TCell.dp h2)
theorem told_sh2 (s t : Tv) : SeqAt.shaped (.list ([s, t].map tdat)) = true := rfl
theorem told_sh1 (s : Tv) : SeqAt.shaped (.list ([s].map tdat)) = true := rfl
theorem eqv_self {d : PyData} (h : SeqAt.shaped d = true) : PyData.eqv d d = true := SeqAt.eqv_refl d (SeqAt.canLay_of_shaped h)
theorem neF {x y : V} (h : x = y) : V.bl (!decide (x = y)) = V.bl false := by rw [decide_eq_true h]; rfl
theorem eqT {x y : V} (h : x = y) : V.bl (decide (x = y)) = V.bl true := by rw [decide_eq_true h]
theorem nedF {d : PyData} (h : SeqAt.shaped d = true) : V.bl (!PyData.eqv d d) = V.bl false := by rw [eqv_self h]; rfl
theorem eqdT {d : PyData} (h : SeqAt.shaped d = true) : V.bl (PyData.eqv d d) = V.bl true := by rw [eqv_self h]
theorem qT {Q : VK} {x y : V} {H : Hp} (h : x = y) (q : Q (.bl true) H) : Q (V.bl (decide (x = y))) H := by rw [decide_eq_true h]; exact q
theorem qdT {Q : VK} {d : PyData} {H : Hp} (h : SeqAt.shaped d = true) (q : Q (.bl true) H) : Q (V.bl (PyData.eqv d d)) H := by rw [eqv_self h]; exact q
theorem abc_sh : SeqAt.shaped (.list [.str "a", .str "b", .str "c"]) = true := by decide +kernel
/-- the hall of the law -/
structure Two (CS CO CH : Addr) (n t : Nat) (S H : Hp) (x : HallD) (A B : List Say) : Prop where
  hr : HR CS CO CH 3 155 n S H x (r2 A B)
  dn : x.dn.length ≤ t
  la : A.length ≤ 700000000000000000000000000000
  lb : B.length ≤ 700000000000000000000000000000
/-- what one of the law's parts leaves behind -/
abbrev Left (CS CO CH : Addr) (u : Addr) (m n t : Nat) (S H : Hp) (x : HallD) (A B : List Say) (Q : VK) : Prop := ∀ (H' S' : Hp) (x' : HallD), UrnAt H' u m → Sol S H S' H' → x'.h = x.h → Two CS CO CH n t S' H' x' A B → Q (.bl true) H'
def spCutR (CS CO CH : Addr) : Sp := fun vs H Q _ => ∃ (m n t : Nat) (S : Hp) (x : HallD) (u la : Addr) (es : List El) (B : List Say) (c : Int), vs = [.ref u, .ref x.h, .ref la, .int c] ∧ UrnAt H u (m + 1) ∧ S u = none ∧ Two CS CO CH n t S H x (flat es) B ∧ LongH 3 S la es ∧ wsum es ≤ 155 ∧ 0 ≤ c ∧
  2 * (n + 465) ≤ lim ∧ t ≤ 90 ∧ Left CS CO CH u m (2 * (n + 465)) (t + 2) S H x (flat es) B Q
section
variable {P : Program} {w : World} {K : PySem.W.Frag} {mg : Str → Option Value} {base : Heap} {CS CO CH : Addr}
abbrev sLcut_right : Stmt := top 65
theorem scLcut_right : FnScope ["_law_urn_here", "_law_hall", "_law_long_here", "_law_company_here", "_law_place", "_law_before", "_law_whole"] ["_law_urn_here", "_law_hall", "_law_long_here", "_law_company_here"] (defScope sLcut_right) := ⟨rfl, rfl, rfl, by decide +kernel, rfl, by decide +kernel, by decide +kernel⟩
theorem ok_lcut_right (T : Txt K mg CS CO CH) (R : Raw K mg "_law_cut_right" sLcut_right ["_law_urn_here", "_law_hall", "_law_long_here", "_law_company_here"]) (D_lball : Dn P w K mg base "_law_ball" 1 ["_law_urn_here", "_law_many"] spBall)
    (D_hpeople : DnM P w K mg base CH "people" 23 ["self", "name"] (spPeople CS CO CH)) (D_htotal : DnM P w K mg base CH "total" 23 ["self", "name", "company"] (spTotal CS CO CH)) (D_htogether : DnM P w K mg base CH "together" 23 ["self", "names", "company"] (spTog CS CO CH))
    (D_hcut : DnM P w K mg base CH "cut" 23 ["self", "name", "place", "other"] (spCut CS CO CH)) (D_hjoin_to : DnM P w K mg base CH "join_to" 23 ["self", "name", "other"] (spJoin CS CO CH)) (D_hnames : DnM P w K mg base CH "names" 10 ["self"] (spNames CS CO CH))
    (D_ltold : Dn P w K mg base "_law_told" 24 ["_law_hall", "_law_names", "_law_company_here"] (spTold CS CO CH)) (D_far_total : Dn P w K mg base "far_total" 13 ["long", "company"] (spFarTotal 3)) : Dn P w K mg base "_law_cut_right" 26 ["_law_urn_here", "_law_hall", "_law_long_here", "_law_company_here"] (spCutR CS CO CH) := by
  refine R.ok scLcut_right (fun vs H Q E h => ?_) (fun f cdv A outer s H vs Q E hr h => ?_)
  · obtain ⟨m, n, t, S, x, u, la, es, B, c, rfl, _⟩ := h; rfl
  obtain ⟨m, n, t, S, x, u, la, es, B, c, rfl, hu, su, hT, hL, hw, hc, hn, ht, q⟩ := h
  have two : (2 : Nat) ≤ sizeLine := by rw [sizeLine_eq]; decide
  have three : (3 : Nat) ≤ sizeLine := by rw [sizeLine_eq]; decide
  have hlim : n ≤ lim := by omega
  obtain ⟨hh, hdn, hla, hlb⟩ := hT
  obtain ⟨dx, hob⟩ := hh.hs.ob
  refine ⟨_, (pss_cons (ps_set (i := 4) scLcut_right.nd rfl (Or.inl rfl) (pe_callD D_lball (hr.mono (by omega)) rfl (pa_cons (pv 0) (pa_cons (pe_op op_add (pe_methD (pv 1) T.cH D_hpeople (hr.mono (by omega)) (pa_cons pe_str pa_nil)) pe_int) pa_nil))))
  (pss_cons (ps_set (i := 5) scLcut_right.nd rfl (Or.inl rfl) (pe_callD D_ltold (hr.mono (by omega)) rfl (pa_cons (pv 1) (pa_cons (pe_lst (pa_cons pe_str (pa_cons pe_str pa_nil))) (pa_cons (pv 3) pa_nil)))))
  (pss_cons (ps_expr (pe_methD (pv 1) T.cH D_hcut (hr.mono (by omega)) (pa_cons pe_str (pa_cons (pv 4) (pa_cons pe_str pa_nil)))))
  (pss_cons (ps_set (i := 6) scLcut_right.nd rfl (Or.inl rfl) (pe_methD (pv 1) T.cH D_htotal (hr.mono (by omega)) (pa_cons pe_str (pa_cons (pe_methD (pv 1) T.cH D_htotal (hr.mono (by omega)) (pa_cons pe_str (pa_cons (pv 3) pa_nil))) pa_nil))))
  (pss_cons (ps_if (PW.pt (pw_or (pt_cmpR op_ne (pv 6) (pe_callD D_far_total (hr.mono (by omega)) rfl (pa_cons (pv 2) (pa_cons (pv 3) pa_nil))) (nomark _)) (pw_or1 (pt_cmpR op_ne (pe_methD (pv 1) T.cH D_htogether (hr.mono (by omega)) (pa_cons (pe_lst (pa_cons pe_str (pa_cons pe_str pa_nil))) (pa_cons (pv 3) pa_nil))) (pv 6) (nomark _))))) (pss_one (ps_ret pe_bl)) pss_nil)
  (pss_cons (ps_if (pt_cmpR op_ne (pe_methD (pv 1) T.cH D_htogether (hr.mono (by omega)) (pa_cons (pe_tup (pa_cons pe_str (pa_cons pe_str (pa_cons pe_str pa_nil)))) (pa_cons (pv 3) pa_nil))) (pe_callD D_far_total (hr.mono (by omega)) rfl (pa_cons (pv 2) (pa_cons (pe_methD (pv 1) T.cH D_htotal (hr.mono (by omega)) (pa_cons pe_str (pa_cons (pv 3) pa_nil))) pa_nil))) (nomark _)) (pss_one (ps_ret pe_bl)) pss_nil)
  (pss_cons (ps_if (PW.pt (pw_or (pt_cmpR op_ne (pe_op op_add (pe_methD (pv 1) T.cH D_hpeople (hr.mono (by omega)) (pa_cons pe_str pa_nil)) (pe_methD (pv 1) T.cH D_hpeople (hr.mono (by omega)) (pa_cons pe_str pa_nil))) (pe_ix ix_list (pe_ix ix_list (pv 5) pe_int (fun _ _ => rfl)) pe_int (fun _ _ => rfl)) (nomark _)) (pw_or1 (pt_cmpR (op_neD hr.units) (pe_meth0D (pv 1) T.cH D_hnames (hr.mono (by omega))) (pe_lst (pa_cons pe_str (pa_cons pe_str (pa_cons pe_str pa_nil)))) (nomark _))))) (pss_one (ps_ret pe_bl)) pss_nil)
  (pss_cons (ps_expr (pe_methD (pv 1) T.cH D_hjoin_to (hr.mono (by omega)) (pa_cons pe_str (pa_cons pe_str pa_nil))))
  (pss_one (ps_ret (pe_and (pe_cmpR (op_eqD hr.units) (pe_callD D_ltold (hr.mono (by omega)) rfl (pa_cons (pv 1) (pa_cons (pe_lst (pa_cons pe_str (pa_cons pe_str pa_nil))) (pa_cons (pv 3) pa_nil)))) (pv 5) (nomark _)) (pe_one (pe_cmpR op_eq (pe_methD (pv 1) T.cH D_htogether (hr.mono (by omega)) (pa_cons (pe_lst pa_nil) (pa_cons (pv 3) pa_nil))) (pv 3) (nomark _)))))))))))))), ?_⟩
  refine ⟨_, rfl, _, rfl, x.h, dx, _, rfl, hob, hno (by decide +kernel), 3, 155, n, S, x, _, "a", _, rfl, ok_a, hh, hlim, r2_a _ _, fun H1 s1 => ?_⟩
  have hh1 := hh.same s1
  have hu1 := hu.same s1
  refine ⟨_, _, rfl, rfl, u, m, _, rfl, hu1, by omega, by omega, fun H2 k' x2 u2 k0 k1 => ?_⟩
  obtain ⟨k, rfl⟩ : ∃ k : Nat, k' = k := ⟨k'.toNat, by omega⟩
  have hh2 := hh1.exu hu1 su x2
  have so2 : Sol S H S H2 := ExU.sol ((Sol.refl hh.sH).same s1) su x2 u2
  clear hob hh1 hu1 x2
  -- before
  obtain ⟨dx2, hob2⟩ := hh2.hs.ob
  refine ⟨_, rfl, two, fun l hl0 => ?_⟩
  have sl := same_new hl0 (.lst [.str "a", .str "b"])
  refine ⟨_, rfl, 3, 155, n, S, x, _, l, ["a", "b"], [flat es, B], c, rfl, hh2.same sl, by decide, hlim, upd_same, .cons ⟨ok_a, r2_a _ _⟩ (.cons ⟨ok_b, r2_b _ _⟩ .nil), by decide, hc, fun H3 S3 r s3 so3 T3 => ?_⟩
  have s23 := sl.trans s3
  have so3' := ((Sol.refl hh2.sH).same sl).trans so3
  have hh3 := hh2.sol so3' s23
  have u3 := u2.same s23
  have so3H := so2.trans so3'
  -- cut
  obtain ⟨dx3, hob3⟩ := hh3.hs.ob
  refine ⟨_, rfl, x.h, dx3, _, rfl, hob3, hno (by decide +kernel), _, rfl, 3, 155, n, S3, x, _, "a", "c", _, k, rfl, ok_a, ok_c, hh3, by decide, r2_a _ _, r2_c _ _, by omega, by omega, by omega, by show 2 ≤ 90; decide, fun H4 S4 y de ro => ?_⟩
  rw [put_a, put_c] at ro
  have u4 := hh3.hs.urn u3 de.ex
  have so4 := so3H.trans de.sol
  have T4 := T3.same de.sol.up
  have hh4 : HR CS CO CH 3 155 (n + 3 * 155) S4 H4 y (r3 ((flat es).take k) B ((flat es).drop k)) := ⟨de.sol.ok, de.hs, ro, r3_nd _ _ _⟩
  have eh : y.h = x.h := de.h
  obtain ⟨tt, dv, hdn4, _⟩ := de.dn
  have hdy : y.dn.length ≤ t + 1 := by rw [hdn4, List.length_append]; show x.dn.length + 1 ≤ t + 1; omega
  have su4 : S4 u = none := so4.no _ su hu.there
  clear de hob3 hob2
  obtain ⟨yh, yr, yd, yu, ydn, yus, yks⟩ := y
  obtain rfl : yh = x.h := eh
  generalize hy : (HallD.mk x.h yr yd yu ydn yus yks) = y at hh4 hdy
  have eh : y.h = x.h := by rw [← hy]
  clear hy
  rw [← eh]
  have hL4 : LongH 3 S4 la es := hL.same so4.up
  have hlen : (flat es).length ≤ 999999999999999999999999999999 := by omega
  have hcat : ∀ z, tot ((flat es).take k) (tot ((flat es).drop k) z) = tot (flat es) z := fun z => by rw [← tot_append, List.take_append_drop]
  have tb := fun (L : List Say) (z : Int) => (tot_bd L z).1
  -- the whole
  obtain ⟨dx4, hob4⟩ := hh4.hs.ob
  refine ⟨_, rfl, y.h, dx4, _, rfl, hob4, hno (by decide +kernel), _, rfl, y.h, dx4, _, rfl, hob4, hno (by decide +kernel), _, rfl, 3, 155, _, S4, y, _, "c", _, c, rfl, ok_c, hh4, by decide, by omega, r3_c _ _ _, hc, fun H5 s5 => ?_⟩
  have nn : n + 3 * 155 ≤ lim := by omega
  have hh5 := hh4.same s5
  refine ⟨3, 155, _, S4, y, _, "a", _, _, rfl, ok_a, hh5, by decide, nn, r3_a _ _ _, by have := tb ((flat es).drop k) c; omega, fun H6 s6 => ?_⟩
  rw [hcat]
  have hh6 := hh5.same s6
  have hL6 := hL4.same hh6.sH
  have u6 := (u4.same s5).same s6
  -- the first two checks
  refine ⟨_, rfl, _, rfl, _, rfl, la, c, es, rfl, hL6, by omega, hlen, hc, fun H7 s7 => ⟨rfl, _, rfl, ?_⟩⟩
  rw [decide_eq_true rfl]
  refine iteF ?_
  have hh7 := hh6.same s7
  obtain ⟨dx7, hob7⟩ := hh7.hs.ob
  refine ⟨_, rfl, y.h, dx7, _, rfl, hob7, hno (by decide +kernel), two, fun l7 hl7 => ?_⟩
  have sl7 := same_new hl7 (.lst [.str "a", .str "c"])
  refine ⟨_, rfl, 3, 155, _, S4, y, _, l7, ["a", "c"], [_, _], c, rfl, hh7.same sl7, by decide, nn, .inl upd_same, .cons ⟨ok_a, r3_a _ _ _⟩ (.cons ⟨ok_c, r3_c _ _ _⟩ .nil), by decide, hc, fun H8 s8 => ?_⟩
  refine ⟨_, rfl, rfl, false, neF (show V.int (tot ((flat es).take k) (tot ((flat es).drop k) c)) = V.int (tot (flat es) c) by rw [hcat]), iteF ?_⟩
  have hh8 := hh7.same (sl7.trans s8)
  have u8 := (u6.same s7).same (sl7.trans s8)
  have a8 := ((s5.trans s6).trans s7).trans (sl7.trans s8)
  clear hob7 hh7 hh6 hh5 hob4 hL6 u6 sl7 s8
  obtain ⟨dx8, hob8⟩ := hh8.hs.ob
  refine ⟨_, rfl, y.h, dx8, _, rfl, hob8, hno (by decide +kernel), three, fun l9 hl9 => ?_⟩
  have sl9 := same_new hl9 (.tup [.str "a", .str "c", .str "b"])
  refine ⟨_, rfl, 3, 155, _, S4, y, _, l9, ["a", "c", "b"], [_, _, _], c, rfl, hh8.same sl9, by decide, nn, .inr upd_same, .cons ⟨ok_a, r3_a _ _ _⟩ (.cons ⟨ok_c, r3_c _ _ _⟩ (.cons ⟨ok_b, r3_b _ _ _⟩ .nil)), by decide, hc, fun H10 s10 => ?_⟩
  have s8x := sl9.trans s10
  have hh10 := hh8.same s8x
  obtain ⟨dx10, hob10⟩ := hh10.hs.ob
  refine ⟨_, rfl, _, rfl, y.h, dx10, _, rfl, hob10, hno (by decide +kernel), _, rfl, 3, 155, _, S4, y, _, "b", _, c, rfl, ok_b, hh10, by decide, nn, r3_b _ _ _, hc, fun H11 s11 => ?_⟩
  have hh11 := hh10.same s11
  refine ⟨la, _, es, rfl, hL4.same hh11.sH, by omega, hlen, by have := tb B c; omega, fun H12 s12 => ⟨rfl, false, neF (show V.int (tot ((flat es).take k) (tot ((flat es).drop k) (tot B c))) = V.int (tot (flat es) (tot B c)) by rw [hcat]), iteF ?_⟩⟩
  have hh12 := hh11.same s12
  have u12 := ((u8.same s8x).same s11).same s12
  have a12 := ((a8.trans s8x).trans s11).trans s12
  clear hh11 hh10 hob10 hh8 hob8 u8 sl9 s10 s8x
  obtain ⟨dx12, hob12⟩ := hh12.hs.ob
  refine ⟨_, rfl, y.h, dx12, _, rfl, hob12, hno (by decide +kernel), 3, 155, _, S4, y, _, "a", _, rfl, ok_a, hh12, nn, r3_a _ _ _, fun H13 s13 => ?_⟩
  refine ⟨_, rfl, y.h, dx12, _, rfl, s13 _ _ hob12, hno (by decide +kernel), 3, 155, _, S4, y, _, "c", _, rfl, ok_c, hh12.same s13, nn, r3_c _ _ _, fun H14 s14 => ?_⟩
  have hh14 := (hh12.same s13).same s14
  have T14 := T4.same hh14.sH
  have u14 := (u12.same s13).same s14
  obtain ⟨ws, hr14, hws⟩ := id T14
  cases hws with
  | cons hc1 t1 =>
  obtain ⟨p1, rfl, hp1⟩ := hc1
  refine ⟨_, _, rfl, rfl, _, rfl, r, _, _, _, rfl, rfl, SqL.of hr14, atI_nat (j := 0) rfl, p1, _, _, _, rfl, rfl, SqL.of hp1, atI_nat (j := 0) rfl, rfl, false, neF (show V.int ((((flat es).take k).length : Int) + (((flat es).drop k).length : Int)) = V.int ((flat es).length : Int) by rw [List.length_take, List.length_drop]; congr 1; omega), iteF ?_⟩
  clear hh12 u12 hob12
  obtain ⟨dx14, hob14⟩ := hh14.hs.ob
  refine ⟨_, rfl, y.h, dx14, _, rfl, hob14, hno (by decide +kernel), 3, 155, _, S4, y, _, rfl, hh14, by show 3 ≤ 50; decide, fun H15 p ys s15 hp hs hpp => ?_⟩
  obtain rfl := abc_of hp hs
  refine ⟨three, fun l15 hl15 => ?_⟩
  have sl15 := same_new hl15 (.lst [.str "a", .str "b", .str "c"])
  refine ⟨.list [.str "a", .str "b", .str "c"], .list [.str "a", .str "b", .str "c"], .lst (SqL.of (sl15 _ _ hpp)) (.cons (.str _) (.cons (.str _) (.cons (.str _) .nil))), .lst (SqL.of upd_same) (.cons (.str _) (.cons (.str _) (.cons (.str _) .nil))), abc_sh, abc_sh, false, nedF abc_sh, iteF ?_⟩
  have s15x := s15.trans sl15
  have hh16 := hh14.same s15x
  have u16 := u14.same s15x
  obtain ⟨dx16, hob16⟩ := hh16.hs.ob
  refine ⟨_, rfl, y.h, dx16, _, rfl, hob16, hno (by decide +kernel), 3, 155, _, S4, y, _, "a", "c", _, _, rfl, ok_a, ok_c, ne_ac, hh16, by decide, r3_a _ _ _, r3_c _ _ _, by have hmp : mp = 999999999999999999999999999999 := rfl; rw [List.length_take, List.length_drop]; omega, by omega, by omega, by show 3 ≤ 99; decide, fun H17 S17 z de ro => ?_⟩
  rw [put3_a, drop_c, List.take_append_drop] at ro
  have u17 := hh16.hs.urn u16 de.ex
  have T17 := T4.same de.sol.up
  have so17 := (so4.same (((a12.trans s13).trans s14).trans s15x)).trans de.sol
  have ez : z.h = y.h := de.h
  have hh17 : HR CS CO CH 3 155 (2 * (n + 3 * 155)) S17 H17 z (r2 (flat es) B) := ⟨de.sol.ok, de.hs, ro, r2_nd _ _⟩
  obtain ⟨tt2, dv2, hdn17, _⟩ := de.dn
  have hdz : z.dn.length ≤ t + 2 := by rw [hdn17, List.length_append]; show y.dn.length + 1 ≤ t + 2; omega
  have hzd : 2 * (n + 3 * 155) ≤ lim := by omega
  refine ⟨_, rfl, two, fun l17 hl17 => ?_⟩
  have sl17 := same_new hl17 (.lst [.str "a", .str "b"])
  rw [← ez]
  refine ⟨_, rfl, 3, 155, _, S17, z, _, l17, ["a", "b"], [flat es, B], c, rfl, hh17.same sl17, by decide, hzd, upd_same, .cons ⟨ok_a, r2_a _ _⟩ (.cons ⟨ok_b, r2_b _ _⟩ .nil), by decide, hc, fun H18 S18 r' s18 so18 T18 => ?_⟩
  have s18x := sl17.trans s18
  have so18' := ((Sol.refl hh17.sH).same sl17).trans so18
  have hh18 := hh17.sol so18' s18x
  have u18 := u17.same s18x
  refine ⟨_, rfl, _, _, (T18.same so18.ok).dp, ((T17.same so18.up).same so18.ok).dp, told_sh2 _ _, told_sh2 _ _, true, eqdT (told_sh2 _ _), ?_⟩
  rw [if_pos rfl]
  obtain ⟨dx18, hob18⟩ := hh18.hs.ob
  refine ⟨_, rfl, z.h, dx18, _, rfl, hob18, hno (by decide +kernel), Nat.zero_le _, fun l18 hl18 => ?_⟩
  have sl18 := same_new hl18 (.lst [])
  refine ⟨_, rfl, 3, 155, _, S18, z, _, l18, [], [], c, rfl, hh18.same sl18, by decide, hzd, .inl upd_same, .nil, by decide, hc, fun H19 s19 => ?_⟩
  have s19x := sl18.trans s19
  refine ⟨_, rfl, rfl, qT rfl (q H19 S18 z (u18.same s19x) ((so17.trans so18').same s19x) (ez.trans eh) ⟨(hh18.same s19x), hdz, hla, hlb⟩)⟩
end
end Bo
set_option Elab.async false
set_option linter.all false
set_option maxRecDepth 100000
set_option maxHeartbeats 4000000
namespace Bo
open PySem L2 PySem.Spec PyProof.Rows

/-- what an undo goes back to -/
def Past (H : Hp) (dn dn0 : List V) (rd0 : Addr) (ks0 : List (Key × V)) : Prop := ∃ t dv, dn = dn0 ++ [.ref t] ∧ H t = some (.tup [dv, .ref rd0]) ∧ H rd0 = some (.dK ks0)
theorem Past.same {H H' : Hp} {dn dn0 : List V} {rd0 : Addr} {ks0 : List (Key × V)} (p : Past H dn dn0 rd0 ks0) (s : Same H H') : Past H' dn dn0 rd0 ks0 := by
  obtain ⟨t, dv, h1, h2, h3⟩ := p
  exact ⟨t, dv, h1, s _ _ h2, s _ _ h3⟩
theorem HallS.tup {CH : Addr} {S H H' : Hp} {x : HallD} (h : HallS CH S H x) (e : Exc x H H') {b : Addr} {xs : List V} (hb : H b = some (.tup xs)) : H' b = some (.tup xs) := by
  obtain ⟨dx, h1⟩ := h.ob
  exact e _ _ (ne_of hb h1 (fun z => nomatch z)) (ne_of hb h.don (fun z => nomatch z)) (ne_of hb h.und (fun z => nomatch z)) hb
theorem HallS.dic {CH : Addr} {S H H' : Hp} {x : HallD} (h : HallS CH S H x) (e : Exc x H H') {b : Addr} {xs : List (Key × V)} (hb : H b = some (.dK xs)) : H' b = some (.dK xs) := by
  obtain ⟨dx, h1⟩ := h.ob
  exact e _ _ (ne_of hb h1 (fun z => nomatch z)) (ne_of hb h.don (fun z => nomatch z)) (ne_of hb h.und (fun z => nomatch z)) hb
theorem Past.exc {CH : Addr} {S H H' : Hp} {x : HallD} {dn dn0 : List V} {rd0 : Addr} {ks0 : List (Key × V)} (p : Past H dn dn0 rd0 ks0) (h : HallS CH S H x) (e : Exc x H H') : Past H' dn dn0 rd0 ks0 := by
  obtain ⟨t, dv, h1, h2, h3⟩ := p
  exact ⟨t, dv, h1, h.tup e h2, h.dic e h3⟩
theorem Deed.past {CH : Addr} {S H S' H' : Hp} {x x' : HallD} (d : Deed CH S H S' H' x x') (h : HallS CH S H x) : Past H' x'.dn x.dn x.rd x.ks := by
  obtain ⟨t, dv, h1, h2⟩ := d.dn
  exact ⟨t, dv, h1, h2, h.dic d.ex h.ro⟩
theorem undo_of {CH : Addr} {S H : Hp} {x : HallD} {dn0 : List V} {rd0 : Addr} {ks0 : List (Key × V)} {Q : VK} {E : XK} {σ : L2.St} (hS : Same S H) (h : HallS CH S H x) (p : Past H x.dn dn0 rd0 ks0) (hu : x.us.length ≤ 100) (hd : x.dn.length ≤ 1000)
    (q : ∀ (H' : Hp) (x' : HallD), Sol S H S H' → Exc x H H' → HallS CH S H' x' → x'.h = x.h → x'.dn = dn0 → x'.ks = ks0 → x'.us.length = x.us.length + 1 → Q .non H') : tNil σ H fun vs H2 => spUndo CH (.ref x.h :: (vs ++ [])) H2 Q E := by
  obtain ⟨t, dv, h1, h2, h3⟩ := p
  exact ⟨S, x, dn0, t, rd0, dv, ks0, rfl, hS, h, h1, h2, h3, hu, hd, fun H' t2 so e hs => q H' _ so e hs rfl rfl rfl (by rw [List.length_append]; rfl)⟩
theorem HR.of {CS CO CH : Addr} {d M n : Nat} {S H S' H' : Hp} {x x' : HallD} {rs : Rs} (de : Deed CH S H S' H' x x') (ro : RowsR (RowS CS CO d M n S') x'.ks rs) (nd : (rs.map (·.1)).Nodup) : HR CS CO CH d M n S' H' x' rs := ⟨de.sol.ok, de.hs, ro, nd⟩
theorem Deed.len {CH : Addr} {S H S' H' : Hp} {x x' : HallD} (d : Deed CH S H S' H' x x') : x'.dn.length = x.dn.length + 1 := by
  obtain ⟨t, dv, h1, _⟩ := d.dn
  rw [h1, List.length_append]; rfl
theorem map_rep {n : Nat} {a : Str} : (List.replicate n [V.str a]).flatten = (List.replicate n a).map V.str := by
  rw [List.map_replicate, List.flatten_replicate_singleton]
theorem paired_rep {R : Str → List Say → Prop} {a : Str} {L : List Say} (h : R a L) : ∀ n, Paired R (List.replicate n a) (List.replicate n L)
  | 0 => .nil
  | n + 1 => .cons h (paired_rep h n)
theorem fold_rep (L : List Say) (c : Int) : ∀ n, (List.replicate n L).foldr tot c = tot (rep n L) c
  | 0 => rfl
  | n + 1 => by rw [List.replicate_succ, List.foldr_cons, fold_rep L c n, rep_succ, tot_append]
def spOverR (CS CO CH : Addr) : Sp := fun vs H Q _ => ∃ (m n t : Nat) (S : Hp) (x : HallD) (u : Addr) (A B : List Say) (c : Int), vs = [.ref u, .ref x.h, .int c] ∧ UrnAt H u (m + 2) ∧ S u = none ∧ Two CS CO CH n t S H x A B ∧ 0 ≤ c ∧
  n + 10 ≤ lim ∧ t ≤ 90 ∧ Left CS CO CH u m n t S H x A B Q
/-- the numbers of times -/
theorem few_ok {len : Nat} {most r : Int} (hl : len ≤ 700000000000000000000000000000) (hm : most = 100000000000000000000000000000 / (if (len : Int) > 1 then (len : Int) else 1)) (r0 : 0 ≤ r) (r1 : r < 4) :
    ∃ F : Nat, (F : Int) = (if (if most > 1 then most else 1) < 1 + r then (if most > 1 then most else 1) else 1 + r) ∧ 1 ≤ F ∧ F ≤ 4 ∧ (len : Int) * F ≤ 700000000000000000000000000000 := by
  refine ⟨(if (if most > 1 then most else 1) < 1 + r then (if most > 1 then most else 1) else 1 + r).toNat, by split <;> split <;> omega, by split <;> split <;> omega, by split <;> split <;> omega, ?_⟩
  rw [Int.toNat_of_nonneg (by split <;> split <;> omega)]
  by_cases c : most > 1
  · have h1 : most * (if (len : Int) > 1 then (len : Int) else 1) ≤ 100000000000000000000000000000 := by rw [hm]; exact Int.ediv_mul_le _ (by split <;> omega)
    have h2 : (if (if most > 1 then most else 1) < 1 + r then (if most > 1 then most else 1) else 1 + r) ≤ most := by rw [if_pos c]; split <;> omega
    have h3 : (len : Int) * (if (if most > 1 then most else 1) < 1 + r then (if most > 1 then most else 1) else 1 + r) ≤ (len : Int) * most := Int.mul_le_mul_of_nonneg_left h2 (Int.natCast_nonneg _)
    have h4 : (len : Int) * most ≤ most * (if (len : Int) > 1 then (len : Int) else 1) := by
      rw [Int.mul_comm]
      exact Int.mul_le_mul_of_nonneg_left (by split <;> omega) (by omega)
    omega
  · have h2 : (if (if most > 1 then most else 1) < 1 + r then (if most > 1 then most else 1) else 1 + r) = 1 := by rw [if_neg c]; split <;> omega
    rw [h2]; omega
section
variable {P : Program} {w : World} {K : PySem.W.Frag} {mg : Str → Option Value} {base : Heap} {CS CO CH : Addr}
abbrev sLover_right : Stmt := top 66
theorem scLover_right : FnScope ["_law_urn_here", "_law_hall", "_law_company_here", "_law_most", "_law_few", "_law_more", "_law_due", "_law_twice"] ["_law_urn_here", "_law_hall", "_law_company_here"] (defScope sLover_right) := ⟨rfl, rfl, rfl, by decide +kernel, rfl, by decide +kernel, by decide +kernel⟩
theorem ok_lover_right (T : Txt K mg CS CO CH) (R : Raw K mg "_law_over_right" sLover_right ["_law_urn_here", "_law_hall", "_law_company_here"]) (D_lball : Dn P w K mg base "_law_ball" 1 ["_law_urn_here", "_law_many"] spBall)
    (D_hpeople : DnM P w K mg base CH "people" 23 ["self", "name"] (spPeople CS CO CH)) (D_htotal : DnM P w K mg base CH "total" 23 ["self", "name", "company"] (spTotal CS CO CH)) (D_htogether : DnM P w K mg base CH "together" 23 ["self", "names", "company"] (spTog CS CO CH))
    (D_hsay_over : DnM P w K mg base CH "say_over" 23 ["self", "name", "many"] (spOver CS CO CH)) (D_hundo : DnM P w K mg base CH "undo" 10 ["self"] (spUndo CH))
    (D_ltold : Dn P w K mg base "_law_told" 24 ["_law_hall", "_law_names", "_law_company_here"] (spTold CS CO CH)) : Dn P w K mg base "_law_over_right" 26 ["_law_urn_here", "_law_hall", "_law_company_here"] (spOverR CS CO CH) := by
  refine R.ok scLover_right (fun vs H Q E h => ?_) (fun f cdv A' outer s H vs Q E hr h => ?_)
  · obtain ⟨m, n, t, S, x, u, A, B, c, rfl, _⟩ := h; rfl
  obtain ⟨m, n, t, S, x, u, A, B, c, rfl, hu, su, hT, hc, hn, ht, q⟩ := h
  have one : (1 : Nat) ≤ sizeLine := by rw [sizeLine_eq]; decide
  have hmp : mp = 999999999999999999999999999999 := rfl
  have hbig : big = 2 ^ 128 := rfl
  have hlim : n ≤ lim := by omega
  obtain ⟨hh, hdn, hla, hlb⟩ := hT
  obtain ⟨dx, hob⟩ := hh.hs.ob
  have e29 : (10 : Int) ^ (29 : Int).toNat = 100000000000000000000000000000 := by decide
  have e30 : (10 : Int) ^ (30 : Int).toNat = 1000000000000000000000000000000 := by decide
  have hp29 : CPowW 10 29 := pow_ok (b := 4) (j := 29) (by decide) (by decide)
  have hp30 : CPowW 10 30 := pow_ok (b := 4) (j := 30) (by decide) (by decide)
  refine ⟨_, (pss_cons (ps_set (i := 3) scLover_right.nd rfl (Or.inl rfl) (pe_op op_fdivW (pe_op op_powW pe_int pe_int) (pe_callB (call_max2 rfl) rfl T.b_max boot_max (pa_cons pe_int (pa_cons (pe_methD (pv 1) T.cH D_hpeople (hr.mono (by omega)) (pa_cons pe_str pa_nil)) pa_nil)))))
  (pss_cons (ps_par (i := 4) (j := 5) rfl scLover_right.nd rfl rfl (by decide) rfl rfl (pa_cons (pe_callB (call_min2 rfl) rfl T.b_min boot_min (pa_cons (pe_op op_add pe_int (pe_callD D_lball (hr.mono (by omega)) rfl (pa_cons (pv 0) (pa_cons pe_int pa_nil)))) (pa_cons (pe_callB (call_max2 rfl) rfl T.b_max boot_max (pa_cons pe_int (pa_cons (pv 3) pa_nil))) pa_nil))) (pa_cons (pe_callD D_lball (hr.mono (by omega)) rfl (pa_cons (pv 0) (pa_cons (pe_op op_add pe_int (pe_op op_fdivW (pv 3) pe_int)) pa_nil))) pa_nil)) (by rfl))
  (pss_cons (ps_if (pt_cmpR op_ge (pe_op op_mulW (pe_op op_mulW (pe_methD (pv 1) T.cH D_hpeople (hr.mono (by omega)) (pa_cons pe_str pa_nil)) (pv 4)) (pv 5)) (pe_op op_powW pe_int pe_int) (nomark _)) (pss_one (ps_set (i := 5) scLover_right.nd rfl (Or.inl rfl) pe_int)) pss_nil)
  (pss_cons (ps_set (i := 6) scLover_right.nd rfl (Or.inl rfl) (pe_methD (pv 1) T.cH D_htogether (hr.mono (by omega)) (pa_cons (pe_op op_rep (pe_lst (pa_cons pe_str pa_nil)) (pv 4)) (pa_cons (pv 2) pa_nil))))
  (pss_cons (ps_expr (pe_methD (pv 1) T.cH D_hsay_over (hr.mono (by omega)) (pa_cons pe_str (pa_cons (pv 4) pa_nil))))
  (pss_cons (ps_if (pt_cmpR op_ne (pe_methD (pv 1) T.cH D_htotal (hr.mono (by omega)) (pa_cons pe_str (pa_cons (pv 2) pa_nil))) (pv 6) (nomark _)) (pss_one (ps_ret pe_bl)) pss_nil)
  (pss_cons (ps_expr (pe_methD (pv 1) T.cH D_hsay_over (hr.mono (by omega)) (pa_cons pe_str (pa_cons (pv 5) pa_nil))))
  (pss_cons (ps_set (i := 7) scLover_right.nd rfl (Or.inl rfl) (pe_callD D_ltold (hr.mono (by omega)) rfl (pa_cons (pv 1) (pa_cons (pe_lst (pa_cons pe_str pa_nil)) (pa_cons (pv 2) pa_nil)))))
  (pss_cons (ps_expr (pe_meth0D (pv 1) T.cH D_hundo (hr.mono (by omega))))
  (pss_cons (ps_expr (pe_meth0D (pv 1) T.cH D_hundo (hr.mono (by omega))))
  (pss_cons (ps_expr (pe_methD (pv 1) T.cH D_hsay_over (hr.mono (by omega)) (pa_cons pe_str (pa_cons (pe_op op_mulW (pv 4) (pv 5)) pa_nil))))
  (pss_cons (ps_if (pt_cmpR (op_neD hr.units) (pe_callD D_ltold (hr.mono (by omega)) rfl (pa_cons (pv 1) (pa_cons (pe_lst (pa_cons pe_str pa_nil)) (pa_cons (pv 2) pa_nil)))) (pv 7) (nomark _)) (pss_one (ps_ret pe_bl)) pss_nil)
  (pss_cons (ps_expr (pe_methD (pv 1) T.cH D_hsay_over (hr.mono (by omega)) (pa_cons pe_str (pa_cons pe_int pa_nil))))
  (pss_cons (ps_if (pt_cmpR (op_neD hr.units) (pe_callD D_ltold (hr.mono (by omega)) rfl (pa_cons (pv 1) (pa_cons (pe_lst (pa_cons pe_str pa_nil)) (pa_cons (pv 2) pa_nil)))) (pe_lst (pa_cons (pe_lst (pa_cons pe_int (pa_cons (pv 2) (pa_cons (pv 2) pa_nil)))) pa_nil)) (nomark _)) (pss_one (ps_ret pe_bl)) pss_nil)
  (pss_cons (ps_expr (pe_meth0D (pv 1) T.cH D_hundo (hr.mono (by omega))))
  (pss_cons (ps_expr (pe_meth0D (pv 1) T.cH D_hundo (hr.mono (by omega))))
  (pss_one (ps_ret pe_bl)))))))))))))))))), ?_⟩
  refine ⟨_, _, rfl, rfl, hp29, _, rfl, x.h, dx, _, rfl, hob, hno (by decide +kernel), 3, 155, n, S, x, _, "b", _, rfl, ok_b, hh, hlim, r2_b _ _, fun H1 s1 => ?_⟩
  refine ⟨_, _, rfl, _, _, rfl, rfl, wide_div (b := 110) (by split <;> omega) (by split <;> omega) (by decide) (by decide), ?_⟩
  rw [e29]
  obtain ⟨most, hm⟩ : ∃ most : Int, most = 100000000000000000000000000000 / (if (B.length : Int) > 1 then (B.length : Int) else 1) := ⟨_, rfl⟩
  have hm0 : 0 ≤ most := by rw [hm]; exact Int.ediv_nonneg (by decide) (by split <;> omega)
  have hm1 : most ≤ 100000000000000000000000000000 := by rw [hm]; exact Int.ediv_le_self _ (by decide)
  dsimp only
  rw [← hm]
  have hh1 := hh.same s1
  have hu1 := hu.same s1
  refine ⟨_, rfl, u, m + 1, 4, rfl, hu1, by decide, by decide, fun H2 r2' x2 u2 a2 b2 => ?_⟩
  obtain ⟨F, hF, F1, F4, hFl⟩ := few_ok hlb hm a2 b2
  refine ⟨_, _, rfl, rfl, _, rfl, _, _, rfl, _, _, rfl, ?_⟩
  refine ⟨_, rfl, _, rfl, _, _, rfl, rfl, wide_div (b := 3) (by decide) (by decide) (by decide) (by decide), _, _, rfl, rfl, u, m, _, rfl, u2, by omega, by omega, fun H3 g' x3 u3 a3 b3 => ?_⟩
  obtain ⟨G, rfl⟩ : ∃ G : Nat, g' = G := ⟨g'.toNat, by omega⟩
  refine ⟨_, _, rfl, ?_⟩
  rw [← hF]
  have hh3 := (hh1.exu hu1 su x2).exu u2 su x3
  have so3 : Sol S H S H3 := ExU.sol (ExU.sol ((Sol.refl hh.sH).same s1) su x2 u2) su x3 u3
  obtain ⟨dx3, hob3⟩ := hh3.hs.ob
  have hBF : 0 ≤ (B.length : Int) * F := Int.mul_nonneg (Int.natCast_nonneg _) (Int.natCast_nonneg _)
  dsimp only
  refine seq_mid (fun σ' H' => ∃ M : Nat, σ' = [some (.ref u), some (.ref x.h), some (.int c), some (.int most), some (.int F), some (.int M), none, none] ∧ Same H3 H' ∧ (B.length : Int) * F * M ≤ 999999999999999999999999999999 ∧ (M : Int) ≤ 100000000000000000000000000002) ?_ fun key => ?_
  · rintro σ' H4 ⟨M, rfl, s4, hM1, hM2⟩
    have hFn : B.length * F ≤ mp := by have : ((B.length * F : Nat) : Int) = (B.length : Int) * F := Int.natCast_mul _ _; omega
    have hMn : (rep F B).length * M ≤ mp := by
      rw [rep_len, Nat.mul_comm F]
      have e : ((B.length * F * M : Nat) : Int) = (B.length : Int) * F * M := by rw [Int.natCast_mul, Int.natCast_mul]
      omega
    have hFMn : B.length * (F * M) ≤ mp := by
      rw [← Nat.mul_assoc]
      have e : ((B.length * F * M : Nat) : Int) = (B.length : Int) * F * M := by rw [Int.natCast_mul, Int.natCast_mul]
      omega
    have hFMb : F * M ≤ big := by
      have : F * M ≤ 4 * 100000000000000000000000000002 := Nat.mul_le_mul F4 (by omega)
      omega
    have hh4 := hh3.same s4
    have u4 := u3.same s4
    obtain ⟨dx4, hob4⟩ := hh4.hs.ob
    -- due
    refine ⟨_, rfl, x.h, dx4, _, rfl, hob4, hno (by decide +kernel), one, fun l hl0 => ?_⟩
    have sl := same_new hl0 (.lst [.str "b"])
    refine ⟨_, rfl, l, F, [.str "b"], rfl, rfl, upd_same, by omega, by omega, by rw [Int.toNat_natCast, sizeLine_eq]; show 1 * F ≤ _; omega, fun p hp0 => ?_⟩
    rw [Int.toNat_natCast, map_rep]
    have sp := same_new hp0 (.lst ((List.replicate F ("b" : Str)).map V.str))
    refine ⟨_, rfl, 3, 155, n, S, x, _, p, List.replicate F "b", List.replicate F B, c, rfl, hh4.same (sl.trans sp), by decide, hlim, .inl upd_same, paired_rep ⟨ok_b, r2_b _ _⟩ F, by rw [List.length_replicate]; omega, hc, fun H5 s5 => ?_⟩
    rw [fold_rep]
    have s5x := (sl.trans sp).trans s5
    have hh5 := hh4.same s5x
    have u5 := u4.same s5x
    have so5 := (so3.same s4).same s5x
    obtain ⟨dx5, hob5⟩ := hh5.hs.ob
    -- said over
    refine ⟨_, rfl, x.h, dx5, _, rfl, hob5, hno (by decide +kernel), _, rfl, 3, 155, n, S, x, _, "b", _, F, rfl, ok_b, hh5, by decide, r2_b _ _, by omega, hFn, by omega, by omega, by show 2 ≤ 99; decide, fun H6 S6 y1 d1 ro1 => ?_⟩
    rw [put_b] at ro1
    have hh6 := HR.of d1 ro1 (r2_nd _ _)
    have u6 := hh5.hs.urn u5 d1.ex
    have P1 := d1.past hh5.hs
    have so6 := so5.trans d1.sol
    rw [← d1.h]
    obtain ⟨dx6, hob6⟩ := hh6.hs.ob
    refine ⟨_, rfl, y1.h, dx6, _, rfl, hob6, hno (by decide +kernel), _, rfl, 3 + 1, _, _, S6, y1, _, "b", _, c, rfl, ok_b, hh6, by decide, by omega, r2_b _ _, hc, fun H7 s7 => ⟨_, rfl, rfl, false, neF rfl, iteF ?_⟩⟩
    have hh7 := hh6.same s7
    have u7 := u6.same s7
    have so7 := so6.same s7
    obtain ⟨dx7, hob7⟩ := hh7.hs.ob
    have l1 := d1.len
    -- and said over again
    refine ⟨_, rfl, y1.h, dx7, _, rfl, hob7, hno (by decide +kernel), _, rfl, 3 + 1, _, _, S6, y1, _, "b", _, M, rfl, ok_b, hh7, by decide, r2_b _ _, by omega, hMn, by omega, by omega, by show 2 ≤ 99; decide, fun H8 S8 y2 d2 ro2 => ?_⟩
    rw [put_b, rep_rep, Nat.mul_comm M F] at ro2
    have hh8 := HR.of d2 ro2 (r2_nd _ _)
    have u8 := hh7.hs.urn u7 d2.ex
    have P2 := d2.past hh7.hs
    have P1' := (P1.same s7).exc hh7.hs d2.ex
    have so8 := so7.trans d2.sol
    rw [← d2.h]
    refine ⟨_, rfl, one, fun l9 hl9 => ?_⟩
    have sl9 := same_new hl9 (.lst [.str "b"])
    refine ⟨_, rfl, 3 + 1 + 1, _, _, S8, y2, _, l9, ["b"], [_], c, rfl, hh8.same sl9, by decide, by omega, upd_same, .cons ⟨ok_b, r2_b _ _⟩ .nil, by decide, hc, fun H9 S9 r9 s9 so9 T9 => ?_⟩
    have s9x := sl9.trans s9
    have so9x := ((Sol.refl hh8.sH).same sl9).trans so9
    have hh9 := hh8.sol so9x s9x
    have u9 := u8.same s9x
    have so9y := so8.trans so9x
    have l2 := d2.len
    have us2 := d2.us
    obtain ⟨dx9, hob9⟩ := hh9.hs.ob
    -- undone twice
    refine ⟨_, rfl, y2.h, dx9, _, rfl, hob9, hno (by decide +kernel), undo_of hh9.sH hh9.hs (P2.same s9x) (by rw [us2]; decide) (by omega) fun H10 z1 so10 e10 hs10 eh10 edn10 eks10 eus10 => ?_⟩
    have u10 := hh9.hs.urn u9 e10
    have P1'' := (P1'.same s9x).exc hh9.hs e10
    rw [← edn10] at P1''
    rw [← eh10]
    obtain ⟨dx10, hob10⟩ := hs10.ob
    rw [us2] at eus10
    refine ⟨_, rfl, z1.h, dx10, _, rfl, hob10, hno (by decide +kernel), undo_of so10.ok hs10 P1'' (by rw [eus10]; decide) (by rw [edn10]; omega) fun H11 z2 so11 e11 hs11 eh11 edn11 eks11 eus11 => ?_⟩
    have u11 := hs10.urn u10 e11
    have so11y := (so9y.trans so10).trans so11
    rw [← eh11]
    have hh11 : HR CS CO CH 3 155 n S9 H11 z2 (r2 A B) := ⟨so11y.ok, hs11, by rw [eks11]; exact hh.ro.imp fun _ _ z => z.same so11y.up, r2_nd _ _⟩
    obtain ⟨dx11, hob11⟩ := hs11.ob
    -- said over at once
    refine ⟨_, rfl, z2.h, dx11, _, rfl, hob11, hno (by decide +kernel), _, rfl, _, rfl, _, _, rfl, rfl, mulw2 (by omega) (by omega), 3, 155, n, S9, z2, _, "b", _, F * M, (by rw [Int.natCast_mul]; rfl), ok_b, hh11, by decide, r2_b _ _, hFMb, hFMn, by omega, by rw [edn11]; omega, by show 2 ≤ 99; decide, fun H12 S12 w1 d3 ro3 => ?_⟩
    rw [put_b] at ro3
    have hh12 := HR.of d3 ro3 (r2_nd _ _)
    have u12 := hs11.urn u11 d3.ex
    have P3 := d3.past hs11
    have so12 := so11y.trans d3.sol
    have l3 := d3.len
    rw [edn11] at l3
    rw [← d3.h]
    refine ⟨_, rfl, one, fun l13 hl13 => ?_⟩
    have sl13 := same_new hl13 (.lst [.str "b"])
    refine ⟨_, rfl, 3 + 1, _, _, S12, w1, _, l13, ["b"], [_], c, rfl, hh12.same sl13, by decide, by omega, upd_same, .cons ⟨ok_b, r2_b _ _⟩ .nil, by decide, hc, fun H13 S13 r13 s13 so13 T13 => ?_⟩
    have s13x := sl13.trans s13
    have so13x := ((Sol.refl hh12.sH).same sl13).trans so13
    have T9x : ToldAt H13 r9 _ := T9.same (((so10.trans so11).trans (d3.sol.trans so13x)).up.trans so13.ok)
    refine ⟨_, rfl, _, _, (T13.same so13.ok).dp, T9x.dp, told_sh1 _, told_sh1 _, false, nedF (told_sh1 _), iteF ?_⟩
    have hh13 := hh12.sol so13x s13x
    have u13 := u12.same s13x
    have so13y := so12.trans so13x
    obtain ⟨dx13, hob13⟩ := hh13.hs.ob
    -- said over not at all
    refine ⟨_, rfl, w1.h, dx13, _, rfl, hob13, hno (by decide +kernel), 3 + 1, _, _, S13, w1, _, "b", _, 0, rfl, ok_b, hh13, by decide, r2_b _ _, Nat.zero_le _, Nat.zero_le _, by omega, by omega, by show 2 ≤ 99; decide, fun H14 S14 w2 d4 ro4 => ?_⟩
    rw [put_b, rep_zero] at ro4
    have hh14 := HR.of d4 ro4 (r2_nd _ _)
    have u14 := hh13.hs.urn u13 d4.ex
    have P4 := d4.past hh13.hs
    have P3' := (P3.same s13x).exc hh13.hs d4.ex
    have so14 := so13y.trans d4.sol
    have l4 := d4.len
    rw [← d4.h]
    refine ⟨_, rfl, one, fun l15 hl15 => ?_⟩
    have sl15 := same_new hl15 (.lst [.str "b"])
    refine ⟨_, rfl, 3 + 1 + 1, _, _, S14, w2, _, l15, ["b"], [_], c, rfl, hh14.same sl15, by decide, by omega, upd_same, .cons ⟨ok_b, r2_b _ _⟩ .nil, by decide, hc, fun H15 S15 r15 s15 so15 T15 => ?_⟩
    have three : (3 : Nat) ≤ sizeLine := by rw [sizeLine_eq]; decide
    refine ⟨_, rfl, _, rfl, three, fun p15 hp15 => ⟨one, fun q15 hq15 => ?_⟩⟩
    have sp15 := same_new hp15 (.lst [.int 0, .int c, .int c])
    have sq15 := same_new hq15 (.lst [.ref p15])
    refine ⟨_, .list [.list [.int 0, .int c, .int c]], (T15.same (so15.ok.trans (sp15.trans sq15))).dp, .lst (SqL.of upd_same) (.cons (.lst (SqL.of (sq15 _ _ upd_same)) (.cons (.int _) (.cons (.int _) (.cons (.int _) .nil)))) .nil), told_sh1 _, told_sh1 (0, c, c), false, nedF (told_sh1 (0, c, c)), iteF ?_⟩
    have s15x := (sl15.trans s15).trans (sp15.trans sq15)
    have so15x := (((Sol.refl hh14.sH).same sl15).trans so15).same (sp15.trans sq15)
    have hh15 := hh14.sol so15x s15x
    have u15 := u14.same s15x
    have so15y := so14.trans so15x
    obtain ⟨dx15, hob15⟩ := hh15.hs.ob
    refine ⟨_, rfl, w2.h, dx15, _, rfl, hob15, hno (by decide +kernel), undo_of hh15.sH hh15.hs (P4.same s15x) (by rw [d4.us]; decide) (by omega) fun H16 v1 so16 e16 hs16 eh16 edn16 eks16 eus16 => ?_⟩
    have u16 := hh15.hs.urn u15 e16
    have P3'' := (P3'.same s15x).exc hh15.hs e16
    rw [← edn16] at P3''
    rw [← eh16]
    obtain ⟨dx16, hob16⟩ := hs16.ob
    rw [d4.us] at eus16
    refine ⟨_, rfl, v1.h, dx16, _, rfl, hob16, hno (by decide +kernel), undo_of so16.ok hs16 P3'' (by rw [eus16]; decide) (by rw [edn16]; omega) fun H17 v2 so17 e17 hs17 eh17 edn17 eks17 eus17 => ?_⟩
    have u17 := hs16.urn u16 e17
    have so17y := (so15y.trans so16).trans so17
    refine q H17 S15 v2 u17 so17y ?_ ⟨⟨so17y.ok, hs17, by rw [eks17, eks11]; exact hh.ro.imp fun _ _ z => z.same so17y.up, r2_nd _ _⟩, by rw [edn17, edn11]; exact hdn, hla, hlb⟩
    rw [eh17, eh16, d4.h, d3.h, eh11, eh10, d2.h, d1.h]
  · refine ⟨_, rfl, x.h, dx3, _, rfl, hob3, hno (by decide +kernel), 3, 155, n, S, x, _, "b", _, rfl, ok_b, hh3, hlim, r2_b _ _, fun H4 s4 => ?_⟩
    refine ⟨_, rfl, _, _, rfl, rfl, mulw2 (by omega) (by omega), _, rfl, _, _, rfl, rfl, mulw2 (by omega) (by omega), _, _, rfl, rfl, hp30, _, _, rfl, rfl, _, rfl, ?_⟩
    by_cases cc : (10 : Int) ^ (30 : Int).toNat ≤ (B.length : Int) * F * G
    · rw [decide_eq_true cc]
      refine iteT (key _ _ ⟨1, rfl, s4, ?_, by decide⟩)
      omega
    · rw [decide_eq_false cc]
      refine iteF (key _ _ ⟨G, rfl, s4, ?_, by omega⟩)
      rw [e30] at cc; omega
end
end Bo
set_option Elab.async false
set_option linter.all false
set_option maxRecDepth 100000
set_option maxHeartbeats 4000000
namespace Bo
open PySem L2 PySem.Spec PyProof.Rows

theorem ins_go (A : List Say) (z : Say) {k : Nat} (h : k ≤ A.length) : (A.take k ++ [z] ++ A.drop k).take k ++ (A.take k ++ [z] ++ A.drop k).drop (k + 1) = A := by
  have e : (A.take k).length = k := by rw [List.length_take]; omega
  rw [List.append_assoc, List.take_append_of_le_length (by omega), List.take_of_length_le (by omega), List.drop_append, List.drop_of_length_le (by omega), e]
  have : k + 1 - k = 1 := by omega
  rw [this]
  show A.take k ++ ([] ++ A.drop k) = A
  rw [List.nil_append, List.take_append_drop]
theorem set_back (A : List Say) (y z : Say) {k : Nat} (h : k < A.length) (hz : A[k]? = some z) : (A.take k ++ [y] ++ A.drop (k + 1)).take k ++ [z] ++ (A.take k ++ [y] ++ A.drop (k + 1)).drop (k + 1) = A := by
  have e : (A.take k).length = k := by rw [List.length_take]; omega
  rw [List.append_assoc (A.take k), List.take_append_of_le_length (by omega), List.take_of_length_le (by omega), List.drop_append, List.drop_of_length_le (by omega), e]
  have : k + 1 - k = 1 := by omega
  rw [this]
  show A.take k ++ [z] ++ ([] ++ A.drop (k + 1)) = A
  rw [List.nil_append, List.append_assoc]
  have : [z] ++ A.drop (k + 1) = A.drop k := by
    obtain ⟨h1, h2⟩ := List.getElem?_eq_some_iff.mp hz
    rw [← h2]
    exact (List.drop_eq_getElem_cons h1).symm
  rw [this, List.take_append_drop]
theorem set_len (A : List Say) (y : Say) {k : Nat} (h : k < A.length) : (A.take k ++ [y] ++ A.drop (k + 1)).length = A.length := by
  rw [List.length_append, List.length_append, List.length_take, List.length_drop]
  show min k A.length + 1 + _ = _
  omega
theorem ins_len (A : List Say) (y : Say) {k : Nat} (h : k ≤ A.length) : (A.take k ++ [y] ++ A.drop k).length = A.length + 1 := by
  rw [List.length_append, List.length_append, List.length_take, List.length_drop]
  show min k A.length + 1 + _ = _
  omega
def gg (n : Nat) : Nat := 2 * (n + 3 * 155) + 1
theorem HR.mono {CS CO CH : Addr} {d M n n' : Nat} {S H : Hp} {x : HallD} {rs : Rs} (h : HR CS CO CH d M n S H x rs) (hn : n ≤ n') : HR CS CO CH d M n' S H x rs :=
  ⟨h.sH, h.hs, h.ro.imp fun _ _ z => z.mono (Nat.le_refl d) (Nat.le_refl M) hn, h.nd⟩
/-- a saying that was made is solid from now on -/
theorem Sol.say {S H S1 H1 H2 : Hp} {u sa : Addr} {n : Nat} {z : Say} (o : Sol S H S1 H1) (su : S1 u = none) (e : ExU u H1 H2) (hu : UrnAt H2 u n) (hz : SayAt H2 sa z) (h0 : H1 sa = none) : Sol S H (upd S1 sa (.tup [.int z.1, SayV z.2])) H2 :=
  o.trans ((ExU.sol (Sol.refl o.ok) su e hu).seal h0 (o.ok.free h0) hz.1)
theorem HR.say {CS CO CH : Addr} {d M n k m : Nat} {S H H2 : Hp} {x : HallD} {rs : Rs} {u sa : Addr} {z : Say} (h : HR CS CO CH d M n S H x rs) (hu : UrnAt H u k) (su : S u = none) (e : ExU u H H2) (hu2 : UrnAt H2 u m) (hz : SayAt H2 sa z) (h0 : H sa = none) :
    HR CS CO CH d M n (upd S sa (.tup [.int z.1, SayV z.2])) H2 x rs := by
  have so := Sol.say (Sol.refl h.sH) su e hu2 hz h0
  obtain ⟨dx, h1⟩ := h.hs.ob
  obtain ⟨a1, a2, a3, a4, a5, a6, a7, a8, a9, a10⟩ := h.hs.exu hu e
  exact ⟨so.ok, ⟨a1, a2, a3, a4, a5, a6, a7, so.no _ a8 (by rw [h1]; exact fun z => nomatch z), so.no _ a9 (by rw [h.hs.don]; exact fun z => nomatch z), so.no _ a10 (by rw [h.hs.und]; exact fun z => nomatch z)⟩, h.ro.imp fun _ _ w => w.same so.up, h.nd⟩
def spBackR (CS CO CH : Addr) : Sp := fun vs H Q _ => ∃ (m n t : Nat) (S : Hp) (x : HallD) (u : Addr) (A B : List Say) (c : Int), vs = [.ref u, .ref x.h, .int c] ∧ UrnAt H u (m + 10) ∧ S u = none ∧ Two CS CO CH n t S H x A B ∧ 0 ≤ c ∧
  gg (gg (gg (gg n))) ≤ lim ∧ t ≤ 90 ∧ Left CS CO CH u m (gg (gg (gg (gg n)))) (t + 6) S H x A B Q
section
variable {P : Program} {w : World} {K : PySem.W.Frag} {mg : Str → Option Value} {base : Heap} {CS CO CH : Addr}
abbrev sLback_right : Stmt := top 67
theorem scLback_right : FnScope ["_law_urn_here", "_law_hall", "_law_company_here", "_law_before", "_law_many", "_law_place", "_law_saying_here"] ["_law_urn_here", "_law_hall", "_law_company_here"] (defScope sLback_right) := ⟨rfl, rfl, rfl, by decide +kernel, rfl, by decide +kernel, by decide +kernel⟩
theorem ok_lback_right (T : Txt K mg CS CO CH) (R : Raw K mg "_law_back_right" sLback_right ["_law_urn_here", "_law_hall", "_law_company_here"]) (D_lball : Dn P w K mg base "_law_ball" 1 ["_law_urn_here", "_law_many"] spBall) (D_lsaying : Dn P w K mg base "_law_saying" 2 ["_law_urn_here", "_law_wide"] spSayg)
    (D_hpeople : DnM P w K mg base CH "people" 23 ["self", "name"] (spPeople CS CO CH)) (D_hturn_about : DnM P w K mg base CH "turn_about" 23 ["self", "name"] (spTurn CS CO CH)) (D_hstep_in : DnM P w K mg base CH "step_in" 23 ["self", "name", "place", "saying"] (spStepIn CS CO CH))
    (D_hgo : DnM P w K mg base CH "go" 23 ["self", "name", "place"] (spGo CS CO CH)) (D_hsaying : DnM P w K mg base CH "saying" 23 ["self", "name", "place"] (spSaying CS CO CH)) (D_hresay : DnM P w K mg base CH "resay" 23 ["self", "name", "place", "saying"] (spResay CS CO CH))
    (D_ltold : Dn P w K mg base "_law_told" 24 ["_law_hall", "_law_names", "_law_company_here"] (spTold CS CO CH)) : Dn P w K mg base "_law_back_right" 26 ["_law_urn_here", "_law_hall", "_law_company_here"] (spBackR CS CO CH) := by
  refine R.ok scLback_right (fun vs H Q E h => ?_) (fun f cdv A' outer s H vs Q E hr h => ?_)
  · obtain ⟨m, n, t, S, x, u, A, B, c, rfl, _⟩ := h; rfl
  obtain ⟨m, n, t, S, x, u, A, B, c, rfl, hu, su, hT, hc, hn, ht, q⟩ := h
  have two : (2 : Nat) ≤ sizeLine := by rw [sizeLine_eq]; decide
  have hmp : mp = 999999999999999999999999999999 := rfl
  have g1 : gg n = 2 * (n + 3 * 155) + 1 := rfl
  have g2 : gg (gg n) = 2 * (gg n + 3 * 155) + 1 := rfl
  have g3 : gg (gg (gg n)) = 2 * (gg (gg n) + 3 * 155) + 1 := rfl
  have g4 : gg (gg (gg (gg n))) = 2 * (gg (gg (gg n)) + 3 * 155) + 1 := rfl
  generalize gg (gg (gg (gg n))) = n4 at g4 hn q
  generalize gg (gg (gg n)) = n3 at g3 g4
  generalize gg (gg n) = n2 at g2 g3
  generalize gg n = n1 at g1 g2
  have hlim : n ≤ lim := by omega
  obtain ⟨hh, hdn, hla, hlb⟩ := hT
  refine ⟨_, (pss_cons (ps_set (i := 3) scLback_right.nd rfl (Or.inl rfl) (pe_callD D_ltold (hr.mono (by omega)) rfl (pa_cons (pv 1) (pa_cons (pe_lst (pa_cons pe_str (pa_cons pe_str pa_nil))) (pa_cons (pv 2) pa_nil)))))
  (pss_cons (ps_set (i := 4) scLback_right.nd rfl (Or.inl rfl) (pe_methD (pv 1) T.cH D_hpeople (hr.mono (by omega)) (pa_cons pe_str pa_nil)))
  (pss_cons (ps_set (i := 5) scLback_right.nd rfl (Or.inl rfl) (pe_callD D_lball (hr.mono (by omega)) rfl (pa_cons (pv 0) (pa_cons (pe_op op_add (pv 4) pe_int) pa_nil))))
  (pss_cons (ps_expr (pe_methD (pv 1) T.cH D_hturn_about (hr.mono (by omega)) (pa_cons pe_str pa_nil)))
  (pss_cons (ps_expr (pe_methD (pv 1) T.cH D_hturn_about (hr.mono (by omega)) (pa_cons pe_str pa_nil)))
  (pss_cons (ps_expr (pe_methD (pv 1) T.cH D_hstep_in (hr.mono (by omega)) (pa_cons pe_str (pa_cons (pv 5) (pa_cons (pe_callD D_lsaying (hr.mono (by omega)) rfl (pa_cons (pv 0) (pa_cons pe_int pa_nil))) pa_nil)))))
  (pss_cons (ps_expr (pe_methD (pv 1) T.cH D_hgo (hr.mono (by omega)) (pa_cons pe_str (pa_cons (pv 5) pa_nil))))
  (pss_cons (ps_if (pt_cmpR op_gt (pv 4) pe_int (nomark _)) (pss_cons (ps_set (i := 5) scLback_right.nd rfl (Or.inl rfl) (pe_callB (call_min2 rfl) rfl T.b_min boot_min (pa_cons (pv 5) (pa_cons (pe_op op_sub (pv 4) pe_int) pa_nil))))
  (pss_cons (ps_set (i := 6) scLback_right.nd rfl (Or.inl rfl) (pe_methD (pv 1) T.cH D_hsaying (hr.mono (by omega)) (pa_cons pe_str (pa_cons (pv 5) pa_nil))))
  (pss_cons (ps_expr (pe_methD (pv 1) T.cH D_hresay (hr.mono (by omega)) (pa_cons pe_str (pa_cons (pv 5) (pa_cons (pe_tup (pa_cons (pe_callD D_lball (hr.mono (by omega)) rfl (pa_cons (pv 0) (pa_cons pe_int pa_nil))) (pa_cons pe_non pa_nil))) pa_nil)))))
  (pss_one (ps_expr (pe_methD (pv 1) T.cH D_hresay (hr.mono (by omega)) (pa_cons pe_str (pa_cons (pv 5) (pa_cons (pv 6) pa_nil))))))))) pss_nil)
  (pss_one (ps_ret (pe_cmpR (op_eqD hr.units) (pe_callD D_ltold (hr.mono (by omega)) rfl (pa_cons (pv 1) (pa_cons (pe_lst (pa_cons pe_str (pa_cons pe_str pa_nil))) (pa_cons (pv 2) pa_nil)))) (pv 3) (nomark _)))))))))))), ?_⟩
  refine ⟨_, rfl, two, fun l hl0 => ?_⟩
  have sl := same_new hl0 (.lst [.str "a", .str "b"])
  refine ⟨_, rfl, 3, 155, n, S, x, _, l, ["a", "b"], [A, B], c, rfl, hh.same sl, by decide, hlim, upd_same, .cons ⟨ok_a, r2_a _ _⟩ (.cons ⟨ok_b, r2_b _ _⟩ .nil), by decide, hc, fun H1 S1 r s1 so1 T1 => ?_⟩
  have s1x := sl.trans s1
  have so1x := ((Sol.refl hh.sH).same sl).trans so1
  have hh1 := hh.sol so1x s1x
  have u1 := hu.same s1x
  obtain ⟨dx1, hob1⟩ := hh1.hs.ob
  refine ⟨_, rfl, x.h, dx1, _, rfl, hob1, hno (by decide +kernel), 3, 155, n, S1, x, _, "a", _, rfl, ok_a, hh1, hlim, r2_a _ _, fun H2 s2 => ?_⟩
  have hh2 := hh1.same s2
  have u2 := u1.same s2
  refine ⟨_, rfl, _, rfl, _, _, rfl, rfl, u, m + 9, _, rfl, u2, by omega, by omega, fun H3 k' x3 u3 k0 k1 => ?_⟩
  obtain ⟨k, rfl⟩ : ∃ k : Nat, k' = k := ⟨k'.toNat, by omega⟩
  have hk : k ≤ A.length := by omega
  have su1 : S1 u = none := so1x.no _ su hu.there
  have hh3 := hh2.exu u2 su1 x3
  have so3 := ExU.sol (so1x.same s2) su1 x3 u3
  obtain ⟨dx3, hob3⟩ := hh3.hs.ob
  -- turned about twice
  refine ⟨_, rfl, x.h, dx3, _, rfl, hob3, hno (by decide +kernel), 3, 155, n, S1, x, _, "a", _, rfl, ok_a, hh3, by decide, r2_a _ _, hlim, by omega, by show 2 ≤ 99; decide, fun H4 S4 y1 d1 ro1 => ?_⟩
  rw [put_a] at ro1
  have hh4 := HR.of d1 ro1 (r2_nd _ _)
  have u4 := hh3.hs.urn u3 d1.ex
  have so4 := so3.trans d1.sol
  have l1 := d1.len
  rw [← d1.h]
  obtain ⟨dx4, hob4⟩ := hh4.hs.ob
  refine ⟨_, rfl, y1.h, dx4, _, rfl, hob4, hno (by decide +kernel), 3, 155, n, S4, y1, _, "a", _, rfl, ok_a, hh4, by decide, r2_a _ _, hlim, by omega, by show 2 ≤ 99; decide, fun H5 S5 y2 d2 ro2 => ?_⟩
  rw [put_a, List.reverse_reverse] at ro2
  have hh5 := HR.of d2 ro2 (r2_nd _ _)
  have u5 := hh4.hs.urn u4 d2.ex
  have so5 := so4.trans d2.sol
  have l2 := d2.len
  rw [← d2.h]
  obtain ⟨dx5, hob5⟩ := hh5.hs.ob
  have su5 : S5 u = none := so5.no _ su hu.there
  -- stepped in
  refine ⟨_, rfl, y2.h, dx5, _, rfl, hob5, hno (by decide +kernel), _, rfl, _, rfl, u, m + 1, 9, rfl, u5, by decide, by decide, fun H6 sa z x6 u6 hz hz0 => ?_⟩
  have so6 := Sol.say (Sol.refl hh5.sH) su5 x6 u6 hz hz0
  have hh6 := hh5.say u5 su5 x6 u6 hz hz0
  have so6' := so5.trans so6
  have hz6 : SayAt (upd S5 sa (.tup [.int z.1, SayV z.2])) sa z := ⟨upd_same, hz.2⟩
  generalize upd S5 sa (.tup [.int z.1, SayV z.2]) = S6 at so6 hh6 so6' hz6
  refine ⟨3, 155, n, S6, y2, _, "a", _, k, sa, z, rfl, ok_a, hh6, by decide, r2_a _ _, hk, hz6, by omega, by decide, by decide, by omega, by omega, by show 2 ≤ 99; decide, fun H7 S7 y3 d3 ro3 => ?_⟩
  rw [put_a, ← g1] at ro3
  have hh7 := HR.of d3 ro3 (r2_nd _ _)
  have u7 := hh6.hs.urn u6 d3.ex
  have so7 := so6'.trans d3.sol
  have l3 := d3.len
  rw [← d3.h]
  obtain ⟨dx7, hob7⟩ := hh7.hs.ob
  have hL7 := ins_len A z hk
  -- and gone
  refine ⟨_, rfl, y3.h, dx7, _, rfl, hob7, hno (by decide +kernel), _, rfl, 3, 155, _, S7, y3, _, "a", _, k, rfl, ok_a, hh7, by decide, r2_a _ _, by omega, by omega, by omega, by show 2 ≤ 99; decide, fun H8 S8 y4 d4 ro4 => ?_⟩
  rw [put_a, ins_go A z hk, ← g2] at ro4
  have hh8 := HR.of d4 ro4 (r2_nd _ _)
  have u8 := hh7.hs.urn u7 d4.ex
  have so8 := so7.trans d4.sol
  have l4 := d4.len
  have T8 := T1.same ((((d1.sol.trans d2.sol).trans so6).trans d3.sol).trans d4.sol).up
  have e4 : y4.h = x.h := by rw [d4.h, d3.h, d2.h, d1.h]
  rw [← d4.h]
  obtain ⟨dx8, hob8⟩ := hh8.hs.ob
  dsimp only
  refine seq_mid (fun σ' H' => ∃ (x5 x6 : Option V) (S' : Hp) (y : HallD), σ' = [some (.ref u), some (.ref y.h), some (.int c), some (.ref r), some (.int A.length), x5, x6] ∧ UrnAt H' u m ∧ Sol S H S' H' ∧ y.h = x.h ∧ ToldAt S' r ([A, B].map (tv c)) ∧ HR CS CO CH 3 155 n4 S' H' y (r2 A B) ∧ y.dn.length ≤ t + 6) ?_ fun key => ?_
  · rintro σ' H9 ⟨x5, x6, S9, y, rfl, u9, so9, e9, T9, hh9, hd9⟩
    refine ⟨_, rfl, two, fun l hl => ?_⟩
    have sl9 := same_new hl (.lst [.str "a", .str "b"])
    refine ⟨_, rfl, 3, 155, _, S9, y, _, l, ["a", "b"], [A, B], c, rfl, hh9.same sl9, by decide, hn, upd_same, .cons ⟨ok_a, r2_a _ _⟩ (.cons ⟨ok_b, r2_b _ _⟩ .nil), by decide, hc, fun H10 S10 r' s10 so10 T10 => ?_⟩
    have s10x := sl9.trans s10
    have so10x := ((Sol.refl hh9.sH).same sl9).trans so10
    refine ⟨_, rfl, _, _, (T10.same so10.ok).dp, ((T9.same so10x.up).same so10.ok).dp, told_sh2 _ _, told_sh2 _ _, qdT (told_sh2 _ _) ?_⟩
    exact q H10 S10 y (u9.same s10x) (so9.trans so10x) e9 ⟨hh9.sol so10x s10x, hd9, hla, hlb⟩
  · refine ⟨_, rfl, _, _, rfl, rfl, _, rfl, ?_⟩
    by_cases cc : (A.length : Int) > 0
    case neg =>
      rw [decide_eq_false cc]
      exact iteF (key _ _ ⟨_, _, S8, y4, rfl, u8.le (by omega), so8, e4, T8, hh8.mono (by omega), by omega⟩)
    rw [decide_eq_true cc]
    refine iteT ?_
    refine ⟨_, rfl, _, rfl, _, _, rfl, rfl, _, _, rfl, ?_⟩
    obtain ⟨j, hj, hjl⟩ : ∃ j : Nat, (j : Int) = (if (A.length : Int) - 1 < k then (A.length : Int) - 1 else k) ∧ j < A.length := ⟨(if (A.length : Int) - 1 < k then (A.length : Int) - 1 else k).toNat, by split <;> omega, by split <;> omega⟩
    rw [← hj]
    refine ⟨_, rfl, y4.h, dx8, _, rfl, hob8, hno (by decide +kernel), _, rfl, 3, 155, _, S8, y4, _, "a", _, j, rfl, ok_a, hh8, by decide, by omega, r2_a _ _, hjl, fun H9 sb zb s9 hzb hjz => ?_⟩
    have su8 : S8 u = none := so8.no _ su hu.there
    have u9 := u8.same s9
    refine ⟨_, rfl, y4.h, dx8, _, rfl, s9 _ _ hob8, hno (by decide +kernel), _, rfl, _, rfl, u, m, 99, rfl, u9.le (by omega), by decide, by decide, fun H10 r10 x10 u10 p10 _ => ?_⟩
    refine ⟨two, fun tp htp => ?_⟩
    have hh10 := (hh8.same s9).exu u9 su8 x10
    have so10 := ExU.sol (so8.same s9) su8 x10 u10
    have so11 := so10.laid htp (.tup [.int r10, .non])
    have so11' := (Sol.refl hh10.sH).laid htp (.tup [.int r10, .non])
    have hh11 := hh10.sol so11' (same_new htp (.tup [.int r10, .non]))
    have u11 := u10.same (same_new htp (.tup [.int r10, .non]))
    have hz11 : SayAt (upd S8 tp (.tup [.int r10, .non])) tp (r10, none) := ⟨upd_same, p10, fun k z => nomatch z⟩
    generalize upd S8 tp (.tup [.int r10, .non]) = S11 at so11 so11' hh11 hz11
    refine ⟨3, 155, _, S11, y4, _, "a", _, j, tp, (r10, none), rfl, ok_a, hh11, by decide, r2_a _ _, hjl, hz11, by decide, by decide, by omega, by omega, by show 2 ≤ 99; decide, fun H12 S12 y5 d5 ro5 => ?_⟩
    rw [put_a, ← g3] at ro5
    have hh12 := HR.of d5 ro5 (r2_nd _ _)
    have u12 := hh11.hs.urn u11 d5.ex
    have so12 := so11.trans d5.sol
    have l5 := d5.len
    rw [← d5.h]
    obtain ⟨dx12, hob12⟩ := hh12.hs.ob
    have hL12 := set_len A (r10, none) hjl
    have hz12 := (hzb.same so11'.up).same d5.sol.up
    refine ⟨_, rfl, y5.h, dx12, _, rfl, hob12, hno (by decide +kernel), _, rfl, _, rfl, 3, 155, _, S12, y5, _, "a", _, j, sb, zb, rfl, ok_a, hh12, by decide, r2_a _ _, by omega, hz12, by decide, by decide, by omega, by omega, by show 2 ≤ 99; decide, fun H13 S13 y6 d6 ro6 => ?_⟩
    rw [put_a, set_back A (r10, none) zb hjl hjz, ← g4] at ro6
    have hh13 := HR.of d6 ro6 (r2_nd _ _)
    have l6 := d6.len
    rw [← d6.h]
    exact key _ _ ⟨_, _, S13, y6, rfl, hh12.hs.urn u12 d6.ex, so12.trans d6.sol, by rw [d6.h, d5.h, e4], ((T8.same so11'.up).same d5.sol.up).same d6.sol.up, hh13, by omega⟩
end
end Bo
set_option Elab.async false
set_option linter.all false
set_option maxRecDepth 100000
set_option maxHeartbeats 4000000
namespace Bo
open PySem L2 PySem.Spec PyProof.Rows

theorem getR_put {x : Str} {L : List Say} : ∀ (rs : Rs), getR (putR rs x L) x = some L
  | [] => if_pos rfl
  | (y, M) :: r => by
    unfold putR
    by_cases c : y = x
    · rw [if_pos c]; exact if_pos c
    · rw [if_neg c]; exact (if_neg c).trans (getR_put r)
theorem getR_put_ne {x z : Str} {L : List Say} (n : x ≠ z) : ∀ (rs : Rs), getR (putR rs x L) z = getR rs z
  | [] => if_neg n
  | (y, M) :: r => by
    unfold putR
    by_cases c : y = x
    · rw [if_pos c]
      have c2 : y ≠ z := fun e => n (c.symm.trans e)
      exact (if_neg c2).trans (if_neg c2).symm
    · rw [if_neg c]
      show (if y = z then _ else _) = (if y = z then _ else _)
      rw [getR_put_ne n r]
/-- a hall that is new -/
structure Neu (CS CO CH u : Addr) (m n t : Nat) (S0 H0 S H : Hp) (y : HallD) (rs : Rs) : Prop where
  hr : HR CS CO CH 3 155 n S H y rs
  so : Sol S0 H0 S H
  ex : ExU u H0 H
  un : UrnAt H u m
  fh : H0 y.h = none
  fd : H0 y.da = none
  fu : H0 y.ua = none
  dn : y.dn.length ≤ t
theorem Neu.same {CS CO CH u : Addr} {m n t : Nat} {S0 H0 S H H' : Hp} {y : HallD} {rs : Rs} (h : Neu CS CO CH u m n t S0 H0 S H y rs) (s : Same H H') : Neu CS CO CH u m n t S0 H0 S H' y rs :=
  ⟨h.hr.same s, h.so.same s, h.ex.trans (ExU.of s), h.un.same s, h.fh, h.fd, h.fu, h.dn⟩
theorem Neu.sol {CS CO CH u : Addr} {m n t : Nat} {S0 H0 S H S' H' : Hp} {y : HallD} {rs : Rs} (h : Neu CS CO CH u m n t S0 H0 S H y rs) (so : Sol S H S' H') (s : Same H H') : Neu CS CO CH u m n t S0 H0 S' H' y rs :=
  ⟨h.hr.sol so s, h.so.trans so, h.ex.trans (ExU.of s), h.un.same s, h.fh, h.fd, h.fu, h.dn⟩
theorem Neu.deed {CS CO CH u : Addr} {m n n' t : Nat} {S0 H0 S H S' H' : Hp} {y y' : HallD} {rs rs' : Rs} (h : Neu CS CO CH u m n t S0 H0 S H y rs) (d : Deed CH S H S' H' y y') (ro : RowsR (RowS CS CO 3 155 n' S') y'.ks rs') (nd : (rs'.map (·.1)).Nodup) :
    Neu CS CO CH u m n' (t + 1) S0 H0 S' H' y' rs' :=
  ⟨HR.of d ro nd, h.so.trans d.sol, fun b o hb ho => d.ex b o (ne_of_none ho h.fh) (ne_of_none ho h.fd) (ne_of_none ho h.fu) (h.ex b o hb ho), h.hr.hs.urn h.un d.ex, by rw [d.h]; exact h.fh, by rw [d.da]; exact h.fd, h.ex.free h.un d.ua, by rw [d.len]; exact Nat.succ_le_succ h.dn⟩
theorem Neu.lay {CS CO CH u : Addr} {m n t : Nat} {S0 H0 S H : Hp} {y : HallD} {rs : Rs} (N : Neu CS CO CH u m n t S0 H0 S H y rs) {p : Addr} (g : H p = none) (o : HO) : ∃ S', Neu CS CO CH u m n t S0 H0 S' (upd H p o) y rs ∧ Same S S' ∧ S' p = some o :=
  ⟨upd S p o, N.sol ((Sol.refl N.hr.sH).laid g o) (same_new g o), same_new (N.hr.sH.free g) o, upd_same⟩
theorem mk_hall {CS CO CH : Addr} {S H : Hp} {σ : L2.St} {Q : VK} (hS : Same S H) (q : ∀ (H' : Hp) (y : HallD), Same H H' → HR CS CO CH 3 155 155 S H' y [] → H y.h = none → H y.da = none → H y.ua = none → y.dn.length = 0 → Q (.ref y.h) H') : tMake CH (spHallI CS CO CH) [] E0 tNil σ H Q := by
  refine fun x dx hx hdx ne => ⟨x, dx, rfl, upd_same, fun H' rd da ua hk h1 h2 h3 h4 hne e1 e2 e3 => ⟨rfl, ?_⟩⟩
  have back : ∀ b, upd (upd H dx (.own x)) x (.ins CH dx []) b = none → H b = none := fun b hb => by
    cases q2 : H b with
    | none => rfl
    | some o =>
      rw [upd_ne (ne_of_none q2 hx), upd_ne (ne_of_none q2 hdx), q2] at hb
      exact nomatch hb
  have hs : Same H H' := fun b o hb => hk b o (ne_of_none hb hx) (by rw [upd_ne (ne_of_none hb hx), upd_ne (ne_of_none hb hdx)]; exact hb)
  exact q H' ⟨x, rd, da, ua, [], [], []⟩ hs ⟨hS.trans hs, ⟨⟨dx, h1⟩, h2, h3, h4, (fun v hv => nomatch hv), (fun v hv => nomatch hv), hne, hS.free hx, hS.free (back _ e2), hS.free (back _ e3)⟩, .nil, List.nodup_nil⟩ hx (back _ e2) (back _ e3) rfl
theorem seq_hall {CS CO CH : Addr} {S H : Hp} {σ : L2.St} {j : Nat} {u : TS} {D : Ends} (hS : Same S H) (q : ∀ (H' : Hp) (y : HallD), Same H H' → HR CS CO CH 3 155 155 S H' y [] → H y.h = none → H y.da = none → H y.ua = none → y.dn.length = 0 → u D (σ.set j (some (.ref y.h))) H') :
    tSeq (tAsg (tMake CH (spHallI CS CO CH) [] E0 tNil) (gName j)) u D σ H := by
  show tMake CH (spHallI CS CO CH) [] E0 tNil σ H (fun x H1 => gName j x σ H1 _)
  exact mk_hall hS fun H' y h1 h2 h3 h4 h5 h6 => q H' y h1 h2 h3 h4 h5 h6
def spEithR (CS CO CH : Addr) : Sp := fun vs H Q _ => ∃ (m : Nat) (S : Hp) (u ll la lb : Addr) (ea eb : List El) (c : Int), vs = [.ref u, .ref ll, .int c] ∧ UrnAt H u (m + 9) ∧ Same S H ∧ S u = none ∧ S ll = some (.lst [.ref la, .ref lb]) ∧ LongH 3 S la ea ∧ LongH 3 S lb eb ∧ wsum ea ≤ 155 ∧ wsum eb ≤ 155 ∧
  (flat ea).length ≤ 700000000000000000000000000000 ∧ (flat eb).length ≤ 700000000000000000000000000000 ∧ 0 ≤ c ∧ ∀ (H' : Hp), ExU u H H' → UrnAt H' u m → Q (.bl true) H'
section
variable {P : Program} {w : World} {K : PySem.W.Frag} {mg : Str → Option Value} {base : Heap} {CS CO CH : Addr}
abbrev sLeither_right : Stmt := top 68
theorem scLeither_right : FnScope ["_law_urn_here", "_law_longs", "_law_company_here", "_law_told_here", "_law_place", "_law_saying_here", "_law_turn", "_law_hall", "_law_name", "_law_long_here", "_law_step"] ["_law_urn_here", "_law_longs", "_law_company_here"] (defScope sLeither_right) := ⟨rfl, rfl, rfl, by decide +kernel, rfl, by decide +kernel, by decide +kernel⟩
theorem ok_leither_right (T : Txt K mg CS CO CH) (R : Raw K mg "_law_either_right" sLeither_right ["_law_urn_here", "_law_longs", "_law_company_here"]) (D_lball : Dn P w K mg base "_law_ball" 1 ["_law_urn_here", "_law_many"] spBall) (D_lsaying : Dn P w K mg base "_law_saying" 2 ["_law_urn_here", "_law_wide"] spSayg)
    (D_hpeople : DnM P w K mg base CH "people" 23 ["self", "name"] (spPeople CS CO CH)) (D_hturn_about : DnM P w K mg base CH "turn_about" 23 ["self", "name"] (spTurn CS CO CH)) (D_hstep_in : DnM P w K mg base CH "step_in" 23 ["self", "name", "place", "saying"] (spStepIn CS CO CH))
    (D_hbegin : DnM P w K mg base CH "begin" 23 ["self", "name", "long"] (spBegin CS CO CH)) (D_HallI : DnC P w K mg base "Hall" CH 1 ["self"] (spHallI CS CO CH))
    (D_ltold : Dn P w K mg base "_law_told" 24 ["_law_hall", "_law_names", "_law_company_here"] (spTold CS CO CH)) : Dn P w K mg base "_law_either_right" 26 ["_law_urn_here", "_law_longs", "_law_company_here"] (spEithR CS CO CH) := by
  refine R.ok scLeither_right (fun vs H Q E h => ?_) (fun f cdv A' outer s H vs Q E hr h => ?_)
  · obtain ⟨m, S, u, ll, la, lb, ea, eb, c, rfl, _⟩ := h; rfl
  obtain ⟨m, S, u, ll, la, lb, ea, eb, c, rfl, hu, hS, su, hll, hLa, hLb, wa, wb, na, nb, hc, q⟩ := h
  have two : (2 : Nat) ≤ sizeLine := by rw [sizeLine_eq]; decide
  have hmp : mp = 999999999999999999999999999999 := rfl
  have hlim := lim_eq
  refine ⟨_, (pss_cons (ps_set (i := 3) scLeither_right.nd rfl (Or.inl rfl) (pe_lst pa_nil))
  (pss_cons (ps_par (i := 4) (j := 5) rfl scLeither_right.nd rfl rfl (by decide) rfl rfl (pa_cons (pe_callD D_lball (hr.mono (by omega)) rfl (pa_cons (pv 0) (pa_cons (pe_op op_add pe_int (pe_callB call_len_seq rfl T.b_len boot_len (pa_cons (pe_ix ix_list (pv 1) pe_int (fun _ _ => rfl)) pa_nil))) pa_nil))) (pa_cons (pe_callD D_lsaying (hr.mono (by omega)) rfl (pa_cons (pv 0) (pa_cons pe_int pa_nil))) pa_nil)) (by rfl))
  (pss_cons (ps_for PassesOwn.never rfl (pi_range1 rfl T.b_range (pa_cons pe_int pa_nil)) (pg_name (i := 6) scLeither_right.nd rfl (Or.inl rfl))
  (pss_cons (ps_set (i := 7) scLeither_right.nd rfl (Or.inl rfl) (pe_mk0D D_HallI (hr.mono (by omega)) rfl))
  (pss_cons (ps_for PassesOwn.never rfl (pi_list (pe_ix ix_list (pe_lst (pa_cons (pe_lst (pa_cons (pe_tup (pa_cons pe_str (pa_cons (pe_ix ix_list (pv 1) pe_int (fun _ _ => rfl)) pa_nil))) (pa_cons (pe_tup (pa_cons pe_str (pa_cons (pe_ix ix_list (pv 1) pe_int (fun _ _ => rfl)) pa_nil))) pa_nil))) (pa_cons (pe_lst (pa_cons (pe_tup (pa_cons pe_str (pa_cons (pe_ix ix_list (pv 1) pe_int (fun _ _ => rfl)) pa_nil))) (pa_cons (pe_tup (pa_cons pe_str (pa_cons (pe_ix ix_list (pv 1) pe_int (fun _ _ => rfl)) pa_nil))) pa_nil))) pa_nil))) (pv 6) (fun _ _ => rfl))) (pg_tup rfl (pgs_cons (pg_name (i := 8) scLeither_right.nd rfl (Or.inl rfl)) (pgs_cons (pg_name (i := 9) scLeither_right.nd rfl (Or.inl rfl)) pgs_nil)))
  (pss_one (ps_expr (pe_methD (pv 7) T.cH D_hbegin (hr.mono (by omega)) (pa_cons (pv 8) (pa_cons (pv 9) pa_nil))))))
  (pss_cons (ps_for PassesOwn.never rfl (pi_list (pe_ix ix_list (pe_lst (pa_cons (pe_lst (pa_cons pe_int (pa_cons pe_int pa_nil))) (pa_cons (pe_lst (pa_cons pe_int (pa_cons pe_int pa_nil))) pa_nil))) (pv 6) (fun _ _ => rfl))) (pg_name (i := 10) scLeither_right.nd rfl (Or.inl rfl))
  (pss_one (ps_if (pt_cmpR op_eq (pv 10) pe_int (nomark _)) (pss_one (ps_expr (pe_methD (pv 7) T.cH D_hstep_in (hr.mono (by omega)) (pa_cons pe_str (pa_cons (pe_callB (call_min2 rfl) rfl T.b_min boot_min (pa_cons (pv 4) (pa_cons (pe_methD (pv 7) T.cH D_hpeople (hr.mono (by omega)) (pa_cons pe_str pa_nil)) pa_nil))) (pa_cons (pv 5) pa_nil)))))) (pss_one (ps_expr (pe_methD (pv 7) T.cH D_hturn_about (hr.mono (by omega)) (pa_cons pe_str pa_nil)))))))
  (pss_one (ps_expr (pe_bm PySem.F.plainAttrs_list PySem.F.slot_list_append PySem.F.type_list_append mt_append (pv 3) (pa_cons (pe_callD D_ltold (hr.mono (by omega)) rfl (pa_cons (pv 7) (pa_cons (pe_lst (pa_cons pe_str (pa_cons pe_str pa_nil))) (pa_cons (pv 2) pa_nil)))) pa_nil))))))))
  (pss_one (ps_ret (pe_cmpR (op_eqD hr.units) (pe_ix ix_list (pv 3) pe_int (fun _ _ => rfl)) (pe_ix ix_list (pv 3) pe_int (fun _ _ => rfl)) (nomark _))))))), ?_⟩
  refine ⟨Nat.zero_le _, fun th hth => ?_⟩
  have s0 := same_new hth (.lst [])
  have hth0 : upd H th (.lst []) th = some (.lst []) := upd_same
  have u0 := hu.same s0
  have x0 : ExU u H (upd H th (.lst [])) := ExU.of s0
  have so0 := (Sol.refl hS).new hth (.lst [])
  have sth : S th = none := hS.free hth
  have thu : th ≠ u := fun e => hu.there (e ▸ hth)
  generalize upd H th (.lst []) = H0 at hth0 u0 x0 so0
  have hll0 := so0.ok _ _ hll
  obtain ⟨va, hva, hpa⟩ := id hLa
  refine ⟨_, rfl, _, rfl, ll, _, _, _, rfl, rfl, SqL.of hll0, atI_nat (j := 0) rfl, la, va, rfl, .inl (SqL.of (so0.ok _ _ hva)), _, _, rfl, rfl, u, m + 8, _, rfl, u0, by omega, ?_, fun H1 k' x1 u1 k0 k1 => ?_⟩
  · have := ItemH.len hpa; omega
  obtain ⟨k, rfl⟩ : ∃ k : Nat, k' = k := ⟨k'.toNat, by omega⟩
  refine ⟨_, rfl, u, m, 9, rfl, u1, by decide, by decide, fun H2 sa z x2 u2 hz hz0 => ?_⟩
  have so1 := ExU.sol so0 su x1 u1
  have so2 := Sol.say so1 su x2 u2 hz hz0
  have sz2 : SayAt (upd S sa (.tup [.int z.1, SayV z.2])) sa z := ⟨upd_same, hz.2⟩
  have hth2 := x2 _ _ thu (x1 _ _ thu hth0)
  have x2' := (x0.trans x1).trans x2
  have sth2 : upd S sa (.tup [.int z.1, SayV z.2]) th = none := by rw [upd_ne (ne_of_none (x1 _ _ thu hth0) hz0)]; exact sth
  generalize upd S sa (.tup [.int z.1, SayV z.2]) = S2 at so2 sz2 sth2
  refine ⟨_, _, rfl, ?_⟩
  generalize hts : ([tv c ((flat ea).take (min k (flat ea).length) ++ [z] ++ (flat ea).drop (min k (flat ea).length)), tv c (flat eb).reverse] : List Tv) = ts
  dsimp only
  refine ⟨2, rfl, by decide, by decide, for_range (fun i σ H3 => ∃ (x6 x7 x8 x9 x10 : Option V) (S3 : Hp) (vs : List V), σ = [some (.ref u), some (.ref ll), some (.int c), some (.ref th), some (.int k), some (.ref sa), x6, x7, x8, x9, x10] ∧ ExU u H H3 ∧ UrnAt H3 u m ∧ Sol S H S3 H3 ∧ Same S2 S3 ∧ S3 th = none ∧ H3 th = some (.lst vs) ∧
    vs.length = i ∧ ∀ v ∈ vs, ∃ r, v = .ref r ∧ ToldAt S3 r ts) ⟨none, none, none, none, none, S2, [], rfl, x2', u2, so2, Same.refl _, sth2, hth2, rfl, fun v hv => nomatch hv⟩ ?_ ?_⟩
  · rintro i σ H3 hi ⟨x6, x7, x8, x9, x10, S3, vs, rfl, ex3, u3, so3, s23, sth3, hth3, hvl, hvs⟩
    have hmin : (if ((flat ea).length : Int) < (k : Int) then ((flat ea).length : Int) else (k : Int)) = ((min k (flat ea).length : Nat) : Int) := by split <;> omega
    dsimp only [gName]
    refine seq_hall so3.ok fun H4 y s4 hr4 f1 f2 f3 hd0 => ?_
    have N4 : Neu CS CO CH u m 155 0 S3 H3 S3 H4 y [] := ⟨hr4, (Sol.refl so3.ok).same s4, ExU.of s4, u3.same s4, f1, f2, f3, by omega⟩
    clear hr4 f1 f2 f3
    have hll4 := so3.up _ _ hll
    have hLa4 := hLa.same so3.up
    have hLb4 := hLb.same so3.up
    refine ⟨_, rfl, ll, _, _, _, rfl, rfl, SqL.of (N4.hr.sH _ _ hll4), atI_nat (j := 0) rfl, two, fun t1 g1 => ?_⟩
    obtain ⟨S5, N5, a5, e5⟩ := N4.lay g1 (.tup [.str "a", .ref la])
    refine ⟨_, rfl, ll, _, _, _, rfl, rfl, SqL.of (N5.hr.sH _ _ (a5 _ _ hll4)), atI_nat (j := 1) rfl, two, fun t2 g2 => ?_⟩
    obtain ⟨S6, N6, a6, e6⟩ := N5.lay g2 (.tup [.str "b", .ref lb])
    refine ⟨two, fun p0 g3 => ?_⟩
    obtain ⟨S7, N7, a7, e7⟩ := N6.lay g3 (.lst [.ref t1, .ref t2])
    have a57 := (a5.trans a6).trans a7
    refine ⟨_, rfl, ll, _, _, _, rfl, rfl, SqL.of (N7.hr.sH _ _ (a57 _ _ hll4)), atI_nat (j := 1) rfl, two, fun t3 g4 => ?_⟩
    obtain ⟨S8, N8, a8, e8⟩ := N7.lay g4 (.tup [.str "b", .ref lb])
    refine ⟨_, rfl, ll, _, _, _, rfl, rfl, SqL.of (N8.hr.sH _ _ (a8 _ _ (a57 _ _ hll4))), atI_nat (j := 0) rfl, two, fun t4 g5 => ?_⟩
    obtain ⟨S9, N9, a9, e9⟩ := N8.lay g5 (.tup [.str "a", .ref la])
    refine ⟨two, fun p1 g6 => ?_⟩
    obtain ⟨S10, N10, a10, e10⟩ := N9.lay g6 (.lst [.ref t3, .ref t4])
    refine ⟨two, fun pq g7 => ?_⟩
    obtain ⟨S11, N11, a11, e11⟩ := N10.lay g7 (.lst [.ref p0, .ref p1])
    have a9_11 := a10.trans a11
    have a8_11 := a9.trans a9_11
    have a7_11 := a8.trans a8_11
    have a6_11 := a7.trans a7_11
    have a5_11 := a6.trans a6_11
    have a4_11 := a5.trans a5_11
    refine ⟨_, rfl, ?_⟩
    obtain ⟨v, hv, px, t1', t2', nm1, nm2, l1, l2, e1', e2', rfl, b1, b2, b3, b4, b5, b6, b7, b8, b9, b10, b11, b12, b13, b14⟩ := ex_of e11 (r := 0 + (i : Int)) (by omega) (by show (0 : Int) + i < 2; omega) (p := fun v => ∃ (p t1 t2 : Addr) (nm1 nm2 : Str) (l1 l2 : Addr) (e1 e2 : List El), v = .ref p ∧ S11 p = some (.lst [.ref t1, .ref t2]) ∧ S11 t1 = some (.tup [.str nm1, .ref l1]) ∧ S11 t2 = some (.tup [.str nm2, .ref l2]) ∧
        nm1 ≠ nm2 ∧ OkName nm1 ∧ OkName nm2 ∧ LongH 3 S11 l1 e1 ∧ LongH 3 S11 l2 e2 ∧ wsum e1 ≤ 155 ∧ wsum e2 ≤ 155 ∧ (flat e1).length ≤ mp ∧ (flat e2).length ≤ mp ∧ getR [(nm1, flat e1), (nm2, flat e2)] "a" = some (flat ea) ∧ getR [(nm1, flat e1), (nm2, flat e2)] "b" = some (flat eb)) (by
      intro v hv
      simp only [List.mem_cons, List.not_mem_nil, or_false] at hv
      rcases hv with rfl | rfl
      · exact ⟨p0, t1, t2, "a", "b", la, lb, ea, eb, rfl, a7_11 _ _ e7, a5_11 _ _ e5, a6_11 _ _ e6, ne_ab, ok_a, ok_b, hLa4.same a4_11, hLb4.same a4_11, wa, wb, by omega, by omega, r2_a _ _, r2_b _ _⟩
      · exact ⟨p1, t3, t4, "b", "a", lb, la, eb, ea, rfl, a10.trans a11 |> fun s => a11 _ _ e10, a8_11 _ _ e8, a9_11 _ _ e9, ne_ab.symm, ok_b, ok_a, hLb4.same a4_11, hLa4.same a4_11, wb, wa, by omega, by omega, (if_neg ne_ab.symm).trans (if_pos rfl), if_pos rfl⟩)
    refine ⟨pq, _, _, _, rfl, rfl, SqL.of (N11.hr.sH _ _ e11), hv, ?_⟩
    clear e5 e6 e7 e8 e9 e10 e11 N10 N9 N8 N7 N6 N5 hv
    generalize upd _ pq (HO.lst [.ref p0, .ref p1]) = H11 at N11
    refine ⟨px, rfl, ⟨_, SqL.of (N11.hr.sH _ _ b1)⟩, for_list (K := K) (a := px) (xs := [.ref t1', .ref t2']) (fun j σ' H' => ∃ (x8 x9 : Option V) (S' : Hp) (y' : HallD), σ' = [some (.ref u), some (.ref ll), some (.int c), some (.ref th), some (.int k), some (.ref sa), some (.int (0 + i)), some (.ref y'.h), x8, x9, x10] ∧ Neu CS CO CH u m 155 j S3 H3 S' H' y' ([(nm1, flat e1'), (nm2, flat e2')].take j) ∧ Same S11 S')
      ⟨_, _, S11, y, rfl, N11, Same.refl _⟩ (fun j σ' H' _ ⟨_, _, S', y', _, N', a'⟩ => SqL.of (N'.hr.sH _ _ (a' _ _ b1))) ?_ ?_⟩
    · rintro j xv σ' H' hj ⟨x8', x9', S', y', rfl, N', a'⟩
      obtain ⟨dy, hob⟩ := N'.hr.hs.ob
      have hj2 : j < 2 := (List.getElem?_eq_some_iff.mp hj).1
      obtain ⟨tt, nm, l, e, rfl, ht, hnm, hle, hwe, hne, hg, hput, hrl⟩ : ∃ (tt : Addr) (nm : Str) (l : Addr) (e : List El), xv = .ref tt ∧ S11 tt = some (.tup [.str nm, .ref l]) ∧ OkName nm ∧ LongH 3 S11 l e ∧ wsum e ≤ 155 ∧ (flat e).length ≤ mp ∧ getR ([(nm1, flat e1'), (nm2, flat e2')].take j) nm = none ∧
          putR ([(nm1, flat e1'), (nm2, flat e2')].take j) nm (flat e) = [(nm1, flat e1'), (nm2, flat e2')].take (j + 1) ∧ ([(nm1, flat e1'), (nm2, flat e2')].take j).length ≤ 2 := by
        obtain rfl | rfl : j = 0 ∨ j = 1 := by omega
        · exact ⟨t1', nm1, l1, e1', (Option.some.inj hj).symm, b2, b5, b7, b9, b11, rfl, rfl, Nat.zero_le _⟩
        · exact ⟨t2', nm2, l2, e2', (Option.some.inj hj).symm, b3, b6, b8, b10, b12, if_neg b4, if_neg b4, by show 1 ≤ 2; decide⟩
      refine ⟨tt, _, rfl, SqT.of (N'.hr.sH _ _ (a' _ _ ht)), rfl, _, _, rfl, _, _, rfl, rfl, ?_⟩
      refine ⟨_, rfl, y'.h, dy, _, rfl, hob, hno (by decide +kernel), _, rfl, _, rfl, 3, 155, 155, S', y', _, nm, l, e, rfl, hnm, N'.hr, by decide, hg, hle.same a', by omega, hne, hwe, hwe, by omega, by have := N'.dn; omega, by omega, fun H2' S2' y2 d ro => ?_⟩
      rw [hput] at ro
      refine ⟨some (.str nm), some (.ref l), S2', y2, by rw [d.h]; rfl, N'.deed d ro ?_, a'.trans d.sol.up⟩
      rw [← hput]
      exact putR_nd N'.hr.nd
    · rintro σ' H12 ⟨x8', x9', S12, y2, rfl, N12, a12⟩
      refine ⟨two, fun q0 g8 => ?_⟩
      obtain ⟨S13, N13, a13, e13⟩ := N12.lay g8 (.lst [.int 0, .int 1])
      refine ⟨two, fun q1 g9 => ?_⟩
      obtain ⟨S14, N14, a14, e14⟩ := N13.lay g9 (.lst [.int 1, .int 0])
      refine ⟨two, fun q2 g10 => ?_⟩
      obtain ⟨S15, N15, a15, e15⟩ := N14.lay g10 (.lst [.ref q0, .ref q1])
      have a12_15 := (a13.trans a14).trans a15
      refine ⟨_, rfl, ?_⟩
      obtain ⟨v, hv, py, xs, fA, fB, rfl, c1, c2, c3, c4, c5, c6, c7⟩ := ex_of e15 (r := 0 + (i : Int)) (by omega) (by show (0 : Int) + i < 2; omega) (p := fun v => ∃ (p : Addr) (xs : List V) (fA fB : Nat → List Say), v = .ref p ∧ S15 p = some (.lst xs) ∧ xs.length = 2 ∧ fA 0 = flat ea ∧ fB 0 = flat eb ∧
          fA 2 = (flat ea).take (min k (flat ea).length) ++ [z] ++ (flat ea).drop (min k (flat ea).length) ∧ fB 2 = (flat eb).reverse ∧ ∀ (j : Nat) (x : V), xs[j]? = some x → (x = .int 0 ∧ fA j = flat ea ∧ fA (j + 1) = (flat ea).take (min k (flat ea).length) ++ [z] ++ (flat ea).drop (min k (flat ea).length) ∧ fB (j + 1) = fB j) ∨ (x = .int 1 ∧ fB j = flat eb ∧ fB (j + 1) = (flat eb).reverse ∧ fA (j + 1) = fA j)) (by
        intro v hv
        simp only [List.mem_cons, List.not_mem_nil, or_false] at hv
        generalize ((flat ea).take (min k (flat ea).length) ++ [z] ++ (flat ea).drop (min k (flat ea).length)) = A2
        rcases hv with rfl | rfl
        · refine ⟨q0, _, fun j => if j = 0 then flat ea else A2, fun j => if j = 2 then (flat eb).reverse else flat eb, rfl, a15 _ _ (a14 _ _ e13), rfl, rfl, rfl, rfl, rfl, fun j x hj => ?_⟩
          obtain rfl | rfl : j = 0 ∨ j = 1 := by have := (List.getElem?_eq_some_iff.mp hj).1; have : j < 2 := this; omega
          · exact .inl ⟨(Option.some.inj hj).symm, rfl, rfl, rfl⟩
          · exact .inr ⟨(Option.some.inj hj).symm, rfl, rfl, rfl⟩
        · refine ⟨q1, _, fun j => if j = 2 then A2 else flat ea, fun j => if j = 0 then flat eb else (flat eb).reverse, rfl, a15 _ _ e14, rfl, rfl, rfl, rfl, rfl, fun j x hj => ?_⟩
          obtain rfl | rfl : j = 0 ∨ j = 1 := by have := (List.getElem?_eq_some_iff.mp hj).1; have : j < 2 := this; omega
          · exact .inr ⟨(Option.some.inj hj).symm, rfl, rfl, rfl⟩
          · exact .inl ⟨(Option.some.inj hj).symm, rfl, rfl, rfl⟩)
      refine ⟨q2, _, _, _, rfl, rfl, SqL.of (N15.hr.sH _ _ e15), hv, ?_⟩
      clear e13 e14 e15 N13 N14 hv
      generalize upd _ q2 (HO.lst [.ref q0, .ref q1]) = H15 at N15
      have sz15 : SayAt S15 sa z := (((sz2.same s23).same a4_11).same a12).same a12_15
      refine ⟨py, rfl, ⟨_, SqL.of (N15.hr.sH _ _ c1)⟩, for_list (K := K) (a := py) (xs := xs) (fun j σ' H' => ∃ (x10 : Option V) (n' : Nat) (rs : Rs) (S' : Hp) (y' : HallD), σ' = [some (.ref u), some (.ref ll), some (.int c), some (.ref th), some (.int k), some (.ref sa), some (.int (0 + i)), some (.ref y'.h), x8', x9', x10] ∧ Neu CS CO CH u m n' (2 + j) S3 H3 S' H' y' rs ∧ Same S15 S' ∧
          getR rs "a" = some (fA j) ∧ getR rs "b" = some (fB j) ∧ rs.length ≤ 2 + j ∧ (j = 0 → n' ≤ 155) ∧ (j = 1 → n' ≤ 1241) ∧ n' ≤ 3413)
        ⟨_, 155, _, S15, y2, rfl, N15, Same.refl _, by rw [c3]; exact b13, by rw [c4]; exact b14, by show 2 ≤ 2; decide, (fun _ => Nat.le_refl _), (fun z => by omega), by decide⟩ (fun j σ' H' _ ⟨_, _, _, S', y', _, N', a', _⟩ => SqL.of (N'.hr.sH _ _ (a' _ _ c1))) ?_ ?_⟩
      · rintro j xv σ' H' hj ⟨x10', n', rs, S', y', rfl, N', a', hga, hgb, hrl, n0, n1, n2⟩
        obtain ⟨dy, hob⟩ := N'.hr.hs.ob
        have hj2 : j < 2 := by have := (List.getElem?_eq_some_iff.mp hj).1; omega
        have hdn := N'.dn
        rcases c7 j xv hj with ⟨rfl, h1, h2, h3⟩ | ⟨rfl, h1, h2, h3⟩
        · rw [h1] at hga
          refine ⟨_, rfl, rfl, true, by rw [decide_eq_true rfl], iteT ?_⟩
          refine ⟨_, rfl, y'.h, dy, _, rfl, hob, hno (by decide +kernel), _, rfl, _, rfl, y'.h, dy, _, rfl, hob, hno (by decide +kernel), 3, 155, n', S', y', rs, "a", _, rfl, ok_a, N'.hr, by omega, hga, fun H16 s16 => ?_⟩
          refine ⟨_, _, rfl, _, rfl, 3, 155, n', S', y', rs, "a", flat ea, min k (flat ea).length, sa, z, congrArg (fun v : Int => [V.ref y'.h, V.str "a", V.int v, V.ref sa]) hmin, ok_a, (N'.same s16).hr, by decide, hga, Nat.min_le_right _ _, sz15.same a', by omega, by decide, by decide, by omega, by omega, by omega, fun H17 S17 y3 d ro => ?_⟩
          refine ⟨some (.int 0), 2 * (n' + 3 * 155) + 1, putR rs "a" _, S17, y3, by rw [d.h]; rfl, (N'.same s16).deed d ro (putR_nd N'.hr.nd), a'.trans d.sol.up, by rw [getR_put, h2], by rw [getR_put_ne ne_ab, h3]; exact hgb, ?_, by omega, by omega, by omega⟩
          have := putR_len rs "a" ((flat ea).take (min k (flat ea).length) ++ [z] ++ (flat ea).drop (min k (flat ea).length))
          omega
        · rw [h1] at hgb
          refine ⟨_, rfl, rfl, false, by rw [decide_eq_false (fun z => nomatch z)], iteF ?_⟩
          refine ⟨_, rfl, y'.h, dy, _, rfl, hob, hno (by decide +kernel), 3, 155, n', S', y', rs, "b", _, rfl, ok_b, N'.hr, by decide, hgb, by omega, by omega, by omega, fun H17 S17 y3 d ro => ?_⟩
          refine ⟨some (.int 1), n', putR rs "b" _, S17, y3, by rw [d.h]; rfl, N'.deed d ro (putR_nd N'.hr.nd), a'.trans d.sol.up, by rw [getR_put_ne ne_ab.symm, h3]; exact hga, by rw [getR_put, h2], ?_, by omega, by omega, by omega⟩
          have := putR_len rs "b" (flat eb).reverse
          omega
      · rintro σ' H' ⟨x10', n', rs, S', y', rfl, N', a', hga, hgb, hrl, n0, n1, n2⟩
        rw [c2] at N' n0 n1 hga hgb
        rw [c5] at hga
        rw [c6] at hgb
        have hthk := N'.ex _ _ thu hth3
        refine ⟨_, rfl, .inl ⟨rfl, _, SqL.of hthk⟩, _, rfl, two, fun l18 g18 => ?_⟩
        have s18 := same_new g18 (.lst [.str "a", .str "b"])
        refine ⟨_, rfl, 3, 155, n', S', y', rs, l18, ["a", "b"], [_, _], c, rfl, (N'.same s18).hr, by decide, by omega, upd_same, .cons ⟨ok_a, hga⟩ (.cons ⟨ok_b, hgb⟩ .nil), by decide, hc, fun H19 S19 r s19 so19 T19 => ?_⟩
        have N19 := (N'.same s18).sol so19 s19
        have hth19 := s19 _ _ (s18 _ _ hthk)
        have sth19 : S19 th = none := N19.so.no _ sth3 (by rw [hth3]; exact fun z => nomatch z)
        refine ⟨th, vs, _, rfl, rfl, hth19, by rw [hvl, sizeLine_eq]; omega, ?_⟩
        refine ⟨_, _, _, _, _, S19, vs ++ [.ref r], rfl, fun b o hb ho => ?_, N19.un.wr thu.symm, (so3.trans N19.so).write sth19 _, s23.trans N19.so.up, sth19, upd_same, by rw [List.length_append, hvl]; rfl, fun v hv => ?_⟩
        · rw [upd_ne (ne_of_none ho hth)]
          exact N19.ex _ _ hb (ex3 _ _ hb ho)
        · rcases List.mem_append.mp hv with hv | hv
          · obtain ⟨r', e, T⟩ := hvs v hv
            exact ⟨r', e, T.same N19.so.up⟩
          · exact ⟨r, List.mem_singleton.mp hv, hts ▸ T19⟩
  · rintro σ H3 ⟨x6, x7, x8, x9, x10, S3, vs, rfl, ex3, u3, so3, s23, sth3, hth3, hvl, hvs⟩
    match vs, hvl with
    | [v1, v2], _ =>
      obtain ⟨r1, rfl, T1⟩ := hvs v1 (by simp)
      obtain ⟨r2', rfl, T2⟩ := hvs v2 (by simp)
      subst hts
      refine ⟨_, rfl, th, _, _, _, rfl, rfl, SqL.of hth3, atI_nat (j := 0) rfl, _, rfl, th, _, _, _, rfl, rfl, SqL.of hth3, atI_nat (j := 1) rfl, _, _, (T1.same so3.ok).dp, (T2.same so3.ok).dp, rfl, rfl, qdT (rfl) (q H3 ex3 u3)⟩
end
end Bo
set_option Elab.async false
set_option linter.all false
set_option maxRecDepth 100000
set_option maxHeartbeats 4000000
namespace Bo
open PySem L2 PySem.Spec PyProof.Rows

def spLaw (K : PySem.W.Frag) : Sp := fun vs H Q _ => ∃ (a : Addr) (ns : List Int), vs = [.ref a] ∧ SqL K H a (ns.map V.int) ∧ ∀ H', Q (.bl true) H'
section
variable {P : Program} {w : World} {K : PySem.W.Frag} {mg : Str → Option Value} {base : Heap} {CS CO CH : Addr}
abbrev sLaw : Stmt := top 69
theorem scLaw : FnScope ["_law_script", "_law_k", "_law_urn_here", "_law_longs", "_law_hall", "_law_turn", "_law_company_here"] ["_law_script"] (defScope sLaw) := ⟨rfl, rfl, rfl, by decide +kernel, rfl, by decide +kernel, by decide +kernel⟩
theorem ok_law {f : Addr} {fd : FuncData} (T : Txt K mg CS CO CH) (R : Fun K "law" "law" sLaw f fd) (D_lurn : Dn P w K mg base "_law_urn" 1 ["_law_script", "_law_k"] (spUrn K)) (D_lfar : Dn P w K mg base "_law_far" 7 ["_law_urn_here", "_law_most", "_law_deep"] spFar)
    (D_HallI : DnC P w K mg base "Hall" CH 1 ["self"] (spHallI CS CO CH)) (D_hbegin : DnM P w K mg base CH "begin" 23 ["self", "name", "long"] (spBegin CS CO CH))
    (D_lcompany : Dn P w K mg base "_law_company" 2 ["_law_urn_here", "_law_sayings_here"] spComp) (D_lsayings : Dn P w K mg base "_law_sayings" 5 ["_law_long_here"] (spLSay 3))
    (D_lcut_right : Dn P w K mg base "_law_cut_right" 26 ["_law_urn_here", "_law_hall", "_law_long_here", "_law_company_here"] (spCutR CS CO CH)) (D_lover_right : Dn P w K mg base "_law_over_right" 26 ["_law_urn_here", "_law_hall", "_law_company_here"] (spOverR CS CO CH))
    (D_lback_right : Dn P w K mg base "_law_back_right" 26 ["_law_urn_here", "_law_hall", "_law_company_here"] (spBackR CS CO CH)) (D_leither_right : Dn P w K mg base "_law_either_right" 26 ["_law_urn_here", "_law_longs", "_law_company_here"] (spEithR CS CO CH)) :
    FnOk P w K mg base CX0 27 f fd ["_law_script"] (spLaw K) := by
  refine R.ok scLaw (fun vs H Q E h => ?_) (fun cdv A' outer s H vs Q E hr h => ?_)
  · obtain ⟨a, ns, rfl, _⟩ := h; rfl
  obtain ⟨a, ns, rfl, hS, q⟩ := h
  have two : (2 : Nat) ≤ sizeLine := by rw [sizeLine_eq]; decide
  have hlim := lim_eq
  have hmp : mp = 999999999999999999999999999999 := rfl
  refine ⟨_, (pss_cons (ps_for PassesOwn.never rfl (pi_range1 rfl T.b_range (pa_cons (pe_callB (call_max2 rfl) rfl T.b_max boot_max (pa_cons pe_int (pa_cons (pe_callB (call_min2 rfl) rfl T.b_min boot_min (pa_cons pe_int (pa_cons (pe_callB call_len_seq rfl T.b_len boot_len (pa_cons (pv 0) pa_nil)) pa_nil))) pa_nil))) pa_nil)) (pg_name (i := 1) scLaw.nd rfl (Or.inl rfl))
  (pss_cons (ps_set (i := 2) scLaw.nd rfl (Or.inl rfl) (pe_callD D_lurn (hr.mono (by omega)) rfl (pa_cons (pv 0) (pa_cons (pv 1) pa_nil))))
  (pss_cons (ps_set (i := 3) scLaw.nd rfl (Or.inl rfl) (pe_lst (pa_cons (pe_callD D_lfar (hr.mono (by omega)) rfl (pa_cons (pv 2) (pa_cons pe_int (pa_cons pe_int pa_nil)))) (pa_cons (pe_callD D_lfar (hr.mono (by omega)) rfl (pa_cons (pv 2) (pa_cons pe_int (pa_cons pe_int pa_nil)))) pa_nil))))
  (pss_cons (ps_set (i := 4) scLaw.nd rfl (Or.inl rfl) (pe_mk0D D_HallI (hr.mono (by omega)) rfl))
  (pss_cons (ps_expr (pe_methD (pv 4) T.cH D_hbegin (hr.mono (by omega)) (pa_cons pe_str (pa_cons (pe_ix ix_list (pv 3) pe_int (fun _ _ => rfl)) pa_nil))))
  (pss_cons (ps_expr (pe_methD (pv 4) T.cH D_hbegin (hr.mono (by omega)) (pa_cons pe_str (pa_cons (pe_ix ix_list (pv 3) pe_int (fun _ _ => rfl)) pa_nil))))
  (pss_one (ps_for PassesOwn.never rfl (pi_range1 rfl T.b_range (pa_cons pe_int pa_nil)) (pg_name (i := 5) scLaw.nd rfl (Or.inl rfl))
  (pss_cons (ps_set (i := 6) scLaw.nd rfl (Or.inl rfl) (pe_callD D_lcompany (hr.mono (by omega)) rfl (pa_cons (pv 2) (pa_cons (pe_callD D_lsayings (hr.mono (by omega)) rfl (pa_cons (pe_op op_cat (pe_ix ix_list (pv 3) pe_int (fun _ _ => rfl)) (pe_ix ix_list (pv 3) pe_int (fun _ _ => rfl))) pa_nil)) pa_nil))))
  (pss_cons (ps_if (PW.pt (pw_or (pt_not (pt_val (pe_callD D_lcut_right (hr.mono (by omega)) rfl (pa_cons (pv 2) (pa_cons (pv 4) (pa_cons (pe_ix ix_list (pv 3) pe_int (fun _ _ => rfl)) (pa_cons (pv 6) pa_nil))))))) (pw_or1 (pt_not (pt_val (pe_callD D_lover_right (hr.mono (by omega)) rfl (pa_cons (pv 2) (pa_cons (pv 4) (pa_cons (pv 6) pa_nil))))))))) (pss_one (ps_ret pe_bl)) pss_nil)
  (pss_one (ps_if (PW.pt (pw_or (pt_not (pt_val (pe_callD D_lback_right (hr.mono (by omega)) rfl (pa_cons (pv 2) (pa_cons (pv 4) (pa_cons (pv 6) pa_nil)))))) (pw_or1 (pt_not (pt_val (pe_callD D_leither_right (hr.mono (by omega)) rfl (pa_cons (pv 2) (pa_cons (pv 3) (pa_cons (pv 6) pa_nil))))))))) (pss_one (ps_ret pe_bl)) pss_nil))))))))))))
  (pss_one (ps_ret pe_bl))), ?_⟩
  refine ⟨_, rfl, a, _, rfl, .inl hS, _, _, rfl, _, _, rfl, _, rfl, by split <;> split <;> omega, by split <;> split <;> omega, ?_⟩
  obtain ⟨N, hN, hN6⟩ : ∃ N : Nat, (if (if ((ns.map V.int).length : Int) < 6 then ((ns.map V.int).length : Int) else 6) > 1 then (if ((ns.map V.int).length : Int) < 6 then ((ns.map V.int).length : Int) else 6) else 1) = (N : Int) ∧ N ≤ 6 :=
    ⟨(if (if ((ns.map V.int).length : Int) < 6 then ((ns.map V.int).length : Int) else 6) > 1 then (if ((ns.map V.int).length : Int) < 6 then ((ns.map V.int).length : Int) else 6) else 1).toNat, by split <;> split <;> omega, by split <;> split <;> omega⟩
  rw [hN, Int.toNat_natCast]
  refine for_range (fun i σ H' => ∃ (x1 x2 x3 x4 x5 x6 : Option V), σ = [some (.ref a), x1, x2, x3, x4, x5, x6] ∧ Same H H') ⟨none, none, none, none, none, none, rfl, Same.refl _⟩ ?_ ?_
  · rintro i σ H0 hi ⟨x1, x2, x3, x4, x5, x6, rfl, s0⟩
    refine ⟨_, rfl, _, rfl, a, ns, 0 + i, rfl, s0.seq hS, by omega, by omega, fun H1 u s1 u0 hu1 => ?_⟩
    have so1 : Sol H0 H0 H0 H1 := (Sol.refl (Same.refl _)).same s1
    refine ⟨_, rfl, u, 998541, H0, rfl, so1.ok, u0, hu1, fun H2 S2 la ea x2' u2 so2' La wa na la0 => ?_⟩
    have so2 := so1.trans so2'
    have su2 : S2 u = none := so2'.no _ u0 hu1.there
    refine ⟨_, rfl, u, 997082, S2, rfl, so2.ok, su2, u2, fun H3 S3 lb eb x3' u3 so3' Lb wb nb lb0 => ?_⟩
    have so3 := so2.trans so3'
    have su3 : S3 u = none := so3'.no _ su2 u2.there
    refine ⟨two, fun ll gl => ?_⟩
    have so4' := (Sol.refl so3.ok).laid gl (.lst [.ref la, .ref lb])
    have so4 := so3.trans so4'
    have u4 := u3.same (same_new gl (.lst [.ref la, .ref lb]))
    have La4 := (La.same so3'.up).same so4'.up
    have Lb4 := Lb.same so4'.up
    have hll : upd S3 ll (.lst [.ref la, .ref lb]) ll = some (.lst [.ref la, .ref lb]) := upd_same
    have su4 : upd S3 ll (.lst [.ref la, .ref lb]) u = none := so4'.no _ su3 u3.there
    generalize upd S3 ll (.lst [.ref la, .ref lb]) = S4 at so4 so4' La4 Lb4 hll su4
    generalize upd H3 ll (.lst [.ref la, .ref lb]) = H4 at so4 so4' u4
    dsimp only [gName]
    refine seq_hall so4.ok fun H5 y s5 hr5 f1 f2 f3 hd5 => ?_
    have u5 := u4.same s5
    obtain ⟨dx5, hob5⟩ := hr5.hs.ob
    refine ⟨_, rfl, y.h, dx5, _, rfl, hob5, hno (by decide +kernel), _, rfl, ll, _, _, _, rfl, rfl, SqL.of (hr5.sH _ _ hll), atI_nat (j := 0) rfl, 3, 155, 155, S4, y, _, "a", la, ea, rfl, ok_a, hr5, by decide, rfl, La4, by omega, by omega, wa, wa, by omega, by omega, Nat.zero_le _, fun H6 S6 y6 d6 ro6 => ?_⟩
    have hh6 := HR.of d6 ro6 (rs := [("a", flat ea)]) (List.nodup_cons.mpr ⟨(fun z => nomatch z), List.nodup_nil⟩)
    have u6 := hr5.hs.urn u5 d6.ex
    have so6 := (so4.same s5).trans d6.sol
    have l6 := d6.len
    rw [← d6.h]
    obtain ⟨dx6, hob6⟩ := hh6.hs.ob
    refine ⟨_, rfl, y6.h, dx6, _, rfl, hob6, hno (by decide +kernel), _, rfl, ll, _, _, _, rfl, rfl, SqL.of (hh6.sH _ _ (d6.sol.up _ _ hll)), atI_nat (j := 1) rfl, 3, 155, 155, S6, y6, _, "b", lb, eb, rfl, ok_b, hh6, by decide, if_neg ne_ab, Lb4.same d6.sol.up, by omega, by omega, wb, wb, by omega, by omega, by show 1 ≤ 99; decide, fun H7 S7 y7 d7 ro7 => ?_⟩
    have e7 : putR [("a", flat ea)] "b" (flat eb) = r2 (flat ea) (flat eb) := if_neg ne_ab
    rw [e7] at ro7
    have hh7 := HR.of d7 ro7 (r2_nd _ _)
    have u7 := hh6.hs.urn u6 d7.ex
    have so7 := so6.trans d7.sol
    have l7 := d7.len
    have su7 : S7 u = none := d7.sol.no _ (d6.sol.no _ su4 u5.there) u6.there
    have a47 := d6.sol.up.trans d7.sol.up
    rw [← d7.h]
    refine ⟨2, rfl, by decide, by decide, for_range (fun j σ H' => ∃ (x5 x6 : Option V) (S' : Hp) (y' : HallD) (n' : Nat), σ = [some (.ref a), some (.int (0 + i)), some (.ref u), some (.ref ll), some (.ref y'.h), x5, x6] ∧ UrnAt H' u (27 * (2 - j)) ∧ Sol H0 H0 S' H' ∧ Same S4 S' ∧ S' u = none ∧ Two CS CO CH n' (2 + 8 * j) S' H' y' (flat ea) (flat eb) ∧
      (j = 0 → n' ≤ 155) ∧ (j = 1 → n' ≤ 33805)) ⟨_, _, S7, y7, 155, rfl, u7.le (by omega), so7, a47, su7, ⟨hh7, by omega, by omega, by omega⟩, (fun _ => Nat.le_refl _), (fun z => by omega)⟩ ?_ ?_⟩
    · rintro j σ H8 hj ⟨x5, x6, S8, y8, n8, rfl, u8, so8, a48, su8, T8, n80, n81⟩
      have hj2 : j = 0 ∨ j = 1 := by omega
      obtain ⟨M, hM⟩ : ∃ M, 27 * (2 - j) = M + 27 := ⟨27 * (1 - j), by omega⟩
      have hM2 : 27 * (2 - (j + 1)) = M := by omega
      rw [hM] at u8
      have hn8 : n8 ≤ 33805 := by omega
      have hll8 := T8.hr.sH _ _ (a48 _ _ hll)
      have La8 := La4.same a48
      have Lb8 := Lb4.same a48
      obtain ⟨va, hva, pva⟩ := id (La8.same T8.hr.sH)
      obtain ⟨vb, hvb, pvb⟩ := id (Lb8.same T8.hr.sH)
      have lva := ItemH.len pva
      have lvb := ItemH.len pvb
      refine ⟨_, rfl, _, rfl, ll, _, _, _, rfl, rfl, SqL.of hll8, atI_nat (j := 0) rfl, _, rfl, ll, _, _, _, rfl, rfl, SqL.of hll8, atI_nat (j := 1) rfl, la, lb, va, vb, rfl, rfl, hva, hvb, by rw [sizeLine_eq]; omega, fun p hp0 => ?_⟩
      have sp := same_new hp0 (.lst (va ++ vb))
      refine ⟨p, ea ++ eb, _, rfl, Same.refl _, ⟨_, upd_same, papp (Paired.mapP pva fun _ _ z => z.same sp) (Paired.mapP pvb fun _ _ z => z.same sp)⟩, by rw [wsum_append]; omega, fun H10 r us s10 hr0 hr1 hus hul => ?_⟩
      have s10x := sp.trans s10
      rw [wsum_append] at hul
      refine ⟨u, r, M + 22, us, rfl, u8.same s10x, hr1, fun v hv => ?_, by omega, fun H11 c x11 u11 c0 => ?_⟩
      · obtain ⟨sa, z, e, hz⟩ := hus v hv
        exact ⟨sa, z, e, hz.same s10⟩
      have T11 : Two CS CO CH n8 (2 + 8 * j) S8 H11 y8 (flat ea) (flat eb) := ⟨(T8.hr.same s10x).exu (u8.same s10x) su8 x11, T8.dn, T8.la, T8.lb⟩
      have so11 : Sol H0 H0 S8 H11 := ExU.sol (so8.same s10x) su8 x11 u11
      refine ⟨_, rfl, _, rfl, _, rfl, ll, _, _, _, rfl, rfl, SqL.of (T11.hr.sH _ _ (a48 _ _ hll)), atI_nat (j := 0) rfl, _, rfl, M + 21, n8, 2 + 8 * j, S8, y8, u, la, ea, flat eb, c, rfl, u11, su8, T11, La8, wa, c0, by omega, by omega, fun H12 S12 y12 u12 so12 e12 T12 => ⟨true, rfl, ?_⟩⟩
      have su12 := so12.no _ su8 u11.there
      refine iteF ?_
      rw [← e12]
      refine ⟨_, rfl, _, rfl, _, rfl, M + 19, _, _, S12, y12, u, flat ea, flat eb, c, rfl, u12, su12, T12, c0, by omega, by omega, fun H13 S13 y13 u13 so13 e13 T13 => ⟨true, rfl, ?_⟩⟩
      have su13 := so13.no _ su12 u12.there
      refine iteF ?_
      rw [← e13]
      refine ⟨_, rfl, _, rfl, _, rfl, M + 9, _, _, S13, y13, u, flat ea, flat eb, c, rfl, u13, su13, T13, c0, by unfold gg; omega, by omega, fun H14 S14 y14 u14 so14 e14 T14 => ⟨true, rfl, ?_⟩⟩
      have su14 := so14.no _ su13 u13.there
      refine iteF ?_
      rw [← e14]
      have a8_14 := (so12.up.trans so13.up).trans so14.up
      refine ⟨_, rfl, _, rfl, _, rfl, M, S14, u, ll, la, lb, ea, eb, c, rfl, u14, T14.hr.sH, su14, a8_14 _ _ (a48 _ _ hll), La8.same a8_14, Lb8.same a8_14, wa, wb, by omega, by omega, c0, fun H15 x15 u15 => ⟨true, rfl, ?_⟩⟩
      refine iteF ?_
      have T15 : Two CS CO CH (gg (gg (gg (gg (2 * (n8 + 465)))))) (2 + 8 * j + 2 + 6) S14 H15 y14 (flat ea) (flat eb) := ⟨T14.hr.exu u14 su14 x15, T14.dn, T14.la, T14.lb⟩
      refine ⟨_, _, S14, y14, _, rfl, u15.le (by omega), ExU.sol (((so11.trans so12).trans so13).trans so14) su14 x15 u15, a48.trans a8_14, su14, T15, fun z => by omega, fun z => ?_⟩
      have := n80 (by omega)
      unfold gg; omega
    · rintro σ H8 ⟨x5, x6, S8, y8, n8, rfl, u8, so8, a48, su8, T8, n80, n81⟩
      exact ⟨_, _, _, _, _, _, rfl, s0.trans (so8.up.trans so8.ok)⟩
  · rintro σ H0 ⟨x1, x2, x3, x4, x5, x6, rfl, s0⟩
    exact q H0
end
end Bo
set_option Elab.async false
set_option linter.all false
set_option maxRecDepth 100000
set_option maxHeartbeats 4000000
namespace Bo
open PySem L2 PySem.Spec PyProof.Rows

/-! ### all together -/
structure Raws (K : PySem.W.Frag) (mg : Str → Option Value) (CS CO CH : Addr) : Prop where
  R_is_number : Raw K mg "is_number" sIs_number ["thing"]
  R_is_saying : Raw K mg "is_saying" sIs_saying ["thing"]
  R_need_number : Raw K mg "need_number" sNeed_number ["thing"]
  R_need_saying : Raw K mg "need_saying" sNeed_saying ["thing"]
  R_need_place : Raw K mg "need_place" sNeed_place ["thing", "most"]
  R_SpotI : RawC K mg "Spot" CS "Spot.__init__" sSpotI ["self", "saying", "number"]
  R_laid_many : Raw K mg "laid_many" sLaid_many ["parts"]
  R_OverI : RawC K mg "Over" CO "Over.__init__" sOverI ["self", "times", "parts"]
  R_people_of : Raw K mg "people_of" sPeople_of ["thing"]
  R_people_said : Raw K mg "people_said" sPeople_said ["item"]
  R_is_long : Raw K mg "is_long" sIs_long ["thing"]
  R_need_long : Raw K mg "need_long" sNeed_long ["thing"]
  R_planted : Raw K mg "planted" sPlanted ["long", "first"]
  R_tail : Raw K mg "tail" sTail ["parts", "place"]
  R_head : Raw K mg "head" sHead ["parts", "place"]
  R_slim : Raw K mg "slim" sSlim ["parts"]
  R_about : Raw K mg "about" sAbout ["parts"]
  R_over_and_over : Raw K mg "over_and_over" sOver_and_over ["parts", "times"]
  R_through : Raw K mg "through" sThrough ["parts", "number"]
  R_through_over : Raw K mg "through_over" sThrough_over ["part", "number"]
  R_wished : Raw K mg "wished" sWished ["parts", "wish"]
  R_wished_over : Raw K mg "wished_over" sWished_over ["part", "wish"]
  R_far_total : Raw K mg "far_total" sFar_total ["long", "company"]
  R_parts_of : Raw K mg "parts_of" sParts_of ["long"]
  R_spot_at : Raw K mg "spot_at" sSpot_at ["parts", "place"]
  R_total_of : Raw K mg "total_of" sTotal_of ["parts", "number"]
  R_lesser_slack : Raw K mg "lesser_slack" sLesser_slack ["one", "other"]
  R_word_of : Raw K mg "word_of" sWord_of ["saying", "number"]
  R_add_counts : Raw K mg "add_counts" sAdd_counts ["counts", "more", "times"]
  R_is_name : Raw K mg "is_name" sIs_name ["thing"]
  R_need_name : Raw K mg "need_name" sNeed_name ["thing"]
  R_need_few : Raw K mg "need_few" sNeed_few ["many"]
  R_HallI : RawC K mg "Hall" CH "Hall.__init__" sHallI ["self"]
  R_hparts : RawM K CH "s10_parts" "Hall.s10_parts" sHparts ["self", "name"]
  R_hfree : RawM K CH "s10_free" "Hall.s10_free" sHfree ["self", "name"]
  R_hkeep : RawM K CH "s10_keep" "Hall.s10_keep" sHkeep ["self", "deed", "rows"]
  R_hbegin : RawM K CH "begin" "Hall.begin" sHbegin ["self", "name", "long"]
  R_hstep_in : RawM K CH "step_in" "Hall.step_in" sHstep_in ["self", "name", "place", "saying"]
  R_hresay : RawM K CH "resay" "Hall.resay" sHresay ["self", "name", "place", "saying"]
  R_hgo : RawM K CH "go" "Hall.go" sHgo ["self", "name", "place"]
  R_hcut : RawM K CH "cut" "Hall.cut" sHcut ["self", "name", "place", "other"]
  R_hjoin_to : RawM K CH "join_to" "Hall.join_to" sHjoin_to ["self", "name", "other"]
  R_hsay_over : RawM K CH "say_over" "Hall.say_over" sHsay_over ["self", "name", "many"]
  R_hturn_about : RawM K CH "turn_about" "Hall.turn_about" sHturn_about ["self", "name"]
  R_hundo : RawM K CH "undo" "Hall.undo" sHundo ["self"]
  R_hnames : RawM K CH "names" "Hall.names" sHnames ["self"]
  R_hpeople : RawM K CH "people" "Hall.people" sHpeople ["self", "name"]
  R_htotal : RawM K CH "total" "Hall.total" sHtotal ["self", "name", "company"]
  R_hleast : RawM K CH "least" "Hall.least" sHleast ["self", "name", "total"]
  R_hsaying : RawM K CH "saying" "Hall.saying" sHsaying ["self", "name", "place"]
  R_htogether : RawM K CH "together" "Hall.together" sHtogether ["self", "names", "company"]
  R_lurn : Raw K mg "_law_urn" sLurn ["_law_script", "_law_k"]
  R_lball : Raw K mg "_law_ball" sLball ["_law_urn_here", "_law_many"]
  R_lsaying : Raw K mg "_law_saying" sLsaying ["_law_urn_here", "_law_wide"]
  R_lpeople : Raw K mg "_law_people" sLpeople ["_law_long_here"]
  R_lsayings : Raw K mg "_law_sayings" sLsayings ["_law_long_here"]
  R_llong : Raw K mg "_law_long" sLlong ["_law_urn_here", "_law_plan", "_law_deep", "_law_room"]
  R_lcompany : Raw K mg "_law_company" sLcompany ["_law_urn_here", "_law_sayings_here"]
  R_lfar : Raw K mg "_law_far" sLfar ["_law_urn_here", "_law_most", "_law_deep"]
  R_ltold : Raw K mg "_law_told" sLtold ["_law_hall", "_law_names", "_law_company_here"]
  R_lcut_right : Raw K mg "_law_cut_right" sLcut_right ["_law_urn_here", "_law_hall", "_law_long_here", "_law_company_here"]
  R_lover_right : Raw K mg "_law_over_right" sLover_right ["_law_urn_here", "_law_hall", "_law_company_here"]
  R_lback_right : Raw K mg "_law_back_right" sLback_right ["_law_urn_here", "_law_hall", "_law_company_here"]
  R_leither_right : Raw K mg "_law_either_right" sLeither_right ["_law_urn_here", "_law_longs", "_law_company_here"]
theorem all_defs {P : Program} {w : World} {K : PySem.W.Frag} {mg : Str → Option Value} {base : Heap} {CS CO CH : Addr} (T : Txt K mg CS CO CH) {f : Addr} {fd : FuncData} (R : Raws K mg CS CO CH) (R_law : Fun K "law" "law" sLaw f fd) : FnOk P w K mg base CX0 27 f fd ["_law_script"] (spLaw K) := by
  obtain ⟨R_is_number, R_is_saying, R_need_number, R_need_saying, R_need_place, R_SpotI, R_laid_many, R_OverI, R_people_of, R_people_said, R_is_long, R_need_long, R_planted, R_tail, R_head, R_slim, R_about, R_over_and_over, R_through, R_through_over, R_wished, R_wished_over, R_far_total, R_parts_of, R_spot_at, R_total_of, R_lesser_slack, R_word_of, R_add_counts, R_is_name, R_need_name, R_need_few, R_HallI, R_hparts, R_hfree, R_hkeep, R_hbegin, R_hstep_in, R_hresay, R_hgo, R_hcut, R_hjoin_to, R_hsay_over, R_hturn_about, R_hundo, R_hnames, R_hpeople, R_htotal, R_hleast, R_hsaying, R_htogether, R_lurn, R_lball, R_lsaying, R_lpeople, R_lsayings, R_llong, R_lcompany, R_lfar, R_ltold, R_lcut_right, R_lover_right, R_lback_right, R_leither_right⟩ := R
  have D_is_number := ok_is_number (P := P) (w := w) (base := base) T R_is_number
  have D_is_saying := ok_is_saying (P := P) (w := w) (base := base) T R_is_saying D_is_number
  have D_need_number := ok_need_number (P := P) (w := w) (base := base) R_need_number D_is_number
  have D_need_saying := ok_need_saying (P := P) (w := w) (base := base) R_need_saying D_is_saying
  have D_need_place := ok_need_place (P := P) (w := w) (base := base) R_need_place D_is_number
  have D_Spot := ok_SpotI (P := P) (w := w) (base := base) T R_SpotI
  have D_laid_many := ok_laid_many (P := P) (w := w) (base := base) T R_laid_many
  have D_Over := ok_OverI (P := P) (w := w) (base := base) T R_OverI D_laid_many
  have F_planted := all_planted (P := P) (w := w) (base := base) R_planted D_is_saying D_Spot D_Over
  have F_need_long := fun d => ok_need_long (d := d) R_need_long (ok_is_long T R_is_long (all_people_of T R_people_of R_people_said D_is_number D_is_saying d))
  have F_parts_of := fun d => ok_parts_of (d := d) R_parts_of (F_need_long d) (F_planted d)
  have A_parts_of := fun d (hd : d ≤ 8) => (F_parts_of d).mono (show 2 * d + 6 ≤ 22 by omega)
  have A_tail := fun d (hd : d ≤ 8) => (all_tail T R_tail D_Over d).mono (show d + 4 ≤ 12 by omega)
  have A_head := fun d (hd : d ≤ 8) => (all_head T R_head D_Over d).mono (show d + 4 ≤ 12 by omega)
  have A_spot_at := fun d (hd : d ≤ 8) => (all_spot_at (P := P) (w := w) (base := base) T R_spot_at d).mono (show d + 1 ≤ 9 by omega)
  have A_slim := fun d (hd : d ≤ 8) => (all_slim (P := P) (w := w) (base := base) T R_slim d).mono (show d + 1 ≤ 9 by omega)
  have A_about := fun d (hd : d ≤ 8) => (all_about T R_about D_Over d).mono (show d + 4 ≤ 12 by omega)
  have A_over_and_over := fun d (hd : d ≤ 7) => (ok_over_and_over (d := d) T R_over_and_over D_Over (all_slim T R_slim (d + 1))).mono (show d + 5 ≤ 12 by omega)
  have D_lesser_slack := ok_lesser_slack (P := P) (w := w) (base := base) T R_lesser_slack
  have D_word_of := ok_word_of (P := P) (w := w) (base := base) T R_word_of
  have D_add_counts := ok_add_counts (P := P) (w := w) (base := base) T R_add_counts
  have F_total_of := fun d (hd : d ≤ 8) => ok_total_of (d := d) R_total_of (all_through T R_through R_through_over D_lesser_slack D_add_counts D_word_of d hd)
  have A_total_of := fun d (hd : d ≤ 8) => (F_total_of d hd).mono (show 2 * d + 5 ≤ 21 by omega)
  have A_wished := fun d (hd : d ≤ 8) => (all_wished T R_wished R_wished_over D_lesser_slack d).mono (show 2 * d + 4 ≤ 20 by omega)
  have D_far_total := ok_far_total (P := P) (w := w) (base := base) (d := 3) R_far_total (F_parts_of 3) D_need_number (F_total_of 3 (by decide))
  have D_is_name := ok_is_name (P := P) (w := w) (base := base) T R_is_name
  have D_need_name := ok_need_name (P := P) (w := w) (base := base) R_need_name D_is_name
  have D_need_few := ok_need_few (P := P) (w := w) (base := base) T R_need_few
  have D_HallI := ok_HallI (P := P) (w := w) (base := base) T R_HallI
  have D_hparts := ok_hparts (P := P) (w := w) (base := base) T R_hparts D_need_name
  have D_hfree := ok_hfree (P := P) (w := w) (base := base) T R_hfree D_need_name
  have D_hkeep := ok_hkeep (P := P) (w := w) (base := base) T R_hkeep A_slim
  have D_hbegin := ok_hbegin (P := P) (w := w) (base := base) T R_hbegin D_hfree D_hkeep A_parts_of
  have D_hstep_in := ok_hstep_in (P := P) (w := w) (base := base) T R_hstep_in D_hparts D_hkeep D_need_place D_need_saying D_need_few D_laid_many D_Spot A_head A_tail
  have D_hresay := ok_hresay (P := P) (w := w) (base := base) T R_hresay D_hparts D_hkeep D_need_place D_need_saying D_laid_many D_Spot A_head A_tail
  have D_hgo := ok_hgo (P := P) (w := w) (base := base) T R_hgo D_hparts D_hkeep D_need_place D_laid_many A_head A_tail
  have D_hcut := ok_hcut (P := P) (w := w) (base := base) T R_hcut D_hparts D_hfree D_hkeep D_need_place D_laid_many A_head A_tail
  have D_hjoin_to := ok_hjoin_to (P := P) (w := w) (base := base) T R_hjoin_to D_hparts D_hkeep D_need_few D_laid_many
  have D_hsay_over := ok_hsay_over (P := P) (w := w) (base := base) T R_hsay_over D_hparts D_hkeep D_need_number D_need_few D_laid_many A_over_and_over
  have D_hturn_about := ok_hturn_about (P := P) (w := w) (base := base) T R_hturn_about D_hparts D_hkeep A_about
  have D_hundo := ok_hundo (P := P) (w := w) (base := base) T R_hundo
  have D_hnames := ok_hnames (P := P) (w := w) (base := base) T R_hnames
  have D_hpeople := ok_hpeople (P := P) (w := w) (base := base) T R_hpeople D_hparts D_laid_many
  have D_htotal := ok_htotal (P := P) (w := w) (base := base) T R_htotal D_hparts D_need_number A_total_of
  have D_hleast := ok_hleast (P := P) (w := w) (base := base) T R_hleast D_hparts D_need_number A_wished
  have D_hsaying := ok_hsaying (P := P) (w := w) (base := base) T R_hsaying D_hparts D_need_place D_laid_many A_spot_at
  have D_htogether := ok_htogether (P := P) (w := w) (base := base) T R_htogether D_hparts D_need_number A_total_of
  have D_lurn := ok_lurn (P := P) (w := w) (base := base) T R_lurn
  have D_lball := ok_lball (P := P) (w := w) (base := base) R_lball
  have D_lsaying := ok_lsaying (P := P) (w := w) (base := base) R_lsaying D_lball
  have D_lsayings := all_lsayings (P := P) (w := w) (base := base) R_lsayings 3
  have D_lcompany := ok_lcompany (P := P) (w := w) (base := base) T R_lcompany D_lball
  have D_llong := all_llong T R_llong D_lball D_lsaying (all_lpeople R_lpeople)
  have D_lfar := ok_lfar (P := P) (w := w) (base := base) R_lfar D_lball D_llong
  have D_ltold := ok_ltold (P := P) (w := w) (base := base) T R_ltold D_hpeople D_htotal D_hleast
  have D_lcut_right := ok_lcut_right (P := P) (w := w) (base := base) T R_lcut_right D_lball D_hpeople D_htotal D_htogether D_hcut D_hjoin_to D_hnames D_ltold D_far_total
  have D_lover_right := ok_lover_right (P := P) (w := w) (base := base) T R_lover_right D_lball D_hpeople D_htotal D_htogether D_hsay_over D_hundo D_ltold
  have D_lback_right := ok_lback_right (P := P) (w := w) (base := base) T R_lback_right D_lball D_lsaying D_hpeople D_hturn_about D_hstep_in D_hgo D_hsaying D_hresay D_ltold
  have D_leither_right := ok_leither_right (P := P) (w := w) (base := base) T R_leither_right D_lball D_lsaying D_hpeople D_hturn_about D_hstep_in D_hbegin D_HallI D_ltold
  exact ok_law T R_law D_lurn D_lfar D_HallI D_hbegin D_lcompany D_lsayings D_lcut_right D_lover_right D_lback_right D_leither_right
end Bo
set_option Elab.async false
set_option linter.all false
set_option maxRecDepth 100000
set_option maxHeartbeats 4000000
namespace Bo
open PySem L2 PySem.Spec PyProof.Rows

/-! ### what the top has written -/
theorem mk_R_is_number {K : PySem.W.Frag} {h : Heap} {mg : Str → Option Value} {f : Addr} {oc : Value} {od an : Option Addr} {osl : Array (Option Value)} {kV doc pm cdv ct : Value} (X : K.In h) (G : h.Ns mainGlobals mg) (a : PySem.W.nsIn K mainGlobals "is_number" = some (some (.ref f))) (l : K.lookup f = some ⟨oc, od, .func (PySem.W.fnOf "is_number" "is_number" (defArgs sIs_number) (defBody sIs_number) (defScope sIs_number) .none kV doc pm an cdv ct), osl⟩) (c : PySem.W.codeIn K cdv "is_number" = true) (k : PySem.W.keepIn K (.ref f) = true) : Raw K mg "is_number" sIs_number ["thing"] :=
  ⟨f, _, PySem.W.mg_of X G a, fun_mk (st := sIs_number) l c k, (fun_mk (st := sIs_number) l c k).binds (ps := ["thing"]) (fun _ _ _ _ _ _ us hl => match us, hl with | [_], _ => rfl)⟩
theorem mk_R_is_saying {K : PySem.W.Frag} {h : Heap} {mg : Str → Option Value} {f : Addr} {oc : Value} {od an : Option Addr} {osl : Array (Option Value)} {kV doc pm cdv ct : Value} (X : K.In h) (G : h.Ns mainGlobals mg) (a : PySem.W.nsIn K mainGlobals "is_saying" = some (some (.ref f))) (l : K.lookup f = some ⟨oc, od, .func (PySem.W.fnOf "is_saying" "is_saying" (defArgs sIs_saying) (defBody sIs_saying) (defScope sIs_saying) .none kV doc pm an cdv ct), osl⟩) (c : PySem.W.codeIn K cdv "is_saying" = true) (k : PySem.W.keepIn K (.ref f) = true) : Raw K mg "is_saying" sIs_saying ["thing"] :=
  ⟨f, _, PySem.W.mg_of X G a, fun_mk (st := sIs_saying) l c k, (fun_mk (st := sIs_saying) l c k).binds (ps := ["thing"]) (fun _ _ _ _ _ _ us hl => match us, hl with | [_], _ => rfl)⟩
theorem mk_R_need_number {K : PySem.W.Frag} {h : Heap} {mg : Str → Option Value} {f : Addr} {oc : Value} {od an : Option Addr} {osl : Array (Option Value)} {kV doc pm cdv ct : Value} (X : K.In h) (G : h.Ns mainGlobals mg) (a : PySem.W.nsIn K mainGlobals "need_number" = some (some (.ref f))) (l : K.lookup f = some ⟨oc, od, .func (PySem.W.fnOf "need_number" "need_number" (defArgs sNeed_number) (defBody sNeed_number) (defScope sNeed_number) .none kV doc pm an cdv ct), osl⟩) (c : PySem.W.codeIn K cdv "need_number" = true) (k : PySem.W.keepIn K (.ref f) = true) : Raw K mg "need_number" sNeed_number ["thing"] :=
  ⟨f, _, PySem.W.mg_of X G a, fun_mk (st := sNeed_number) l c k, (fun_mk (st := sNeed_number) l c k).binds (ps := ["thing"]) (fun _ _ _ _ _ _ us hl => match us, hl with | [_], _ => rfl)⟩
theorem mk_R_need_saying {K : PySem.W.Frag} {h : Heap} {mg : Str → Option Value} {f : Addr} {oc : Value} {od an : Option Addr} {osl : Array (Option Value)} {kV doc pm cdv ct : Value} (X : K.In h) (G : h.Ns mainGlobals mg) (a : PySem.W.nsIn K mainGlobals "need_saying" = some (some (.ref f))) (l : K.lookup f = some ⟨oc, od, .func (PySem.W.fnOf "need_saying" "need_saying" (defArgs sNeed_saying) (defBody sNeed_saying) (defScope sNeed_saying) .none kV doc pm an cdv ct), osl⟩) (c : PySem.W.codeIn K cdv "need_saying" = true) (k : PySem.W.keepIn K (.ref f) = true) : Raw K mg "need_saying" sNeed_saying ["thing"] :=
  ⟨f, _, PySem.W.mg_of X G a, fun_mk (st := sNeed_saying) l c k, (fun_mk (st := sNeed_saying) l c k).binds (ps := ["thing"]) (fun _ _ _ _ _ _ us hl => match us, hl with | [_], _ => rfl)⟩
theorem mk_R_need_place {K : PySem.W.Frag} {h : Heap} {mg : Str → Option Value} {f : Addr} {oc : Value} {od an : Option Addr} {osl : Array (Option Value)} {kV doc pm cdv ct : Value} (X : K.In h) (G : h.Ns mainGlobals mg) (a : PySem.W.nsIn K mainGlobals "need_place" = some (some (.ref f))) (l : K.lookup f = some ⟨oc, od, .func (PySem.W.fnOf "need_place" "need_place" (defArgs sNeed_place) (defBody sNeed_place) (defScope sNeed_place) .none kV doc pm an cdv ct), osl⟩) (c : PySem.W.codeIn K cdv "need_place" = true) (k : PySem.W.keepIn K (.ref f) = true) : Raw K mg "need_place" sNeed_place ["thing", "most"] :=
  ⟨f, _, PySem.W.mg_of X G a, fun_mk (st := sNeed_place) l c k, (fun_mk (st := sNeed_place) l c k).binds (ps := ["thing", "most"]) (fun _ _ _ _ _ _ us hl => match us, hl with | [_, _], _ => rfl)⟩
theorem mk_R_SpotI {K : PySem.W.Frag} {mg : Str → Option Value} {CS f : Addr} {oc : Value} {od an : Option Addr} {osl : Array (Option Value)} {kV doc pm cdv ct : Value} (g : mg "Spot" = some (.ref CS)) (m : PySem.W.makesIn K CS = true) (a : PySem.W.findIn K (.ref CS) "__init__" = some (some (.ref f))) (i : PySem.W.isFn K (.ref f) = true) (j : PySem.W.keepIn K (.ref CS) = true) (l : K.lookup f = some ⟨oc, od, .func (PySem.W.fnOf "__init__" "Spot.__init__" (defArgs sSpotI) (defBody sSpotI) (defScope sSpotI) .none kV doc pm an cdv ct), osl⟩) (c : PySem.W.codeIn K cdv "Spot.__init__" = true) (k : PySem.W.keepIn K (.ref f) = true) : RawC K mg "Spot" CS "Spot.__init__" sSpotI ["self", "saying", "number"] :=
  ⟨f, _, g, ⟨m, a, i, j⟩, fun_mk (st := sSpotI) l c k, (fun_mk (st := sSpotI) l c k).binds (ps := ["self", "saying", "number"]) (fun _ _ _ _ _ _ us hl => match us, hl with | [_, _, _], _ => rfl)⟩
theorem mk_R_laid_many {K : PySem.W.Frag} {h : Heap} {mg : Str → Option Value} {f : Addr} {oc : Value} {od an : Option Addr} {osl : Array (Option Value)} {kV doc pm cdv ct : Value} (X : K.In h) (G : h.Ns mainGlobals mg) (a : PySem.W.nsIn K mainGlobals "laid_many" = some (some (.ref f))) (l : K.lookup f = some ⟨oc, od, .func (PySem.W.fnOf "laid_many" "laid_many" (defArgs sLaid_many) (defBody sLaid_many) (defScope sLaid_many) .none kV doc pm an cdv ct), osl⟩) (c : PySem.W.codeIn K cdv "laid_many" = true) (k : PySem.W.keepIn K (.ref f) = true) : Raw K mg "laid_many" sLaid_many ["parts"] :=
  ⟨f, _, PySem.W.mg_of X G a, fun_mk (st := sLaid_many) l c k, (fun_mk (st := sLaid_many) l c k).binds (ps := ["parts"]) (fun _ _ _ _ _ _ us hl => match us, hl with | [_], _ => rfl)⟩
theorem mk_R_OverI {K : PySem.W.Frag} {mg : Str → Option Value} {CO f : Addr} {oc : Value} {od an : Option Addr} {osl : Array (Option Value)} {kV doc pm cdv ct : Value} (g : mg "Over" = some (.ref CO)) (m : PySem.W.makesIn K CO = true) (a : PySem.W.findIn K (.ref CO) "__init__" = some (some (.ref f))) (i : PySem.W.isFn K (.ref f) = true) (j : PySem.W.keepIn K (.ref CO) = true) (l : K.lookup f = some ⟨oc, od, .func (PySem.W.fnOf "__init__" "Over.__init__" (defArgs sOverI) (defBody sOverI) (defScope sOverI) .none kV doc pm an cdv ct), osl⟩) (c : PySem.W.codeIn K cdv "Over.__init__" = true) (k : PySem.W.keepIn K (.ref f) = true) : RawC K mg "Over" CO "Over.__init__" sOverI ["self", "times", "parts"] :=
  ⟨f, _, g, ⟨m, a, i, j⟩, fun_mk (st := sOverI) l c k, (fun_mk (st := sOverI) l c k).binds (ps := ["self", "times", "parts"]) (fun _ _ _ _ _ _ us hl => match us, hl with | [_, _, _], _ => rfl)⟩
theorem mk_R_people_of {K : PySem.W.Frag} {h : Heap} {mg : Str → Option Value} {f : Addr} {oc : Value} {od an : Option Addr} {osl : Array (Option Value)} {kV doc pm cdv ct : Value} (X : K.In h) (G : h.Ns mainGlobals mg) (a : PySem.W.nsIn K mainGlobals "people_of" = some (some (.ref f))) (l : K.lookup f = some ⟨oc, od, .func (PySem.W.fnOf "people_of" "people_of" (defArgs sPeople_of) (defBody sPeople_of) (defScope sPeople_of) .none kV doc pm an cdv ct), osl⟩) (c : PySem.W.codeIn K cdv "people_of" = true) (k : PySem.W.keepIn K (.ref f) = true) : Raw K mg "people_of" sPeople_of ["thing"] :=
  ⟨f, _, PySem.W.mg_of X G a, fun_mk (st := sPeople_of) l c k, (fun_mk (st := sPeople_of) l c k).binds (ps := ["thing"]) (fun _ _ _ _ _ _ us hl => match us, hl with | [_], _ => rfl)⟩
theorem mk_R_people_said {K : PySem.W.Frag} {h : Heap} {mg : Str → Option Value} {f : Addr} {oc : Value} {od an : Option Addr} {osl : Array (Option Value)} {kV doc pm cdv ct : Value} (X : K.In h) (G : h.Ns mainGlobals mg) (a : PySem.W.nsIn K mainGlobals "people_said" = some (some (.ref f))) (l : K.lookup f = some ⟨oc, od, .func (PySem.W.fnOf "people_said" "people_said" (defArgs sPeople_said) (defBody sPeople_said) (defScope sPeople_said) .none kV doc pm an cdv ct), osl⟩) (c : PySem.W.codeIn K cdv "people_said" = true) (k : PySem.W.keepIn K (.ref f) = true) : Raw K mg "people_said" sPeople_said ["item"] :=
  ⟨f, _, PySem.W.mg_of X G a, fun_mk (st := sPeople_said) l c k, (fun_mk (st := sPeople_said) l c k).binds (ps := ["item"]) (fun _ _ _ _ _ _ us hl => match us, hl with | [_], _ => rfl)⟩
theorem mk_R_is_long {K : PySem.W.Frag} {h : Heap} {mg : Str → Option Value} {f : Addr} {oc : Value} {od an : Option Addr} {osl : Array (Option Value)} {kV doc pm cdv ct : Value} (X : K.In h) (G : h.Ns mainGlobals mg) (a : PySem.W.nsIn K mainGlobals "is_long" = some (some (.ref f))) (l : K.lookup f = some ⟨oc, od, .func (PySem.W.fnOf "is_long" "is_long" (defArgs sIs_long) (defBody sIs_long) (defScope sIs_long) .none kV doc pm an cdv ct), osl⟩) (c : PySem.W.codeIn K cdv "is_long" = true) (k : PySem.W.keepIn K (.ref f) = true) : Raw K mg "is_long" sIs_long ["thing"] :=
  ⟨f, _, PySem.W.mg_of X G a, fun_mk (st := sIs_long) l c k, (fun_mk (st := sIs_long) l c k).binds (ps := ["thing"]) (fun _ _ _ _ _ _ us hl => match us, hl with | [_], _ => rfl)⟩
theorem mk_R_need_long {K : PySem.W.Frag} {h : Heap} {mg : Str → Option Value} {f : Addr} {oc : Value} {od an : Option Addr} {osl : Array (Option Value)} {kV doc pm cdv ct : Value} (X : K.In h) (G : h.Ns mainGlobals mg) (a : PySem.W.nsIn K mainGlobals "need_long" = some (some (.ref f))) (l : K.lookup f = some ⟨oc, od, .func (PySem.W.fnOf "need_long" "need_long" (defArgs sNeed_long) (defBody sNeed_long) (defScope sNeed_long) .none kV doc pm an cdv ct), osl⟩) (c : PySem.W.codeIn K cdv "need_long" = true) (k : PySem.W.keepIn K (.ref f) = true) : Raw K mg "need_long" sNeed_long ["thing"] :=
  ⟨f, _, PySem.W.mg_of X G a, fun_mk (st := sNeed_long) l c k, (fun_mk (st := sNeed_long) l c k).binds (ps := ["thing"]) (fun _ _ _ _ _ _ us hl => match us, hl with | [_], _ => rfl)⟩
theorem mk_R_planted {K : PySem.W.Frag} {h : Heap} {mg : Str → Option Value} {f : Addr} {oc : Value} {od an : Option Addr} {osl : Array (Option Value)} {kV doc pm cdv ct : Value} (X : K.In h) (G : h.Ns mainGlobals mg) (a : PySem.W.nsIn K mainGlobals "planted" = some (some (.ref f))) (l : K.lookup f = some ⟨oc, od, .func (PySem.W.fnOf "planted" "planted" (defArgs sPlanted) (defBody sPlanted) (defScope sPlanted) .none kV doc pm an cdv ct), osl⟩) (c : PySem.W.codeIn K cdv "planted" = true) (k : PySem.W.keepIn K (.ref f) = true) : Raw K mg "planted" sPlanted ["long", "first"] :=
  ⟨f, _, PySem.W.mg_of X G a, fun_mk (st := sPlanted) l c k, (fun_mk (st := sPlanted) l c k).binds (ps := ["long", "first"]) (fun _ _ _ _ _ _ us hl => match us, hl with | [_, _], _ => rfl)⟩
theorem mk_R_tail {K : PySem.W.Frag} {h : Heap} {mg : Str → Option Value} {f : Addr} {oc : Value} {od an : Option Addr} {osl : Array (Option Value)} {kV doc pm cdv ct : Value} (X : K.In h) (G : h.Ns mainGlobals mg) (a : PySem.W.nsIn K mainGlobals "tail" = some (some (.ref f))) (l : K.lookup f = some ⟨oc, od, .func (PySem.W.fnOf "tail" "tail" (defArgs sTail) (defBody sTail) (defScope sTail) .none kV doc pm an cdv ct), osl⟩) (c : PySem.W.codeIn K cdv "tail" = true) (k : PySem.W.keepIn K (.ref f) = true) : Raw K mg "tail" sTail ["parts", "place"] :=
  ⟨f, _, PySem.W.mg_of X G a, fun_mk (st := sTail) l c k, (fun_mk (st := sTail) l c k).binds (ps := ["parts", "place"]) (fun _ _ _ _ _ _ us hl => match us, hl with | [_, _], _ => rfl)⟩
theorem mk_R_head {K : PySem.W.Frag} {h : Heap} {mg : Str → Option Value} {f : Addr} {oc : Value} {od an : Option Addr} {osl : Array (Option Value)} {kV doc pm cdv ct : Value} (X : K.In h) (G : h.Ns mainGlobals mg) (a : PySem.W.nsIn K mainGlobals "head" = some (some (.ref f))) (l : K.lookup f = some ⟨oc, od, .func (PySem.W.fnOf "head" "head" (defArgs sHead) (defBody sHead) (defScope sHead) .none kV doc pm an cdv ct), osl⟩) (c : PySem.W.codeIn K cdv "head" = true) (k : PySem.W.keepIn K (.ref f) = true) : Raw K mg "head" sHead ["parts", "place"] :=
  ⟨f, _, PySem.W.mg_of X G a, fun_mk (st := sHead) l c k, (fun_mk (st := sHead) l c k).binds (ps := ["parts", "place"]) (fun _ _ _ _ _ _ us hl => match us, hl with | [_, _], _ => rfl)⟩
theorem mk_R_slim {K : PySem.W.Frag} {h : Heap} {mg : Str → Option Value} {f : Addr} {oc : Value} {od an : Option Addr} {osl : Array (Option Value)} {kV doc pm cdv ct : Value} (X : K.In h) (G : h.Ns mainGlobals mg) (a : PySem.W.nsIn K mainGlobals "slim" = some (some (.ref f))) (l : K.lookup f = some ⟨oc, od, .func (PySem.W.fnOf "slim" "slim" (defArgs sSlim) (defBody sSlim) (defScope sSlim) .none kV doc pm an cdv ct), osl⟩) (c : PySem.W.codeIn K cdv "slim" = true) (k : PySem.W.keepIn K (.ref f) = true) : Raw K mg "slim" sSlim ["parts"] :=
  ⟨f, _, PySem.W.mg_of X G a, fun_mk (st := sSlim) l c k, (fun_mk (st := sSlim) l c k).binds (ps := ["parts"]) (fun _ _ _ _ _ _ us hl => match us, hl with | [_], _ => rfl)⟩
theorem mk_R_about {K : PySem.W.Frag} {h : Heap} {mg : Str → Option Value} {f : Addr} {oc : Value} {od an : Option Addr} {osl : Array (Option Value)} {kV doc pm cdv ct : Value} (X : K.In h) (G : h.Ns mainGlobals mg) (a : PySem.W.nsIn K mainGlobals "about" = some (some (.ref f))) (l : K.lookup f = some ⟨oc, od, .func (PySem.W.fnOf "about" "about" (defArgs sAbout) (defBody sAbout) (defScope sAbout) .none kV doc pm an cdv ct), osl⟩) (c : PySem.W.codeIn K cdv "about" = true) (k : PySem.W.keepIn K (.ref f) = true) : Raw K mg "about" sAbout ["parts"] :=
  ⟨f, _, PySem.W.mg_of X G a, fun_mk (st := sAbout) l c k, (fun_mk (st := sAbout) l c k).binds (ps := ["parts"]) (fun _ _ _ _ _ _ us hl => match us, hl with | [_], _ => rfl)⟩
theorem mk_R_over_and_over {K : PySem.W.Frag} {h : Heap} {mg : Str → Option Value} {f : Addr} {oc : Value} {od an : Option Addr} {osl : Array (Option Value)} {kV doc pm cdv ct : Value} (X : K.In h) (G : h.Ns mainGlobals mg) (a : PySem.W.nsIn K mainGlobals "over_and_over" = some (some (.ref f))) (l : K.lookup f = some ⟨oc, od, .func (PySem.W.fnOf "over_and_over" "over_and_over" (defArgs sOver_and_over) (defBody sOver_and_over) (defScope sOver_and_over) .none kV doc pm an cdv ct), osl⟩) (c : PySem.W.codeIn K cdv "over_and_over" = true) (k : PySem.W.keepIn K (.ref f) = true) : Raw K mg "over_and_over" sOver_and_over ["parts", "times"] :=
  ⟨f, _, PySem.W.mg_of X G a, fun_mk (st := sOver_and_over) l c k, (fun_mk (st := sOver_and_over) l c k).binds (ps := ["parts", "times"]) (fun _ _ _ _ _ _ us hl => match us, hl with | [_, _], _ => rfl)⟩
theorem mk_R_through {K : PySem.W.Frag} {h : Heap} {mg : Str → Option Value} {f : Addr} {oc : Value} {od an : Option Addr} {osl : Array (Option Value)} {kV doc pm cdv ct : Value} (X : K.In h) (G : h.Ns mainGlobals mg) (a : PySem.W.nsIn K mainGlobals "through" = some (some (.ref f))) (l : K.lookup f = some ⟨oc, od, .func (PySem.W.fnOf "through" "through" (defArgs sThrough) (defBody sThrough) (defScope sThrough) .none kV doc pm an cdv ct), osl⟩) (c : PySem.W.codeIn K cdv "through" = true) (k : PySem.W.keepIn K (.ref f) = true) : Raw K mg "through" sThrough ["parts", "number"] :=
  ⟨f, _, PySem.W.mg_of X G a, fun_mk (st := sThrough) l c k, (fun_mk (st := sThrough) l c k).binds (ps := ["parts", "number"]) (fun _ _ _ _ _ _ us hl => match us, hl with | [_, _], _ => rfl)⟩
theorem mk_R_through_over {K : PySem.W.Frag} {h : Heap} {mg : Str → Option Value} {f : Addr} {oc : Value} {od an : Option Addr} {osl : Array (Option Value)} {kV doc pm cdv ct : Value} (X : K.In h) (G : h.Ns mainGlobals mg) (a : PySem.W.nsIn K mainGlobals "through_over" = some (some (.ref f))) (l : K.lookup f = some ⟨oc, od, .func (PySem.W.fnOf "through_over" "through_over" (defArgs sThrough_over) (defBody sThrough_over) (defScope sThrough_over) .none kV doc pm an cdv ct), osl⟩) (c : PySem.W.codeIn K cdv "through_over" = true) (k : PySem.W.keepIn K (.ref f) = true) : Raw K mg "through_over" sThrough_over ["part", "number"] :=
  ⟨f, _, PySem.W.mg_of X G a, fun_mk (st := sThrough_over) l c k, (fun_mk (st := sThrough_over) l c k).binds (ps := ["part", "number"]) (fun _ _ _ _ _ _ us hl => match us, hl with | [_, _], _ => rfl)⟩
theorem mk_R_wished {K : PySem.W.Frag} {h : Heap} {mg : Str → Option Value} {f : Addr} {oc : Value} {od an : Option Addr} {osl : Array (Option Value)} {kV doc pm cdv ct : Value} (X : K.In h) (G : h.Ns mainGlobals mg) (a : PySem.W.nsIn K mainGlobals "wished" = some (some (.ref f))) (l : K.lookup f = some ⟨oc, od, .func (PySem.W.fnOf "wished" "wished" (defArgs sWished) (defBody sWished) (defScope sWished) .none kV doc pm an cdv ct), osl⟩) (c : PySem.W.codeIn K cdv "wished" = true) (k : PySem.W.keepIn K (.ref f) = true) : Raw K mg "wished" sWished ["parts", "wish"] :=
  ⟨f, _, PySem.W.mg_of X G a, fun_mk (st := sWished) l c k, (fun_mk (st := sWished) l c k).binds (ps := ["parts", "wish"]) (fun _ _ _ _ _ _ us hl => match us, hl with | [_, _], _ => rfl)⟩
theorem mk_R_wished_over {K : PySem.W.Frag} {h : Heap} {mg : Str → Option Value} {f : Addr} {oc : Value} {od an : Option Addr} {osl : Array (Option Value)} {kV doc pm cdv ct : Value} (X : K.In h) (G : h.Ns mainGlobals mg) (a : PySem.W.nsIn K mainGlobals "wished_over" = some (some (.ref f))) (l : K.lookup f = some ⟨oc, od, .func (PySem.W.fnOf "wished_over" "wished_over" (defArgs sWished_over) (defBody sWished_over) (defScope sWished_over) .none kV doc pm an cdv ct), osl⟩) (c : PySem.W.codeIn K cdv "wished_over" = true) (k : PySem.W.keepIn K (.ref f) = true) : Raw K mg "wished_over" sWished_over ["part", "wish"] :=
  ⟨f, _, PySem.W.mg_of X G a, fun_mk (st := sWished_over) l c k, (fun_mk (st := sWished_over) l c k).binds (ps := ["part", "wish"]) (fun _ _ _ _ _ _ us hl => match us, hl with | [_, _], _ => rfl)⟩
theorem mk_R_far_total {K : PySem.W.Frag} {h : Heap} {mg : Str → Option Value} {f : Addr} {oc : Value} {od an : Option Addr} {osl : Array (Option Value)} {kV doc pm cdv ct : Value} (X : K.In h) (G : h.Ns mainGlobals mg) (a : PySem.W.nsIn K mainGlobals "far_total" = some (some (.ref f))) (l : K.lookup f = some ⟨oc, od, .func (PySem.W.fnOf "far_total" "far_total" (defArgs sFar_total) (defBody sFar_total) (defScope sFar_total) .none kV doc pm an cdv ct), osl⟩) (c : PySem.W.codeIn K cdv "far_total" = true) (k : PySem.W.keepIn K (.ref f) = true) : Raw K mg "far_total" sFar_total ["long", "company"] :=
  ⟨f, _, PySem.W.mg_of X G a, fun_mk (st := sFar_total) l c k, (fun_mk (st := sFar_total) l c k).binds (ps := ["long", "company"]) (fun _ _ _ _ _ _ us hl => match us, hl with | [_, _], _ => rfl)⟩
theorem mk_R_parts_of {K : PySem.W.Frag} {h : Heap} {mg : Str → Option Value} {f : Addr} {oc : Value} {od an : Option Addr} {osl : Array (Option Value)} {kV doc pm cdv ct : Value} (X : K.In h) (G : h.Ns mainGlobals mg) (a : PySem.W.nsIn K mainGlobals "parts_of" = some (some (.ref f))) (l : K.lookup f = some ⟨oc, od, .func (PySem.W.fnOf "parts_of" "parts_of" (defArgs sParts_of) (defBody sParts_of) (defScope sParts_of) .none kV doc pm an cdv ct), osl⟩) (c : PySem.W.codeIn K cdv "parts_of" = true) (k : PySem.W.keepIn K (.ref f) = true) : Raw K mg "parts_of" sParts_of ["long"] :=
  ⟨f, _, PySem.W.mg_of X G a, fun_mk (st := sParts_of) l c k, (fun_mk (st := sParts_of) l c k).binds (ps := ["long"]) (fun _ _ _ _ _ _ us hl => match us, hl with | [_], _ => rfl)⟩
theorem mk_R_spot_at {K : PySem.W.Frag} {h : Heap} {mg : Str → Option Value} {f : Addr} {oc : Value} {od an : Option Addr} {osl : Array (Option Value)} {kV doc pm cdv ct : Value} (X : K.In h) (G : h.Ns mainGlobals mg) (a : PySem.W.nsIn K mainGlobals "spot_at" = some (some (.ref f))) (l : K.lookup f = some ⟨oc, od, .func (PySem.W.fnOf "spot_at" "spot_at" (defArgs sSpot_at) (defBody sSpot_at) (defScope sSpot_at) .none kV doc pm an cdv ct), osl⟩) (c : PySem.W.codeIn K cdv "spot_at" = true) (k : PySem.W.keepIn K (.ref f) = true) : Raw K mg "spot_at" sSpot_at ["parts", "place"] :=
  ⟨f, _, PySem.W.mg_of X G a, fun_mk (st := sSpot_at) l c k, (fun_mk (st := sSpot_at) l c k).binds (ps := ["parts", "place"]) (fun _ _ _ _ _ _ us hl => match us, hl with | [_, _], _ => rfl)⟩
theorem mk_R_total_of {K : PySem.W.Frag} {h : Heap} {mg : Str → Option Value} {f : Addr} {oc : Value} {od an : Option Addr} {osl : Array (Option Value)} {kV doc pm cdv ct : Value} (X : K.In h) (G : h.Ns mainGlobals mg) (a : PySem.W.nsIn K mainGlobals "total_of" = some (some (.ref f))) (l : K.lookup f = some ⟨oc, od, .func (PySem.W.fnOf "total_of" "total_of" (defArgs sTotal_of) (defBody sTotal_of) (defScope sTotal_of) .none kV doc pm an cdv ct), osl⟩) (c : PySem.W.codeIn K cdv "total_of" = true) (k : PySem.W.keepIn K (.ref f) = true) : Raw K mg "total_of" sTotal_of ["parts", "number"] :=
  ⟨f, _, PySem.W.mg_of X G a, fun_mk (st := sTotal_of) l c k, (fun_mk (st := sTotal_of) l c k).binds (ps := ["parts", "number"]) (fun _ _ _ _ _ _ us hl => match us, hl with | [_, _], _ => rfl)⟩
theorem mk_R_lesser_slack {K : PySem.W.Frag} {h : Heap} {mg : Str → Option Value} {f : Addr} {oc : Value} {od an : Option Addr} {osl : Array (Option Value)} {kV doc pm cdv ct : Value} (X : K.In h) (G : h.Ns mainGlobals mg) (a : PySem.W.nsIn K mainGlobals "lesser_slack" = some (some (.ref f))) (l : K.lookup f = some ⟨oc, od, .func (PySem.W.fnOf "lesser_slack" "lesser_slack" (defArgs sLesser_slack) (defBody sLesser_slack) (defScope sLesser_slack) .none kV doc pm an cdv ct), osl⟩) (c : PySem.W.codeIn K cdv "lesser_slack" = true) (k : PySem.W.keepIn K (.ref f) = true) : Raw K mg "lesser_slack" sLesser_slack ["one", "other"] :=
  ⟨f, _, PySem.W.mg_of X G a, fun_mk (st := sLesser_slack) l c k, (fun_mk (st := sLesser_slack) l c k).binds (ps := ["one", "other"]) (fun _ _ _ _ _ _ us hl => match us, hl with | [_, _], _ => rfl)⟩
theorem mk_R_word_of {K : PySem.W.Frag} {h : Heap} {mg : Str → Option Value} {f : Addr} {oc : Value} {od an : Option Addr} {osl : Array (Option Value)} {kV doc pm cdv ct : Value} (X : K.In h) (G : h.Ns mainGlobals mg) (a : PySem.W.nsIn K mainGlobals "word_of" = some (some (.ref f))) (l : K.lookup f = some ⟨oc, od, .func (PySem.W.fnOf "word_of" "word_of" (defArgs sWord_of) (defBody sWord_of) (defScope sWord_of) .none kV doc pm an cdv ct), osl⟩) (c : PySem.W.codeIn K cdv "word_of" = true) (k : PySem.W.keepIn K (.ref f) = true) : Raw K mg "word_of" sWord_of ["saying", "number"] :=
  ⟨f, _, PySem.W.mg_of X G a, fun_mk (st := sWord_of) l c k, (fun_mk (st := sWord_of) l c k).binds (ps := ["saying", "number"]) (fun _ _ _ _ _ _ us hl => match us, hl with | [_, _], _ => rfl)⟩
theorem mk_R_add_counts {K : PySem.W.Frag} {h : Heap} {mg : Str → Option Value} {f : Addr} {oc : Value} {od an : Option Addr} {osl : Array (Option Value)} {kV doc pm cdv ct : Value} (X : K.In h) (G : h.Ns mainGlobals mg) (a : PySem.W.nsIn K mainGlobals "add_counts" = some (some (.ref f))) (l : K.lookup f = some ⟨oc, od, .func (PySem.W.fnOf "add_counts" "add_counts" (defArgs sAdd_counts) (defBody sAdd_counts) (defScope sAdd_counts) .none kV doc pm an cdv ct), osl⟩) (c : PySem.W.codeIn K cdv "add_counts" = true) (k : PySem.W.keepIn K (.ref f) = true) : Raw K mg "add_counts" sAdd_counts ["counts", "more", "times"] :=
  ⟨f, _, PySem.W.mg_of X G a, fun_mk (st := sAdd_counts) l c k, (fun_mk (st := sAdd_counts) l c k).binds (ps := ["counts", "more", "times"]) (fun _ _ _ _ _ _ us hl => match us, hl with | [_, _, _], _ => rfl)⟩
theorem mk_R_is_name {K : PySem.W.Frag} {h : Heap} {mg : Str → Option Value} {f : Addr} {oc : Value} {od an : Option Addr} {osl : Array (Option Value)} {kV doc pm cdv ct : Value} (X : K.In h) (G : h.Ns mainGlobals mg) (a : PySem.W.nsIn K mainGlobals "is_name" = some (some (.ref f))) (l : K.lookup f = some ⟨oc, od, .func (PySem.W.fnOf "is_name" "is_name" (defArgs sIs_name) (defBody sIs_name) (defScope sIs_name) .none kV doc pm an cdv ct), osl⟩) (c : PySem.W.codeIn K cdv "is_name" = true) (k : PySem.W.keepIn K (.ref f) = true) : Raw K mg "is_name" sIs_name ["thing"] :=
  ⟨f, _, PySem.W.mg_of X G a, fun_mk (st := sIs_name) l c k, (fun_mk (st := sIs_name) l c k).binds (ps := ["thing"]) (fun _ _ _ _ _ _ us hl => match us, hl with | [_], _ => rfl)⟩
theorem mk_R_need_name {K : PySem.W.Frag} {h : Heap} {mg : Str → Option Value} {f : Addr} {oc : Value} {od an : Option Addr} {osl : Array (Option Value)} {kV doc pm cdv ct : Value} (X : K.In h) (G : h.Ns mainGlobals mg) (a : PySem.W.nsIn K mainGlobals "need_name" = some (some (.ref f))) (l : K.lookup f = some ⟨oc, od, .func (PySem.W.fnOf "need_name" "need_name" (defArgs sNeed_name) (defBody sNeed_name) (defScope sNeed_name) .none kV doc pm an cdv ct), osl⟩) (c : PySem.W.codeIn K cdv "need_name" = true) (k : PySem.W.keepIn K (.ref f) = true) : Raw K mg "need_name" sNeed_name ["thing"] :=
  ⟨f, _, PySem.W.mg_of X G a, fun_mk (st := sNeed_name) l c k, (fun_mk (st := sNeed_name) l c k).binds (ps := ["thing"]) (fun _ _ _ _ _ _ us hl => match us, hl with | [_], _ => rfl)⟩
theorem mk_R_need_few {K : PySem.W.Frag} {h : Heap} {mg : Str → Option Value} {f : Addr} {oc : Value} {od an : Option Addr} {osl : Array (Option Value)} {kV doc pm cdv ct : Value} (X : K.In h) (G : h.Ns mainGlobals mg) (a : PySem.W.nsIn K mainGlobals "need_few" = some (some (.ref f))) (l : K.lookup f = some ⟨oc, od, .func (PySem.W.fnOf "need_few" "need_few" (defArgs sNeed_few) (defBody sNeed_few) (defScope sNeed_few) .none kV doc pm an cdv ct), osl⟩) (c : PySem.W.codeIn K cdv "need_few" = true) (k : PySem.W.keepIn K (.ref f) = true) : Raw K mg "need_few" sNeed_few ["many"] :=
  ⟨f, _, PySem.W.mg_of X G a, fun_mk (st := sNeed_few) l c k, (fun_mk (st := sNeed_few) l c k).binds (ps := ["many"]) (fun _ _ _ _ _ _ us hl => match us, hl with | [_], _ => rfl)⟩
theorem mk_R_HallI {K : PySem.W.Frag} {mg : Str → Option Value} {CH f : Addr} {oc : Value} {od an : Option Addr} {osl : Array (Option Value)} {kV doc pm cdv ct : Value} (g : mg "Hall" = some (.ref CH)) (m : PySem.W.makesIn K CH = true) (a : PySem.W.findIn K (.ref CH) "__init__" = some (some (.ref f))) (i : PySem.W.isFn K (.ref f) = true) (j : PySem.W.keepIn K (.ref CH) = true) (l : K.lookup f = some ⟨oc, od, .func (PySem.W.fnOf "__init__" "Hall.__init__" (defArgs sHallI) (defBody sHallI) (defScope sHallI) .none kV doc pm an cdv ct), osl⟩) (c : PySem.W.codeIn K cdv "Hall.__init__" = true) (k : PySem.W.keepIn K (.ref f) = true) : RawC K mg "Hall" CH "Hall.__init__" sHallI ["self"] :=
  ⟨f, _, g, ⟨m, a, i, j⟩, fun_mk (st := sHallI) l c k, (fun_mk (st := sHallI) l c k).binds (ps := ["self"]) (fun _ _ _ _ _ _ us hl => match us, hl with | [_], _ => rfl)⟩
theorem mk_R_hparts {K : PySem.W.Frag} {CH f : Addr} {oc : Value} {od an : Option Addr} {osl : Array (Option Value)} {kV doc pm cdv ct : Value} (a : PySem.W.findIn K (.ref CH) "s10_parts" = some (some (.ref f))) (i : PySem.W.isFn K (.ref f) = true) (l : K.lookup f = some ⟨oc, od, .func (PySem.W.fnOf "s10_parts" "Hall.s10_parts" (defArgs sHparts) (defBody sHparts) (defScope sHparts) .none kV doc pm an cdv ct), osl⟩) (c : PySem.W.codeIn K cdv "Hall.s10_parts" = true) (k : PySem.W.keepIn K (.ref f) = true) : RawM K CH "s10_parts" "Hall.s10_parts" sHparts ["self", "name"] :=
  ⟨f, _, ⟨a, i, k⟩, fun_mk (st := sHparts) l c k, (fun_mk (st := sHparts) l c k).binds (ps := ["self", "name"]) (fun _ _ _ _ _ _ us hl => match us, hl with | [_, _], _ => rfl)⟩
theorem mk_R_hfree {K : PySem.W.Frag} {CH f : Addr} {oc : Value} {od an : Option Addr} {osl : Array (Option Value)} {kV doc pm cdv ct : Value} (a : PySem.W.findIn K (.ref CH) "s10_free" = some (some (.ref f))) (i : PySem.W.isFn K (.ref f) = true) (l : K.lookup f = some ⟨oc, od, .func (PySem.W.fnOf "s10_free" "Hall.s10_free" (defArgs sHfree) (defBody sHfree) (defScope sHfree) .none kV doc pm an cdv ct), osl⟩) (c : PySem.W.codeIn K cdv "Hall.s10_free" = true) (k : PySem.W.keepIn K (.ref f) = true) : RawM K CH "s10_free" "Hall.s10_free" sHfree ["self", "name"] :=
  ⟨f, _, ⟨a, i, k⟩, fun_mk (st := sHfree) l c k, (fun_mk (st := sHfree) l c k).binds (ps := ["self", "name"]) (fun _ _ _ _ _ _ us hl => match us, hl with | [_, _], _ => rfl)⟩
theorem mk_R_hkeep {K : PySem.W.Frag} {CH f : Addr} {oc : Value} {od an : Option Addr} {osl : Array (Option Value)} {kV doc pm cdv ct : Value} (a : PySem.W.findIn K (.ref CH) "s10_keep" = some (some (.ref f))) (i : PySem.W.isFn K (.ref f) = true) (l : K.lookup f = some ⟨oc, od, .func (PySem.W.fnOf "s10_keep" "Hall.s10_keep" (defArgs sHkeep) (defBody sHkeep) (defScope sHkeep) .none kV doc pm an cdv ct), osl⟩) (c : PySem.W.codeIn K cdv "Hall.s10_keep" = true) (k : PySem.W.keepIn K (.ref f) = true) : RawM K CH "s10_keep" "Hall.s10_keep" sHkeep ["self", "deed", "rows"] :=
  ⟨f, _, ⟨a, i, k⟩, fun_mk (st := sHkeep) l c k, (fun_mk (st := sHkeep) l c k).binds (ps := ["self", "deed", "rows"]) (fun _ _ _ _ _ _ us hl => match us, hl with | [_, _, _], _ => rfl)⟩
theorem mk_R_hbegin {K : PySem.W.Frag} {CH f : Addr} {oc : Value} {od an : Option Addr} {osl : Array (Option Value)} {kV doc pm cdv ct : Value} (a : PySem.W.findIn K (.ref CH) "begin" = some (some (.ref f))) (i : PySem.W.isFn K (.ref f) = true) (l : K.lookup f = some ⟨oc, od, .func (PySem.W.fnOf "begin" "Hall.begin" (defArgs sHbegin) (defBody sHbegin) (defScope sHbegin) .none kV doc pm an cdv ct), osl⟩) (c : PySem.W.codeIn K cdv "Hall.begin" = true) (k : PySem.W.keepIn K (.ref f) = true) : RawM K CH "begin" "Hall.begin" sHbegin ["self", "name", "long"] :=
  ⟨f, _, ⟨a, i, k⟩, fun_mk (st := sHbegin) l c k, (fun_mk (st := sHbegin) l c k).binds (ps := ["self", "name", "long"]) (fun _ _ _ _ _ _ us hl => match us, hl with | [_, _, _], _ => rfl)⟩
theorem mk_R_hstep_in {K : PySem.W.Frag} {CH f : Addr} {oc : Value} {od an : Option Addr} {osl : Array (Option Value)} {kV doc pm cdv ct : Value} (a : PySem.W.findIn K (.ref CH) "step_in" = some (some (.ref f))) (i : PySem.W.isFn K (.ref f) = true) (l : K.lookup f = some ⟨oc, od, .func (PySem.W.fnOf "step_in" "Hall.step_in" (defArgs sHstep_in) (defBody sHstep_in) (defScope sHstep_in) .none kV doc pm an cdv ct), osl⟩) (c : PySem.W.codeIn K cdv "Hall.step_in" = true) (k : PySem.W.keepIn K (.ref f) = true) : RawM K CH "step_in" "Hall.step_in" sHstep_in ["self", "name", "place", "saying"] :=
  ⟨f, _, ⟨a, i, k⟩, fun_mk (st := sHstep_in) l c k, (fun_mk (st := sHstep_in) l c k).binds (ps := ["self", "name", "place", "saying"]) (fun _ _ _ _ _ _ us hl => match us, hl with | [_, _, _, _], _ => rfl)⟩
theorem mk_R_hresay {K : PySem.W.Frag} {CH f : Addr} {oc : Value} {od an : Option Addr} {osl : Array (Option Value)} {kV doc pm cdv ct : Value} (a : PySem.W.findIn K (.ref CH) "resay" = some (some (.ref f))) (i : PySem.W.isFn K (.ref f) = true) (l : K.lookup f = some ⟨oc, od, .func (PySem.W.fnOf "resay" "Hall.resay" (defArgs sHresay) (defBody sHresay) (defScope sHresay) .none kV doc pm an cdv ct), osl⟩) (c : PySem.W.codeIn K cdv "Hall.resay" = true) (k : PySem.W.keepIn K (.ref f) = true) : RawM K CH "resay" "Hall.resay" sHresay ["self", "name", "place", "saying"] :=
  ⟨f, _, ⟨a, i, k⟩, fun_mk (st := sHresay) l c k, (fun_mk (st := sHresay) l c k).binds (ps := ["self", "name", "place", "saying"]) (fun _ _ _ _ _ _ us hl => match us, hl with | [_, _, _, _], _ => rfl)⟩
theorem mk_R_hgo {K : PySem.W.Frag} {CH f : Addr} {oc : Value} {od an : Option Addr} {osl : Array (Option Value)} {kV doc pm cdv ct : Value} (a : PySem.W.findIn K (.ref CH) "go" = some (some (.ref f))) (i : PySem.W.isFn K (.ref f) = true) (l : K.lookup f = some ⟨oc, od, .func (PySem.W.fnOf "go" "Hall.go" (defArgs sHgo) (defBody sHgo) (defScope sHgo) .none kV doc pm an cdv ct), osl⟩) (c : PySem.W.codeIn K cdv "Hall.go" = true) (k : PySem.W.keepIn K (.ref f) = true) : RawM K CH "go" "Hall.go" sHgo ["self", "name", "place"] :=
  ⟨f, _, ⟨a, i, k⟩, fun_mk (st := sHgo) l c k, (fun_mk (st := sHgo) l c k).binds (ps := ["self", "name", "place"]) (fun _ _ _ _ _ _ us hl => match us, hl with | [_, _, _], _ => rfl)⟩
theorem mk_R_hcut {K : PySem.W.Frag} {CH f : Addr} {oc : Value} {od an : Option Addr} {osl : Array (Option Value)} {kV doc pm cdv ct : Value} (a : PySem.W.findIn K (.ref CH) "cut" = some (some (.ref f))) (i : PySem.W.isFn K (.ref f) = true) (l : K.lookup f = some ⟨oc, od, .func (PySem.W.fnOf "cut" "Hall.cut" (defArgs sHcut) (defBody sHcut) (defScope sHcut) .none kV doc pm an cdv ct), osl⟩) (c : PySem.W.codeIn K cdv "Hall.cut" = true) (k : PySem.W.keepIn K (.ref f) = true) : RawM K CH "cut" "Hall.cut" sHcut ["self", "name", "place", "other"] :=
  ⟨f, _, ⟨a, i, k⟩, fun_mk (st := sHcut) l c k, (fun_mk (st := sHcut) l c k).binds (ps := ["self", "name", "place", "other"]) (fun _ _ _ _ _ _ us hl => match us, hl with | [_, _, _, _], _ => rfl)⟩
theorem mk_R_hjoin_to {K : PySem.W.Frag} {CH f : Addr} {oc : Value} {od an : Option Addr} {osl : Array (Option Value)} {kV doc pm cdv ct : Value} (a : PySem.W.findIn K (.ref CH) "join_to" = some (some (.ref f))) (i : PySem.W.isFn K (.ref f) = true) (l : K.lookup f = some ⟨oc, od, .func (PySem.W.fnOf "join_to" "Hall.join_to" (defArgs sHjoin_to) (defBody sHjoin_to) (defScope sHjoin_to) .none kV doc pm an cdv ct), osl⟩) (c : PySem.W.codeIn K cdv "Hall.join_to" = true) (k : PySem.W.keepIn K (.ref f) = true) : RawM K CH "join_to" "Hall.join_to" sHjoin_to ["self", "name", "other"] :=
  ⟨f, _, ⟨a, i, k⟩, fun_mk (st := sHjoin_to) l c k, (fun_mk (st := sHjoin_to) l c k).binds (ps := ["self", "name", "other"]) (fun _ _ _ _ _ _ us hl => match us, hl with | [_, _, _], _ => rfl)⟩
theorem mk_R_hsay_over {K : PySem.W.Frag} {CH f : Addr} {oc : Value} {od an : Option Addr} {osl : Array (Option Value)} {kV doc pm cdv ct : Value} (a : PySem.W.findIn K (.ref CH) "say_over" = some (some (.ref f))) (i : PySem.W.isFn K (.ref f) = true) (l : K.lookup f = some ⟨oc, od, .func (PySem.W.fnOf "say_over" "Hall.say_over" (defArgs sHsay_over) (defBody sHsay_over) (defScope sHsay_over) .none kV doc pm an cdv ct), osl⟩) (c : PySem.W.codeIn K cdv "Hall.say_over" = true) (k : PySem.W.keepIn K (.ref f) = true) : RawM K CH "say_over" "Hall.say_over" sHsay_over ["self", "name", "many"] :=
  ⟨f, _, ⟨a, i, k⟩, fun_mk (st := sHsay_over) l c k, (fun_mk (st := sHsay_over) l c k).binds (ps := ["self", "name", "many"]) (fun _ _ _ _ _ _ us hl => match us, hl with | [_, _, _], _ => rfl)⟩
theorem mk_R_hturn_about {K : PySem.W.Frag} {CH f : Addr} {oc : Value} {od an : Option Addr} {osl : Array (Option Value)} {kV doc pm cdv ct : Value} (a : PySem.W.findIn K (.ref CH) "turn_about" = some (some (.ref f))) (i : PySem.W.isFn K (.ref f) = true) (l : K.lookup f = some ⟨oc, od, .func (PySem.W.fnOf "turn_about" "Hall.turn_about" (defArgs sHturn_about) (defBody sHturn_about) (defScope sHturn_about) .none kV doc pm an cdv ct), osl⟩) (c : PySem.W.codeIn K cdv "Hall.turn_about" = true) (k : PySem.W.keepIn K (.ref f) = true) : RawM K CH "turn_about" "Hall.turn_about" sHturn_about ["self", "name"] :=
  ⟨f, _, ⟨a, i, k⟩, fun_mk (st := sHturn_about) l c k, (fun_mk (st := sHturn_about) l c k).binds (ps := ["self", "name"]) (fun _ _ _ _ _ _ us hl => match us, hl with | [_, _], _ => rfl)⟩
theorem mk_R_hundo {K : PySem.W.Frag} {CH f : Addr} {oc : Value} {od an : Option Addr} {osl : Array (Option Value)} {kV doc pm cdv ct : Value} (a : PySem.W.findIn K (.ref CH) "undo" = some (some (.ref f))) (i : PySem.W.isFn K (.ref f) = true) (l : K.lookup f = some ⟨oc, od, .func (PySem.W.fnOf "undo" "Hall.undo" (defArgs sHundo) (defBody sHundo) (defScope sHundo) .none kV doc pm an cdv ct), osl⟩) (c : PySem.W.codeIn K cdv "Hall.undo" = true) (k : PySem.W.keepIn K (.ref f) = true) : RawM K CH "undo" "Hall.undo" sHundo ["self"] :=
  ⟨f, _, ⟨a, i, k⟩, fun_mk (st := sHundo) l c k, (fun_mk (st := sHundo) l c k).binds (ps := ["self"]) (fun _ _ _ _ _ _ us hl => match us, hl with | [_], _ => rfl)⟩
theorem mk_R_hnames {K : PySem.W.Frag} {CH f : Addr} {oc : Value} {od an : Option Addr} {osl : Array (Option Value)} {kV doc pm cdv ct : Value} (a : PySem.W.findIn K (.ref CH) "names" = some (some (.ref f))) (i : PySem.W.isFn K (.ref f) = true) (l : K.lookup f = some ⟨oc, od, .func (PySem.W.fnOf "names" "Hall.names" (defArgs sHnames) (defBody sHnames) (defScope sHnames) .none kV doc pm an cdv ct), osl⟩) (c : PySem.W.codeIn K cdv "Hall.names" = true) (k : PySem.W.keepIn K (.ref f) = true) : RawM K CH "names" "Hall.names" sHnames ["self"] :=
  ⟨f, _, ⟨a, i, k⟩, fun_mk (st := sHnames) l c k, (fun_mk (st := sHnames) l c k).binds (ps := ["self"]) (fun _ _ _ _ _ _ us hl => match us, hl with | [_], _ => rfl)⟩
theorem mk_R_hpeople {K : PySem.W.Frag} {CH f : Addr} {oc : Value} {od an : Option Addr} {osl : Array (Option Value)} {kV doc pm cdv ct : Value} (a : PySem.W.findIn K (.ref CH) "people" = some (some (.ref f))) (i : PySem.W.isFn K (.ref f) = true) (l : K.lookup f = some ⟨oc, od, .func (PySem.W.fnOf "people" "Hall.people" (defArgs sHpeople) (defBody sHpeople) (defScope sHpeople) .none kV doc pm an cdv ct), osl⟩) (c : PySem.W.codeIn K cdv "Hall.people" = true) (k : PySem.W.keepIn K (.ref f) = true) : RawM K CH "people" "Hall.people" sHpeople ["self", "name"] :=
  ⟨f, _, ⟨a, i, k⟩, fun_mk (st := sHpeople) l c k, (fun_mk (st := sHpeople) l c k).binds (ps := ["self", "name"]) (fun _ _ _ _ _ _ us hl => match us, hl with | [_, _], _ => rfl)⟩
theorem mk_R_htotal {K : PySem.W.Frag} {CH f : Addr} {oc : Value} {od an : Option Addr} {osl : Array (Option Value)} {kV doc pm cdv ct : Value} (a : PySem.W.findIn K (.ref CH) "total" = some (some (.ref f))) (i : PySem.W.isFn K (.ref f) = true) (l : K.lookup f = some ⟨oc, od, .func (PySem.W.fnOf "total" "Hall.total" (defArgs sHtotal) (defBody sHtotal) (defScope sHtotal) .none kV doc pm an cdv ct), osl⟩) (c : PySem.W.codeIn K cdv "Hall.total" = true) (k : PySem.W.keepIn K (.ref f) = true) : RawM K CH "total" "Hall.total" sHtotal ["self", "name", "company"] :=
  ⟨f, _, ⟨a, i, k⟩, fun_mk (st := sHtotal) l c k, (fun_mk (st := sHtotal) l c k).binds (ps := ["self", "name", "company"]) (fun _ _ _ _ _ _ us hl => match us, hl with | [_, _, _], _ => rfl)⟩
theorem mk_R_hleast {K : PySem.W.Frag} {CH f : Addr} {oc : Value} {od an : Option Addr} {osl : Array (Option Value)} {kV doc pm cdv ct : Value} (a : PySem.W.findIn K (.ref CH) "least" = some (some (.ref f))) (i : PySem.W.isFn K (.ref f) = true) (l : K.lookup f = some ⟨oc, od, .func (PySem.W.fnOf "least" "Hall.least" (defArgs sHleast) (defBody sHleast) (defScope sHleast) .none kV doc pm an cdv ct), osl⟩) (c : PySem.W.codeIn K cdv "Hall.least" = true) (k : PySem.W.keepIn K (.ref f) = true) : RawM K CH "least" "Hall.least" sHleast ["self", "name", "total"] :=
  ⟨f, _, ⟨a, i, k⟩, fun_mk (st := sHleast) l c k, (fun_mk (st := sHleast) l c k).binds (ps := ["self", "name", "total"]) (fun _ _ _ _ _ _ us hl => match us, hl with | [_, _, _], _ => rfl)⟩
theorem mk_R_hsaying {K : PySem.W.Frag} {CH f : Addr} {oc : Value} {od an : Option Addr} {osl : Array (Option Value)} {kV doc pm cdv ct : Value} (a : PySem.W.findIn K (.ref CH) "saying" = some (some (.ref f))) (i : PySem.W.isFn K (.ref f) = true) (l : K.lookup f = some ⟨oc, od, .func (PySem.W.fnOf "saying" "Hall.saying" (defArgs sHsaying) (defBody sHsaying) (defScope sHsaying) .none kV doc pm an cdv ct), osl⟩) (c : PySem.W.codeIn K cdv "Hall.saying" = true) (k : PySem.W.keepIn K (.ref f) = true) : RawM K CH "saying" "Hall.saying" sHsaying ["self", "name", "place"] :=
  ⟨f, _, ⟨a, i, k⟩, fun_mk (st := sHsaying) l c k, (fun_mk (st := sHsaying) l c k).binds (ps := ["self", "name", "place"]) (fun _ _ _ _ _ _ us hl => match us, hl with | [_, _, _], _ => rfl)⟩
theorem mk_R_htogether {K : PySem.W.Frag} {CH f : Addr} {oc : Value} {od an : Option Addr} {osl : Array (Option Value)} {kV doc pm cdv ct : Value} (a : PySem.W.findIn K (.ref CH) "together" = some (some (.ref f))) (i : PySem.W.isFn K (.ref f) = true) (l : K.lookup f = some ⟨oc, od, .func (PySem.W.fnOf "together" "Hall.together" (defArgs sHtogether) (defBody sHtogether) (defScope sHtogether) .none kV doc pm an cdv ct), osl⟩) (c : PySem.W.codeIn K cdv "Hall.together" = true) (k : PySem.W.keepIn K (.ref f) = true) : RawM K CH "together" "Hall.together" sHtogether ["self", "names", "company"] :=
  ⟨f, _, ⟨a, i, k⟩, fun_mk (st := sHtogether) l c k, (fun_mk (st := sHtogether) l c k).binds (ps := ["self", "names", "company"]) (fun _ _ _ _ _ _ us hl => match us, hl with | [_, _, _], _ => rfl)⟩
theorem mk_R_lurn {K : PySem.W.Frag} {h : Heap} {mg : Str → Option Value} {f : Addr} {oc : Value} {od an : Option Addr} {osl : Array (Option Value)} {kV doc pm cdv ct : Value} (X : K.In h) (G : h.Ns mainGlobals mg) (a : PySem.W.nsIn K mainGlobals "_law_urn" = some (some (.ref f))) (l : K.lookup f = some ⟨oc, od, .func (PySem.W.fnOf "_law_urn" "_law_urn" (defArgs sLurn) (defBody sLurn) (defScope sLurn) .none kV doc pm an cdv ct), osl⟩) (c : PySem.W.codeIn K cdv "_law_urn" = true) (k : PySem.W.keepIn K (.ref f) = true) : Raw K mg "_law_urn" sLurn ["_law_script", "_law_k"] :=
  ⟨f, _, PySem.W.mg_of X G a, fun_mk (st := sLurn) l c k, (fun_mk (st := sLurn) l c k).binds (ps := ["_law_script", "_law_k"]) (fun _ _ _ _ _ _ us hl => match us, hl with | [_, _], _ => rfl)⟩
theorem mk_R_lball {K : PySem.W.Frag} {h : Heap} {mg : Str → Option Value} {f : Addr} {oc : Value} {od an : Option Addr} {osl : Array (Option Value)} {kV doc pm cdv ct : Value} (X : K.In h) (G : h.Ns mainGlobals mg) (a : PySem.W.nsIn K mainGlobals "_law_ball" = some (some (.ref f))) (l : K.lookup f = some ⟨oc, od, .func (PySem.W.fnOf "_law_ball" "_law_ball" (defArgs sLball) (defBody sLball) (defScope sLball) .none kV doc pm an cdv ct), osl⟩) (c : PySem.W.codeIn K cdv "_law_ball" = true) (k : PySem.W.keepIn K (.ref f) = true) : Raw K mg "_law_ball" sLball ["_law_urn_here", "_law_many"] :=
  ⟨f, _, PySem.W.mg_of X G a, fun_mk (st := sLball) l c k, (fun_mk (st := sLball) l c k).binds (ps := ["_law_urn_here", "_law_many"]) (fun _ _ _ _ _ _ us hl => match us, hl with | [_, _], _ => rfl)⟩
theorem mk_R_lsaying {K : PySem.W.Frag} {h : Heap} {mg : Str → Option Value} {f : Addr} {oc : Value} {od an : Option Addr} {osl : Array (Option Value)} {kV doc pm cdv ct : Value} (X : K.In h) (G : h.Ns mainGlobals mg) (a : PySem.W.nsIn K mainGlobals "_law_saying" = some (some (.ref f))) (l : K.lookup f = some ⟨oc, od, .func (PySem.W.fnOf "_law_saying" "_law_saying" (defArgs sLsaying) (defBody sLsaying) (defScope sLsaying) .none kV doc pm an cdv ct), osl⟩) (c : PySem.W.codeIn K cdv "_law_saying" = true) (k : PySem.W.keepIn K (.ref f) = true) : Raw K mg "_law_saying" sLsaying ["_law_urn_here", "_law_wide"] :=
  ⟨f, _, PySem.W.mg_of X G a, fun_mk (st := sLsaying) l c k, (fun_mk (st := sLsaying) l c k).binds (ps := ["_law_urn_here", "_law_wide"]) (fun _ _ _ _ _ _ us hl => match us, hl with | [_, _], _ => rfl)⟩
theorem mk_R_lpeople {K : PySem.W.Frag} {h : Heap} {mg : Str → Option Value} {f : Addr} {oc : Value} {od an : Option Addr} {osl : Array (Option Value)} {kV doc pm cdv ct : Value} (X : K.In h) (G : h.Ns mainGlobals mg) (a : PySem.W.nsIn K mainGlobals "_law_people" = some (some (.ref f))) (l : K.lookup f = some ⟨oc, od, .func (PySem.W.fnOf "_law_people" "_law_people" (defArgs sLpeople) (defBody sLpeople) (defScope sLpeople) .none kV doc pm an cdv ct), osl⟩) (c : PySem.W.codeIn K cdv "_law_people" = true) (k : PySem.W.keepIn K (.ref f) = true) : Raw K mg "_law_people" sLpeople ["_law_long_here"] :=
  ⟨f, _, PySem.W.mg_of X G a, fun_mk (st := sLpeople) l c k, (fun_mk (st := sLpeople) l c k).binds (ps := ["_law_long_here"]) (fun _ _ _ _ _ _ us hl => match us, hl with | [_], _ => rfl)⟩
theorem mk_R_lsayings {K : PySem.W.Frag} {h : Heap} {mg : Str → Option Value} {f : Addr} {oc : Value} {od an : Option Addr} {osl : Array (Option Value)} {kV doc pm cdv ct : Value} (X : K.In h) (G : h.Ns mainGlobals mg) (a : PySem.W.nsIn K mainGlobals "_law_sayings" = some (some (.ref f))) (l : K.lookup f = some ⟨oc, od, .func (PySem.W.fnOf "_law_sayings" "_law_sayings" (defArgs sLsayings) (defBody sLsayings) (defScope sLsayings) .none kV doc pm an cdv ct), osl⟩) (c : PySem.W.codeIn K cdv "_law_sayings" = true) (k : PySem.W.keepIn K (.ref f) = true) : Raw K mg "_law_sayings" sLsayings ["_law_long_here"] :=
  ⟨f, _, PySem.W.mg_of X G a, fun_mk (st := sLsayings) l c k, (fun_mk (st := sLsayings) l c k).binds (ps := ["_law_long_here"]) (fun _ _ _ _ _ _ us hl => match us, hl with | [_], _ => rfl)⟩
theorem mk_R_llong {K : PySem.W.Frag} {h : Heap} {mg : Str → Option Value} {f : Addr} {oc : Value} {od an : Option Addr} {osl : Array (Option Value)} {kV doc pm cdv ct : Value} (X : K.In h) (G : h.Ns mainGlobals mg) (a : PySem.W.nsIn K mainGlobals "_law_long" = some (some (.ref f))) (l : K.lookup f = some ⟨oc, od, .func (PySem.W.fnOf "_law_long" "_law_long" (defArgs sLlong) (defBody sLlong) (defScope sLlong) .none kV doc pm an cdv ct), osl⟩) (c : PySem.W.codeIn K cdv "_law_long" = true) (k : PySem.W.keepIn K (.ref f) = true) : Raw K mg "_law_long" sLlong ["_law_urn_here", "_law_plan", "_law_deep", "_law_room"] :=
  ⟨f, _, PySem.W.mg_of X G a, fun_mk (st := sLlong) l c k, (fun_mk (st := sLlong) l c k).binds (ps := ["_law_urn_here", "_law_plan", "_law_deep", "_law_room"]) (fun _ _ _ _ _ _ us hl => match us, hl with | [_, _, _, _], _ => rfl)⟩
theorem mk_R_lcompany {K : PySem.W.Frag} {h : Heap} {mg : Str → Option Value} {f : Addr} {oc : Value} {od an : Option Addr} {osl : Array (Option Value)} {kV doc pm cdv ct : Value} (X : K.In h) (G : h.Ns mainGlobals mg) (a : PySem.W.nsIn K mainGlobals "_law_company" = some (some (.ref f))) (l : K.lookup f = some ⟨oc, od, .func (PySem.W.fnOf "_law_company" "_law_company" (defArgs sLcompany) (defBody sLcompany) (defScope sLcompany) .none kV doc pm an cdv ct), osl⟩) (c : PySem.W.codeIn K cdv "_law_company" = true) (k : PySem.W.keepIn K (.ref f) = true) : Raw K mg "_law_company" sLcompany ["_law_urn_here", "_law_sayings_here"] :=
  ⟨f, _, PySem.W.mg_of X G a, fun_mk (st := sLcompany) l c k, (fun_mk (st := sLcompany) l c k).binds (ps := ["_law_urn_here", "_law_sayings_here"]) (fun _ _ _ _ _ _ us hl => match us, hl with | [_, _], _ => rfl)⟩
theorem mk_R_lfar {K : PySem.W.Frag} {h : Heap} {mg : Str → Option Value} {f : Addr} {oc : Value} {od an : Option Addr} {osl : Array (Option Value)} {kV doc pm cdv ct : Value} (X : K.In h) (G : h.Ns mainGlobals mg) (a : PySem.W.nsIn K mainGlobals "_law_far" = some (some (.ref f))) (l : K.lookup f = some ⟨oc, od, .func (PySem.W.fnOf "_law_far" "_law_far" (defArgs sLfar) (defBody sLfar) (defScope sLfar) .none kV doc pm an cdv ct), osl⟩) (c : PySem.W.codeIn K cdv "_law_far" = true) (k : PySem.W.keepIn K (.ref f) = true) : Raw K mg "_law_far" sLfar ["_law_urn_here", "_law_most", "_law_deep"] :=
  ⟨f, _, PySem.W.mg_of X G a, fun_mk (st := sLfar) l c k, (fun_mk (st := sLfar) l c k).binds (ps := ["_law_urn_here", "_law_most", "_law_deep"]) (fun _ _ _ _ _ _ us hl => match us, hl with | [_, _, _], _ => rfl)⟩
theorem mk_R_ltold {K : PySem.W.Frag} {h : Heap} {mg : Str → Option Value} {f : Addr} {oc : Value} {od an : Option Addr} {osl : Array (Option Value)} {kV doc pm cdv ct : Value} (X : K.In h) (G : h.Ns mainGlobals mg) (a : PySem.W.nsIn K mainGlobals "_law_told" = some (some (.ref f))) (l : K.lookup f = some ⟨oc, od, .func (PySem.W.fnOf "_law_told" "_law_told" (defArgs sLtold) (defBody sLtold) (defScope sLtold) .none kV doc pm an cdv ct), osl⟩) (c : PySem.W.codeIn K cdv "_law_told" = true) (k : PySem.W.keepIn K (.ref f) = true) : Raw K mg "_law_told" sLtold ["_law_hall", "_law_names", "_law_company_here"] :=
  ⟨f, _, PySem.W.mg_of X G a, fun_mk (st := sLtold) l c k, (fun_mk (st := sLtold) l c k).binds (ps := ["_law_hall", "_law_names", "_law_company_here"]) (fun _ _ _ _ _ _ us hl => match us, hl with | [_, _, _], _ => rfl)⟩
theorem mk_R_lcut_right {K : PySem.W.Frag} {h : Heap} {mg : Str → Option Value} {f : Addr} {oc : Value} {od an : Option Addr} {osl : Array (Option Value)} {kV doc pm cdv ct : Value} (X : K.In h) (G : h.Ns mainGlobals mg) (a : PySem.W.nsIn K mainGlobals "_law_cut_right" = some (some (.ref f))) (l : K.lookup f = some ⟨oc, od, .func (PySem.W.fnOf "_law_cut_right" "_law_cut_right" (defArgs sLcut_right) (defBody sLcut_right) (defScope sLcut_right) .none kV doc pm an cdv ct), osl⟩) (c : PySem.W.codeIn K cdv "_law_cut_right" = true) (k : PySem.W.keepIn K (.ref f) = true) : Raw K mg "_law_cut_right" sLcut_right ["_law_urn_here", "_law_hall", "_law_long_here", "_law_company_here"] :=
  ⟨f, _, PySem.W.mg_of X G a, fun_mk (st := sLcut_right) l c k, (fun_mk (st := sLcut_right) l c k).binds (ps := ["_law_urn_here", "_law_hall", "_law_long_here", "_law_company_here"]) (fun _ _ _ _ _ _ us hl => match us, hl with | [_, _, _, _], _ => rfl)⟩
theorem mk_R_lover_right {K : PySem.W.Frag} {h : Heap} {mg : Str → Option Value} {f : Addr} {oc : Value} {od an : Option Addr} {osl : Array (Option Value)} {kV doc pm cdv ct : Value} (X : K.In h) (G : h.Ns mainGlobals mg) (a : PySem.W.nsIn K mainGlobals "_law_over_right" = some (some (.ref f))) (l : K.lookup f = some ⟨oc, od, .func (PySem.W.fnOf "_law_over_right" "_law_over_right" (defArgs sLover_right) (defBody sLover_right) (defScope sLover_right) .none kV doc pm an cdv ct), osl⟩) (c : PySem.W.codeIn K cdv "_law_over_right" = true) (k : PySem.W.keepIn K (.ref f) = true) : Raw K mg "_law_over_right" sLover_right ["_law_urn_here", "_law_hall", "_law_company_here"] :=
  ⟨f, _, PySem.W.mg_of X G a, fun_mk (st := sLover_right) l c k, (fun_mk (st := sLover_right) l c k).binds (ps := ["_law_urn_here", "_law_hall", "_law_company_here"]) (fun _ _ _ _ _ _ us hl => match us, hl with | [_, _, _], _ => rfl)⟩
theorem mk_R_lback_right {K : PySem.W.Frag} {h : Heap} {mg : Str → Option Value} {f : Addr} {oc : Value} {od an : Option Addr} {osl : Array (Option Value)} {kV doc pm cdv ct : Value} (X : K.In h) (G : h.Ns mainGlobals mg) (a : PySem.W.nsIn K mainGlobals "_law_back_right" = some (some (.ref f))) (l : K.lookup f = some ⟨oc, od, .func (PySem.W.fnOf "_law_back_right" "_law_back_right" (defArgs sLback_right) (defBody sLback_right) (defScope sLback_right) .none kV doc pm an cdv ct), osl⟩) (c : PySem.W.codeIn K cdv "_law_back_right" = true) (k : PySem.W.keepIn K (.ref f) = true) : Raw K mg "_law_back_right" sLback_right ["_law_urn_here", "_law_hall", "_law_company_here"] :=
  ⟨f, _, PySem.W.mg_of X G a, fun_mk (st := sLback_right) l c k, (fun_mk (st := sLback_right) l c k).binds (ps := ["_law_urn_here", "_law_hall", "_law_company_here"]) (fun _ _ _ _ _ _ us hl => match us, hl with | [_, _, _], _ => rfl)⟩
theorem mk_R_leither_right {K : PySem.W.Frag} {h : Heap} {mg : Str → Option Value} {f : Addr} {oc : Value} {od an : Option Addr} {osl : Array (Option Value)} {kV doc pm cdv ct : Value} (X : K.In h) (G : h.Ns mainGlobals mg) (a : PySem.W.nsIn K mainGlobals "_law_either_right" = some (some (.ref f))) (l : K.lookup f = some ⟨oc, od, .func (PySem.W.fnOf "_law_either_right" "_law_either_right" (defArgs sLeither_right) (defBody sLeither_right) (defScope sLeither_right) .none kV doc pm an cdv ct), osl⟩) (c : PySem.W.codeIn K cdv "_law_either_right" = true) (k : PySem.W.keepIn K (.ref f) = true) : Raw K mg "_law_either_right" sLeither_right ["_law_urn_here", "_law_longs", "_law_company_here"] :=
  ⟨f, _, PySem.W.mg_of X G a, fun_mk (st := sLeither_right) l c k, (fun_mk (st := sLeither_right) l c k).binds (ps := ["_law_urn_here", "_law_longs", "_law_company_here"]) (fun _ _ _ _ _ _ us hl => match us, hl with | [_, _, _], _ => rfl)⟩
theorem all_txt {K : PySem.W.Frag} {h : Heap} {mg : Str → Option Value} {CS CO CH : Addr} {t1 t2 t3 t4 t5 : Tok} (X : K.In h) (G : h.Ns mainGlobals mg) (hMP : ∃ t, mg "MOST_PEOPLE" = some (.int 999999999999999999999999999999 t))
    (aS : PySem.W.nsIn K mainGlobals "Spot" = some (some (.ref CS))) (aO : PySem.W.nsIn K mainGlobals "Over" = some (some (.ref CO))) (aH : PySem.W.nsIn K mainGlobals "Hall" = some (some (.ref CH))) (iS : InstF K CS) (iO : InstF K CO) (cH : Cls K CH)
    (s1 : PySem.W.findIn K (.ref CS) "s8_said" = some none) (s2 : PySem.W.findIn K (.ref CS) "s8_number" = some none) (s3 : PySem.W.findIn K (.ref CS) "s8_many" = some none)
    (o1 : PySem.W.findIn K (.ref CO) "s8_times" = some none) (o2 : PySem.W.findIn K (.ref CO) "s8_parts" = some none) (o3 : PySem.W.findIn K (.ref CO) "s8_once" = some none) (o4 : PySem.W.findIn K (.ref CO) "s8_many" = some none)
    (h1 : PySem.W.findIn K (.ref CH) "s10_rows" = some none) (h2 : PySem.W.findIn K (.ref CH) "s10_done" = some none) (h3 : PySem.W.findIn K (.ref CH) "s10_undone" = some none)
    (kSS : PySem.W.kitOne K (.ref CS) (.ref CS) = some true) (kOS : PySem.W.kitOne K (.ref CO) (.ref CS) = some false) (kSO : PySem.W.kitOne K (.ref CS) (.ref CO) = some false) (kOO : PySem.W.kitOne K (.ref CO) (.ref CO) = some true) (ne : CS ≠ CO)
    (c1 : PySem.W.nsIn K mainGlobals "FEW" = some (some (.int 0 t1))) (c2 : PySem.W.nsIn K mainGlobals "TRUE" = some (some (.int 1 t2))) (c3 : PySem.W.nsIn K mainGlobals "MOST_LETTERS" = some (some (.int 8 t3)))
    (c4 : PySem.W.nsIn K mainGlobals "AGAIN" = some (some (.str "again" t4))) (c5 : PySem.W.nsIn K mainGlobals "LETTERS" = some (some (.str "abcdefghijklmnopqrstuvwxyz" t5)))
    (z_isinstance : PySem.W.nsIn K mainGlobals "isinstance" = some none)
    (z_len : PySem.W.nsIn K mainGlobals "len" = some none)
    (z_sum : PySem.W.nsIn K mainGlobals "sum" = some none)
    (z_min : PySem.W.nsIn K mainGlobals "min" = some none)
    (z_max : PySem.W.nsIn K mainGlobals "max" = some none)
    (z_abs : PySem.W.nsIn K mainGlobals "abs" = some none)
    (z_all : PySem.W.nsIn K mainGlobals "all" = some none)
    (z_sorted : PySem.W.nsIn K mainGlobals "sorted" = some none)
    (z_divmod : PySem.W.nsIn K mainGlobals "divmod" = some none)
    (z_dict : PySem.W.nsIn K mainGlobals "dict" = some none)
    (z_range : PySem.W.nsIn K mainGlobals "range" = some none)
    (z_int : PySem.W.nsIn K mainGlobals "int" = some none)
    (z_bool : PySem.W.nsIn K mainGlobals "bool" = some none)
    (z_tuple : PySem.W.nsIn K mainGlobals "tuple" = some none)
    (z_list : PySem.W.nsIn K mainGlobals "list" = some none)
    (z_str : PySem.W.nsIn K mainGlobals "str" = some none)
    : Txt K mg CS CO CH :=
  { iS := iS, iO := iO, cH := cH, s1 := s1, s2 := s2, s3 := s3, o1 := o1, o2 := o2, o3 := o3, o4 := o4, h1 := h1, h2 := h2, h3 := h3, kSS := kSS, kOS := kOS, kSO := kSO, kOO := kOO, ne := ne,
    mgCS := PySem.W.mg_of X G aS, mgCO := PySem.W.mg_of X G aO, mgCH := PySem.W.mg_of X G aH, c_MOST_PEOPLE := hMP, c_FEW := ⟨_, PySem.W.mg_of X G c1⟩, c_TRUE := ⟨_, PySem.W.mg_of X G c2⟩, c_MOST_LETTERS := ⟨_, PySem.W.mg_of X G c3⟩, c_AGAIN := ⟨_, PySem.W.mg_of X G c4⟩, c_LETTERS := ⟨_, PySem.W.mg_of X G c5⟩,
    b_isinstance := PySem.W.mg_none_of X G z_isinstance, b_len := PySem.W.mg_none_of X G z_len, b_sum := PySem.W.mg_none_of X G z_sum, b_min := PySem.W.mg_none_of X G z_min, b_max := PySem.W.mg_none_of X G z_max, b_abs := PySem.W.mg_none_of X G z_abs, b_all := PySem.W.mg_none_of X G z_all, b_sorted := PySem.W.mg_none_of X G z_sorted, b_divmod := PySem.W.mg_none_of X G z_divmod, b_dict := PySem.W.mg_none_of X G z_dict, b_range := PySem.W.mg_none_of X G z_range, b_int := PySem.W.mg_none_of X G z_int, b_bool := PySem.W.mg_none_of X G z_bool, b_tuple := PySem.W.mg_none_of X G z_tuple, b_list := PySem.W.mg_none_of X G z_list, b_str := PySem.W.mg_none_of X G z_str }
theorem law_mk {l : PySem.W.OpenLaw} {w : World} {K : PySem.W.Frag} {h : Heap} {mg : Str → Option Value} {fa CS CO CH f : Addr} {oc : Value} {od an : Option Addr} {osl : Array (Option Value)} {kV doc pm cdv ct : Value} (X : K.In h) (G : h.Ns mainGlobals mg) (hfa : mg "law" = some (.ref fa)) (T : Txt K mg CS CO CH) (R : Raws K mg CS CO CH)
    (a : PySem.W.nsIn K mainGlobals "law" = some (some (.ref f))) (lk : K.lookup f = some ⟨oc, od, .func (PySem.W.fnOf "law" "law" (defArgs sLaw) (defBody sLaw) (defScope sLaw) .none kV doc pm an cdv ct), osl⟩) (c : PySem.W.codeIn K cdv "law" = true) (k : PySem.W.keepIn K (.ref f) = true) :
    ∃ fd : FuncData, (∀ (s : Shared) (v : Value), BindsTo s fd ⟨[v], []⟩ [("_law_script", v)]) ∧ ∀ base : Heap, K.In base → base.Ns mainGlobals mg → FnOk l.prog w K mg base CX0 27 fa fd ["_law_script"] (spLaw K) := by
  have e := hfa.symm.trans (PySem.W.mg_of X G a)
  cases e
  exact ⟨PySem.W.fnOf "law" "law" (defArgs sLaw) (defBody sLaw) (defScope sLaw) .none kV doc pm an cdv ct, fun s v => .of_eq rfl, fun base _ _ => all_defs T R (fun_mk (st := sLaw) lk c k)⟩
/-- as the kit's, with what is told of the loose names -/
theorem walk {l : PySem.W.OpenLaw} {q : Program} {loose : List Str} {XP : (Str → Option Value) → Heap → Prop} {YP : World → Heap → Prop} {d : DefRec} {K : Params → PySem.W.Frag} (hn : l.most = some 63) (hdf : d.params.defaults = [])
    (hY : ∀ (w : World) (h : Heap), YP w h → (K w.params).In h)
    (F : ∀ (w : World) (mg : Str → Option Value) (fa : Addr) (h : Heap), (K w.params).In h → h.Ns mainGlobals mg → XP mg h → mg d.name = some (.ref fa) →
      ∃ fd : FuncData, (∀ (s : Shared) (u : Value), BindsTo s fd ⟨[u], []⟩ [("_law_script", u)]) ∧ ∀ base : Heap, (K w.params).In base → base.Ns mainGlobals mg → FnOk l.prog w (K w.params) mg base CX0 27 fa fd ["_law_script"] (spLaw (K w.params))) :
    PySem.W.WalkO q loose XP YP l.row.toRowW d [] (fun f vs => PySem.call f vs) := by
  refine Att.attach_call hn hdf fun w s₀ s₁ mg mb fa o pm cd doc a vs ns G Y ho hd hcd hmg hobj hints hlen hg => ?_
  have KX := hY w _ Y
  obtain ⟨fd, hb, hF⟩ := F w mg fa _ KX G.T.g G.X hmg
  exact law_call KX G.T.g G.T.b G.T.builtins G.T.nolimit hg hobj hints (Nat.le_trans hlen (by decide)) (⟨rfl, by decide, by decide⟩ : Room 27 callerA) hF hb (fun H _ hS => ⟨a, ns, rfl, hS, fun _ => rfl⟩) fun H e s' z => z
end Bo
set_option Elab.async false
set_option maxRecDepth 100000
open PySem PySem.W PyProof.Rows in
set_option maxRecDepth 100000 in
set_option maxHeartbeats 0 in
theorem PySem.Challenge.cw_boastrow_k87_whole_rows_cut_and_joined_holds : PySem.Challenge.rw_boastrow_k87_whole_rows_cut_and_joined.Holds := by
  w_on; o_law; k_head; (case hw => w_witness2)
  k_fill
  refine Bo.walk (l := PySem.Challenge.rw_boastrow_k87_whole_rows_cut_and_joined) rfl rfl (fun w h Y => PySem.W.kIn_of Y) ?F
  case F =>
    intro w mg fa h KX G hX hmg
    obtain ⟨v, hv, hr⟩ := hX.2.val (("MOST_PEOPLE" : Str), WData.int 999999999999999999999999999999) (List.mem_cons_self ..)
    obtain ⟨tMP, rfl, -⟩ := readsW_int_inv hr
    refine' Bo.law_mk KX G hmg ?T ?R ?a ?l ?c ?k
    case T =>
      refine' Bo.all_txt KX G ⟨tMP, hv⟩ ?aS ?aO ?aH ?iS ?iO ?cH ?s1 ?s2 ?s3 ?o1 ?o2 ?o3 ?o4 ?h1 ?h2 ?h3 ?kSS ?kOS ?kSO ?kOO ?ne ?c1 ?c2 ?c3 ?c4 ?c5 ?z_isinstance ?z_len ?z_sum ?z_min ?z_max ?z_abs ?z_all ?z_sorted ?z_divmod ?z_dict ?z_range ?z_int ?z_bool ?z_tuple ?z_list ?z_str
      (case aS => k_is)
      (case aO => k_is)
      (case aH => k_is)
      case iS =>
        refine' ⟨⟨?q1, ?q2, ?q3, ?q4⟩, ?q5, ?q6, ?q7, ?q8⟩
        (case q1 => k_is)
        (case q2 => k_is)
        (case q3 => k_is)
        (case q4 => k_is)
        (case q5 => k_is)
        (case q6 => k_is)
        (case q7 => k_is)
        (case q8 => k_is)
      case iO =>
        refine' ⟨⟨?q1, ?q2, ?q3, ?q4⟩, ?q5, ?q6, ?q7, ?q8⟩
        (case q1 => k_is)
        (case q2 => k_is)
        (case q3 => k_is)
        (case q4 => k_is)
        (case q5 => k_is)
        (case q6 => k_is)
        (case q7 => k_is)
        (case q8 => k_is)
      case cH =>
        refine' ⟨?q1, ?q2, ?q3, ?q4⟩
        (case q1 => k_is)
        (case q2 => k_is)
        (case q3 => k_is)
        (case q4 => k_is)
      (case s1 => k_is)
      (case s2 => k_is)
      (case s3 => k_is)
      (case o1 => k_is)
      (case o2 => k_is)
      (case o3 => k_is)
      (case o4 => k_is)
      (case h1 => k_is)
      (case h2 => k_is)
      (case h3 => k_is)
      (case c1 => k_is)
      (case c2 => k_is)
      (case c3 => k_is)
      (case c4 => k_is)
      (case c5 => k_is)
      (case z_isinstance => k_is)
      (case z_len => k_is)
      (case z_sum => k_is)
      (case z_min => k_is)
      (case z_max => k_is)
      (case z_abs => k_is)
      (case z_all => k_is)
      (case z_sorted => k_is)
      (case z_divmod => k_is)
      (case z_dict => k_is)
      (case z_range => k_is)
      (case z_int => k_is)
      (case z_bool => k_is)
      (case z_tuple => k_is)
      (case z_list => k_is)
      (case z_str => k_is)
      (case kSS => kit_is)
      (case kOS => kit_is)
      (case kSO => kit_is)
      (case kOO => kit_is)
      (case ne => decide)
    (case a => k_is)
    (case l => k_is)
    (case c => k_is)
    (case k => k_is)
    case R =>
      refine' ⟨?R_is_number, ?R_is_saying, ?R_need_number, ?R_need_saying, ?R_need_place, ?R_SpotI, ?R_laid_many, ?R_OverI, ?R_people_of, ?R_people_said, ?R_is_long, ?R_need_long, ?R_planted, ?R_tail, ?R_head, ?R_slim, ?R_about, ?R_over_and_over, ?R_through, ?R_through_over, ?R_wished, ?R_wished_over, ?R_far_total, ?R_parts_of, ?R_spot_at, ?R_total_of, ?R_lesser_slack, ?R_word_of, ?R_add_counts, ?R_is_name, ?R_need_name, ?R_need_few, ?R_HallI, ?R_hparts, ?R_hfree, ?R_hkeep, ?R_hbegin, ?R_hstep_in, ?R_hresay, ?R_hgo, ?R_hcut, ?R_hjoin_to, ?R_hsay_over, ?R_hturn_about, ?R_hundo, ?R_hnames, ?R_hpeople, ?R_htotal, ?R_hleast, ?R_hsaying, ?R_htogether, ?R_lurn, ?R_lball, ?R_lsaying, ?R_lpeople, ?R_lsayings, ?R_llong, ?R_lcompany, ?R_lfar, ?R_ltold, ?R_lcut_right, ?R_lover_right, ?R_lback_right, ?R_leither_right⟩
      case R_is_number =>
        refine' Bo.mk_R_is_number KX G ?a ?l ?c ?k
        (case a => k_is)
        (case l => k_is)
        (case c => k_is)
        (case k => k_is)
      case R_is_saying =>
        refine' Bo.mk_R_is_saying KX G ?a ?l ?c ?k
        (case a => k_is)
        (case l => k_is)
        (case c => k_is)
        (case k => k_is)
      case R_need_number =>
        refine' Bo.mk_R_need_number KX G ?a ?l ?c ?k
        (case a => k_is)
        (case l => k_is)
        (case c => k_is)
        (case k => k_is)
      case R_need_saying =>
        refine' Bo.mk_R_need_saying KX G ?a ?l ?c ?k
        (case a => k_is)
        (case l => k_is)
        (case c => k_is)
        (case k => k_is)
      case R_need_place =>
        refine' Bo.mk_R_need_place KX G ?a ?l ?c ?k
        (case a => k_is)
        (case l => k_is)
        (case c => k_is)
        (case k => k_is)
      case R_SpotI =>
        refine' Bo.mk_R_SpotI (PySem.W.mg_of KX G ?g) ?m ?a ?i ?j ?l ?c ?k
        (case g => k_is)
        (case m => k_is)
        (case a => k_is)
        (case i => k_is)
        (case j => k_is)
        (case l => k_is)
        (case c => k_is)
        (case k => k_is)
      case R_laid_many =>
        refine' Bo.mk_R_laid_many KX G ?a ?l ?c ?k
        (case a => k_is)
        (case l => k_is)
        (case c => k_is)
        (case k => k_is)
      case R_OverI =>
        refine' Bo.mk_R_OverI (PySem.W.mg_of KX G ?g) ?m ?a ?i ?j ?l ?c ?k
        (case g => k_is)
        (case m => k_is)
        (case a => k_is)
        (case i => k_is)
        (case j => k_is)
        (case l => k_is)
        (case c => k_is)
        (case k => k_is)
      case R_people_of =>
        refine' Bo.mk_R_people_of KX G ?a ?l ?c ?k
        (case a => k_is)
        (case l => k_is)
        (case c => k_is)
        (case k => k_is)
      case R_people_said =>
        refine' Bo.mk_R_people_said KX G ?a ?l ?c ?k
        (case a => k_is)
        (case l => k_is)
        (case c => k_is)
        (case k => k_is)
      case R_is_long =>
        refine' Bo.mk_R_is_long KX G ?a ?l ?c ?k
        (case a => k_is)
        (case l => k_is)
        (case c => k_is)
        (case k => k_is)
      case R_need_long =>
        refine' Bo.mk_R_need_long KX G ?a ?l ?c ?k
        (case a => k_is)
        (case l => k_is)
        (case c => k_is)
        (case k => k_is)
      case R_planted =>
        refine' Bo.mk_R_planted KX G ?a ?l ?c ?k
        (case a => k_is)
        (case l => k_is)
        (case c => k_is)
        (case k => k_is)
      case R_tail =>
        refine' Bo.mk_R_tail KX G ?a ?l ?c ?k
        (case a => k_is)
        (case l => k_is)
        (case c => k_is)
        (case k => k_is)
      case R_head =>
        refine' Bo.mk_R_head KX G ?a ?l ?c ?k
        (case a => k_is)
        (case l => k_is)
        (case c => k_is)
        (case k => k_is)
      case R_slim =>
        refine' Bo.mk_R_slim KX G ?a ?l ?c ?k
        (case a => k_is)
        (case l => k_is)
        (case c => k_is)
        (case k => k_is)
      case R_about =>
        refine' Bo.mk_R_about KX G ?a ?l ?c ?k
        (case a => k_is)
        (case l => k_is)
        (case c => k_is)
        (case k => k_is)
      case R_over_and_over =>
        refine' Bo.mk_R_over_and_over KX G ?a ?l ?c ?k
        (case a => k_is)
        (case l => k_is)
        (case c => k_is)
        (case k => k_is)
      case R_through =>
        refine' Bo.mk_R_through KX G ?a ?l ?c ?k
        (case a => k_is)
        (case l => k_is)
        (case c => k_is)
        (case k => k_is)
      case R_through_over =>
        refine' Bo.mk_R_through_over KX G ?a ?l ?c ?k
        (case a => k_is)
        (case l => k_is)
        (case c => k_is)
        (case k => k_is)
      case R_wished =>
        refine' Bo.mk_R_wished KX G ?a ?l ?c ?k
        (case a => k_is)
        (case l => k_is)
        (case c => k_is)
        (case k => k_is)
      case R_wished_over =>
        refine' Bo.mk_R_wished_over KX G ?a ?l ?c ?k
        (case a => k_is)
        (case l => k_is)
        (case c => k_is)
        (case k => k_is)
      case R_far_total =>
        refine' Bo.mk_R_far_total KX G ?a ?l ?c ?k
        (case a => k_is)
        (case l => k_is)
        (case c => k_is)
        (case k => k_is)
      case R_parts_of =>
        refine' Bo.mk_R_parts_of KX G ?a ?l ?c ?k
        (case a => k_is)
        (case l => k_is)
        (case c => k_is)
        (case k => k_is)
      case R_spot_at =>
        refine' Bo.mk_R_spot_at KX G ?a ?l ?c ?k
        (case a => k_is)
        (case l => k_is)
        (case c => k_is)
        (case k => k_is)
      case R_total_of =>
        refine' Bo.mk_R_total_of KX G ?a ?l ?c ?k
        (case a => k_is)
        (case l => k_is)
        (case c => k_is)
        (case k => k_is)
      case R_lesser_slack =>
        refine' Bo.mk_R_lesser_slack KX G ?a ?l ?c ?k
        (case a => k_is)
        (case l => k_is)
        (case c => k_is)
        (case k => k_is)
      case R_word_of =>
        refine' Bo.mk_R_word_of KX G ?a ?l ?c ?k
        (case a => k_is)
        (case l => k_is)
        (case c => k_is)
        (case k => k_is)
      case R_add_counts =>
        refine' Bo.mk_R_add_counts KX G ?a ?l ?c ?k
        (case a => k_is)
        (case l => k_is)
        (case c => k_is)
        (case k => k_is)
      case R_is_name =>
        refine' Bo.mk_R_is_name KX G ?a ?l ?c ?k
        (case a => k_is)
        (case l => k_is)
        (case c => k_is)
        (case k => k_is)
      case R_need_name =>
        refine' Bo.mk_R_need_name KX G ?a ?l ?c ?k
        (case a => k_is)
        (case l => k_is)
        (case c => k_is)
        (case k => k_is)
      case R_need_few =>
        refine' Bo.mk_R_need_few KX G ?a ?l ?c ?k
        (case a => k_is)
        (case l => k_is)
        (case c => k_is)
        (case k => k_is)
      case R_HallI =>
        refine' Bo.mk_R_HallI (PySem.W.mg_of KX G ?g) ?m ?a ?i ?j ?l ?c ?k
        (case g => k_is)
        (case m => k_is)
        (case a => k_is)
        (case i => k_is)
        (case j => k_is)
        (case l => k_is)
        (case c => k_is)
        (case k => k_is)
      case R_hparts =>
        refine' Bo.mk_R_hparts ?a ?i ?l ?c ?k
        (case a => k_is)
        (case i => k_is)
        (case l => k_is)
        (case c => k_is)
        (case k => k_is)
      case R_hfree =>
        refine' Bo.mk_R_hfree ?a ?i ?l ?c ?k
        (case a => k_is)
        (case i => k_is)
        (case l => k_is)
        (case c => k_is)
        (case k => k_is)
      case R_hkeep =>
        refine' Bo.mk_R_hkeep ?a ?i ?l ?c ?k
        (case a => k_is)
        (case i => k_is)
        (case l => k_is)
        (case c => k_is)
        (case k => k_is)
      case R_hbegin =>
        refine' Bo.mk_R_hbegin ?a ?i ?l ?c ?k
        (case a => k_is)
        (case i => k_is)
        (case l => k_is)
        (case c => k_is)
        (case k => k_is)
      case R_hstep_in =>
        refine' Bo.mk_R_hstep_in ?a ?i ?l ?c ?k
        (case a => k_is)
        (case i => k_is)
        (case l => k_is)
        (case c => k_is)
        (case k => k_is)
      case R_hresay =>
        refine' Bo.mk_R_hresay ?a ?i ?l ?c ?k
        (case a => k_is)
        (case i => k_is)
        (case l => k_is)
        (case c => k_is)
        (case k => k_is)
      case R_hgo =>
        refine' Bo.mk_R_hgo ?a ?i ?l ?c ?k
        (case a => k_is)
        (case i => k_is)
        (case l => k_is)
        (case c => k_is)
        (case k => k_is)
      case R_hcut =>
        refine' Bo.mk_R_hcut ?a ?i ?l ?c ?k
        (case a => k_is)
        (case i => k_is)
        (case l => k_is)
        (case c => k_is)
        (case k => k_is)
      case R_hjoin_to =>
        refine' Bo.mk_R_hjoin_to ?a ?i ?l ?c ?k
        (case a => k_is)
        (case i => k_is)
        (case l => k_is)
        (case c => k_is)
        (case k => k_is)
      case R_hsay_over =>
        refine' Bo.mk_R_hsay_over ?a ?i ?l ?c ?k
        (case a => k_is)
        (case i => k_is)
        (case l => k_is)
        (case c => k_is)
        (case k => k_is)
      case R_hturn_about =>
        refine' Bo.mk_R_hturn_about ?a ?i ?l ?c ?k
        (case a => k_is)
        (case i => k_is)
        (case l => k_is)
        (case c => k_is)
        (case k => k_is)
      case R_hundo =>
        refine' Bo.mk_R_hundo ?a ?i ?l ?c ?k
        (case a => k_is)
        (case i => k_is)
        (case l => k_is)
        (case c => k_is)
        (case k => k_is)
      case R_hnames =>
        refine' Bo.mk_R_hnames ?a ?i ?l ?c ?k
        (case a => k_is)
        (case i => k_is)
        (case l => k_is)
        (case c => k_is)
        (case k => k_is)
      case R_hpeople =>
        refine' Bo.mk_R_hpeople ?a ?i ?l ?c ?k
        (case a => k_is)
        (case i => k_is)
        (case l => k_is)
        (case c => k_is)
        (case k => k_is)
      case R_htotal =>
        refine' Bo.mk_R_htotal ?a ?i ?l ?c ?k
        (case a => k_is)
        (case i => k_is)
        (case l => k_is)
        (case c => k_is)
        (case k => k_is)
      case R_hleast =>
        refine' Bo.mk_R_hleast ?a ?i ?l ?c ?k
        (case a => k_is)
        (case i => k_is)
        (case l => k_is)
        (case c => k_is)
        (case k => k_is)
      case R_hsaying =>
        refine' Bo.mk_R_hsaying ?a ?i ?l ?c ?k
        (case a => k_is)
        (case i => k_is)
        (case l => k_is)
        (case c => k_is)
        (case k => k_is)
      case R_htogether =>
        refine' Bo.mk_R_htogether ?a ?i ?l ?c ?k
        (case a => k_is)
        (case i => k_is)
        (case l => k_is)
        (case c => k_is)
        (case k => k_is)
      case R_lurn =>
        refine' Bo.mk_R_lurn KX G ?a ?l ?c ?k
        (case a => k_is)
        (case l => k_is)
        (case c => k_is)
        (case k => k_is)
      case R_lball =>
        refine' Bo.mk_R_lball KX G ?a ?l ?c ?k
        (case a => k_is)
        (case l => k_is)
        (case c => k_is)
        (case k => k_is)
      case R_lsaying =>
        refine' Bo.mk_R_lsaying KX G ?a ?l ?c ?k
        (case a => k_is)
        (case l => k_is)
        (case c => k_is)
        (case k => k_is)
      case R_lpeople =>
        refine' Bo.mk_R_lpeople KX G ?a ?l ?c ?k
        (case a => k_is)
        (case l => k_is)
        (case c => k_is)
        (case k => k_is)
      case R_lsayings =>
        refine' Bo.mk_R_lsayings KX G ?a ?l ?c ?k
        (case a => k_is)
        (case l => k_is)
        (case c => k_is)
        (case k => k_is)
      case R_llong =>
        refine' Bo.mk_R_llong KX G ?a ?l ?c ?k
        (case a => k_is)
        (case l => k_is)
        (case c => k_is)
        (case k => k_is)
      case R_lcompany =>
        refine' Bo.mk_R_lcompany KX G ?a ?l ?c ?k
        (case a => k_is)
        (case l => k_is)
        (case c => k_is)
        (case k => k_is)
      case R_lfar =>
        refine' Bo.mk_R_lfar KX G ?a ?l ?c ?k
        (case a => k_is)
        (case l => k_is)
        (case c => k_is)
        (case k => k_is)
      case R_ltold =>
        refine' Bo.mk_R_ltold KX G ?a ?l ?c ?k
        (case a => k_is)
        (case l => k_is)
        (case c => k_is)
        (case k => k_is)
      case R_lcut_right =>
        refine' Bo.mk_R_lcut_right KX G ?a ?l ?c ?k
        (case a => k_is)
        (case l => k_is)
        (case c => k_is)
        (case k => k_is)
      case R_lover_right =>
        refine' Bo.mk_R_lover_right KX G ?a ?l ?c ?k
        (case a => k_is)
        (case l => k_is)
        (case c => k_is)
        (case k => k_is)
      case R_lback_right =>
        refine' Bo.mk_R_lback_right KX G ?a ?l ?c ?k
        (case a => k_is)
        (case l => k_is)
        (case c => k_is)
        (case k => k_is)
      case R_leither_right =>
        refine' Bo.mk_R_leither_right KX G ?a ?l ?c ?k
        (case a => k_is)
        (case l => k_is)
        (case c => k_is)
        (case k => k_is)
