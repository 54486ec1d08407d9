import PyProof.Rows.All
import Wide.All
import OpenK.AllK
import Wide.FinOn
import HandS.ForMost
import HandS.EndBits
import HandS.More
import HandS.CallLocal
import HandS.Wide
import HandS.TupAny
import HandS.Deep
import PySem.Challenge.RW_onlybuilt_k79_whole_steps_keep_the_shape
set_option Elab.async false
set_option linter.all false
set_option maxRecDepth 100000
set_option maxHeartbeats 4100000
/-! Plain law: statements, papers, steps, the machine; no program in sight. -/
namespace Ob
open PySem

/-- statements -/
inductive Sm where
  | lt (w : Str)
  | nv
  | an (a b : Sm)
  | or (a b : Sm)
  | th (a b : Sm)
  deriving DecidableEq

/-- papers without names -/
inductive Pp where
  | use (k : Nat)
  | pair (p q : Pp)
  | first (p : Pp)
  | second (p : Pp)
  | left (p : Pp) (b : Sm)
  | right (a : Sm) (p : Pp)
  | case (p q r : Pp) (c : Sm)
  | make (a : Sm) (p : Pp)
  | apply (p q : Pp)
  | escape (p : Pp) (c : Sm)

/-! ### what a statement means: a set -/
def Ty : Sm → Type
  | .lt _ => Empty
  | .nv => Empty
  | .an a b => Ty a × Ty b
  | .or a b => Ty a ⊕ Ty b
  | .th a b => Ty a → Ty b

/-- the givens, the newest first -/
def Env : List Sm → Type
  | [] => Unit
  | a :: g => Ty a × Env g

/-- the given of number k (the oldest is 0) -/
inductive Lk : (g : List Sm) → Nat → (a : Sm) → (Env g → Ty a) → Prop where
  | here {a : Sm} {g : List Sm} : Lk (a :: g) g.length a (fun e => e.1)
  | there {a b : Sm} {g : List Sm} {k : Nat} {f : Env g → Ty a} : Lk g k a f → Lk (b :: g) k a (fun e => f e.2)

def sel {A B C : Type} (f : A → C) (g : B → C) : A ⊕ B → C
  | .inl x => f x
  | .inr y => g y

/-- a paper shows a from the givens, and what it is worth -/
inductive Den : (g : List Sm) → Pp → (a : Sm) → (Env g → Ty a) → Prop where
  | use {g : List Sm} {k : Nat} {a : Sm} {f : Env g → Ty a} : Lk g k a f → Den g (.use k) a f
  | pair {g : List Sm} {p q : Pp} {a b : Sm} {f : Env g → Ty a} {h : Env g → Ty b} : Den g p a f → Den g q b h → Den g (.pair p q) (.an a b) (fun e => (f e, h e))
  | first {g : List Sm} {p : Pp} {a b : Sm} {f : Env g → Ty (.an a b)} : Den g p (.an a b) f → Den g (.first p) a (fun e => (f e).1)
  | second {g : List Sm} {p : Pp} {a b : Sm} {f : Env g → Ty (.an a b)} : Den g p (.an a b) f → Den g (.second p) b (fun e => (f e).2)
  | left {g : List Sm} {p : Pp} {a b : Sm} {f : Env g → Ty a} : Den g p a f → Den g (.left p b) (.or a b) (fun e => .inl (f e))
  | right {g : List Sm} {p : Pp} {a b : Sm} {f : Env g → Ty b} : Den g p b f → Den g (.right a p) (.or a b) (fun e => .inr (f e))
  | case {g : List Sm} {p q r : Pp} {a b c : Sm} {f : Env g → Ty (.or a b)} {h : Env (a :: g) → Ty c} {i : Env (b :: g) → Ty c} : Den g p (.or a b) f → Den (a :: g) q c h → Den (b :: g) r c i →
      Den g (.case p q r c) c (fun e => sel (fun x => h (x, e)) (fun y => i (y, e)) (f e))
  | make {g : List Sm} {p : Pp} {a b : Sm} {f : Env (a :: g) → Ty b} : Den (a :: g) p b f → Den g (.make a p) (.th a b) (fun e x => f (x, e))
  | apply {g : List Sm} {p q : Pp} {a b : Sm} {f : Env g → Ty (.th a b)} {h : Env g → Ty a} : Den g p (.th a b) f → Den g q a h → Den g (.apply p q) b (fun e => f e (h e))
  | escape {g : List Sm} {p : Pp} {c : Sm} {f : Env g → Ty .nv} : Den g p .nv f → Den g (.escape p c) c (fun e => Empty.elim (f e))

theorem Lk.here' {a : Sm} {g : List Sm} {k : Nat} (e : k = g.length) : Lk (a :: g) k a (fun e => e.1) := by
  subst e
  exact .here
theorem Lk.lt {g : List Sm} {k : Nat} {a : Sm} {f : Env g → Ty a} (h : Lk g k a f) : k < g.length := by
  induction h with
  | here => exact Nat.lt_succ_self _
  | there _ ih => exact Nat.lt_succ_of_lt ih

/-! ### papers measured, moved, put into one another -/
def size : Pp → Nat
  | .use _ => 1
  | .pair p q => size p + size q + 1
  | .first p => size p + 1
  | .second p => size p + 1
  | .left p _ => size p + 1
  | .right _ p => size p + 1
  | .case p q r _ => size p + size q + size r + 1
  | .make _ p => size p + 1
  | .apply p q => size p + size q + 1
  | .escape p _ => size p + 1

def deep : Pp → Nat
  | .use _ => 1
  | .pair p q => max (deep p) (deep q) + 1
  | .first p => deep p + 1
  | .second p => deep p + 1
  | .left p _ => deep p + 1
  | .right _ p => deep p + 1
  | .case p q r _ => max (deep p) (max (deep q) (deep r)) + 1
  | .make _ p => deep p + 1
  | .apply p q => max (deep p) (deep q) + 1
  | .escape p _ => deep p + 1

theorem size_pos : ∀ p : Pp, 1 ≤ size p
  | .use _ => Nat.le_refl _
  | .pair _ _ => Nat.le_add_left _ _
  | .first _ => Nat.le_add_left _ _
  | .second _ => Nat.le_add_left _ _
  | .left _ _ => Nat.le_add_left _ _
  | .right _ _ => Nat.le_add_left _ _
  | .case _ _ _ _ => Nat.le_add_left _ _
  | .make _ _ => Nat.le_add_left _ _
  | .apply _ _ => Nat.le_add_left _ _
  | .escape _ _ => Nat.le_add_left _ _
theorem deep_pos : ∀ p : Pp, 1 ≤ deep p
  | .use _ => Nat.le_refl _
  | .pair _ _ => Nat.le_add_left _ _
  | .first _ => Nat.le_add_left _ _
  | .second _ => Nat.le_add_left _ _
  | .left _ _ => Nat.le_add_left _ _
  | .right _ _ => Nat.le_add_left _ _
  | .case _ _ _ _ => Nat.le_add_left _ _
  | .make _ _ => Nat.le_add_left _ _
  | .apply _ _ => Nat.le_add_left _ _
  | .escape _ _ => Nat.le_add_left _ _
theorem deep_size (p : Pp) : deep p ≤ size p := by
  induction p <;> simp only [deep, size] <;> omega

def moved : Pp → Nat → Nat → Pp
  | .use k, n, m => if k < n then .use k else .use (k + m)
  | .pair p q, n, m => .pair (moved p n m) (moved q n m)
  | .first p, n, m => .first (moved p n m)
  | .second p, n, m => .second (moved p n m)
  | .left p b, n, m => .left (moved p n m) b
  | .right a p, n, m => .right a (moved p n m)
  | .case p q r c, n, m => .case (moved p n m) (moved q n m) (moved r n m) c
  | .make a p, n, m => .make a (moved p n m)
  | .apply p q, n, m => .apply (moved p n m) (moved q n m)
  | .escape p c, n, m => .escape (moved p n m) c

def putU : Pp → Nat → Pp → Nat → Pp
  | .use k, n, o, b => if k = n then moved o n b else .use (if n < k then k - 1 else k)
  | .pair p q, n, o, b => .pair (putU p n o b) (putU q n o b)
  | .first p, n, o, b => .first (putU p n o b)
  | .second p, n, o, b => .second (putU p n o b)
  | .left p c, n, o, b => .left (putU p n o b) c
  | .right a p, n, o, b => .right a (putU p n o b)
  | .case p q r c, n, o, b => .case (putU p n o b) (putU q n o (b + 1)) (putU r n o (b + 1)) c
  | .make a p, n, o, b => .make a (putU p n o (b + 1))
  | .apply p q, n, o, b => .apply (putU p n o b) (putU q n o b)
  | .escape p c, n, o, b => .escape (putU p n o b) c

theorem size_moved (n m : Nat) (p : Pp) : size (moved p n m) = size p := by
  induction p with
  | use k => simp only [moved]; split <;> rfl
  | _ => simp_all only [moved, size]
theorem deep_moved (n m : Nat) (p : Pp) : deep (moved p n m) = deep p := by
  induction p with
  | use k => simp only [moved]; split <;> rfl
  | _ => simp_all only [moved, deep]
theorem deep_putU (n : Nat) (o : Pp) (p : Pp) : ∀ b, deep (putU p n o b) + 1 ≤ deep p + deep o := by
  have ho := deep_pos o
  induction p with
  | use k =>
    intro b
    simp only [putU]
    split
    · rw [deep_moved]; simp only [deep]; omega
    · simp only [deep]; omega
  | pair p q ih1 ih2 | apply p q ih1 ih2 => intro b; have h1 := ih1 b; have h2 := ih2 b; simp only [putU, deep]; omega
  | first p ih | second p ih | left p _ ih | right _ p ih | escape p _ ih => intro b; have h1 := ih b; simp only [putU, deep]; omega
  | make _ p ih => intro b; have h1 := ih (b + 1); simp only [putU, deep]; omega
  | case p q r _ ih1 ih2 ih3 => intro b; have h1 := ih1 b; have h2 := ih2 (b + 1); have h3 := ih3 (b + 1); simp only [putU, deep]; omega

/-! ### steps -/
def joined (n : Nat) : Pp → Option Pp
  | .first (.pair p _) => some p
  | .second (.pair _ q) => some q
  | .apply (.make _ p) q => some (putU p n q 0)
  | .case (.left p _) q _ _ => some (putU q n p 0)
  | .case (.right _ p) _ r _ => some (putU r n p 0)
  | _ => none

/-- the left, the right part -/
def lhs : Sm → Sm
  | .an a _ | .or a _ | .th a _ => a
  | .lt w => .lt w
  | .nv => .nv
def rhs : Sm → Sm
  | .an _ b | .or _ b | .th _ b => b
  | .lt w => .lt w
  | .nv => .nv

/-- what a paper shows whose chief one shows d -/
def shownOf : Pp → Sm → Sm
  | .case _ _ _ c, _ => c
  | .escape _ c, _ => c
  | .first _, d => lhs d
  | _, d => rhs d

/-- the paper with an arm in the place of its chief one -/
def roundArm (n : Nat) : Pp → Pp → Pp
  | .first _, x => .first x
  | .second _, x => .second x
  | .apply _ q, x => .apply x (moved q n 1)
  | .case _ q r c, x => .case x (moved q n 1) (moved r n 1) c
  | .escape _ c, x => .escape x c
  | p, _ => p

def chief? : Pp → Option Pp
  | .first p | .second p | .apply p _ | .case p _ _ _ | .escape p _ => some p
  | _ => none

def lifted (n : Nat) (p : Pp) : Option Pp :=
  match chief? p with
  | some (.escape x d) => some (.escape x (shownOf p d))
  | some (.case x q r d) => some (.case x (roundArm n p q) (roundArm n p r) (shownOf p d))
  | _ => none

def stepHere (n : Nat) (p : Pp) : Option Pp :=
  match joined n p with
  | some x => some x
  | none => lifted n p

def step : Nat → Pp → Option Pp
  | _, .use _ => none
  | n, .pair p q => match step n p with
    | some x => some (.pair x q)
    | none => (step n q).map fun x => .pair p x
  | n, .first p => match stepHere n (.first p) with
    | some x => some x
    | none => (step n p).map .first
  | n, .second p => match stepHere n (.second p) with
    | some x => some x
    | none => (step n p).map .second
  | n, .left p b => (step n p).map fun x => .left x b
  | n, .right a p => (step n p).map fun x => .right a x
  | n, .case p q r c => match stepHere n (.case p q r c) with
    | some x => some x
    | none => match step n p with
      | some x => some (.case x q r c)
      | none => match step (n + 1) q with
        | some x => some (.case p x r c)
        | none => (step (n + 1) r).map fun x => .case p q x c
  | n, .make a p => (step (n + 1) p).map fun x => .make a x
  | n, .apply p q => match stepHere n (.apply p q) with
    | some x => some x
    | none => match step n p with
      | some x => some (.apply x q)
      | none => (step n q).map fun x => .apply p x
  | n, .escape p c => match stepHere n (.escape p c) with
    | some x => some x
    | none => (step n p).map fun x => .escape x c

/-! ### a paper moved, put in: what it is worth -/
/-- some givens stand between -/
def thin {E G : List Sm} : (D : List Sm) → Env (D ++ (E ++ G)) → Env (D ++ G)
  | [], e => dropE E e
  | _ :: D, e => (e.1, thin D e.2)
where
  dropE : (E : List Sm) → Env (E ++ G) → Env G
    | [], e => e
    | _ :: E, e => dropE E e.2

theorem lk_move {E G : List Sm} : ∀ (D : List Sm) {k : Nat} {a : Sm} {f : Env (D ++ G) → Ty a}, Lk (D ++ G) k a f →
    Lk (D ++ (E ++ G)) (if k < G.length then k else k + E.length) a (fun e => f (thin D e))
  | [], k, a, f, h => by
    have hk : k < G.length := h.lt
    rw [if_pos hk]
    have go : ∀ E : List Sm, Lk (E ++ G) k a (fun e => f (thin.dropE E e)) := fun E => by
      induction E with
      | nil => exact h
      | cons b E ih => exact .there ih
    exact go E
  | b :: D, k, a, f, h => by
    cases h with
    | here =>
      refine Lk.here' (g := D ++ (E ++ G)) ?_
      show (if (D ++ G).length < G.length then (D ++ G).length else (D ++ G).length + E.length) = _
      rw [if_neg (by rw [List.length_append]; omega)]
      simp only [List.length_append]
      omega
    | there h => exact .there (lk_move D h)

theorem den_move {E G : List Sm} {p : Pp} : ∀ (D : List Sm) {a : Sm} {f : Env (D ++ G) → Ty a}, Den (D ++ G) p a f →
    Den (D ++ (E ++ G)) (moved p G.length E.length) a (fun e => f (thin D e)) := by
  induction p with
  | use k =>
    intro D a f h
    cases h with
    | use h =>
      have q := lk_move (E := E) D h
      simp only [moved]
      split
      · rename_i hk
        rw [if_pos hk] at q
        exact .use q
      · rename_i hk
        rw [if_neg hk] at q
        exact .use q
  | pair p q ih1 ih2 =>
    intro D a f h
    cases h with
    | pair h1 h2 => exact .pair (ih1 D h1) (ih2 D h2)
  | first p ih =>
    intro D a f h
    cases h with
    | first h => exact .first (ih D h)
  | second p ih =>
    intro D a f h
    cases h with
    | second h => exact .second (ih D h)
  | left p b ih =>
    intro D a f h
    cases h with
    | left h => exact .left (ih D h)
  | right b p ih =>
    intro D a f h
    cases h with
    | right h => exact .right (ih D h)
  | case p q r c ih1 ih2 ih3 =>
    intro D a f h
    cases h with
    | case h1 h2 h3 => exact .case (ih1 D h1) (ih2 (_ :: D) h2) (ih3 (_ :: D) h3)
  | make b p ih =>
    intro D a f h
    cases h with
    | make h => exact .make (ih (_ :: D) h)
  | apply p q ih1 ih2 =>
    intro D a f h
    cases h with
    | apply h1 h2 => exact .apply (ih1 D h1) (ih2 D h2)
  | escape p c ih =>
    intro D a f h
    cases h with
    | escape h => exact .escape (ih D h)

/-- the given between is worth h -/
def ins {c : Sm} {G : List Sm} (h : Env G → Ty c) : (D : List Sm) → Env (D ++ G) → Env (D ++ c :: G)
  | [], e => (h e, e)
  | _ :: D, e => (e.1, ins h D e.2)
theorem ins_drop {c : Sm} {G : List Sm} (h : Env G → Ty c) : ∀ (D : List Sm) (e : Env (D ++ G)), thin.dropE (G := c :: G) D (ins h D e) = (h (thin.dropE D e), thin.dropE D e)
  | [], _ => rfl
  | _ :: D, e => ins_drop h D e.2

theorem lk_put {c : Sm} {G : List Sm} (h : Env G → Ty c) : ∀ (D : List Sm) {k : Nat} {a : Sm} {f : Env (D ++ c :: G) → Ty a}, Lk (D ++ c :: G) k a f → k ≠ G.length →
    Lk (D ++ G) (if G.length < k then k - 1 else k) a (fun e => f (ins h D e))
  | [], k, a, f, l, hk => by
    cases l with
    | here => exact absurd rfl hk
    | there l =>
      have h1 := l.lt
      rw [if_neg (by omega)]
      exact l
  | b :: D, k, a, f, l, hk => by
    cases l with
    | here =>
      refine Lk.here' (g := D ++ G) ?_
      show (if G.length < (D ++ c :: G).length then (D ++ c :: G).length - 1 else (D ++ c :: G).length) = _
      have e1 : (D ++ c :: G).length = (D ++ G).length + 1 := by simp only [List.length_append, List.length_cons]; omega
      have e2 : G.length < (D ++ c :: G).length := by simp only [List.length_append, List.length_cons]; omega
      rw [if_pos e2, e1, Nat.add_sub_cancel]
    | there l => exact .there (lk_put h D l hk)
theorem lk_at {c : Sm} {G : List Sm} : ∀ (D : List Sm) {a : Sm} {f : Env (D ++ c :: G) → Ty a}, Lk (D ++ c :: G) G.length a f → ∃ e : c = a, ∀ x, f x = e ▸ (thin.dropE (G := c :: G) D x).1
  | [], a, f, l => by
    generalize hn : G.length = n at l
    cases l with
    | here => exact ⟨rfl, fun _ => rfl⟩
    | there l => exact absurd l.lt (by omega)
  | b :: D, a, f, l => by
    generalize hn : G.length = n at l
    cases l with
    | here =>
      exfalso
      have e2 : G.length < (D ++ c :: G).length := by simp only [List.length_append, List.length_cons]; omega
      have : (D ++ c :: G).length = G.length := hn.symm
      omega
    | there l =>
      subst hn
      obtain ⟨e, q⟩ := lk_at D l
      exact ⟨e, fun x => q x.2⟩

theorem den_put {c : Sm} {G : List Sm} {o : Pp} {h : Env G → Ty c} (ho : Den G o c h) {p : Pp} : ∀ (D : List Sm) {a : Sm} {f : Env (D ++ c :: G) → Ty a}, Den (D ++ c :: G) p a f →
    Den (D ++ G) (putU p G.length o D.length) a (fun e => f (ins h D e)) := by
  induction p with
  | use k =>
    intro D a f d
    cases d with
    | use l =>
      simp only [putU]
      by_cases hk : k = G.length
      · rw [if_pos hk]
        subst hk
        obtain ⟨e, q⟩ := lk_at D l
        subst e
        have hm := den_move (E := D) (G := G) [] ho
        have eq : (fun e : Env (D ++ G) => f (ins h D e)) = fun e => h (thin.dropE D e) := by
          funext e
          rw [q (ins h D e), ins_drop]
        rw [eq]
        exact hm
      · rw [if_neg hk]
        exact .use (lk_put h D l hk)
  | pair p q ih1 ih2 =>
    intro D a f d
    cases d with
    | pair h1 h2 => exact .pair (ih1 D h1) (ih2 D h2)
  | first p ih =>
    intro D a f d
    cases d with
    | first d => exact .first (ih D d)
  | second p ih =>
    intro D a f d
    cases d with
    | second d => exact .second (ih D d)
  | left p b ih =>
    intro D a f d
    cases d with
    | left d => exact .left (ih D d)
  | right b p ih =>
    intro D a f d
    cases d with
    | right d => exact .right (ih D d)
  | case p q r c ih1 ih2 ih3 =>
    intro D a f d
    cases d with
    | case h1 h2 h3 => exact .case (ih1 D h1) (ih2 (_ :: D) h2) (ih3 (_ :: D) h3)
  | make b p ih =>
    intro D a f d
    cases d with
    | make d => exact .make (ih (_ :: D) d)
  | apply p q ih1 ih2 =>
    intro D a f d
    cases d with
    | apply h1 h2 => exact .apply (ih1 D h1) (ih2 D h2)
  | escape p c ih =>
    intro D a f d
    cases d with
    | escape d => exact .escape (ih D d)

theorem Den.to {g : List Sm} {p : Pp} {a : Sm} {f h : Env g → Ty a} (d : Den g p a f) (e : ∀ x, f x = h x) : Den g p a h := by
  have : f = h := funext e
  subst this
  exact d

/-! ### a step keeps what is shown and what it is worth -/
theorem den_joined {g : List Sm} {p x : Pp} {a : Sm} {f : Env g → Ty a} (d : Den g p a f) (h : joined g.length p = some x) : Den g x a f := by
  unfold joined at h
  split at h
  · cases h
    cases d with
    | first d => cases d with
      | pair d1 d2 => exact d1
  · cases h
    cases d with
    | second d => cases d with
      | pair d1 d2 => exact d2
  · cases h
    cases d with
    | apply d1 d2 => cases d1 with
      | make d1 => exact den_put d2 [] d1
  · cases h
    cases d with
    | case d1 d2 d3 => cases d1 with
      | left d1 => exact den_put d1 [] d2
  · cases h
    cases d with
    | case d1 d2 d3 => cases d1 with
      | right d1 => exact den_put d1 [] d3
  · cases h

theorem den_weak {g : List Sm} {b : Sm} {p : Pp} {a : Sm} {f : Env g → Ty a} (d : Den g p a f) : Den (b :: g) (moved p g.length 1) a (fun e => f e.2) := den_move (E := [b]) (G := g) [] d
theorem den_weak1 {g : List Sm} {b c : Sm} {p : Pp} {a : Sm} {f : Env (c :: g) → Ty a} (d : Den (c :: g) p a f) : Den (c :: b :: g) (moved p g.length 1) a (fun e => f (e.1, e.2.2)) := den_move (E := [b]) (G := g) [c] d

theorem sel_app {A B C E : Type} (f : A → C → E) (g : B → C → E) (z : A ⊕ B) (v : C) : sel (fun x => f x v) (fun y => g y v) z = sel f g z v := by cases z <;> rfl
theorem sel_sel {A B C D E : Type} (f : A → C ⊕ D) (g : B → C ⊕ D) (z : A ⊕ B) (u : C → E) (v : D → E) : sel (fun x => sel u v (f x)) (fun y => sel u v (g y)) z = sel u v (sel f g z) := by cases z <;> rfl
theorem sel_of {A B C E : Type} (k : C → E) (f : A → C) (g : B → C) (z : A ⊕ B) : sel (fun x => k (f x)) (fun y => k (g y)) z = k (sel f g z) := by cases z <;> rfl

theorem den_lifted {g : List Sm} {p x : Pp} {a : Sm} {f : Env g → Ty a} (d : Den g p a f) (h : lifted g.length p = some x) : Den g x a f := by
  cases d with
  | use _ => cases h
  | pair _ _ => cases h
  | left _ => cases h
  | right _ => cases h
  | make _ => cases h
  | first d =>
    cases d with
    | escape d => cases h; exact (Den.escape d).to fun e => Empty.elim (_root_.id (α := Empty) (by rename_i f; exact f e))
    | case d1 d2 d3 => cases h; exact (Den.case d1 (Den.first d2) (Den.first d3)).to fun e => sel_of Prod.fst _ _ _
    | _ => cases h
  | second d =>
    cases d with
    | escape d => cases h; exact (Den.escape d).to fun e => Empty.elim (_root_.id (α := Empty) (by rename_i f; exact f e))
    | case d1 d2 d3 => cases h; exact (Den.case d1 (Den.second d2) (Den.second d3)).to fun e => sel_of Prod.snd _ _ _
    | _ => cases h
  | apply d e =>
    cases d with
    | escape d => cases h; exact (Den.escape d).to fun e => Empty.elim (_root_.id (α := Empty) (by rename_i f; exact f e))
    | case d1 d2 d3 => cases h; exact (Den.case d1 (Den.apply d2 (den_weak e)) (Den.apply d3 (den_weak e))).to fun e => by (dsimp only; unfold sel; split <;> (rename_i q; rw [q]))
    | _ => cases h
  | escape d =>
    cases d with
    | escape d => cases h; exact (Den.escape d).to fun e => Empty.elim (_root_.id (α := Empty) (by rename_i f; exact f e))
    | case d1 d2 d3 => cases h; exact (Den.case d1 (Den.escape d2) (Den.escape d3)).to fun _ => sel_of Empty.elim _ _ _
    | _ => cases h
  | case d q r =>
    cases d with
    | escape d => cases h; exact (Den.escape d).to fun e => Empty.elim (_root_.id (α := Empty) (by rename_i f; exact f e))
    | case d1 d2 d3 => cases h; exact (Den.case d1 (Den.case d2 (den_weak1 q) (den_weak1 r)) (Den.case d3 (den_weak1 q) (den_weak1 r))).to fun e => by (dsimp only; conv => { lhs; unfold sel }; conv => { rhs; arg 3; unfold sel }; split <;> rfl)
    | _ => cases h

theorem den_here {g : List Sm} {p x : Pp} {a : Sm} {f : Env g → Ty a} (d : Den g p a f) (h : stepHere g.length p = some x) : Den g x a f := by
  unfold stepHere at h
  split at h
  · rename_i e
    cases h
    exact den_joined d e
  · exact den_lifted d h

theorem den_step {p : Pp} : ∀ {g : List Sm} {x : Pp} {a : Sm} {f : Env g → Ty a}, Den g p a f → step g.length p = some x → Den g x a f := by
  induction p with
  | use k => intro g x a f d h; cases h
  | pair p q ih1 ih2 =>
    intro g x a f d h
    cases d with
    | pair d1 d2 =>
      simp only [step] at h
      split at h
      · rename_i e; cases h; exact .pair (ih1 d1 e) d2
      · obtain ⟨y, e, rfl⟩ := Option.map_eq_some_iff.mp h
        exact .pair d1 (ih2 d2 e)
  | first p ih =>
    intro g x a f d h
    simp only [step] at h
    split at h
    · rename_i e; cases h; exact den_here d e
    · obtain ⟨y, e, rfl⟩ := Option.map_eq_some_iff.mp h
      cases d with
      | first d => exact .first (ih d e)
  | second p ih =>
    intro g x a f d h
    simp only [step] at h
    split at h
    · rename_i e; cases h; exact den_here d e
    · obtain ⟨y, e, rfl⟩ := Option.map_eq_some_iff.mp h
      cases d with
      | second d => exact .second (ih d e)
  | left p b ih =>
    intro g x a f d h
    simp only [step] at h
    obtain ⟨y, e, rfl⟩ := Option.map_eq_some_iff.mp h
    cases d with
    | left d => exact .left (ih d e)
  | right b p ih =>
    intro g x a f d h
    simp only [step] at h
    obtain ⟨y, e, rfl⟩ := Option.map_eq_some_iff.mp h
    cases d with
    | right d => exact .right (ih d e)
  | case p q r c ih1 ih2 ih3 =>
    intro g x a f d h
    simp only [step] at h
    split at h
    · rename_i e; cases h; exact den_here d e
    · cases d with
      | case d1 d2 d3 =>
        split at h
        · rename_i e; cases h; exact .case (ih1 d1 e) d2 d3
        · split at h
          · rename_i e; cases h; exact .case d1 (ih2 d2 e) d3
          · obtain ⟨y, e, rfl⟩ := Option.map_eq_some_iff.mp h
            exact .case d1 d2 (ih3 d3 e)
  | make b p ih =>
    intro g x a f d h
    simp only [step] at h
    obtain ⟨y, e, rfl⟩ := Option.map_eq_some_iff.mp h
    cases d with
    | make d => exact .make (ih d e)
  | apply p q ih1 ih2 =>
    intro g x a f d h
    simp only [step] at h
    split at h
    · rename_i e; cases h; exact den_here d e
    · cases d with
      | apply d1 d2 =>
        split at h
        · rename_i e; cases h; exact .apply (ih1 d1 e) d2
        · obtain ⟨y, e, rfl⟩ := Option.map_eq_some_iff.mp h
          exact .apply d1 (ih2 d2 e)
  | escape p c ih =>
    intro g x a f d h
    simp only [step] at h
    split at h
    · rename_i e; cases h; exact den_here d e
    · obtain ⟨y, e, rfl⟩ := Option.map_eq_some_iff.mp h
      cases d with
      | escape d => exact .escape (ih d e)

/-! ### how deep a step's paper is -/
theorem deep_joined {n : Nat} : ∀ {p x : Pp}, joined n p = some x → deep x ≤ size p
  | .first (.pair a b), _, e => by
    cases e
    have h1 := deep_size a
    simp only [size]; omega
  | .second (.pair a b), _, e => by
    cases e
    have h1 := deep_size b
    simp only [size]; omega
  | .apply (.make a p) q, _, e => by
    cases e
    have h1 := deep_size p
    have h2 := deep_size q
    have h3 := deep_putU n q p 0
    simp only [size]; omega
  | .case (.left p b) q r c, _, e => by
    cases e
    have h1 := deep_size p
    have h2 := deep_size q
    have h3 := deep_putU n p q 0
    simp only [size]; omega
  | .case (.right a p) q r c, _, e => by
    cases e
    have h1 := deep_size p
    have h2 := deep_size r
    have h3 := deep_putU n p r 0
    simp only [size]; omega
theorem deep_lifted {n : Nat} {p x : Pp} (h : lifted n p = some x) : deep x ≤ size p := by
  unfold lifted at h
  split at h
  · rename_i y t hc
    cases h
    cases p <;> simp only [chief?, Option.some.injEq, reduceCtorEq] at hc <;> subst hc <;> (have h1 := deep_size y; simp only [size, deep]; omega)
  · rename_i y q r t hc
    cases h
    have h1 := deep_size y
    have h2 := deep_size q
    have h3 := deep_size r
    have k1 := size_pos y
    have k2 := size_pos q
    have k3 := size_pos r
    cases p with
    | apply p z =>
      simp only [chief?, Option.some.injEq] at hc
      subst hc
      have h4 := deep_size z
      simp only [size, deep, roundArm, deep_moved]; omega
    | case p b c d =>
      simp only [chief?, Option.some.injEq] at hc
      subst hc
      have h4 := deep_size b
      have h5 := deep_size c
      simp only [size, deep, roundArm, deep_moved]; omega
    | first p | second p | escape p _ =>
      simp only [chief?, Option.some.injEq] at hc
      subst hc
      simp only [size, deep, roundArm]; omega
    | _ => simp only [chief?, reduceCtorEq] at hc
  · cases h
theorem deep_here {n : Nat} {p x : Pp} (h : stepHere n p = some x) : deep x ≤ size p := by
  unfold stepHere at h
  split at h
  · rename_i e
    cases h
    exact deep_joined e
  · exact deep_lifted h
theorem deep_step {p : Pp} : ∀ {n : Nat} {x : Pp}, step n p = some x → deep x ≤ size p := by
  induction p with
  | use k => intro n x h; cases h
  | pair p q ih1 ih2 =>
    intro n x h
    have h1 := deep_size p
    have h2 := deep_size q
    simp only [step] at h
    split at h
    · rename_i e; cases h; have := ih1 e; simp only [size, deep]; omega
    · obtain ⟨y, e, rfl⟩ := Option.map_eq_some_iff.mp h
      have := ih2 e; simp only [size, deep]; omega
  | first p ih | second p ih | escape p _ ih =>
    intro n x h
    simp only [step] at h
    split at h
    · rename_i e; cases h; exact deep_here e
    · obtain ⟨y, e, rfl⟩ := Option.map_eq_some_iff.mp h
      have := ih e; simp only [size, deep]; omega
  | left p _ ih | right _ p ih | make _ p ih =>
    intro n x h
    simp only [step] at h
    obtain ⟨y, e, rfl⟩ := Option.map_eq_some_iff.mp h
    have := ih e; simp only [size, deep]; omega
  | case p q r _ ih1 ih2 ih3 =>
    intro n x h
    have h1 := deep_size p
    have h2 := deep_size q
    have h3 := deep_size r
    simp only [step] at h
    split at h
    · rename_i e; cases h; exact deep_here e
    · split at h
      · rename_i e; cases h; have := ih1 e; simp only [size, deep]; omega
      · split at h
        · rename_i e; cases h; have := ih2 e; simp only [size, deep]; omega
        · obtain ⟨y, e, rfl⟩ := Option.map_eq_some_iff.mp h
          have := ih3 e; simp only [size, deep]; omega
  | apply p q ih1 ih2 =>
    intro n x h
    have h1 := deep_size p
    have h2 := deep_size q
    simp only [step] at h
    split at h
    · rename_i e; cases h; exact deep_here e
    · split at h
      · rename_i e; cases h; have := ih1 e; simp only [size, deep]; omega
      · obtain ⟨y, e, rfl⟩ := Option.map_eq_some_iff.mp h
        have := ih2 e; simp only [size, deep]; omega
end Ob
/-! Plain law: rows, the machine, papers made into rows. -/
namespace Ob
open PySem

inductive Rw where
  | take (k : Nat)
  | pair
  | first
  | second
  | left
  | right
  | make (i : Nat)
  | apply
  | case (i j : Nat)
  | escape
  | back
inductive Mv where
  | pair (u v : Mv)
  | left (u : Mv)
  | right (u : Mv)
  | make (i : Nat) (gs : List Mv)
/-- pile and ways: the uppermost first -/
structure Ms where
  pc : Nat
  gv : List Mv
  pl : List Mv
  ws : List (Nat × List Mv)
  rs : Bool

/-- one row, the place already one more -/
def deed : Rw → Ms → Option Ms
  | .take k, s => match s.gv[k]? with
    | some v => some { s with pl := v :: s.pl }
    | none => none
  | .pair, s => match s.pl with
    | v :: u :: r => some { s with pl := .pair u v :: r }
    | _ => none
  | .first, s => match s.pl with
    | .pair u _ :: r => some { s with pl := u :: r }
    | _ => none
  | .second, s => match s.pl with
    | .pair _ v :: r => some { s with pl := v :: r }
    | _ => none
  | .left, s => match s.pl with
    | u :: r => some { s with pl := .left u :: r }
    | _ => none
  | .right, s => match s.pl with
    | u :: r => some { s with pl := .right u :: r }
    | _ => none
  | .make i, s => some { s with pl := .make i s.gv :: s.pl }
  | .apply, s => match s.pl with
    | v :: .make i gs :: r => some { s with pc := i, gv := gs ++ [v], pl := r, ws := (s.pc, s.gv) :: s.ws }
    | _ => none
  | .case i j, s => match s.pl with
    | .left u :: r => some { s with pc := i, gv := s.gv ++ [u], pl := r, ws := (s.pc, s.gv) :: s.ws }
    | .right u :: r => some { s with pc := j, gv := s.gv ++ [u], pl := r, ws := (s.pc, s.gv) :: s.ws }
    | _ => none
  | .escape, _ => none
  | .back, s => match s.ws with
    | (c, g) :: r => some { s with pc := c, gv := g, ws := r }
    | [] => some { s with rs := true }

def mstep (rows : List Rw) (s : Ms) : Option Ms := match rows[s.pc]? with
  | some r => deed r { s with pc := s.pc + 1 }
  | none => none

/-- n rows done, none of them the last -/
inductive Run (rows : List Rw) : Ms → Nat → Ms → Prop where
  | nil (s : Ms) : Run rows s 0 s
  | cons {s s' t : Ms} {n : Nat} : mstep rows s = some s' → s'.rs = false → Run rows s' n t → Run rows s (n + 1) t
theorem Run.trans {rows : List Rw} {s t u : Ms} {n m : Nat} (a : Run rows s n t) (b : Run rows t m u) : Run rows s (n + m) u := by
  induction a with
  | nil => rw [Nat.zero_add]; exact b
  | cons h1 h2 _ ih => rw [Nat.add_right_comm]; exact .cons h1 h2 (ih b)
theorem Run.one {rows : List Rw} {s t : Ms} (h : mstep rows s = some t) (r : t.rs = false) : Run rows s 1 t := .cons h r (.nil _)
theorem mstep_at {rows : List Rw} {i : Nat} {r : Rw} (h : rows[i]? = some r) (gv pl : List Mv) (ws : List (Nat × List Mv)) (rs : Bool) : mstep rows ⟨i, gv, pl, ws, rs⟩ = deed r ⟨i + 1, gv, pl, ws, rs⟩ := by
  unfold mstep
  rw [h]

/-- the stretch of a paper, from i on, up to j -/
inductive Lay (rows : List Rw) : Nat → Pp → Nat → Prop where
  | use {i k : Nat} : rows[i]? = some (.take k) → Lay rows i (.use k) (i + 1)
  | pair {i j l : Nat} {p q : Pp} : Lay rows i p j → Lay rows j q l → rows[l]? = some .pair → Lay rows i (.pair p q) (l + 1)
  | first {i j : Nat} {p : Pp} : Lay rows i p j → rows[j]? = some .first → Lay rows i (.first p) (j + 1)
  | second {i j : Nat} {p : Pp} : Lay rows i p j → rows[j]? = some .second → Lay rows i (.second p) (j + 1)
  | left {i j : Nat} {p : Pp} {b : Sm} : Lay rows i p j → rows[j]? = some .left → Lay rows i (.left p b) (j + 1)
  | right {i j : Nat} {p : Pp} {a : Sm} : Lay rows i p j → rows[j]? = some .right → Lay rows i (.right a p) (j + 1)
  | case {i j a b k l : Nat} {p q r : Pp} {c : Sm} : Lay rows i p j → rows[j]? = some (.case a b) → Lay rows a q k → rows[k]? = some .back → Lay rows b r l → rows[l]? = some .back → Lay rows i (.case p q r c) (j + 1)
  | make {i a k : Nat} {p : Pp} {c : Sm} : rows[i]? = some (.make a) → Lay rows a p k → rows[k]? = some .back → Lay rows i (.make c p) (i + 1)
  | apply {i j l : Nat} {p q : Pp} : Lay rows i p j → Lay rows j q l → rows[l]? = some .apply → Lay rows i (.apply p q) (l + 1)
  | escape {i j : Nat} {p : Pp} {c : Sm} : Lay rows i p j → rows[j]? = some .escape → Lay rows i (.escape p c) (j + 1)

/-! ### values and what they are worth -/
/-- gone to i with these given, the machine comes back with w -/
def Ret (rows : List Rw) (i : Nat) (gv : List Mv) (w : Mv) : Prop := ∀ (c : Nat) (g pl : List Mv) (ws : List (Nat × List Mv)), ∃ n, Run rows ⟨i, gv, pl, (c, g) :: ws, false⟩ n ⟨c, g, w :: pl, ws, false⟩
def VR (rows : List Rw) : (a : Sm) → Mv → Ty a → Prop
  | .lt _, _, x => Empty.elim x
  | .nv, _, x => Empty.elim x
  | .an a b, v, x => ∃ u w, v = .pair u w ∧ VR rows a u x.1 ∧ VR rows b w x.2
  | .or a b, v, x => match x with
    | .inl y => ∃ u, v = .left u ∧ VR rows a u y
    | .inr y => ∃ u, v = .right u ∧ VR rows b u y
  | .th a b, v, f => ∃ i gs, v = .make i gs ∧ ∀ (u : Mv) (x : Ty a), VR rows a u x → ∃ w, VR rows b w (f x) ∧ Ret rows i (gs ++ [u]) w
def ER (rows : List Rw) : (g : List Sm) → Env g → List Mv → Prop
  | [], _, vs => vs = []
  | a :: g, e, vs => ∃ us v, vs = us ++ [v] ∧ VR rows a v e.1 ∧ ER rows g e.2 us
theorem ER.len {rows : List Rw} : ∀ {g : List Sm} {e : Env g} {vs : List Mv}, ER rows g e vs → vs.length = g.length
  | [], _, _, h => by
    have h : _ = [] := h
    rw [h]
    rfl
  | _ :: g, e, vs, h => by
    obtain ⟨us, v, rfl, _, h⟩ := h
    rw [List.length_append, h.len]
    rfl
theorem ER.look {rows : List Rw} {g : List Sm} {k : Nat} {a : Sm} {f : Env g → Ty a} (l : Lk g k a f) : ∀ {e : Env g} {vs : List Mv}, ER rows g e vs → ∃ v, vs[k]? = some v ∧ VR rows a v (f e) := by
  induction l with
  | here =>
    intro e vs h
    obtain ⟨us, v, rfl, h1, h2⟩ := h
    exact ⟨v, by rw [← h2.len]; simp, h1⟩
  | there l ih =>
    intro e vs h
    obtain ⟨us, v, rfl, h1, h2⟩ := h
    obtain ⟨u, q, r⟩ := ih h2
    refine ⟨u, ?_, r⟩
    rw [List.getElem?_append_left (by rw [h2.len]; exact l.lt)]
    exact q

/-- from i to j, one value more -/
def Does (rows : List Rw) (i j : Nat) (gv : List Mv) (w : Mv) : Prop := ∀ (pl : List Mv) (ws : List (Nat × List Mv)), ∃ n, Run rows ⟨i, gv, pl, ws, false⟩ n ⟨j, gv, w :: pl, ws, false⟩
theorem Does.ret {rows : List Rw} {i j : Nat} {gv : List Mv} {w : Mv} (d : Does rows i j gv w) (h : rows[j]? = some .back) : Ret rows i gv w := fun c g pl ws => by
  obtain ⟨n, r⟩ := d pl ((c, g) :: ws)
  exact ⟨n + 1, r.trans (.one (by rw [mstep_at h]; rfl) rfl)⟩

theorem machine_ok {rows : List Rw} {g : List Sm} {p : Pp} {a : Sm} {f : Env g → Ty a} (d : Den g p a f) : ∀ {i j : Nat} {e : Env g} {vs : List Mv}, Lay rows i p j → ER rows g e vs → ∃ w, VR rows a w (f e) ∧ Does rows i j vs w := by
  induction d with
  | use l =>
    intro i j e vs y r
    obtain ⟨v, h1, h2⟩ := r.look l
    refine ⟨v, h2, fun pl ws => ⟨1, ?_⟩⟩
    cases y with
    | use y => exact .one (by rw [mstep_at y]; simp only [deed, h1]) rfl
  | pair _ _ ih1 ih2 =>
    intro i j e vs y r
    cases y with
    | pair y1 y2 y3 =>
      obtain ⟨u, a1, b1⟩ := ih1 y1 r
      obtain ⟨w, a2, b2⟩ := ih2 y2 r
      refine ⟨.pair u w, ⟨u, w, rfl, a1, a2⟩, fun pl ws => ?_⟩
      obtain ⟨n, r1⟩ := b1 pl ws
      obtain ⟨m, r2⟩ := b2 (u :: pl) ws
      exact ⟨_, (r1.trans r2).trans (.one (by rw [mstep_at y3]; rfl) rfl)⟩
  | first _ ih =>
    intro i j e vs y r
    cases y with
    | first y y2 =>
      obtain ⟨u, ⟨v, w, rfl, a1, a2⟩, b⟩ := ih y r
      refine ⟨v, a1, fun pl ws => ?_⟩
      obtain ⟨n, r1⟩ := b pl ws
      exact ⟨_, r1.trans (.one (by rw [mstep_at y2]; rfl) rfl)⟩
  | second _ ih =>
    intro i j e vs y r
    cases y with
    | second y y2 =>
      obtain ⟨u, ⟨v, w, rfl, a1, a2⟩, b⟩ := ih y r
      refine ⟨w, a2, fun pl ws => ?_⟩
      obtain ⟨n, r1⟩ := b pl ws
      exact ⟨_, r1.trans (.one (by rw [mstep_at y2]; rfl) rfl)⟩
  | left _ ih =>
    intro i j e vs y r
    cases y with
    | left y y2 =>
      obtain ⟨u, a1, b⟩ := ih y r
      refine ⟨.left u, ⟨u, rfl, a1⟩, fun pl ws => ?_⟩
      obtain ⟨n, r1⟩ := b pl ws
      exact ⟨_, r1.trans (.one (by rw [mstep_at y2]; rfl) rfl)⟩
  | right _ ih =>
    intro i j e vs y r
    cases y with
    | right y y2 =>
      obtain ⟨u, a1, b⟩ := ih y r
      refine ⟨.right u, ⟨u, rfl, a1⟩, fun pl ws => ?_⟩
      obtain ⟨n, r1⟩ := b pl ws
      exact ⟨_, r1.trans (.one (by rw [mstep_at y2]; rfl) rfl)⟩
  | make _ ih =>
    intro i j e vs y r
    cases y with
    | make y y2 y3 =>
      rename_i k _
      refine ⟨.make k vs, ⟨k, vs, rfl, fun u x h => ?_⟩, fun pl ws => ⟨1, .one (by rw [mstep_at y]; rfl) rfl⟩⟩
      obtain ⟨w, a1, b⟩ := ih (e := (x, e)) (vs := vs ++ [u]) y2 ⟨vs, u, rfl, h, r⟩
      exact ⟨w, a1, b.ret y3⟩
  | apply _ _ ih1 ih2 =>
    intro i j e vs y r
    cases y with
    | apply y1 y2 y3 =>
      obtain ⟨u, ⟨k, gs, rfl, a1⟩, b1⟩ := ih1 y1 r
      obtain ⟨v, a2, b2⟩ := ih2 y2 r
      obtain ⟨w, a3, b3⟩ := a1 v _ a2
      refine ⟨w, a3, fun pl ws => ?_⟩
      obtain ⟨n, r1⟩ := b1 pl ws
      obtain ⟨m, r2⟩ := b2 (.make k gs :: pl) ws
      rename_i l
      obtain ⟨o, r3⟩ := b3 (l + 1) vs pl ws
      exact ⟨_, ((r1.trans r2).trans (.one (by rw [mstep_at y3]; rfl) rfl)).trans r3⟩
  | escape _ ih =>
    intro i j e vs y r
    rename_i f _
    exact Empty.elim (f e)
  | case _ _ _ ih1 ih2 ih3 =>
    intro i j e vs y r
    rename_i f h1 h2 _ _ _
    cases y with
    | case y1 y2 y3 y4 y5 y6 =>
      obtain ⟨u, a1, b1⟩ := ih1 y1 r
      show ∃ w, VR rows _ w (sel (fun x => h1 (x, e)) (fun y => h2 (y, e)) (f e)) ∧ _
      generalize f e = z at a1
      cases z with
      | inl x =>
        obtain ⟨v, rfl, a1⟩ := a1
        obtain ⟨w, a2, b2⟩ := ih2 (e := (x, e)) (vs := vs ++ [v]) y3 ⟨vs, v, rfl, a1, r⟩
        refine ⟨w, a2, fun pl ws => ?_⟩
        obtain ⟨n, r1⟩ := b1 pl ws
        obtain ⟨m, r2⟩ := (b2.ret y4) _ vs pl ws
        exact ⟨_, (r1.trans (.one (by rw [mstep_at y2]; rfl) rfl)).trans r2⟩
      | inr x =>
        obtain ⟨v, rfl, a1⟩ := a1
        obtain ⟨w, a2, b2⟩ := ih3 (e := (x, e)) (vs := vs ++ [v]) y5 ⟨vs, v, rfl, a1, r⟩
        refine ⟨w, a2, fun pl ws => ?_⟩
        obtain ⟨n, r1⟩ := b1 pl ws
        obtain ⟨m, r2⟩ := (b2.ret y6) _ vs pl ws
        exact ⟨_, (r1.trans (.one (by rw [mstep_at y2]; rfl) rfl)).trans r2⟩

/-! ### shapes -/
inductive Sh where
  | pair (s t : Sh)
  | left (s : Sh)
  | right (s : Sh)
  | make
  deriving DecidableEq
def shOf : Mv → Sh
  | .pair u v => .pair (shOf u) (shOf v)
  | .left u => .left (shOf u)
  | .right u => .right (shOf u)
  | .make _ _ => .make
def shDen : (a : Sm) → Ty a → Sh
  | .lt _, x => Empty.elim x
  | .nv, x => Empty.elim x
  | .an a b, x => .pair (shDen a x.1) (shDen b x.2)
  | .or a b, x => match x with
    | .inl y => .left (shDen a y)
    | .inr y => .right (shDen b y)
  | .th _ _, _ => .make
def isOf : Sh → Sm → Bool
  | .pair s t, .an a b => isOf s a && isOf t b
  | .left s, .or a _ => isOf s a
  | .right s, .or _ b => isOf s b
  | .make, .th _ _ => true
  | _, _ => false
theorem shape_vr {rows : List Rw} : ∀ {a : Sm} {v : Mv} {x : Ty a}, VR rows a v x → shOf v = shDen a x
  | .lt _, _, x, _ => Empty.elim x
  | .nv, _, x, _ => Empty.elim x
  | .an a b, v, x, h => by
    obtain ⟨u, w, rfl, h1, h2⟩ := h
    simp only [shOf, shDen, shape_vr h1, shape_vr h2]
  | .or a b, v, .inl y, h => by
    obtain ⟨u, rfl, h1⟩ := h
    simp only [shOf, shDen, shape_vr h1]
  | .or a b, v, .inr y, h => by
    obtain ⟨u, rfl, h1⟩ := h
    simp only [shOf, shDen, shape_vr h1]
  | .th a b, v, x, h => by
    obtain ⟨i, gs, rfl, _⟩ := h
    simp only [shOf, shDen]
theorem isOf_den : ∀ (a : Sm) (x : Ty a), isOf (shDen a x) a = true
  | .lt _, x => Empty.elim x
  | .nv, x => Empty.elim x
  | .an a b, x => by simp only [shDen, isOf, isOf_den a x.1, isOf_den b x.2, Bool.and_self]
  | .or a b, .inl y => by simp only [shDen, isOf, isOf_den a y]
  | .or a b, .inr y => by simp only [shDen, isOf, isOf_den b y]
  | .th a b, x => rfl

/-- how deep a statement, a shape is -/
def sdeep : Sm → Nat
  | .lt _ => 1
  | .nv => 1
  | .an a b => max (sdeep a) (sdeep b) + 1
  | .or a b => max (sdeep a) (sdeep b) + 1
  | .th a b => max (sdeep a) (sdeep b) + 1
def hdeep : Sh → Nat
  | .pair s t => max (hdeep s) (hdeep t) + 1
  | .left s => hdeep s + 1
  | .right s => hdeep s + 1
  | .make => 1
theorem hdeep_le : ∀ {s : Sh} {a : Sm}, isOf s a = true → hdeep s ≤ sdeep a
  | .pair s t, .an a b, h => by
    simp only [isOf, Bool.and_eq_true] at h
    have h1 := hdeep_le h.1
    have h2 := hdeep_le h.2
    simp only [hdeep, sdeep]; omega
  | .left s, .or a b, h => by
    have h1 := hdeep_le (s := s) (a := a) h
    simp only [hdeep, sdeep]; omega
  | .right s, .or a b, h => by
    have h1 := hdeep_le (s := s) (a := b) h
    simp only [hdeep, sdeep]; omega
  | .make, .th a b, _ => by simp only [hdeep, sdeep]; omega

/-- the machine's whole run: n rows, then the last one -/
theorem whole {rows : List Rw} {p : Pp} {a : Sm} {f : Env [] → Ty a} (d : Den [] p a f) {j : Nat} (y : Lay rows 0 p j) (b : rows[j]? = some .back) :
    ∃ n v, shOf v = shDen a (f ()) ∧ Run rows ⟨0, [], [], [], false⟩ n ⟨j, [], [v], [], false⟩ ∧ mstep rows ⟨j, [], [v], [], false⟩ = some ⟨j + 1, [], [v], [], true⟩ := by
  obtain ⟨v, h1, h2⟩ := machine_ok d (e := ()) (vs := []) y rfl
  obtain ⟨n, r⟩ := h2 [] []
  exact ⟨n, v, shape_vr h1, r, by rw [mstep_at b]; rfl⟩

/-! ### a paper made into rows -/
/-- rows and what stands apart, numbered -/
def lay : Pp → List Rw × List Pp → List Rw × List Pp
  | .use k, st => (st.1 ++ [.take k], st.2)
  | .make _ p, st => (st.1 ++ [.make st.2.length], st.2 ++ [p])
  | .case p q r _, st => ((lay p st).1 ++ [.case (lay p st).2.length ((lay p st).2.length + 1)], (lay p st).2 ++ [q, r])
  | .pair p q, st => ((lay q (lay p st)).1 ++ [.pair], (lay q (lay p st)).2)
  | .apply p q, st => ((lay q (lay p st)).1 ++ [.apply], (lay q (lay p st)).2)
  | .first p, st => ((lay p st).1 ++ [.first], (lay p st).2)
  | .second p, st => ((lay p st).1 ++ [.second], (lay p st).2)
  | .left p _, st => ((lay p st).1 ++ [.left], (lay p st).2)
  | .right _ p, st => ((lay p st).1 ++ [.right], (lay p st).2)
  | .escape p _, st => ((lay p st).1 ++ [.escape], (lay p st).2)
/-- with the places in the place of the numbers -/
def setl (bg : List Nat) : Rw → Rw
  | .make t => .make (bg.getD t 0)
  | .case t u => .case (bg.getD t 0) (bg.getD u 0)
  | r => r

/-- the same by numbers -/
inductive LayU (rows : List Rw) (td : List Pp) : Nat → Pp → Nat → Prop where
  | use {i k : Nat} : rows[i]? = some (.take k) → LayU rows td i (.use k) (i + 1)
  | pair {i j l : Nat} {p q : Pp} : LayU rows td i p j → LayU rows td j q l → rows[l]? = some .pair → LayU rows td i (.pair p q) (l + 1)
  | first {i j : Nat} {p : Pp} : LayU rows td i p j → rows[j]? = some .first → LayU rows td i (.first p) (j + 1)
  | second {i j : Nat} {p : Pp} : LayU rows td i p j → rows[j]? = some .second → LayU rows td i (.second p) (j + 1)
  | left {i j : Nat} {p : Pp} {b : Sm} : LayU rows td i p j → rows[j]? = some .left → LayU rows td i (.left p b) (j + 1)
  | right {i j : Nat} {p : Pp} {a : Sm} : LayU rows td i p j → rows[j]? = some .right → LayU rows td i (.right a p) (j + 1)
  | case {i j t u : Nat} {p q r : Pp} {c : Sm} : LayU rows td i p j → rows[j]? = some (.case t u) → td[t]? = some q → td[u]? = some r → LayU rows td i (.case p q r c) (j + 1)
  | make {i t : Nat} {p : Pp} {c : Sm} : rows[i]? = some (.make t) → td[t]? = some p → LayU rows td i (.make c p) (i + 1)
  | apply {i j l : Nat} {p q : Pp} : LayU rows td i p j → LayU rows td j q l → rows[l]? = some .apply → LayU rows td i (.apply p q) (l + 1)
  | escape {i j : Nat} {p : Pp} {c : Sm} : LayU rows td i p j → rows[j]? = some .escape → LayU rows td i (.escape p c) (j + 1)
theorem LayU.mono {rows rows' : List Rw} {td td' : List Pp} (h1 : ∀ (i : Nat) r, rows[i]? = some r → rows'[i]? = some r) (h2 : ∀ (i : Nat) r, td[i]? = some r → td'[i]? = some r) {i j : Nat} {p : Pp} (h : LayU rows td i p j) : LayU rows' td' i p j := by
  induction h with
  | use a => exact .use (h1 _ _ a)
  | pair _ _ a b c => exact .pair b c (h1 _ _ a)
  | first _ a b => exact .first b (h1 _ _ a)
  | second _ a b => exact .second b (h1 _ _ a)
  | left _ a b => exact .left b (h1 _ _ a)
  | right _ a b => exact .right b (h1 _ _ a)
  | case _ a b c d => exact .case d (h1 _ _ a) (h2 _ _ b) (h2 _ _ c)
  | make a b => exact .make (h1 _ _ a) (h2 _ _ b)
  | apply _ _ a b c => exact .apply b c (h1 _ _ a)
  | escape _ a b => exact .escape b (h1 _ _ a)
def Ext {α : Type} (l l' : List α) : Prop := ∃ r, l' = l ++ r
theorem Ext.get {α : Type} {l l' : List α} (h : Ext l l') : ∀ (i : Nat) r, l[i]? = some r → l'[i]? = some r := by
  obtain ⟨r, rfl⟩ := h
  intro i x e
  rw [List.getElem?_append_left (List.getElem?_eq_some_iff.mp e).1]
  exact e
theorem Ext.refl {α : Type} (l : List α) : Ext l l := ⟨[], (List.append_nil l).symm⟩
theorem Ext.trans {α : Type} {l m n : List α} (a : Ext l m) (b : Ext m n) : Ext l n := by
  obtain ⟨r, rfl⟩ := a
  obtain ⟨s, rfl⟩ := b
  exact ⟨r ++ s, List.append_assoc _ _ _⟩
theorem Ext.app {α : Type} {l m : List α} (a : Ext l m) (r : List α) : Ext l (m ++ r) := a.trans ⟨r, rfl⟩
theorem get_end {α : Type} (l : List α) (x : α) : (l ++ [x])[l.length]? = some x := by simp
theorem lay_ok : ∀ (p : Pp) (st : List Rw × List Pp), LayU (lay p st).1 (lay p st).2 st.1.length p (lay p st).1.length ∧ Ext st.1 (lay p st).1 ∧ Ext st.2 (lay p st).2
  | .use k, st => by
    simp only [lay, List.length_append, List.length_cons, List.length_nil]
    exact ⟨.use (get_end _ _), ⟨_, rfl⟩, .refl _⟩
  | .make c p, st => by
    simp only [lay, List.length_append, List.length_cons, List.length_nil]
    exact ⟨.make (get_end _ _) (get_end _ _), ⟨_, rfl⟩, ⟨_, rfl⟩⟩
  | .case p q r c, st => by
    obtain ⟨a, b, d⟩ := lay_ok p st
    simp only [lay, List.length_append, List.length_cons, List.length_nil]
    exact ⟨.case (a.mono (Ext.get ⟨_, rfl⟩) (Ext.get ⟨_, rfl⟩)) (get_end _ _) (by simp) (by simp), b.app _, d.app _⟩
  | .pair p q, st => by
    obtain ⟨a, b, d⟩ := lay_ok p st
    obtain ⟨a2, b2, d2⟩ := lay_ok q (lay p st)
    simp only [lay, List.length_append, List.length_cons, List.length_nil]
    exact ⟨.pair (a.mono (b2.app _).get d2.get) (a2.mono (Ext.get ⟨_, rfl⟩) (Ext.get (.refl _))) (get_end _ _), (b.trans b2).app _, d.trans d2⟩
  | .apply p q, st => by
    obtain ⟨a, b, d⟩ := lay_ok p st
    obtain ⟨a2, b2, d2⟩ := lay_ok q (lay p st)
    simp only [lay, List.length_append, List.length_cons, List.length_nil]
    exact ⟨.apply (a.mono (b2.app _).get d2.get) (a2.mono (Ext.get ⟨_, rfl⟩) (Ext.get (.refl _))) (get_end _ _), (b.trans b2).app _, d.trans d2⟩
  | .first p, st => by
    obtain ⟨a, b, d⟩ := lay_ok p st
    simp only [lay, List.length_append, List.length_cons, List.length_nil]
    exact ⟨.first (a.mono (Ext.get ⟨_, rfl⟩) (Ext.get (.refl _))) (get_end _ _), b.app _, d⟩
  | .second p, st => by
    obtain ⟨a, b, d⟩ := lay_ok p st
    simp only [lay, List.length_append, List.length_cons, List.length_nil]
    exact ⟨.second (a.mono (Ext.get ⟨_, rfl⟩) (Ext.get (.refl _))) (get_end _ _), b.app _, d⟩
  | .left p _, st => by
    obtain ⟨a, b, d⟩ := lay_ok p st
    simp only [lay, List.length_append, List.length_cons, List.length_nil]
    exact ⟨.left (a.mono (Ext.get ⟨_, rfl⟩) (Ext.get (.refl _))) (get_end _ _), b.app _, d⟩
  | .right _ p, st => by
    obtain ⟨a, b, d⟩ := lay_ok p st
    simp only [lay, List.length_append, List.length_cons, List.length_nil]
    exact ⟨.right (a.mono (Ext.get ⟨_, rfl⟩) (Ext.get (.refl _))) (get_end _ _), b.app _, d⟩
  | .escape p _, st => by
    obtain ⟨a, b, d⟩ := lay_ok p st
    simp only [lay, List.length_append, List.length_cons, List.length_nil]
    exact ⟨.escape (a.mono (Ext.get ⟨_, rfl⟩) (Ext.get (.refl _))) (get_end _ _), b.app _, d⟩

/-- how much is still to be done -/
def todoSize (td : List Pp) : Nat := (td.map size).sum
theorem lay_size : ∀ (p : Pp) (st : List Rw × List Pp), (lay p st).1.length + todoSize (lay p st).2 ≤ st.1.length + todoSize st.2 + size p ∧ st.1.length < (lay p st).1.length ∧ st.2.length ≤ (lay p st).2.length
  | .use k, st => by simp only [lay, List.length_append, List.length_cons, List.length_nil, size]; omega
  | .make c p, st => by simp only [lay, todoSize, List.length_append, List.length_cons, List.length_nil, size, List.map_append, List.sum_append, List.map_cons, List.map_nil, List.sum_cons, List.sum_nil]; omega
  | .case p q r c, st => by
    have h := lay_size p st
    simp only [lay, todoSize, List.length_append, List.length_cons, List.length_nil, size, List.map_append, List.sum_append, List.map_cons, List.map_nil, List.sum_cons, List.sum_nil] at h ⊢
    omega
  | .pair p q, st => by
    have h := lay_size p st
    have h2 := lay_size q (lay p st)
    simp only [lay, todoSize, List.length_append, List.length_cons, List.length_nil, size] at h h2 ⊢
    omega
  | .apply p q, st => by
    have h := lay_size p st
    have h2 := lay_size q (lay p st)
    simp only [lay, todoSize, List.length_append, List.length_cons, List.length_nil, size] at h h2 ⊢
    omega
  | .first p, st => by
    have h := lay_size p st
    simp only [lay, todoSize, List.length_append, List.length_cons, List.length_nil, size] at h ⊢
    omega
  | .second p, st => by
    have h := lay_size p st
    simp only [lay, todoSize, List.length_append, List.length_cons, List.length_nil, size] at h ⊢
    omega
  | .left p _, st => by
    have h := lay_size p st
    simp only [lay, todoSize, List.length_append, List.length_cons, List.length_nil, size] at h ⊢
    omega
  | .right _ p, st => by
    have h := lay_size p st
    simp only [lay, todoSize, List.length_append, List.length_cons, List.length_nil, size] at h ⊢
    omega
  | .escape p _, st => by
    have h := lay_size p st
    simp only [lay, todoSize, List.length_append, List.length_cons, List.length_nil, size] at h ⊢
    omega

/-- the loop of the making: rows, what stands apart, where its first ones begin -/
structure Cst where
  rs : List Rw
  td : List Pp
  bg : List Nat
/-- one turn, for the next paper p -/
def cstep (s : Cst) (p : Pp) : Cst := ⟨(lay p (s.rs, s.td)).1 ++ [.back], (lay p (s.rs, s.td)).2, s.bg ++ [s.rs.length]⟩
/-- what holds between two turns -/
structure CI (p0 : Pp) (s : Cst) : Prop where
  hd : s.td[0]? = some p0
  b0 : s.bg ≠ [] → s.bg[0]? = some 0
  r0 : s.bg = [] → s.rs = []
  le : s.bg.length ≤ s.td.length
  it : ∀ (t i : Nat), s.bg[t]? = some i → ∃ p j, s.td[t]? = some p ∧ LayU s.rs s.td i p j ∧ s.rs[j]? = some .back
theorem CI.start (p : Pp) : CI p ⟨[], [p], []⟩ := ⟨rfl, fun h => absurd rfl h, fun _ => rfl, Nat.zero_le _, fun t i h => by simp at h⟩
theorem CI.turn {p0 p : Pp} {s : Cst} (c : CI p0 s) (h : s.td[s.bg.length]? = some p) : CI p0 (cstep s p) := by
  obtain ⟨a, b, d⟩ := lay_ok p (s.rs, s.td)
  have lt : s.bg.length < s.td.length := (List.getElem?_eq_some_iff.mp h).1
  refine ⟨d.get _ _ c.hd, fun _ => ?_, fun e => ?_, ?_, fun t i e => ?_⟩
  · by_cases e : s.bg = []
    · have r0 := c.r0 e
      simp only [cstep, e, r0]
      rfl
    · exact (Ext.get ⟨_, rfl⟩) _ _ (c.b0 e)
  · simp [cstep] at e
  · have h2 : s.td.length ≤ (lay p (s.rs, s.td)).2.length := (lay_size p (s.rs, s.td)).2.2
    simp only [cstep, List.length_append, List.length_cons, List.length_nil]
    omega
  · by_cases ht : t < s.bg.length
    · have e' : s.bg[t]? = some i := by
        simp only [cstep] at e
        rw [List.getElem?_append_left ht] at e
        exact e
      obtain ⟨p', j, h1, h2, h3⟩ := c.it t i e'
      exact ⟨p', j, d.get _ _ h1, h2.mono (b.app _).get d.get, (b.app _).get _ _ h3⟩
    · have et : t = s.bg.length := by
        have := (List.getElem?_eq_some_iff.mp e).1
        simp only [cstep, List.length_append, List.length_cons, List.length_nil] at this
        omega
      subst et
      have ei : i = s.rs.length := by
        simp only [cstep] at e
        rw [get_end] at e
        exact (Option.some.inj e).symm
      subst ei
      exact ⟨p, _, d.get _ _ h, a.mono (Ext.get ⟨_, rfl⟩) (Ext.get (.refl _)), get_end _ _⟩

theorem setl_get {rows : List Rw} {bg : List Nat} {i : Nat} {r : Rw} (h : rows[i]? = some r) : (rows.map (setl bg))[i]? = some (setl bg r) := by rw [List.getElem?_map, h]; rfl
theorem getD_of {bg : List Nat} {t i : Nat} (h : bg[t]? = some i) : bg.getD t 0 = i := by rw [List.getD_eq_getElem?_getD, h]; rfl
/-- at the end all is laid -/
theorem lay_end {p0 : Pp} {s : Cst} (c : CI p0 s) (e : s.bg.length = s.td.length) : ∀ (p : Pp) {i j : Nat}, LayU s.rs s.td i p j → Lay (s.rs.map (setl s.bg)) i p j := by
  have sub : ∀ {t : Nat} {p : Pp}, s.td[t]? = some p → ∃ i j, s.bg[t]? = some i ∧ LayU s.rs s.td i p j ∧ s.rs[j]? = some .back := fun {t p} h => by
    have lt := (List.getElem?_eq_some_iff.mp h).1
    have hb : s.bg[t]? = some (s.bg[t]'(by omega)) := List.getElem?_eq_getElem _
    obtain ⟨p', j, h1, h2, h3⟩ := c.it t _ hb
    rw [h] at h1
    cases h1
    exact ⟨_, j, hb, h2, h3⟩
  intro p
  induction p with
  | use k =>
    intro i j y
    cases y with
    | use a => exact .use (setl_get a)
  | pair p q ih1 ih2 =>
    intro i j y
    cases y with
    | pair a b d => exact .pair (ih1 a) (ih2 b) (setl_get d)
  | first p ih =>
    intro i j y
    cases y with
    | first a b => exact .first (ih a) (setl_get b)
  | second p ih =>
    intro i j y
    cases y with
    | second a b => exact .second (ih a) (setl_get b)
  | left p _ ih =>
    intro i j y
    cases y with
    | left a b => exact .left (ih a) (setl_get b)
  | right _ p ih =>
    intro i j y
    cases y with
    | right a b => exact .right (ih a) (setl_get b)
  | escape p _ ih =>
    intro i j y
    cases y with
    | escape a b => exact .escape (ih a) (setl_get b)
  | apply p q ih1 ih2 =>
    intro i j y
    cases y with
    | apply a b d => exact .apply (ih1 a) (ih2 b) (setl_get d)
  | make b p ih =>
    intro i j y
    cases y with
    | make a b =>
      obtain ⟨k, l, q1, q2, q3⟩ := sub b
      have z := setl_get (bg := s.bg) a
      simp only [setl, getD_of q1] at z
      exact .make z (ih q2) (setl_get q3)
  | case p q r _ ih1 ih2 ih3 =>
    intro i j y
    cases y with
    | case a b d f =>
      obtain ⟨k, l, q1, q2, q3⟩ := sub d
      obtain ⟨k', l', q1', q2', q3'⟩ := sub f
      have z := setl_get (bg := s.bg) b
      simp only [setl, getD_of q1, getD_of q1'] at z
      exact .case (ih1 a) z (ih2 q2) (setl_get q3) (ih3 q2') (setl_get q3')
theorem made {p : Pp} {s : Cst} (c : CI p s) (e : s.bg.length = s.td.length) : ∃ j, Lay (s.rs.map (setl s.bg)) 0 p j ∧ (s.rs.map (setl s.bg))[j]? = some .back := by
  have lt : 0 < s.td.length := (List.getElem?_eq_some_iff.mp c.hd).1
  have hb := c.b0 (fun z => by rw [z] at e; simp at e; omega)
  obtain ⟨p', j, h1, h2, h3⟩ := c.it 0 0 hb
  rw [c.hd] at h1
  cases h1
  exact ⟨j, lay_end c e _ h2, setl_get h3⟩
end Ob
namespace Ob
open PySem L2

/-! ### the text by places -/
def top (i : Nat) : Stmt := PySem.Challenge.pw_onlybuilt_k79_whole_steps_keep_the_shape.main.body.getD i (.Pass ⟨0, 0, 0, 0⟩)

/-! ### heaps: what stays -/
/-- all but the addresses of S stand as they were -/
def Kp (S : List Addr) (H H' : Hp) : Prop := ∀ b o, H b = some o → b ∉ S → H' b = some o
theorem Kp.refl (S : List Addr) (H : Hp) : Kp S H H := fun _ _ h _ => h
theorem Kp.trans {S : List Addr} {H H1 H2 : Hp} (a : Kp S H H1) (b : Kp S H1 H2) : Kp S H H2 := fun c o h n => b c o (a c o h n) n
theorem Kp.mono {S S' : List Addr} {H H' : Hp} (a : Kp S H H') (h : ∀ x ∈ S, x ∈ S') : Kp S' H H' := fun c o e n => a c o e fun z => n (h c z)
theorem Kp.same {H H' : Hp} (a : Kp [] H H') : Same H H' := fun c o e => a c o e (by simp)
theorem _root_.L2.Same.kp {H H' : Hp} (a : Same H H') (S : List Addr) : Kp S H H' := fun c o e _ => a c o e
theorem Kp.new {S : List Addr} {H : Hp} {p : Addr} {o : HO} (h : H p = none) : Kp S H (upd H p o) := fun b u e _ => by rw [upd_ne (ne_of_none e h)]; exact e
theorem Kp.at {S : List Addr} {H : Hp} {p : Addr} {o : HO} (h : p ∈ S) : Kp S H (upd H p o) := fun b u e n => by rw [upd_ne (fun z => n (by rw [z]; exact h))]; exact e
theorem _root_.L2.Same.new {H : Hp} {p : Addr} {o : HO} (h : H p = none) : Same H (upd H p o) := fun b u e => by rw [upd_ne (ne_of_none e h)]; exact e
/-- of what is new behind H, and changed, H says nothing -/
theorem _root_.L2.Same.upd_old {H H1 : Hp} {p : Addr} {o : HO} (s : Same H H1) (h : H p = none) : Same H (upd H1 p o) := fun b u e => by rw [upd_ne (ne_of_none e h)]; exact s b u e
/-- tuples and what is known stay -/
def Tk (H H' : Hp) : Prop := (∀ b xs, H b = some (.tup xs) → H' b = some (.tup xs)) ∧ ∀ b ob u, H b = some (.frz ob u) → H' b = some (.frz ob u)
theorem Tk.refl (H : Hp) : Tk H H := ⟨fun _ _ h => h, fun _ _ _ h => h⟩
theorem Tk.trans {H H1 H2 : Hp} (a : Tk H H1) (b : Tk H1 H2) : Tk H H2 := ⟨fun c o h => b.1 c o (a.1 c o h), fun c o u h => b.2 c o u (a.2 c o u h)⟩
theorem _root_.L2.Same.tk {H H' : Hp} (s : Same H H') : Tk H H' := ⟨fun _ _ h => s _ _ h, fun _ _ _ h => s _ _ h⟩
theorem Tk.new {H : Hp} {p : Addr} {o : HO} (h : H p = none) : Tk H (upd H p o) := (Same.new h).tk
theorem Tk.lst {H : Hp} {p : Addr} {o : HO} {xs : List V} (h : H p = some (.lst xs)) : Tk H (upd H p o) :=
  ⟨fun b xs e => by rw [upd_ne (fun z => by rw [z, h] at e; cases e)]; exact e, fun b ob u e => by rw [upd_ne (fun z => by rw [z, h] at e; cases e)]; exact e⟩
theorem Tk.ins {H : Hp} {p : Addr} {o : HO} {C dx : Addr} {fs : List (Str × V)} (h : H p = some (.ins C dx fs)) : Tk H (upd H p o) :=
  ⟨fun b xs e => by rw [upd_ne (fun z => by rw [z, h] at e; cases e)]; exact e, fun b ob u e => by rw [upd_ne (fun z => by rw [z, h] at e; cases e)]; exact e⟩
theorem Tk.seqT {K : PySem.W.Frag} {H H' : Hp} {a : Addr} {xs : List V} (k : Tk H H') (h : SqT K H a xs) : SqT K H' a xs := by
  rcases h with ((h | ⟨o, h⟩) | h)
  · exact .inl (.inl (k.1 _ _ h))
  · exact .inl (.inr ⟨o, k.2 _ _ _ h⟩)
  · exact .inr h

/-! ### data of tuples alone -/
mutual
inductive Dt (K : PySem.W.Frag) (H : Hp) : V → PyData → Prop
  | non : Dt K H .non .none
  | bl (b : Bool) : Dt K H (.bl b) (.bool b)
  | int (i : Int) : Dt K H (.int i) (.int i)
  | str (x : Str) : Dt K H (.str x) (.str x)
  | tup {a : Addr} {xs : List V} {ds : List PyData} : SqT K H a xs → DtAll K H xs ds → Dt K H (.ref a) (.tuple ds)
inductive DtAll (K : PySem.W.Frag) (H : Hp) : List V → List PyData → Prop
  | nil : DtAll K H [] []
  | cons {v : V} {vs : List V} {d : PyData} {ds : List PyData} : Dt K H v d → DtAll K H vs ds → DtAll K H (v :: vs) (d :: ds)
end
section
variable {K : PySem.W.Frag} {H H' : Hp}
mutual
theorem Dt.mono (k : Tk H H') : ∀ {d : PyData} {v : V}, Dt K H v d → Dt K H' v d
  | .none, _, h => by cases h; exact .non
  | .bool b, _, h => by cases h; exact .bl b
  | .int i, _, h => by cases h; exact .int i
  | .str x, _, h => by cases h; exact .str x
  | .tuple ds, _, h => by
    cases h with
    | tup a b => exact .tup (k.seqT a) (DtAll.mono k b)
  | .list _, _, h => by cases h
  | .dict _, _, h => by cases h
theorem DtAll.mono (k : Tk H H') : ∀ {ds : List PyData} {vs : List V}, DtAll K H vs ds → DtAll K H' vs ds
  | [], _, h => by cases h; exact .nil
  | d :: ds, _, h => by
    cases h with
    | cons a b => exact .cons (Dt.mono k a) (DtAll.mono k b)
end
mutual
theorem Dt.dp : ∀ {d : PyData} {v : V}, Dt K H v d → Dp K H v d
  | .none, _, h => by cases h; exact .non
  | .bool b, _, h => by cases h; exact .bl b
  | .int i, _, h => by cases h; exact .int i
  | .str x, _, h => by cases h; exact .str x
  | .tuple ds, _, h => by
    cases h with
    | tup a b => exact .tup a (DtAll.dp b)
  | .list _, _, h => by cases h
  | .dict _, _, h => by cases h
theorem DtAll.dp : ∀ {ds : List PyData} {vs : List V}, DtAll K H vs ds → DpAll K H vs ds
  | [], _, h => by cases h; exact .nil
  | d :: ds, _, h => by
    cases h with
    | cons a b => exact .cons (Dt.dp a) (DtAll.dp b)
end
theorem DtAll.len : ∀ {vs : List V} {ds : List PyData}, DtAll K H vs ds → vs.length = ds.length
  | [], _, h => by cases h; rfl
  | _ :: _, _, h => by
    cases h with
    | cons _ b => simp only [List.length_cons, b.len]
theorem DtAll.get : ∀ {vs : List V} {ds : List PyData} {i : Nat} {d : PyData}, DtAll K H vs ds → ds[i]? = some d → ∃ v, vs[i]? = some v ∧ Dt K H v d
  | [], _, _, _, h, e => by cases h; simp at e
  | _ :: _, _, 0, _, h, e => by
    cases h with
    | cons a b => simp at e; subst e; exact ⟨_, rfl, a⟩
  | _ :: _, _, i + 1, _, h, e => by
    cases h with
    | cons a b =>
      obtain ⟨v, q, r⟩ := DtAll.get (i := i) b (by simpa using e)
      exact ⟨v, by simpa using q, r⟩
theorem DtAll.get' : ∀ {vs : List V} {ds : List PyData} {i : Nat} {v : V}, DtAll K H vs ds → vs[i]? = some v → ∃ d, ds[i]? = some d ∧ Dt K H v d
  | [], _, _, _, h, e => by simp at e
  | _ :: _, _, 0, _, h, e => by
    cases h with
    | cons a b => simp at e; subst e; exact ⟨_, rfl, a⟩
  | _ :: _, _, i + 1, _, h, e => by
    cases h with
    | cons a b =>
      obtain ⟨v, q, r⟩ := DtAll.get' (i := i) b (by simpa using e)
      exact ⟨v, by simpa using q, r⟩
theorem DtAll.set : ∀ {vs : List V} {ds : List PyData} {v : V} {d : PyData} (i : Nat), DtAll K H vs ds → Dt K H v d → DtAll K H (vs.set i v) (ds.set i d)
  | [], _, _, _, _, h, _ => by cases h; exact .nil
  | _ :: _, _, _, _, 0, h, r => by
    cases h with
    | cons a b => exact .cons r b
  | _ :: _, _, _, _, i + 1, h, r => by
    cases h with
    | cons a b => exact .cons a (b.set i r)
theorem DtAll.app : ∀ {vs ws : List V} {ds es : List PyData}, DtAll K H vs ds → DtAll K H ws es → DtAll K H (vs ++ ws) (ds ++ es)
  | [], _, _, _, h, r => by cases h; exact r
  | _ :: _, _, _, _, h, r => by
    cases h with
    | cons a b => exact .cons a (b.app r)
theorem DtAll.one {v : V} {d : PyData} (h : Dt K H v d) : DtAll K H [v] [d] := .cons h .nil
theorem Dt.inv {v : V} {ds : List PyData} (h : Dt K H v (.tuple ds)) : ∃ a xs, v = .ref a ∧ SqT K H a xs ∧ DtAll K H xs ds := by
  cases h with
  | tup a b => exact ⟨_, _, rfl, a, b⟩
theorem Dt.invS {v : V} {x : Str} (h : Dt K H v (.str x)) : v = .str x := by cases h; rfl
theorem Dt.invI {v : V} {i : Int} (h : Dt K H v (.int i)) : v = .int i := by cases h; rfl
/-- the parts by hand -/
theorem DtAll.c1 {vs : List V} {d : PyData} (h : DtAll K H vs [d]) : ∃ v, vs = [v] ∧ Dt K H v d := by
  cases h with
  | cons a b => cases b; exact ⟨_, rfl, a⟩
theorem DtAll.c2 {vs : List V} {d e : PyData} (h : DtAll K H vs [d, e]) : ∃ v w, vs = [v, w] ∧ Dt K H v d ∧ Dt K H w e := by
  cases h with
  | cons a b =>
    obtain ⟨_, rfl, r⟩ := b.c1
    exact ⟨_, _, rfl, a, r⟩
theorem DtAll.c3 {vs : List V} {d e f : PyData} (h : DtAll K H vs [d, e, f]) : ∃ u v w, vs = [u, v, w] ∧ Dt K H u d ∧ Dt K H v e ∧ Dt K H w f := by
  cases h with
  | cons a b =>
    obtain ⟨_, _, rfl, r, q⟩ := b.c2
    exact ⟨_, _, _, rfl, a, r, q⟩
theorem DtAll.c5 {vs : List V} {d e f g i : PyData} (h : DtAll K H vs [d, e, f, g, i]) : ∃ u v w x y, vs = [u, v, w, x, y] ∧ Dt K H u d ∧ Dt K H v e ∧ Dt K H w f ∧ Dt K H x g ∧ Dt K H y i := by
  cases h with
  | cons a b =>
    cases b with
    | cons a2 b =>
      obtain ⟨_, _, _, rfl, r, q, s⟩ := b.c3
      exact ⟨_, _, _, _, _, rfl, a, a2, r, q, s⟩
/-- a tuple just made -/
theorem Dt.made {a : Addr} {xs : List V} {ds : List PyData} (h : H a = some (.tup xs)) (r : DtAll K H xs ds) : Dt K H (.ref a) (.tuple ds) := .tup (SqT.of h) r
end

/-! ### papers, statements, rows, values, shapes as data -/
def Sm.d : Sm → PyData
  | .lt w => .tuple [.str "letter", .str w]
  | .nv => .tuple [.str "never"]
  | .an a b => .tuple [.str "and", a.d, b.d]
  | .or a b => .tuple [.str "or", a.d, b.d]
  | .th a b => .tuple [.str "then", a.d, b.d]
mutual
def Pp.d : Pp → PyData
  | .use k => .tuple [.str "use", .int k]
  | .pair p q => .tuple [.str "pair", p.d, q.d]
  | .first p => .tuple [.str "first", p.d]
  | .second p => .tuple [.str "second", p.d]
  | .left p b => .tuple [.str "left", p.d, b.d]
  | .right a p => .tuple [.str "right", a.d, p.d]
  | .case p q r c => .tuple [.str "case", p.d, q.d, r.d, c.d]
  | .make a p => .tuple [.str "make", a.d, p.d]
  | .apply p q => .tuple [.str "apply", p.d, q.d]
  | .escape p c => .tuple [.str "escape", p.d, c.d]
end
def Rw.d : Rw → PyData
  | .take k => .tuple [.str "take", .int k]
  | .pair => .tuple [.str "pair"]
  | .first => .tuple [.str "first"]
  | .second => .tuple [.str "second"]
  | .left => .tuple [.str "left"]
  | .right => .tuple [.str "right"]
  | .make i => .tuple [.str "make", .int i]
  | .apply => .tuple [.str "apply"]
  | .case i j => .tuple [.str "case", .int i, .int j]
  | .escape => .tuple [.str "escape"]
  | .back => .tuple [.str "back"]
mutual
def Mv.d : Mv → PyData
  | .pair u v => .tuple [.str "pair", u.d, v.d]
  | .left u => .tuple [.str "left", u.d]
  | .right u => .tuple [.str "right", u.d]
  | .make i gs => .tuple [.str "make", .int i, .tuple (Mv.ds gs)]
def Mv.ds : List Mv → List PyData
  | [] => []
  | v :: r => v.d :: Mv.ds r
end
def Sh.d : Sh → PyData
  | .pair s t => .tuple [.str "pair", s.d, t.d]
  | .left s => .tuple [.str "left", s.d]
  | .right s => .tuple [.str "right", s.d]
  | .make => .tuple [.str "make"]
/-- the items of a paper's tuple, its word, the places of its papers, these -/
def Pp.fs : Pp → List PyData
  | .use k => [.str "use", .int k]
  | .pair p q => [.str "pair", p.d, q.d]
  | .first p => [.str "first", p.d]
  | .second p => [.str "second", p.d]
  | .left p b => [.str "left", p.d, b.d]
  | .right a p => [.str "right", a.d, p.d]
  | .case p q r c => [.str "case", p.d, q.d, r.d, c.d]
  | .make a p => [.str "make", a.d, p.d]
  | .apply p q => [.str "apply", p.d, q.d]
  | .escape p c => [.str "escape", p.d, c.d]
def Pp.word : Pp → Str
  | .use _ => "use"
  | .pair _ _ => "pair"
  | .first _ => "first"
  | .second _ => "second"
  | .left _ _ => "left"
  | .right _ _ => "right"
  | .case _ _ _ _ => "case"
  | .make _ _ => "make"
  | .apply _ _ => "apply"
  | .escape _ _ => "escape"
def Pp.pls : Pp → List Nat
  | .use _ => []
  | .pair _ _ => [1, 2]
  | .first _ => [1]
  | .second _ => [1]
  | .left _ _ => [1]
  | .right _ _ => [2]
  | .case _ _ _ _ => [1, 2, 3]
  | .make _ _ => [2]
  | .apply _ _ => [1, 2]
  | .escape _ _ => [1]
def Pp.sub : Pp → List Pp
  | .use _ => []
  | .pair p q => [p, q]
  | .first p => [p]
  | .second p => [p]
  | .left p _ => [p]
  | .right _ p => [p]
  | .case p q r _ => [p, q, r]
  | .make _ p => [p]
  | .apply p q => [p, q]
  | .escape p _ => [p]
/-- how many more are given at each -/
def Pp.as : Pp → List Nat
  | .use _ => []
  | .pair _ _ => [0, 0]
  | .first _ => [0]
  | .second _ => [0]
  | .left _ _ => [0]
  | .right _ _ => [0]
  | .case _ _ _ _ => [0, 1, 1]
  | .make _ _ => [1]
  | .apply _ _ => [0, 0]
  | .escape _ _ => [0]
theorem Pp.d_fs (p : Pp) : p.d = .tuple p.fs := by cases p <;> simp only [Pp.d, Pp.fs]
theorem Pp.fs0 (p : Pp) : p.fs[0]? = some (.str p.word) := by cases p <;> rfl
theorem Pp.sub_at {p q : Pp} {i : Nat} (h : p.sub[i]? = some q) : ∃ k, p.pls[i]? = some k ∧ p.fs[k]? = some q.d ∧ k < 4 ∧ 0 < k ∧ k < p.fs.length := by
  cases p <;> simp only [Pp.sub, Pp.pls, Pp.fs] at h ⊢ <;> (rcases i with _ | _ | _ | i) <;> simp at h ⊢ <;> exact congrArg Pp.d h
theorem Pp.pls_sub {p : Pp} {i k : Nat} (h : p.pls[i]? = some k) : ∃ q, p.sub[i]? = some q ∧ p.fs[k]? = some q.d ∧ k < 4 ∧ 0 < k ∧ k < p.fs.length := by
  cases p <;> simp only [Pp.sub, Pp.pls, Pp.fs] at h ⊢ <;> (rcases i with _ | _ | _ | i) <;> simp at h ⊢ <;> subst h <;> simp
def Pp.asm : Pp → Nat → Nat
  | .make _ _, _ => 1
  | .case _ _ _ _, k => if 1 < k then 1 else 0
  | _, _ => 0
def Pp.isMk : Pp → Bool
  | .make _ _ => true
  | _ => false
def Pp.isCs : Pp → Bool
  | .case _ _ _ _ => true
  | _ => false
def Pp.isUse : Pp → Bool
  | .use _ => true
  | _ => false
theorem Pp.pls_as {p : Pp} {i k : Nat} (h : p.pls[i]? = some k) : p.as[i]? = some (p.asm k) := by
  cases p <;> simp only [Pp.as, Pp.pls, Pp.asm] at h ⊢ <;> (rcases i with _ | _ | _ | i) <;> simp at h ⊢ <;> subst h <;> simp
theorem Pp.dMk : ∀ p : Pp, decide (V.str p.word = V.str "make") = p.isMk
  | .use _ => (by decide +kernel : decide (V.str "use" = V.str "make") = false)
  | .pair _ _ => (by decide +kernel : decide (V.str "pair" = V.str "make") = false)
  | .first _ => (by decide +kernel : decide (V.str "first" = V.str "make") = false)
  | .second _ => (by decide +kernel : decide (V.str "second" = V.str "make") = false)
  | .left _ _ => (by decide +kernel : decide (V.str "left" = V.str "make") = false)
  | .right _ _ => (by decide +kernel : decide (V.str "right" = V.str "make") = false)
  | .case _ _ _ _ => (by decide +kernel : decide (V.str "case" = V.str "make") = false)
  | .make _ _ => (by decide +kernel : decide (V.str "make" = V.str "make") = true)
  | .apply _ _ => (by decide +kernel : decide (V.str "apply" = V.str "make") = false)
  | .escape _ _ => (by decide +kernel : decide (V.str "escape" = V.str "make") = false)
theorem Pp.dCs : ∀ p : Pp, decide (V.str p.word = V.str "case") = p.isCs
  | .use _ => (by decide +kernel : decide (V.str "use" = V.str "case") = false)
  | .pair _ _ => (by decide +kernel : decide (V.str "pair" = V.str "case") = false)
  | .first _ => (by decide +kernel : decide (V.str "first" = V.str "case") = false)
  | .second _ => (by decide +kernel : decide (V.str "second" = V.str "case") = false)
  | .left _ _ => (by decide +kernel : decide (V.str "left" = V.str "case") = false)
  | .right _ _ => (by decide +kernel : decide (V.str "right" = V.str "case") = false)
  | .case _ _ _ _ => (by decide +kernel : decide (V.str "case" = V.str "case") = true)
  | .make _ _ => (by decide +kernel : decide (V.str "make" = V.str "case") = false)
  | .apply _ _ => (by decide +kernel : decide (V.str "apply" = V.str "case") = false)
  | .escape _ _ => (by decide +kernel : decide (V.str "escape" = V.str "case") = false)
theorem Pp.dUse : ∀ p : Pp, decide (V.str p.word = V.str "use") = p.isUse
  | .use _ => (by decide +kernel : decide (V.str "use" = V.str "use") = true)
  | .pair _ _ => (by decide +kernel : decide (V.str "pair" = V.str "use") = false)
  | .first _ => (by decide +kernel : decide (V.str "first" = V.str "use") = false)
  | .second _ => (by decide +kernel : decide (V.str "second" = V.str "use") = false)
  | .left _ _ => (by decide +kernel : decide (V.str "left" = V.str "use") = false)
  | .right _ _ => (by decide +kernel : decide (V.str "right" = V.str "use") = false)
  | .case _ _ _ _ => (by decide +kernel : decide (V.str "case" = V.str "use") = false)
  | .make _ _ => (by decide +kernel : decide (V.str "make" = V.str "use") = false)
  | .apply _ _ => (by decide +kernel : decide (V.str "apply" = V.str "use") = false)
  | .escape _ _ => (by decide +kernel : decide (V.str "escape" = V.str "use") = false)
theorem Pp.size_sub {p q : Pp} {i : Nat} (h : p.sub[i]? = some q) : size q < size p := by
  cases p <;> simp only [Pp.sub] at h <;> (rcases i with _ | _ | _ | i) <;> simp at h <;> subst h <;> simp only [size] <;> omega
theorem Pp.deep_sub {p q : Pp} {i : Nat} (h : p.sub[i]? = some q) : deep q < deep p := by
  cases p <;> simp only [Pp.sub] at h <;> (rcases i with _ | _ | _ | i) <;> simp at h <;> subst h <;> simp only [deep] <;> omega

/-- the things of a paper in the heap -/
structure Pa (K : PySem.W.Frag) (H : Hp) (v : V) (p : Pp) : Prop where
  dt : Dt K H v p.d
theorem Dt.paper {K : PySem.W.Frag} {H : Hp} {v : V} {p : Pp} (h : Dt K H v p.d) : ∃ a xs, v = .ref a ∧ SqT K H a xs ∧ DtAll K H xs p.fs := by
  rw [p.d_fs] at h
  exact h.inv
theorem DtAll.word {K : PySem.W.Frag} {H : Hp} {xs : List V} {p : Pp} (h : DtAll K H xs p.fs) : xs[0]? = some (.str p.word) := by
  obtain ⟨v, e, r⟩ := h.get p.fs0
  rw [r.invS] at e
  exact e
theorem at0 {xs : List V} {v : V} (h : xs[0]? = some v) : atI xs 0 = some v := atI_nat (j := 0) h
theorem at1 {xs : List V} {v : V} (h : xs[1]? = some v) : atI xs 1 = some v := atI_nat (j := 1) h
theorem at2 {xs : List V} {v : V} (h : xs[2]? = some v) : atI xs 2 = some v := atI_nat (j := 2) h
theorem at3 {xs : List V} {v : V} (h : xs[3]? = some v) : atI xs 3 = some v := atI_nat (j := 3) h
theorem at4 {xs : List V} {v : V} (h : xs[4]? = some v) : atI xs 4 = some v := atI_nat (j := 4) h

/-! ### defs as they are called -/
structure Cal (P : Program) (w : World) (K : PySem.W.Frag) (mg : Str → Option Value) (base : Heap) (k : Nat) (x : Str) (ps : List Str) (sp : Sp) : Prop where
  ex : ∃ (f : Addr) (fd : FuncData), FnOk P w K mg base CX0 k f fd ps sp ∧ PySem.W.keepIn K (.ref f) = true ∧ Binds K fd ps [] ∧ mg x = some (.ref f)
theorem Cal.mono {P : Program} {w : World} {K : PySem.W.Frag} {mg : Str → Option Value} {base : Heap} {j k : Nat} {x : Str} {ps : List Str} {sp : Sp} (c : Cal P w K mg base j x ps sp) (h : j ≤ k) : Cal P w K mg base k x ps sp := by
  obtain ⟨f, fd, F, a, b, d⟩ := c.ex
  exact ⟨f, fd, F.mono h, a, b, d⟩
theorem pe_cal {X : Cx} {k : Nat} {x : Str} {ps : List Str} {sp : Sp} {p pos : Pos} {e : Expr} {es : List Expr} {t : TA} (c : Cal X.prog X.w X.K X.mg X.base k x ps sp) (hr : Room k X.A) (hg : Gl X x) (ha : PA X (e :: es) t)
    (hdb : (x == ("__debug__" : Str)) = false := by decide +kernel) (he : starEach (e :: es) X.env = (false, eval e X.env) :: starEach es X.env := by rfl) (hpl : (backTo pos (starEach es X.env)).any (·.1) = false := by rfl) :
    PE X (.Call (.Name x p) (e :: es) [] pos) (tCall sp [] E0 t) := by
  obtain ⟨f, fd, F, a, b, d⟩ := c.ex
  exact pe_call F hr hg d a b .nil pass0 ha hdb he hpl
/-- a def of the top -/
structure Df (K : PySem.W.Frag) (mg : Str → Option Value) (x : Str) (st : Stmt) (ps : List Str) : Prop where
  ex : ∃ (f : Addr) (fd : FuncData), Fun K x x st f fd ∧ Binds K fd ps [] ∧ mg x = some (.ref f)
theorem Df.cal {P : Program} {w : World} {K : PySem.W.Frag} {mg : Str → Option Value} {base : Heap} {k : Nat} {x : Str} {st : Stmt} {ps : List Str} {sp : Sp} (d : Df K mg x st ps) (h : ∀ (f : Addr) (fd : FuncData), Fun K x x st f fd → FnOk P w K mg base CX0 k f fd ps sp) :
    Cal P w K mg base k x ps sp := by
  obtain ⟨f, fd, F, b, g⟩ := d.ex
  exact ⟨f, fd, h f fd F, F.kp, b, g⟩

/-! ### tables of the top -/
/-- a written tuple -/
def KTup (K : PySem.W.Frag) (a : Addr) (xs : List V) : Prop := ∃ (o : Obj) (its : Array Value) (n : Nat), K.lookup a = some o ∧ o.cls = .type "tuple" ∧ o.data = .seq its n ∧ its.size ≤ sizeLine ∧ Vals xs its.toList
theorem KTup.seq {K : PySem.W.Frag} {H : Hp} {a : Addr} {xs : List V} (h : KTup K a xs) : SqT K H a xs := .inr h
/-- a written dict of texts and tuples of ints -/
structure Tab (K : PySem.W.Frag) (mg : Str → Option Value) (w : World) (x : Str) (l : List (Str × List Nat)) : Prop where
  ex : ∃ d, mg x = some (.ref d) ∧ ∀ k ns, l.lookup k = some ns → ∃ t, KDct K w d k (.ref t) ∧ KTup K t (ns.map fun n => V.int (n : Nat))

/-! ### answers -/
theorem dec_strT {a b : Str} (h : a = b) : decide (V.str a = V.str b) = true := by rw [h]; exact decide_eq_true rfl
theorem dec_strF {a b : Str} (h : a ≠ b) : decide (V.str a = V.str b) = false := decide_eq_false fun z => h (V.str.inj z)
end Ob
namespace Ob
open PySem L2

theorem qof {Q : VK} {v v' : V} {H : Hp} (h : Q v' H) (e : v = v') : Q v H := by rw [e]; exact h
theorem iteB {b c : Bool} {A B : Prop} (e : b = c) (h1 : c = true → A) (h2 : c = false → B) : if b = true then A else B := by
  subst e
  cases b with
  | true => exact iteT (h1 rfl)
  | false => exact iteF (h2 rfl)
theorem ixN_nat {n k : Nat} (h : k < n) : ixN n (k : Int) = some k := by
  unfold ixN
  rw [if_pos (by omega), if_pos (by omega), Int.toNat_natCast]

/-! ### items put at places, one after another -/
def putAll : List PyData → List (Nat × PyData) → List PyData
  | ds, [] => ds
  | ds, x :: r => putAll (ds.set x.1 x.2) r
theorem putAll_app : ∀ (l : List (Nat × PyData)) (ds : List PyData) (x : Nat × PyData), putAll ds (l ++ [x]) = (putAll ds l).set x.1 x.2
  | [], _, _ => rfl
  | _ :: l, _, x => putAll_app l _ x
theorem putAll_len : ∀ (l : List (Nat × PyData)) (ds : List PyData), (putAll ds l).length = ds.length
  | [], _ => rfl
  | x :: l, ds => by rw [putAll, putAll_len l, List.length_set]
def fsAt (p : Pp) (rs : List Pp) (i : Nat) : List PyData := putAll p.fs ((p.pls.zip (rs.map Pp.d)).take i)
theorem fsAt_zero (p : Pp) (rs : List Pp) : fsAt p rs 0 = p.fs := by unfold fsAt; rw [List.take_zero]; rfl
theorem fsAt_len (p : Pp) (rs : List Pp) (i : Nat) : (fsAt p rs i).length = p.fs.length := putAll_len _ _
theorem fsAt_succ {p : Pp} {rs : List Pp} {i k : Nat} {r : Pp} (h : p.pls[i]? = some k) (h2 : rs[i]? = some r) : fsAt p rs (i + 1) = (fsAt p rs i).set k r.d := by
  unfold fsAt
  have e : (p.pls.zip (rs.map Pp.d))[i]? = some (k, r.d) := by
    rw [List.getElem?_zip_eq_some]
    exact ⟨h, by rw [List.getElem?_map, h2]; rfl⟩
  rw [List.take_add_one, e]
  exact putAll_app _ _ _
theorem fs_moved {p : Pp} (n m : Nat) (h : p.isUse = false) : fsAt p (p.sub.map fun q => moved q n m) p.pls.length = (moved p n m).fs := by
  cases p <;> first
    | rfl
    | cases h
def putSubs (p : Pp) (n : Nat) (o : Pp) (b : Nat) : List Pp := List.zipWith (fun q a => putU q n o (b + a)) p.sub p.as
theorem fs_put {p : Pp} (n : Nat) (o : Pp) (b : Nat) (h : p.isUse = false) : fsAt p (putSubs p n o b) p.pls.length = (putU p n o b).fs := by
  cases p <;> first
    | rfl
    | cases h
theorem asm_mk {p : Pp} {k : Nat} (h : p.isMk = true) : p.asm k = 1 := by cases p <;> first | rfl | cases h
theorem asm_cs {p : Pp} {k : Nat} (h : p.isCs = true) : p.asm k = if 1 < k then 1 else 0 := by cases p <;> first | rfl | cases h
theorem asm_no {p : Pp} {k : Nat} (h : p.isMk = false) (h2 : p.isCs = false) : p.asm k = 0 := by cases p <;> first | rfl | (cases h; done) | (cases h2; done)
theorem pls_len (p : Pp) : p.pls.length = p.sub.length := by cases p <;> rfl
theorem pls_pos {p : Pp} {i k : Nat} (h : p.pls[i]? = some k) : k < p.fs.length := (Pp.pls_sub h).elim fun _ q => q.2.2.2.2

/-! ### the text -/
abbrev sPlaces : Stmt := top 20
abbrev sAssumed : Stmt := top 21
abbrev sWith : Stmt := top 22
abbrev sMoved : Stmt := top 23
abbrev sPut : Stmt := top 24
abbrev sPutIn : Stmt := top 25
def plTab : List (Str × List Nat) := [("use", []), ("pair", [1, 2]), ("first", [1]), ("second", [1]), ("left", [1]), ("right", [2]), ("case", [1, 2, 3]), ("make", [2]), ("apply", [1, 2]), ("escape", [1])]
theorem plTab_at (p : Pp) : plTab.lookup p.word = some p.pls := by
  cases p
  · exact (by decide +kernel : plTab.lookup ("use" : Str) = some [])
  · exact (by decide +kernel : plTab.lookup ("pair" : Str) = some [1, 2])
  · exact (by decide +kernel : plTab.lookup ("first" : Str) = some [1])
  · exact (by decide +kernel : plTab.lookup ("second" : Str) = some [1])
  · exact (by decide +kernel : plTab.lookup ("left" : Str) = some [1])
  · exact (by decide +kernel : plTab.lookup ("right" : Str) = some [2])
  · exact (by decide +kernel : plTab.lookup ("case" : Str) = some [1, 2, 3])
  · exact (by decide +kernel : plTab.lookup ("make" : Str) = some [2])
  · exact (by decide +kernel : plTab.lookup ("apply" : Str) = some [1, 2])
  · exact (by decide +kernel : plTab.lookup ("escape" : Str) = some [1])

/-! ### promises -/
def spPlaces (K : PySem.W.Frag) : Sp := fun vs H Q _ => ∃ (a : Addr) (xs : List V) (p : Pp), vs = [.ref a] ∧ SqT K H a xs ∧ DtAll K H xs p.fs ∧ ∀ t, KTup K t (p.pls.map fun n => V.int (n : Nat)) → Q (.ref t) H
def spAssumed (K : PySem.W.Frag) : Sp := fun vs H Q _ => ∃ (a : Addr) (xs : List V) (p : Pp) (k : Nat), vs = [.ref a, .int k] ∧ SqT K H a xs ∧ DtAll K H xs p.fs ∧ Q (.int (p.asm k : Nat)) H
def spWith (K : PySem.W.Frag) : Sp := fun vs H Q _ => ∃ (a : Addr) (xs : List V) (k : Nat) (v : V), vs = [.ref a, .int k, v] ∧ SqT K H a xs ∧ k < xs.length ∧ ∀ r H', Same H H' → H' r = some (.tup (xs.set k v)) → Q (.ref r) H'
def spMoved (K : PySem.W.Frag) (n : Nat) : Sp := fun vs H Q _ => ∃ (v : V) (p : Pp) (k m : Nat), vs = [v, .int k, .int m] ∧ Dt K H v p.d ∧ deep p ≤ n ∧ ∀ v' H', Same H H' → Dt K H' v' (moved p k m).d → Q v' H'

section
variable {P : Program} {w : World} {K : PySem.W.Frag} {mg : Str → Option Value} {base : Heap} {f : Addr} {fd : FuncData}
theorem scPl : FnScope ["paper"] ["paper"] (defScope sPlaces) := ⟨rfl, rfl, rfl, by decide +kernel, rfl, by decide +kernel, by decide +kernel⟩
theorem ok_places (F : Fun K "places_of" "places_of" sPlaces f fd) (T : Tab K mg w "PLACES" plTab) : FnOk P w K mg base CX0 1 f fd ["paper"] (spPlaces K) := by
  refine F.ok scPl (fun vs H Q E h => ?_) (fun cdv A outer s H vs Q E hr h => ?_)
  · obtain ⟨a, xs, p, rfl, _⟩ := h
    rfl
  · obtain ⟨a, xs, p, rfl, hT, hD, k⟩ := h
    obtain ⟨d, hm, hd⟩ := T.ex
    obtain ⟨t, kd, kt⟩ := hd _ _ (plTab_at p)
    refine ⟨_, pss_one (ps_ret (pe_ix ix_kdict (pe_glob (v := .ref d) rfl hm rfl) (pe_ix ix_tup (pv 0) pe_int (fun _ _ => rfl)) (fun _ _ => rfl))), ?_⟩
    exact ⟨_, rfl, a, xs, 0, _, rfl, rfl, hT, at0 hD.word, d, _, _, rfl, rfl, kd, k t kt⟩
theorem scAs : FnScope ["paper", "place"] ["paper", "place"] (defScope sAssumed) := ⟨rfl, rfl, rfl, by decide +kernel, rfl, by decide +kernel, by decide +kernel⟩
theorem ok_assumed (F : Fun K "assumed" "assumed" sAssumed f fd) (mi : mg "int" = none) : FnOk P w K mg base CX0 1 f fd ["paper", "place"] (spAssumed K) := by
  refine F.ok scAs (fun vs H Q E h => ?_) (fun cdv A outer s H vs Q E hr h => ?_)
  · obtain ⟨a, xs, p, n, rfl, _⟩ := h
    rfl
  · obtain ⟨a, xs, p, n, rfl, hT, hD, k⟩ := h
    refine ⟨_, pss_one (ps_ret (pe_callTy call_int1 (by rfl) mi (by decide +kernel) (pa_cons (pe_or (pe_cmpR op_eq (pe_ix ix_tup (pv 0) pe_int (fun _ _ => rfl)) pe_str (nomark _))
      (pe_one (pe_and (pe_cmpR op_eq (pe_ix ix_tup (pv 0) pe_int (fun _ _ => rfl)) pe_str (nomark _)) (pe_one (pe_cmpR op_gt (pv 1) pe_int (nomark _)))))) pa_nil))), ?_⟩
    refine ⟨_, rfl, a, xs, 0, _, rfl, rfl, hT, at0 hD.word, rfl, _, rfl, ?_⟩
    refine iteB p.dMk (fun c => ?_) (fun c => ?_)
    · exact .inr ⟨true, rfl, qof k (by rw [asm_mk c]; rfl)⟩
    · refine ⟨_, rfl, a, xs, 0, _, rfl, rfl, hT, at0 hD.word, rfl, _, rfl, ?_⟩
      refine iteB p.dCs (fun c2 => ?_) (fun c2 => ?_)
      · refine ⟨_, rfl, _, _, rfl, rfl, .inr ⟨_, rfl, qof k (congrArg V.int ?_)⟩⟩
        rw [asm_cs c2]
        by_cases hn : 1 < n
        · rw [if_pos hn, if_pos (decide_eq_true (by omega))]; rfl
        · rw [if_neg hn, if_neg (by rw [decide_eq_false (by omega)]; exact Bool.false_ne_true)]; rfl
      · exact .inr ⟨false, rfl, qof k (by rw [asm_no c c2]; rfl)⟩
theorem scWi : FnScope ["paper", "place", "part", "found"] ["paper", "place", "part"] (defScope sWith) := ⟨rfl, rfl, rfl, by decide +kernel, rfl, by decide +kernel, by decide +kernel⟩
theorem ok_with (F : Fun K "with_part" "with_part" sWith f fd) (ml : mg "list" = none) (mt : mg "tuple" = none) : FnOk P w K mg base CX0 1 f fd ["paper", "place", "part"] (spWith K) := by
  refine F.ok scWi (fun vs H Q E h => ?_) (fun cdv A outer s H vs Q E hr h => ?_)
  · obtain ⟨a, xs, n, v, rfl, _⟩ := h
    rfl
  · obtain ⟨a, xs, n, v, rfl, hT, hn, k⟩ := h
    refine ⟨_, pss_cons (ps_set (i := 3) scWi.nd rfl (Or.inl rfl) (pe_callTy call_list_of (by rfl) ml (by decide +kernel) (pa_cons (pv 0) pa_nil)))
      (pss_cons (ps_asg (pv 2) (pg_sub (pv 3) (pv 1) set_list)) (pss_one (ps_ret (pe_callTy call_tuple_of (by rfl) mt (by decide +kernel) (pa_cons (pv 3) pa_nil))))), ?_⟩
    refine ⟨_, rfl, a, xs, rfl, .inr hT, fun l hl => ?_⟩
    refine ⟨_, rfl, _, rfl, _, rfl, l, xs, _, n, rfl, rfl, upd_same, ixN_nat hn, ?_⟩
    refine ⟨_, rfl, l, _, rfl, .inl ⟨SqL.of upd_same, fun t ht => ?_⟩⟩
    refine k t _ (fun b o e => ?_) upd_same
    have nl : b ≠ l := ne_of_none e hl
    have nt : b ≠ t := fun z => by
      rw [z] at nl e
      rw [upd_ne nl, upd_ne nl, e] at ht
      cases ht
    rw [upd_ne nt, upd_ne nl, upd_ne nl]
    exact e
theorem scMo : FnScope ["paper", "at", "by", "found", "place"] ["paper", "at", "by"] (defScope sMoved) := ⟨rfl, rfl, rfl, by decide +kernel, rfl, by decide +kernel, by decide +kernel⟩
theorem ok_moved {n : Nat} (F : Fun K "moved" "moved" sMoved f fd) (cP : Cal P w K mg base 1 "places_of" ["paper"] (spPlaces K)) (cW : Cal P w K mg base 1 "with_part" ["paper", "place", "part"] (spWith K))
    (cM : Cal P w K mg base (n + 1) "moved" ["paper", "at", "by"] (spMoved K n)) : FnOk P w K mg base CX0 (n + 1 + 1) f fd ["paper", "at", "by"] (spMoved K (n + 1)) := by
  refine F.ok scMo (fun vs H Q E h => ?_) (fun cdv A outer s H vs Q E hr h => ?_)
  · obtain ⟨v, p, j, m, rfl, _⟩ := h
    rfl
  · obtain ⟨v, p, j, m, rfl, hv, hn, k⟩ := h
    obtain ⟨a, xs, rfl, hT, hD⟩ := hv.paper
    have hr1 : Room 1 _ := hr.mono (by omega)
    refine ⟨_, pss_cons (ps_if (pt_cmpR op_eq (pe_ix ix_tup (pv 0) pe_int (fun _ _ => rfl)) pe_str (nomark _))
        (pss_cons (ps_if (pt_cmpR op_lt (pe_ix ix_tup (pv 0) pe_int (fun _ _ => rfl)) (pv 1) (nomark _)) (pss_one (ps_ret (pv 0))) pss_nil)
          (pss_one (ps_ret (pe_tup (pa_cons pe_str (pa_cons (pe_op op_add (pe_ix ix_tup (pv 0) pe_int (fun _ _ => rfl)) (pv 2)) pa_nil)))))) pss_nil)
      (pss_cons (ps_set (i := 3) scMo.nd rfl (Or.inl rfl) (pv 0))
      (pss_cons (ps_for PassesOwn.never rfl (pi_tup (pe_cal cP hr1 rfl (pa_cons (pv 0) pa_nil))) (pg_name (i := 4) scMo.nd rfl (Or.inl rfl))
        (pss_one (ps_set (i := 3) scMo.nd rfl (Or.inl rfl) (pe_cal cW hr1 rfl (pa_cons (pv 3) (pa_cons (pv 4) (pa_cons (pe_cal cM hr rfl (pa_cons (pe_ix ix_tup (pv 0) (pv 4) (fun _ _ => rfl)) (pa_cons (pv 1) (pa_cons (pv 2) pa_nil)))) pa_nil)))))))
      (pss_one (ps_ret (pv 3))))), ?_⟩
    refine ⟨_, rfl, a, xs, 0, _, rfl, rfl, hT, at0 hD.word, rfl, _, rfl, ?_⟩
    refine iteB p.dUse (fun c => ?_) (fun c => ?_)
    · cases p with
      | use u =>
        obtain ⟨x0, x1, rfl, r0, r1⟩ := hD.c2
        cases r0.invS
        cases r1.invI
        refine ⟨_, rfl, a, _, 1, _, rfl, rfl, hT, at1 rfl, _, rfl, _, _, rfl, rfl, _, rfl, ?_⟩
        refine ite2 (fun c2 => ?_) (fun c2 => ?_)
        · have c3 : (u : Int) < j := of_decide_eq_true c2
          refine ⟨_, rfl, k _ _ (Same.refl _) ?_⟩
          simp only [moved]
          rw [if_pos (by omega)]
          exact hv
        · have c3 : ¬ (u : Int) < j := of_decide_eq_false (Bool.eq_false_iff.mpr c2)
          refine ⟨_, rfl, a, _, 1, _, rfl, rfl, hT, at1 rfl, _, rfl, _, _, rfl, rfl, (by show 2 ≤ sizeLine; decide), fun t ht => ?_⟩
          refine k _ _ (Same.new ht) ?_
          simp only [moved]
          rw [if_neg (by omega)]
          simp only [Pp.d]
          exact Dt.made upd_same (.cons (.str _) (.cons (.int _) .nil))
      | _ => cases c
    · refine ⟨_, rfl, _, rfl, a, xs, p, rfl, hT, hD, fun t kt => ⟨t, rfl, ⟨_, kt.seq⟩, ?_⟩⟩
      refine for_tup (K := K) (a := t) (xs := p.pls.map fun n => V.int (n : Nat)) (fun i σ H' => ∃ (g : Addr) (ys : List V) (x : Option V), σ = [some (.ref a), some (.int j), some (.int m), some (.ref g), x] ∧ Same H H' ∧ SqT K H' g ys ∧ DtAll K H' ys (fsAt p (p.sub.map fun q => moved q j m) i))
        ⟨a, xs, none, rfl, Same.refl _, hT, by rw [fsAt_zero]; exact hD⟩ (fun i σ H' _ _ => kt.seq) ?_ ?_
      · rintro i y σ H' hi ⟨g, ys, x, rfl, hs, hg, hy⟩
        obtain ⟨q, hq, rfl⟩ : ∃ q, p.pls[i]? = some q ∧ V.int (q : Nat) = y := by
          rw [List.getElem?_map] at hi
          exact Option.map_eq_some_iff.mp hi
        obtain ⟨b, hb, hf, _⟩ := Pp.pls_sub hq
        obtain ⟨vb, e1, r1⟩ := (DtAll.mono hs.tk hD).get hf
        refine ⟨_, rfl, _, rfl, _, rfl, _, rfl, a, xs, _, vb, rfl, rfl, hs.tk.seqT hT, atI_nat e1, _, rfl, _, rfl, ?_⟩
        refine ⟨vb, b, j, m, rfl, r1, by have := Pp.deep_sub hb; omega, fun v' H2 s2 r2 => ?_⟩
        refine ⟨g, ys, q, v', rfl, s2.tk.seqT hg, by rw [hy.len, fsAt_len]; exact pls_pos hq, fun r H3 s3 e3 => ?_⟩
        refine ⟨r, _, _, rfl, hs.trans (s2.trans s3), SqT.of e3, ?_⟩
        rw [fsAt_succ hq (r := moved b j m) (by rw [List.getElem?_map, hb]; rfl)]
        exact (DtAll.mono (s2.trans s3).tk hy).set q (Dt.mono s3.tk r2)
      · rintro σ H' ⟨g, ys, x, rfl, hs, hg, hy⟩
        refine ⟨_, rfl, k _ _ hs ?_⟩
        rw [List.length_map, fs_moved j m c] at hy
        rw [Pp.d_fs]
        exact .tup hg hy

theorem FnOk.void {k : Nat} {ps : List Str} {sp : Sp} (no : ∀ vs H Q E, ¬ sp vs H Q E) : FnOk P w K mg base CX0 k f fd ps sp :=
  ⟨fun vs H Q E h => absurd h (no vs H Q E), fun A outer s H args us vs Q E _ _ _ _ h => absurd h (no vs H Q E)⟩
theorem all_moved (D : Df K mg "moved" sMoved ["paper", "at", "by"]) (cP : Cal P w K mg base 1 "places_of" ["paper"] (spPlaces K)) (cW : Cal P w K mg base 1 "with_part" ["paper", "place", "part"] (spWith K)) :
    ∀ n, Cal P w K mg base (n + 1) "moved" ["paper", "at", "by"] (spMoved K n)
  | 0 => D.cal fun f fd F => FnOk.void fun vs H Q E ⟨v, p, k, m, _, _, hn, _⟩ => by have := deep_pos p; omega
  | n + 1 => D.cal fun f fd F => ok_moved F cP cW (all_moved D cP cW n)

def spPut (K : PySem.W.Frag) (n : Nat) : Sp := fun vs H Q _ => ∃ (v vo : V) (p o : Pp) (k b : Nat), vs = [v, .int k, vo, .int b] ∧ Dt K H v p.d ∧ Dt K H vo o.d ∧ deep p + deep o ≤ n ∧ ∀ v' H', Same H H' → Dt K H' v' (putU p k o b).d → Q v' H'
theorem scPu : FnScope ["paper", "at", "other", "between", "found", "place", "part"] ["paper", "at", "other", "between"] (defScope sPut) := ⟨rfl, rfl, rfl, by decide +kernel, rfl, by decide +kernel, by decide +kernel⟩
theorem ok_put {n : Nat} (F : Fun K "put_under" "put_under" sPut f fd) (mi : mg "int" = none) (cP : Cal P w K mg base 1 "places_of" ["paper"] (spPlaces K)) (cW : Cal P w K mg base 1 "with_part" ["paper", "place", "part"] (spWith K))
    (cA : Cal P w K mg base 1 "assumed" ["paper", "place"] (spAssumed K)) (cM : Cal P w K mg base (n + 1) "moved" ["paper", "at", "by"] (spMoved K n))
    (cU : Cal P w K mg base (n + 2) "put_under" ["paper", "at", "other", "between"] (spPut K n)) : FnOk P w K mg base CX0 (n + 2 + 1) f fd ["paper", "at", "other", "between"] (spPut K (n + 1)) := by
  refine F.ok scPu (fun vs H Q E h => ?_) (fun cdv A outer s H vs Q E hr h => ?_)
  · obtain ⟨v, vo, p, o, j, b, rfl, _⟩ := h
    rfl
  · obtain ⟨v, vo, p, o, j, b, rfl, hv, ho, hn, k⟩ := h
    obtain ⟨a, xs, rfl, hT, hD⟩ := hv.paper
    have hr1 : Room 1 _ := hr.mono (by omega)
    have hr2 : Room (n + 1) _ := hr.mono (by omega)
    have po := deep_pos o
    have pp := deep_pos p
    refine ⟨_, pss_cons (ps_if (pt_cmpR op_eq (pe_ix ix_tup (pv 0) pe_int (fun _ _ => rfl)) pe_str (nomark _))
        (pss_cons (ps_if (pt_cmpR op_eq (pe_ix ix_tup (pv 0) pe_int (fun _ _ => rfl)) (pv 1) (nomark _)) (pss_one (ps_ret (pe_cal cM hr2 rfl (pa_cons (pv 2) (pa_cons (pv 1) (pa_cons (pv 3) pa_nil)))))) pss_nil)
          (pss_one (ps_ret (pe_tup (pa_cons pe_str (pa_cons (pe_op op_sub (pe_ix ix_tup (pv 0) pe_int (fun _ _ => rfl)) (pe_callTy call_int1 (by rfl) mi (by decide +kernel) (pa_cons (pe_cmpR op_gt (pe_ix ix_tup (pv 0) pe_int (fun _ _ => rfl)) (pv 1) (nomark _)) pa_nil))) pa_nil)))))) pss_nil)
      (pss_cons (ps_set (i := 4) scPu.nd rfl (Or.inl rfl) (pv 0))
      (pss_cons (ps_for PassesOwn.never rfl (pi_tup (pe_cal cP hr1 rfl (pa_cons (pv 0) pa_nil))) (pg_name (i := 5) scPu.nd rfl (Or.inl rfl))
        (pss_cons (ps_set (i := 6) scPu.nd rfl (Or.inl rfl) (pe_cal cU hr rfl (pa_cons (pe_ix ix_tup (pv 0) (pv 5) (fun _ _ => rfl)) (pa_cons (pv 1) (pa_cons (pv 2) (pa_cons (pe_op op_add (pv 3) (pe_cal cA hr1 rfl (pa_cons (pv 0) (pa_cons (pv 5) pa_nil)))) pa_nil))))))
        (pss_one (ps_set (i := 4) scPu.nd rfl (Or.inl rfl) (pe_cal cW hr1 rfl (pa_cons (pv 4) (pa_cons (pv 5) (pa_cons (pv 6) pa_nil))))))))
      (pss_one (ps_ret (pv 4))))), ?_⟩
    refine ⟨_, rfl, a, xs, 0, _, rfl, rfl, hT, at0 hD.word, rfl, _, rfl, ?_⟩
    refine iteB p.dUse (fun c => ?_) (fun c => ?_)
    · cases p with
      | use u =>
        obtain ⟨x0, x1, rfl, r0, r1⟩ := hD.c2
        cases r0.invS
        cases r1.invI
        refine ⟨_, rfl, a, _, 1, _, rfl, rfl, hT, at1 rfl, _, rfl, rfl, _, rfl, ?_⟩
        refine ite2 (fun c2 => ?_) (fun c2 => ?_)
        · have c3 : V.int (u : Int) = V.int (j : Int) := of_decide_eq_true c2
          have c4 : u = j := by injection c3 with c3; omega
          refine ⟨_, rfl, _, rfl, _, rfl, vo, o, j, b, rfl, ho, by simp only [deep] at hn; omega, fun v' H' s' r' => k v' H' s' ?_⟩
          simp only [putU]
          rw [if_pos c4]
          exact r'
        · have c3 : ¬ V.int (u : Int) = V.int (j : Int) := of_decide_eq_false (Bool.eq_false_iff.mpr c2)
          have c4 : ¬ u = j := fun z => c3 (by rw [z])
          refine ⟨_, rfl, a, _, 1, _, rfl, rfl, hT, at1 rfl, _, rfl, a, _, 1, _, rfl, rfl, hT, at1 rfl, _, rfl, _, _, rfl, rfl, .inr ⟨_, rfl, _, _, rfl, rfl, (by show 2 ≤ sizeLine; decide), fun t ht => ?_⟩⟩
          refine k _ _ (Same.new ht) ?_
          simp only [putU]
          rw [if_neg c4]
          simp only [Pp.d]
          refine Dt.made upd_same (.cons (.str _) (.cons ?_ .nil))
          have e : (u : Int) - (if decide ((j : Int) < (u : Int)) = true then 1 else 0) = (((if j < u then u - 1 else u : Nat)) : Int) := by
            by_cases hj : j < u
            · rw [if_pos hj, if_pos (decide_eq_true (by omega))]; omega
            · rw [if_neg hj, if_neg (by rw [decide_eq_false (by omega)]; exact Bool.false_ne_true)]; omega
          rw [← e]
          exact .int _
      | _ => cases c
    · refine ⟨_, rfl, _, rfl, a, xs, p, rfl, hT, hD, fun t kt => ⟨t, rfl, ⟨_, kt.seq⟩, ?_⟩⟩
      refine for_tup (K := K) (a := t) (xs := p.pls.map fun n => V.int (n : Nat)) (fun i σ H' => ∃ (g : Addr) (ys : List V) (x y : Option V), σ = [some (.ref a), some (.int j), some vo, some (.int b), some (.ref g), x, y] ∧ Same H H' ∧ SqT K H' g ys ∧ DtAll K H' ys (fsAt p (putSubs p j o b) i))
        ⟨a, xs, none, none, rfl, Same.refl _, hT, by rw [fsAt_zero]; exact hD⟩ (fun i σ H' _ _ => kt.seq) ?_ ?_
      · rintro i y σ H' hi ⟨g, ys, x, y2, rfl, hs, hg, hy⟩
        obtain ⟨q, hq, rfl⟩ : ∃ q, p.pls[i]? = some q ∧ V.int (q : Nat) = y := by
          rw [List.getElem?_map] at hi
          exact Option.map_eq_some_iff.mp hi
        obtain ⟨c1, hb, hf, _⟩ := Pp.pls_sub hq
        obtain ⟨vb, e1, r1⟩ := (DtAll.mono hs.tk hD).get hf
        refine ⟨_, rfl, _, rfl, a, xs, _, vb, rfl, rfl, hs.tk.seqT hT, atI_nat e1, _, rfl, _, rfl, _, rfl, _, rfl, _, rfl, a, xs, p, q, rfl, hs.tk.seqT hT, DtAll.mono hs.tk hD, _, _, rfl, rfl, ?_⟩
        refine ⟨vb, vo, c1, o, j, b + p.asm q, by rw [Int.natCast_add]; rfl, r1, Dt.mono hs.tk ho, by have := Pp.deep_sub hb; omega, fun v' H2 s2 r2 => ?_⟩
        refine ⟨_, rfl, _, rfl, _, rfl, g, ys, q, v', rfl, s2.tk.seqT hg, by rw [hy.len, fsAt_len]; exact pls_pos hq, fun r H3 s3 e3 => ?_⟩
        refine ⟨r, _, _, _, rfl, hs.trans (s2.trans s3), SqT.of e3, ?_⟩
        rw [fsAt_succ hq (r := putU c1 j o (b + p.asm q)) (by unfold putSubs; rw [List.getElem?_zipWith, hb, Pp.pls_as hq])]
        exact (DtAll.mono (s2.trans s3).tk hy).set q (Dt.mono s3.tk r2)
      · rintro σ H' ⟨g, ys, x, y2, rfl, hs, hg, hy⟩
        refine ⟨_, rfl, k _ _ hs ?_⟩
        rw [List.length_map, fs_put j o b c] at hy
        rw [Pp.d_fs]
        exact .tup hg hy
theorem all_put (D : Df K mg "put_under" sPut ["paper", "at", "other", "between"]) (mi : mg "int" = none) (cP : Cal P w K mg base 1 "places_of" ["paper"] (spPlaces K)) (cW : Cal P w K mg base 1 "with_part" ["paper", "place", "part"] (spWith K))
    (cA : Cal P w K mg base 1 "assumed" ["paper", "place"] (spAssumed K)) (cM : ∀ n, Cal P w K mg base (n + 1) "moved" ["paper", "at", "by"] (spMoved K n)) :
    ∀ n, Cal P w K mg base (n + 2) "put_under" ["paper", "at", "other", "between"] (spPut K n)
  | 0 => D.cal fun f fd F => FnOk.void fun vs H Q E ⟨v, vo, p, o, k, m, _, _, _, hn, _⟩ => by have := deep_pos p; omega
  | n + 1 => D.cal fun f fd F => ok_put F mi cP cW cA (cM n) (all_put D mi cP cW cA cM n)

def spPutIn (K : PySem.W.Frag) (n : Nat) : Sp := fun vs H Q _ => ∃ (v vo : V) (p o : Pp) (k : Nat), vs = [v, .int k, vo] ∧ Dt K H v p.d ∧ Dt K H vo o.d ∧ deep p + deep o ≤ n ∧ ∀ v' H', Same H H' → Dt K H' v' (putU p k o 0).d → Q v' H'
theorem scPi : FnScope ["paper", "at", "other"] ["paper", "at", "other"] (defScope sPutIn) := ⟨rfl, rfl, rfl, by decide +kernel, rfl, by decide +kernel, by decide +kernel⟩
theorem ok_putin {n : Nat} (F : Fun K "put_in" "put_in" sPutIn f fd) (cU : Cal P w K mg base (n + 2) "put_under" ["paper", "at", "other", "between"] (spPut K n)) : FnOk P w K mg base CX0 (n + 3) f fd ["paper", "at", "other"] (spPutIn K n) := by
  refine F.ok scPi (fun vs H Q E h => ?_) (fun cdv A outer s H vs Q E hr h => ?_)
  · obtain ⟨v, vo, p, o, j, rfl, _⟩ := h
    rfl
  · obtain ⟨v, vo, p, o, j, rfl, hv, ho, hn, k⟩ := h
    refine ⟨_, pss_one (ps_ret (pe_cal cU hr rfl (pa_cons (pv 0) (pa_cons (pv 1) (pa_cons (pv 2) (pa_cons pe_int pa_nil)))))), ?_⟩
    exact ⟨_, rfl, _, rfl, _, rfl, v, vo, p, o, j, 0, rfl, hv, ho, hn, k⟩
end
end Ob
namespace Ob
open PySem L2
def Pp.isPair : Pp → Bool
  | .pair _ _ => true
  | _ => false
theorem Pp.dPair : ∀ p : Pp, decide (V.str p.word = V.str "pair") = p.isPair
  | .use _ => (by decide +kernel : decide (V.str "use" = V.str "pair") = false)
  | .pair _ _ => (by decide +kernel : decide (V.str "pair" = V.str "pair") = true)
  | .first _ => (by decide +kernel : decide (V.str "first" = V.str "pair") = false)
  | .second _ => (by decide +kernel : decide (V.str "second" = V.str "pair") = false)
  | .left _ _ => (by decide +kernel : decide (V.str "left" = V.str "pair") = false)
  | .right _ _ => (by decide +kernel : decide (V.str "right" = V.str "pair") = false)
  | .case _ _ _ _ => (by decide +kernel : decide (V.str "case" = V.str "pair") = false)
  | .make _ _ => (by decide +kernel : decide (V.str "make" = V.str "pair") = false)
  | .apply _ _ => (by decide +kernel : decide (V.str "apply" = V.str "pair") = false)
  | .escape _ _ => (by decide +kernel : decide (V.str "escape" = V.str "pair") = false)
def Pp.isLeft : Pp → Bool
  | .left _ _ => true
  | _ => false
theorem Pp.dLeft : ∀ p : Pp, decide (V.str p.word = V.str "left") = p.isLeft
  | .use _ => (by decide +kernel : decide (V.str "use" = V.str "left") = false)
  | .pair _ _ => (by decide +kernel : decide (V.str "pair" = V.str "left") = false)
  | .first _ => (by decide +kernel : decide (V.str "first" = V.str "left") = false)
  | .second _ => (by decide +kernel : decide (V.str "second" = V.str "left") = false)
  | .left _ _ => (by decide +kernel : decide (V.str "left" = V.str "left") = true)
  | .right _ _ => (by decide +kernel : decide (V.str "right" = V.str "left") = false)
  | .case _ _ _ _ => (by decide +kernel : decide (V.str "case" = V.str "left") = false)
  | .make _ _ => (by decide +kernel : decide (V.str "make" = V.str "left") = false)
  | .apply _ _ => (by decide +kernel : decide (V.str "apply" = V.str "left") = false)
  | .escape _ _ => (by decide +kernel : decide (V.str "escape" = V.str "left") = false)
def Pp.isRight : Pp → Bool
  | .right _ _ => true
  | _ => false
theorem Pp.dRight : ∀ p : Pp, decide (V.str p.word = V.str "right") = p.isRight
  | .use _ => (by decide +kernel : decide (V.str "use" = V.str "right") = false)
  | .pair _ _ => (by decide +kernel : decide (V.str "pair" = V.str "right") = false)
  | .first _ => (by decide +kernel : decide (V.str "first" = V.str "right") = false)
  | .second _ => (by decide +kernel : decide (V.str "second" = V.str "right") = false)
  | .left _ _ => (by decide +kernel : decide (V.str "left" = V.str "right") = false)
  | .right _ _ => (by decide +kernel : decide (V.str "right" = V.str "right") = true)
  | .case _ _ _ _ => (by decide +kernel : decide (V.str "case" = V.str "right") = false)
  | .make _ _ => (by decide +kernel : decide (V.str "make" = V.str "right") = false)
  | .apply _ _ => (by decide +kernel : decide (V.str "apply" = V.str "right") = false)
  | .escape _ _ => (by decide +kernel : decide (V.str "escape" = V.str "right") = false)
def Pp.isEsc : Pp → Bool
  | .escape _ _ => true
  | _ => false
theorem Pp.dEsc : ∀ p : Pp, decide (V.str p.word = V.str "escape") = p.isEsc
  | .use _ => (by decide +kernel : decide (V.str "use" = V.str "escape") = false)
  | .pair _ _ => (by decide +kernel : decide (V.str "pair" = V.str "escape") = false)
  | .first _ => (by decide +kernel : decide (V.str "first" = V.str "escape") = false)
  | .second _ => (by decide +kernel : decide (V.str "second" = V.str "escape") = false)
  | .left _ _ => (by decide +kernel : decide (V.str "left" = V.str "escape") = false)
  | .right _ _ => (by decide +kernel : decide (V.str "right" = V.str "escape") = false)
  | .case _ _ _ _ => (by decide +kernel : decide (V.str "case" = V.str "escape") = false)
  | .make _ _ => (by decide +kernel : decide (V.str "make" = V.str "escape") = false)
  | .apply _ _ => (by decide +kernel : decide (V.str "apply" = V.str "escape") = false)
  | .escape _ _ => (by decide +kernel : decide (V.str "escape" = V.str "escape") = true)
def Pp.isFirst : Pp → Bool
  | .first _ => true
  | _ => false
theorem Pp.dFirst : ∀ p : Pp, decide (V.str p.word = V.str "first") = p.isFirst
  | .use _ => (by decide +kernel : decide (V.str "use" = V.str "first") = false)
  | .pair _ _ => (by decide +kernel : decide (V.str "pair" = V.str "first") = false)
  | .first _ => (by decide +kernel : decide (V.str "first" = V.str "first") = true)
  | .second _ => (by decide +kernel : decide (V.str "second" = V.str "first") = false)
  | .left _ _ => (by decide +kernel : decide (V.str "left" = V.str "first") = false)
  | .right _ _ => (by decide +kernel : decide (V.str "right" = V.str "first") = false)
  | .case _ _ _ _ => (by decide +kernel : decide (V.str "case" = V.str "first") = false)
  | .make _ _ => (by decide +kernel : decide (V.str "make" = V.str "first") = false)
  | .apply _ _ => (by decide +kernel : decide (V.str "apply" = V.str "first") = false)
  | .escape _ _ => (by decide +kernel : decide (V.str "escape" = V.str "first") = false)

theorem ifT {b : Bool} {A B : Prop} (e : b = true) (h : A) : if b = true then A else B := by subst e; exact iteT h
theorem ifF {b : Bool} {A B : Prop} (e : b = false) (h : B) : if b = true then A else B := by subst e; exact iteF h
/-- the answer: a paper, or None -/
def DtO (K : PySem.W.Frag) (H : Hp) (v : V) : Option Pp → Prop
  | some x => Dt K H v x.d
  | none => v = .non
theorem DtO.mono {K : PySem.W.Frag} {H H' : Hp} (k : Tk H H') {v : V} : ∀ {o : Option Pp}, DtO K H v o → DtO K H' v o
  | some _, h => Dt.mono k h
  | none, h => h

abbrev sJoined : Stmt := top 28
abbrev sShown : Stmt := top 29
abbrev sRound : Stmt := top 30
abbrev sLifted : Stmt := top 31
abbrev sHere : Stmt := top 32
abbrev sStep : Stmt := top 33

section
variable {P : Program} {w : World} {K : PySem.W.Frag} {mg : Str → Option Value} {base : Heap} {f : Addr} {fd : FuncData}

def spJoined (K : PySem.W.Frag) (n : Nat) : Sp := fun vs H Q _ => ∃ (v : V) (p c : Pp) (m : Nat), vs = [.int m, v] ∧ Dt K H v p.d ∧ chief? p = some c ∧ size p ≤ n ∧ ∀ v' H', Same H H' → DtO K H' v' (joined m p) → Q v' H'
theorem scJo : FnScope ["many", "paper", "word", "chief"] ["many", "paper"] (defScope sJoined) := ⟨rfl, rfl, rfl, by decide +kernel, rfl, by decide +kernel, by decide +kernel⟩
theorem ok_joined {n : Nat} (F : Fun K "joined" "joined" sJoined f fd) (cI : Cal P w K mg base (n + 3) "put_in" ["paper", "at", "other"] (spPutIn K n)) : FnOk P w K mg base CX0 (n + 4) f fd ["many", "paper"] (spJoined K n) := by
  refine F.ok scJo (fun vs H Q E h => ?_) (fun cdv A outer s H vs Q E hr h => ?_)
  · obtain ⟨v, p, c, m, rfl, _⟩ := h
    rfl
  · obtain ⟨v, p, c, m, rfl, hv, hc, hn, k⟩ := h
    obtain ⟨a, xs, rfl, hT, hD⟩ := hv.paper
    obtain ⟨vc, e1, rc⟩ : ∃ vc, xs[1]? = some vc ∧ Dt K H vc c.d := by
      cases p <;> simp only [chief?, Option.some.injEq, reduceCtorEq] at hc <;> subst hc <;> exact hD.get (i := 1) rfl
    obtain ⟨b, ys, rfl, hTc, hDc⟩ := rc.paper
    refine ⟨_, pss_cons (ps_par (i := 2) (j := 3) (by rfl) scJo.nd rfl rfl (by decide) rfl rfl (pa_cons (pe_ix ix_tup (pv 1) pe_int (fun _ _ => rfl)) (pa_cons (pe_ix ix_tup (pv 1) pe_int (fun _ _ => rfl)) pa_nil)) (by rfl))
      (pss_cons (ps_if (PW.pt (pw_and (pt_cmpR op_eq (pv 2) pe_str (nomark _)) (pw_and1 (pt_cmpR op_eq (pe_ix ix_tup (pv 3) pe_int (fun _ _ => rfl)) pe_str (nomark _))))) (pss_one (ps_ret (pe_ix ix_tup (pv 3) pe_int (fun _ _ => rfl)))) pss_nil)
      (pss_cons (ps_if (PW.pt (pw_and (pt_cmpR op_eq (pv 2) pe_str (nomark _)) (pw_and1 (pt_cmpR op_eq (pe_ix ix_tup (pv 3) pe_int (fun _ _ => rfl)) pe_str (nomark _))))) (pss_one (ps_ret (pe_ix ix_tup (pv 3) pe_int (fun _ _ => rfl)))) pss_nil)
      (pss_cons (ps_if (PW.pt (pw_and (pt_cmpR op_eq (pv 2) pe_str (nomark _)) (pw_and1 (pt_cmpR op_eq (pe_ix ix_tup (pv 3) pe_int (fun _ _ => rfl)) pe_str (nomark _))))) (pss_one (ps_ret (pe_cal cI hr rfl (pa_cons (pe_ix ix_tup (pv 3) pe_int (fun _ _ => rfl)) (pa_cons (pv 0) (pa_cons (pe_ix ix_tup (pv 1) pe_int (fun _ _ => rfl)) pa_nil)))))) pss_nil)
      (pss_cons (ps_if (PW.pt (pw_and (pt_cmpR op_eq (pv 2) pe_str (nomark _)) (pw_and1 (pt_cmpR op_eq (pe_ix ix_tup (pv 3) pe_int (fun _ _ => rfl)) pe_str (nomark _))))) (pss_one (ps_ret (pe_cal cI hr rfl (pa_cons (pe_ix ix_tup (pv 1) pe_int (fun _ _ => rfl)) (pa_cons (pv 0) (pa_cons (pe_ix ix_tup (pv 3) pe_int (fun _ _ => rfl)) pa_nil)))))) pss_nil)
      (pss_cons (ps_if (PW.pt (pw_and (pt_cmpR op_eq (pv 2) pe_str (nomark _)) (pw_and1 (pt_cmpR op_eq (pe_ix ix_tup (pv 3) pe_int (fun _ _ => rfl)) pe_str (nomark _))))) (pss_one (ps_ret (pe_cal cI hr rfl (pa_cons (pe_ix ix_tup (pv 1) pe_int (fun _ _ => rfl)) (pa_cons (pv 0) (pa_cons (pe_ix ix_tup (pv 3) pe_int (fun _ _ => rfl)) pa_nil)))))) pss_nil)
      (pss_one (ps_ret pe_non))))))), ?_⟩
    have hw := hDc.word
    cases p with
    | first q =>
      cases hc
      have w0 : xs[0]? = some (.str "first") := hD.word
      refine ⟨_, rfl, a, xs, 0, _, rfl, rfl, hT, at0 w0, _, rfl, a, xs, 1, _, rfl, rfl, hT, at1 e1, _, _, rfl, ?_⟩
      refine ⟨_, rfl, rfl, _, rfl, ifT (by decide +kernel) ⟨_, rfl, b, ys, 0, _, rfl, rfl, hTc, at0 hw, rfl, _, rfl, iteB c.dPair (fun c1 => ?_) (fun c1 => ?_)⟩⟩
      · cases c with
        | pair x y =>
          obtain ⟨_, v1, _, rfl, _, r1, _⟩ := hDc.c3
          exact ⟨_, rfl, b, _, 1, _, rfl, rfl, hTc, at1 rfl, k _ _ (Same.refl _) r1⟩
        | _ => cases c1
      · refine ⟨_, rfl, rfl, _, rfl, ifF (by decide +kernel) (iteF ?_)⟩
        refine ⟨_, rfl, rfl, _, rfl, ifF (by decide +kernel) (iteF ?_)⟩
        refine ⟨_, rfl, rfl, _, rfl, ifF (by decide +kernel) (iteF ?_)⟩
        refine ⟨_, rfl, rfl, _, rfl, ifF (by decide +kernel) (iteF ?_)⟩
        refine k _ _ (Same.refl _) ?_
        cases c <;> first | rfl | (cases c1; done)
    | second q =>
      cases hc
      have w0 : xs[0]? = some (.str "second") := hD.word
      refine ⟨_, rfl, a, xs, 0, _, rfl, rfl, hT, at0 w0, _, rfl, a, xs, 1, _, rfl, rfl, hT, at1 e1, _, _, rfl, ?_⟩
      refine ⟨_, rfl, rfl, _, rfl, ifF (by decide +kernel) (iteF ?_)⟩
      refine ⟨_, rfl, rfl, _, rfl, ifT (by decide +kernel) ⟨_, rfl, b, ys, 0, _, rfl, rfl, hTc, at0 hw, rfl, _, rfl, iteB c.dPair (fun c1 => ?_) (fun c1 => ?_)⟩⟩
      · cases c with
        | pair x y =>
          obtain ⟨_, _, v1, rfl, _, _, r1⟩ := hDc.c3
          exact ⟨_, rfl, b, _, 2, _, rfl, rfl, hTc, at2 rfl, k _ _ (Same.refl _) r1⟩
        | _ => cases c1
      · refine ⟨_, rfl, rfl, _, rfl, ifF (by decide +kernel) (iteF ?_)⟩
        refine ⟨_, rfl, rfl, _, rfl, ifF (by decide +kernel) (iteF ?_)⟩
        refine ⟨_, rfl, rfl, _, rfl, ifF (by decide +kernel) (iteF ?_)⟩
        refine k _ _ (Same.refl _) ?_
        cases c <;> first | rfl | (cases c1; done)
    | apply q o =>
      cases hc
      have w0 : xs[0]? = some (.str "apply") := hD.word
      refine ⟨_, rfl, a, xs, 0, _, rfl, rfl, hT, at0 w0, _, rfl, a, xs, 1, _, rfl, rfl, hT, at1 e1, _, _, rfl, ?_⟩
      obtain ⟨_, _, vo, rfl, _, _, ro⟩ := hD.c3
      refine ⟨_, rfl, rfl, _, rfl, ifF (by decide +kernel) (iteF ?_)⟩
      refine ⟨_, rfl, rfl, _, rfl, ifF (by decide +kernel) (iteF ?_)⟩
      refine ⟨_, rfl, rfl, _, rfl, ifT (by decide +kernel) ⟨_, rfl, b, ys, 0, _, rfl, rfl, hTc, at0 hw, rfl, _, rfl, iteB c.dMk (fun c1 => ?_) (fun c1 => ?_)⟩⟩
      · cases c with
        | make x y =>
          obtain ⟨_, _, v1, rfl, _, _, r1⟩ := hDc.c3
          refine ⟨_, rfl, b, _, 2, _, rfl, rfl, hTc, at2 rfl, _, rfl, _, rfl, a, _, 2, _, rfl, rfl, hT, at2 rfl, v1, vo, y, o, m, rfl, r1, ro, ?_, k⟩
          have h1 := deep_size y
          have h2 := deep_size o
          simp only [size] at hn
          omega
        | _ => cases c1
      · refine ⟨_, rfl, rfl, _, rfl, ifF (by decide +kernel) (iteF ?_)⟩
        refine ⟨_, rfl, rfl, _, rfl, ifF (by decide +kernel) (iteF ?_)⟩
        refine k _ _ (Same.refl _) ?_
        cases c <;> first | rfl | (cases c1; done)
    | case q o r d =>
      cases hc
      have w0 : xs[0]? = some (.str "case") := hD.word
      refine ⟨_, rfl, a, xs, 0, _, rfl, rfl, hT, at0 w0, _, rfl, a, xs, 1, _, rfl, rfl, hT, at1 e1, _, _, rfl, ?_⟩
      obtain ⟨_, _, vo, vr, _, rfl, _, _, ro, rr, _⟩ := hD.c5
      refine ⟨_, rfl, rfl, _, rfl, ifF (by decide +kernel) (iteF ?_)⟩
      refine ⟨_, rfl, rfl, _, rfl, ifF (by decide +kernel) (iteF ?_)⟩
      refine ⟨_, rfl, rfl, _, rfl, ifF (by decide +kernel) (iteF ?_)⟩
      refine ⟨_, rfl, rfl, _, rfl, ifT (by decide +kernel) ⟨_, rfl, b, ys, 0, _, rfl, rfl, hTc, at0 hw, rfl, _, rfl, iteB c.dLeft (fun c1 => ?_) (fun c1 => ?_)⟩⟩
      · cases c with
        | left x y =>
          obtain ⟨_, v1, _, rfl, _, r1, _⟩ := hDc.c3
          refine ⟨_, rfl, a, _, 2, _, rfl, rfl, hT, at2 rfl, _, rfl, _, rfl, b, _, 1, _, rfl, rfl, hTc, at1 rfl, vo, v1, o, x, m, rfl, ro, r1, ?_, k⟩
          have h1 := deep_size x
          have h2 := deep_size o
          simp only [size] at hn
          omega
        | _ => cases c1
      · refine ⟨_, rfl, rfl, _, rfl, ifT (by decide +kernel) ⟨_, rfl, b, ys, 0, _, rfl, rfl, hTc, at0 hw, rfl, _, rfl, iteB c.dRight (fun c2 => ?_) (fun c2 => ?_)⟩⟩
        · cases c with
          | right x y =>
            obtain ⟨_, _, v1, rfl, _, _, r1⟩ := hDc.c3
            refine ⟨_, rfl, a, _, 3, _, rfl, rfl, hT, at3 rfl, _, rfl, _, rfl, b, _, 2, _, rfl, rfl, hTc, at2 rfl, vr, v1, r, y, m, rfl, rr, r1, ?_, k⟩
            have h1 := deep_size y
            have h2 := deep_size r
            simp only [size] at hn
            omega
          | _ => cases c2
        · refine k _ _ (Same.refl _) ?_
          cases c <;> first | rfl | (cases c1; done) | (cases c2; done)
    | escape q d =>
      cases hc
      have w0 : xs[0]? = some (.str "escape") := hD.word
      refine ⟨_, rfl, a, xs, 0, _, rfl, rfl, hT, at0 w0, _, rfl, a, xs, 1, _, rfl, rfl, hT, at1 e1, _, _, rfl, ?_⟩
      refine ⟨_, rfl, rfl, _, rfl, ifF (by decide +kernel) (iteF ?_)⟩
      refine ⟨_, rfl, rfl, _, rfl, ifF (by decide +kernel) (iteF ?_)⟩
      refine ⟨_, rfl, rfl, _, rfl, ifF (by decide +kernel) (iteF ?_)⟩
      refine ⟨_, rfl, rfl, _, rfl, ifF (by decide +kernel) (iteF ?_)⟩
      refine ⟨_, rfl, rfl, _, rfl, ifF (by decide +kernel) (iteF ?_)⟩
      exact k _ _ (Same.refl _) rfl
    | _ => cases hc

/-- the chief one's statement has parts where parts are asked -/
def joint : Sm → Bool
  | .lt _ => false
  | .nv => false
  | _ => true
def okS : Pp → Sm → Bool
  | .first _, d => joint d
  | .second _, d => joint d
  | .apply _ _, d => joint d
  | .case _ _ _ _, _ => true
  | .escape _ _, _ => true
  | _, _ => false
theorem Dt.joint {H : Hp} {v : V} {d : Sm} (h : Dt K H v d.d) (j : joint d = true) : ∃ a x v1 v2, v = .ref a ∧ SqT K H a [x, v1, v2] ∧ Dt K H v1 (lhs d).d ∧ Dt K H v2 (rhs d).d := by
  cases d with
  | lt _ => cases j
  | nv => cases j
  | _ =>
    simp only [Sm.d] at h
    obtain ⟨a, xs, rfl, hT, hD⟩ := h.inv
    obtain ⟨x, v1, v2, rfl, _, r1, r2⟩ := hD.c3
    exact ⟨a, x, v1, v2, rfl, hT, r1, r2⟩
def spShown (K : PySem.W.Frag) : Sp := fun vs H Q _ => ∃ (v u : V) (p : Pp) (d : Sm), vs = [v, u] ∧ Dt K H v p.d ∧ Dt K H u d.d ∧ okS p d = true ∧ ∀ v', Dt K H v' (shownOf p d).d → Q v' H
theorem scSh : FnScope ["paper", "borne"] ["paper", "borne"] (defScope sShown) := ⟨rfl, rfl, rfl, by decide +kernel, rfl, by decide +kernel, by decide +kernel⟩
theorem ok_shown (F : Fun K "shown_of" "shown_of" sShown f fd) : FnOk P w K mg base CX0 1 f fd ["paper", "borne"] (spShown K) := by
  refine F.ok scSh (fun vs H Q E h => ?_) (fun cdv A outer s H vs Q E hr h => ?_)
  · obtain ⟨v, u, p, d, rfl, _⟩ := h
    rfl
  · obtain ⟨v, u, p, d, rfl, hv, hu, ho, k⟩ := h
    obtain ⟨a, xs, rfl, hT, hD⟩ := hv.paper
    refine ⟨_, pss_cons (ps_if (pt_cmpR op_eq (pe_ix ix_tup (pv 0) pe_int (fun _ _ => rfl)) pe_str (nomark _)) (pss_one (ps_ret (pe_ix ix_tup (pv 0) pe_int (fun _ _ => rfl)))) pss_nil)
      (pss_cons (ps_if (pt_cmpR op_eq (pe_ix ix_tup (pv 0) pe_int (fun _ _ => rfl)) pe_str (nomark _)) (pss_one (ps_ret (pe_ix ix_tup (pv 0) pe_int (fun _ _ => rfl)))) pss_nil)
      (pss_cons (ps_if (pt_cmpR op_eq (pe_ix ix_tup (pv 0) pe_int (fun _ _ => rfl)) pe_str (nomark _)) (pss_one (ps_ret (pe_ix ix_tup (pv 1) pe_int (fun _ _ => rfl)))) pss_nil)
      (pss_one (ps_ret (pe_ix ix_tup (pv 1) pe_int (fun _ _ => rfl)))))), ?_⟩
    refine ⟨_, rfl, a, xs, 0, _, rfl, rfl, hT, at0 hD.word, rfl, _, rfl, ?_⟩
    refine iteB p.dCs (fun c => ?_) (fun c => ?_)
    · cases p with
      | case x y z q =>
        obtain ⟨_, _, _, _, vq, rfl, _, _, _, _, rq⟩ := hD.c5
        exact ⟨_, rfl, a, _, 4, _, rfl, rfl, hT, at4 rfl, k _ rq⟩
      | _ => cases c
    refine ⟨_, rfl, a, xs, 0, _, rfl, rfl, hT, at0 hD.word, rfl, _, rfl, ?_⟩
    refine iteB p.dEsc (fun c2 => ?_) (fun c2 => ?_)
    · cases p with
      | escape x q =>
        obtain ⟨_, _, vq, rfl, _, _, rq⟩ := hD.c3
        exact ⟨_, rfl, a, _, 2, _, rfl, rfl, hT, at2 rfl, k _ rq⟩
      | _ => cases c2
    refine ⟨_, rfl, a, xs, 0, _, rfl, rfl, hT, at0 hD.word, rfl, _, rfl, ?_⟩
    refine iteB p.dFirst (fun c3 => ?_) (fun c3 => ?_)
    · cases p with
      | first x =>
        obtain ⟨b, x0, v1, v2, rfl, hb, r1, r2⟩ := hu.joint ho
        exact ⟨_, rfl, b, _, 1, _, rfl, rfl, hb, at1 rfl, k _ r1⟩
      | _ => cases c3
    · have hj : joint d = true ∧ shownOf p d = rhs d := by
        cases p with
        | second x => exact ⟨ho, rfl⟩
        | apply x y => exact ⟨ho, rfl⟩
        | case _ _ _ _ => cases c
        | escape _ _ => cases c2
        | first _ => cases c3
        | _ => cases ho
      obtain ⟨b, x0, v1, v2, rfl, hb, r1, r2⟩ := hu.joint hj.1
      exact ⟨_, rfl, b, _, 2, _, rfl, rfl, hb, at2 rfl, k _ (by rw [hj.2]; exact r2)⟩

/-- what stands at the places behind an arm -/
def rndSubs (n : Nat) (p x : Pp) : List Pp := x :: ((p.sub.drop 1).map fun q => moved q n 1)
theorem fs_round {p c : Pp} (n : Nat) (x : Pp) (h : chief? p = some c) : fsAt p (rndSubs n p x) p.pls.length = (roundArm n p x).fs := by
  cases p <;> first
    | rfl
    | cases h
theorem chief_pls {p c : Pp} (h : chief? p = some c) : p.pls = 1 :: p.pls.drop 1 ∧ p.sub = c :: p.sub.drop 1 := by
  cases p <;> first
    | (cases h; exact ⟨rfl, rfl⟩)
    | cases h
def spRound (K : PySem.W.Frag) (n : Nat) : Sp := fun vs H Q _ => ∃ (v u : V) (p x c : Pp) (m : Nat), vs = [.int m, v, u] ∧ Dt K H v p.d ∧ Dt K H u x.d ∧ chief? p = some c ∧ deep p ≤ n ∧ ∀ v' H', Same H H' → Dt K H' v' (roundArm m p x).d → Q v' H'
theorem scRo : FnScope ["many", "paper", "arm", "found", "place"] ["many", "paper", "arm"] (defScope sRound) := ⟨rfl, rfl, rfl, by decide +kernel, rfl, by decide +kernel, by decide +kernel⟩
theorem ok_round {n : Nat} (F : Fun K "round_arm" "round_arm" sRound f fd) (cP : Cal P w K mg base 1 "places_of" ["paper"] (spPlaces K)) (cW : Cal P w K mg base 1 "with_part" ["paper", "place", "part"] (spWith K))
    (cM : Cal P w K mg base (n + 1) "moved" ["paper", "at", "by"] (spMoved K n)) : FnOk P w K mg base CX0 (n + 2) f fd ["many", "paper", "arm"] (spRound K n) := by
  refine F.ok scRo (fun vs H Q E h => ?_) (fun cdv A outer s H vs Q E hr h => ?_)
  · obtain ⟨v, u, p, x, c, m, rfl, _⟩ := h
    rfl
  · obtain ⟨v, u, p, x, c, m, rfl, hv, hu, hc, hn, k⟩ := h
    obtain ⟨a, xs, rfl, hT, hD⟩ := hv.paper
    obtain ⟨e1, e2⟩ := chief_pls hc
    have hr1 : Room 1 _ := hr.mono (by omega)
    refine ⟨_, pss_cons (ps_set (i := 3) scRo.nd rfl (Or.inl rfl) (pe_cal cW hr1 rfl (pa_cons (pv 1) (pa_cons pe_int (pa_cons (pv 2) pa_nil)))))
      (pss_cons (ps_for PassesOwn.never rfl (pi_tup (pe_slice sl_tupA (pe_cal cP hr1 rfl (pa_cons (pv 1) pa_nil)) (po_some pe_int) po_none)) (pg_name (i := 4) scRo.nd rfl (Or.inl rfl))
        (pss_one (ps_set (i := 3) scRo.nd rfl (Or.inl rfl) (pe_cal cW hr1 rfl (pa_cons (pv 3) (pa_cons (pv 4) (pa_cons (pe_cal cM hr rfl (pa_cons (pe_ix ix_tup (pv 1) (pv 4) (fun _ _ => rfl)) (pa_cons (pv 0) (pa_cons pe_int pa_nil)))) pa_nil)))))))
      (pss_one (ps_ret (pv 3)))), ?_⟩
    have h1 : 1 < xs.length := by
      rw [hD.len]
      exact pls_pos (p := p) (i := 0) (by rw [e1]; rfl)
    refine ⟨_, rfl, _, rfl, a, xs, 1, u, rfl, hT, h1, fun r H1 s1 er => ?_⟩
    refine ⟨_, rfl, a, xs, p, rfl, s1.tk.seqT hT, DtAll.mono s1.tk hD, fun t kt => ⟨_, rfl, t, _, rfl, kt.seq, fun hwh => ?_, fun _ t2 ht2 => ?_⟩⟩
    · exfalso
      have h2 := hwh.1
      have e3 : HT.sIx ((p.pls.map fun n => V.int (n : Nat)).length) 0 (some 1) = min 1 _ := HT.sIx_nat _ _ 1
      rw [e3, List.length_map, e1, List.length_cons] at h2
      omega
    have ecut : cutV (p.pls.map fun n => V.int (n : Nat)) (some 1) none = (p.pls.drop 1).map fun n => V.int (n : Nat) := by
      unfold cutV
      have e3 : HT.sIx ((p.pls.map fun n => V.int (n : Nat)).length) 0 (some 1) = min 1 _ := HT.sIx_nat _ _ 1
      rw [e3, HT.sIx_none, List.length_map]
      have e4 : min 1 p.pls.length = 1 := by rw [e1, List.length_cons]; omega
      rw [e4, ← List.map_drop, List.take_of_length_le (by rw [List.length_map, List.length_drop]; exact Nat.le_refl _)]
    rw [ecut]
    have s2 : Same H1 (upd H1 t2 (.tup ((p.pls.drop 1).map fun n => V.int (n : Nat)))) := Same.new ht2
    refine ⟨t2, rfl, ⟨_, SqT.of upd_same⟩, ?_⟩
    refine for_tup (K := K) (a := t2) (xs := (p.pls.drop 1).map fun n => V.int (n : Nat)) (fun i σ H' => ∃ (g : Addr) (ys : List V) (x1 : Option V), σ = [some (.int m), some (.ref a), some u, some (.ref g), x1] ∧ Same H H' ∧ H' t2 = some (.tup ((p.pls.drop 1).map fun n => V.int (n : Nat))) ∧ SqT K H' g ys ∧ DtAll K H' ys (fsAt p (rndSubs m p x) (i + 1)))
      ⟨r, _, none, rfl, s1.trans s2, upd_same, s2.tk.seqT (SqT.of er), ?_⟩ (fun i σ H' _ ⟨_, _, _, _, _, h, _⟩ => SqT.of h) ?_ ?_
    · rw [fsAt_succ (k := 1) (r := x) (by rw [e1]; rfl) rfl, fsAt_zero]
      exact (DtAll.mono (s1.trans s2).tk hD).set 1 (Dt.mono (s1.trans s2).tk hu)
    · rintro i y σ H' hi ⟨g, ys, x1, rfl, hs, ht, hg, hy⟩
      obtain ⟨q, hq, rfl⟩ : ∃ q, (p.pls.drop 1)[i]? = some q ∧ V.int (q : Nat) = y := by
        rw [List.getElem?_map] at hi
        exact Option.map_eq_some_iff.mp hi
      have hq1 : p.pls[i + 1]? = some q := by rw [List.getElem?_drop, Nat.add_comm] at hq; exact hq
      obtain ⟨b, hb, hf, _⟩ := Pp.pls_sub hq1
      obtain ⟨vb, e5, r1⟩ := (DtAll.mono hs.tk hD).get hf
      refine ⟨_, rfl, _, rfl, _, rfl, _, rfl, a, xs, _, vb, rfl, rfl, hs.tk.seqT hT, atI_nat e5, _, rfl, ?_⟩
      refine ⟨vb, b, m, 1, rfl, r1, by have := Pp.deep_sub hb; omega, fun v' H2 s2 r2 => ?_⟩
      refine ⟨g, ys, q, v', rfl, s2.tk.seqT hg, by rw [hy.len, fsAt_len]; exact pls_pos hq1, fun r' H3 s3 e3 => ?_⟩
      refine ⟨r', _, _, rfl, hs.trans (s2.trans s3), (s2.trans s3) _ _ ht, SqT.of e3, ?_⟩
      rw [fsAt_succ hq1 (r := moved b m 1) (by
        unfold rndSubs
        rw [List.getElem?_cons_succ, List.getElem?_map, List.getElem?_drop, Nat.add_comm 1 i, hb]
        rfl)]
      exact (DtAll.mono (s2.trans s3).tk hy).set q (Dt.mono s3.tk r2)
    · rintro σ H' ⟨g, ys, x1, rfl, hs, ht, hg, hy⟩
      refine ⟨_, rfl, k _ _ hs ?_⟩
      have e6 : ((p.pls.drop 1).map fun n => V.int (n : Nat)).length + 1 = p.pls.length := by
        rw [List.length_map, List.length_drop, e1, List.length_cons]
        omega
      rw [e6, fs_round m x hc] at hy
      rw [Pp.d_fs]
      exact .tup hg hy
end
end Ob
namespace Ob
open PySem L2
def chs : List V := [.str "first", .str "second", .str "apply", .str "case", .str "escape"]
theorem Pp.dChief : ∀ p : Pp, inV (V.str p.word) chs = (chief? p).isSome
  | .use _ => (by decide +kernel : inV (V.str "use") chs = false)
  | .pair _ _ => (by decide +kernel : inV (V.str "pair") chs = false)
  | .first _ => (by decide +kernel : inV (V.str "first") chs = true)
  | .second _ => (by decide +kernel : inV (V.str "second") chs = true)
  | .left _ _ => (by decide +kernel : inV (V.str "left") chs = false)
  | .right _ _ => (by decide +kernel : inV (V.str "right") chs = false)
  | .case _ _ _ _ => (by decide +kernel : inV (V.str "case") chs = true)
  | .make _ _ => (by decide +kernel : inV (V.str "make") chs = false)
  | .apply _ _ => (by decide +kernel : inV (V.str "apply") chs = true)
  | .escape _ _ => (by decide +kernel : inV (V.str "escape") chs = true)

/-- it shows something from some givens -/
def WT (p : Pp) : Prop := ∃ (g : List Sm) (a : Sm) (f : Env g → Ty a), Den g p a f
theorem WT.sub {p q : Pp} {i : Nat} (h : WT p) (e : p.sub[i]? = some q) : WT q := by
  obtain ⟨g, a, f, d⟩ := h
  cases d <;> simp only [Pp.sub] at e <;> (rcases i with _ | _ | _ | i) <;> simp at e <;> subst e <;> exact ⟨_, _, _, by assumption⟩
theorem WT.shown {p c : Pp} {d : Sm} (h : WT p) (e : chief? p = some c) (b : (∃ x y z, c = .case x y z d) ∨ ∃ x, c = .escape x d) : okS p d = true := by
  obtain ⟨g, a, f, t⟩ := h
  cases t with
  | first t =>
    cases e
    rcases b with ⟨x, y, z, rfl⟩ | ⟨x, rfl⟩ <;> cases t <;> rfl
  | second t =>
    cases e
    rcases b with ⟨x, y, z, rfl⟩ | ⟨x, rfl⟩ <;> cases t <;> rfl
  | apply t _ =>
    cases e
    rcases b with ⟨x, y, z, rfl⟩ | ⟨x, rfl⟩ <;> cases t <;> rfl
  | case _ _ _ => rfl
  | escape _ => rfl
  | _ => cases e

section
variable {P : Program} {w : World} {K : PySem.W.Frag} {mg : Str → Option Value} {base : Heap} {f : Addr} {fd : FuncData}
def spLifted (K : PySem.W.Frag) (n : Nat) : Sp := fun vs H Q _ => ∃ (v : V) (p c : Pp) (m : Nat), vs = [.int m, v] ∧ Dt K H v p.d ∧ chief? p = some c ∧ WT p ∧ size p ≤ n ∧ ∀ v' H', Same H H' → DtO K H' v' (lifted m p) → Q v' H'
theorem scLi : FnScope ["many", "paper", "chief", "word", "heart", "one", "two", "borne", "arms", "arm"] ["many", "paper"] (defScope sLifted) := ⟨rfl, rfl, rfl, by decide +kernel, rfl, by decide +kernel, by decide +kernel⟩
theorem ok_lifted {n : Nat} (F : Fun K "lifted" "lifted" sLifted f fd) (cS : Cal P w K mg base 1 "shown_of" ["paper", "borne"] (spShown K)) (cR : Cal P w K mg base (n + 2) "round_arm" ["many", "paper", "arm"] (spRound K n)) :
    FnOk P w K mg base CX0 (n + 3) f fd ["many", "paper"] (spLifted K n) := by
  refine F.ok scLi (fun vs H Q E h => ?_) (fun cdv A outer s H vs Q E hr h => ?_)
  · obtain ⟨v, p, c, m, rfl, _⟩ := h
    rfl
  · obtain ⟨v, p, c, m, rfl, hv, hc, hw, hn, k⟩ := h
    obtain ⟨a, xs, rfl, hT, hD⟩ := hv.paper
    have hr1 : Room 1 _ := hr.mono (by omega)
    have hdp := deep_size p
    obtain ⟨vc, e1, rc⟩ : ∃ vc, xs[1]? = some vc ∧ Dt K H vc c.d := by
      cases p <;> simp only [chief?, Option.some.injEq, reduceCtorEq] at hc <;> subst hc <;> exact hD.get (i := 1) rfl
    obtain ⟨b, ys, rfl, hTc, hDc⟩ := rc.paper
    refine ⟨_, pss_cons (ps_set (i := 2) scLi.nd rfl (Or.inl rfl) (pe_ix ix_tup (pv 1) pe_int (fun _ _ => rfl)))
      (pss_cons (ps_if (pt_cmpR op_eq (pe_ix ix_tup (pv 2) pe_int (fun _ _ => rfl)) pe_str (nomark _))
        (pss_one (ps_ret (pe_tup (pa_cons pe_str (pa_cons (pe_ix ix_tup (pv 2) pe_int (fun _ _ => rfl)) (pa_cons (pe_cal cS hr1 rfl (pa_cons (pv 1) (pa_cons (pe_ix ix_tup (pv 2) pe_int (fun _ _ => rfl)) pa_nil))) pa_nil)))))) pss_nil)
      (pss_cons (ps_if (pt_cmpR op_eq (pe_ix ix_tup (pv 2) pe_int (fun _ _ => rfl)) pe_str (nomark _))
        (pss_cons (ps_asg (pv 2) (pg_tup rfl (pgs_cons (pg_name (i := 3) scLi.nd rfl (Or.inl rfl)) (pgs_cons (pg_name (i := 4) scLi.nd rfl (Or.inl rfl)) (pgs_cons (pg_name (i := 5) scLi.nd rfl (Or.inl rfl)) (pgs_cons (pg_name (i := 6) scLi.nd rfl (Or.inl rfl)) (pgs_cons (pg_name (i := 7) scLi.nd rfl (Or.inl rfl)) pgs_nil)))))))
        (pss_cons (ps_setLc (i := 8) (own := [("arm", 9)]) (g := gName 9) (tt := tYes) rfl scLi.nd rfl rfl (sw_true rfl rfl rfl (by decide +kernel)) (pi_tup (pe_tup (pa_cons (pv 5) (pa_cons (pv 6) pa_nil))))
            (blkOk_by (N := ["many", "paper", "chief", "word", "heart", "one", "two", "borne", "arms", "arm"]) (sc := defScope sLifted) (by decide +kernel))
            (fun _ _ _ _ _ => pg_name (i := 9) scLi.nd rfl (Or.inl rfl)) (fun _ _ _ _ _ => pts_nil) (fun _ _ _ _ _ => pe_cal cR hr rfl (pa_cons (pv 0) (pa_cons (pv 1) (pa_cons (pv 9) pa_nil)))))
        (pss_one (ps_ret (pe_tup (pa_cons pe_str (pa_cons (pv 4) (pa_cons (pe_ix ix_list (pv 8) pe_int (fun _ _ => rfl)) (pa_cons (pe_ix ix_list (pv 8) pe_int (fun _ _ => rfl)) (pa_cons (pe_cal cS hr1 rfl (pa_cons (pv 1) (pa_cons (pv 7) pa_nil))) pa_nil)))))))))) pss_nil)
      (pss_one (ps_ret pe_non)))), ?_⟩
    refine ⟨_, rfl, a, xs, 1, _, rfl, rfl, hT, at1 e1, ?_⟩
    refine ⟨_, rfl, b, ys, 0, _, rfl, rfl, hTc, at0 hDc.word, rfl, _, rfl, ?_⟩
    refine iteB c.dEsc (fun c1 => ?_) (fun c1 => ?_)
    · cases c with
      | escape x d =>
        obtain ⟨_, v1, v2, rfl, _, r1, r2⟩ := hDc.c3
        refine ⟨_, rfl, b, _, 1, _, rfl, rfl, hTc, at1 rfl, _, rfl, _, rfl, b, _, 2, _, rfl, rfl, hTc, at2 rfl, _, v2, p, d, rfl, hv, r2, hw.shown hc (.inr ⟨x, rfl⟩), fun v3 r3 => ?_⟩
        refine ⟨(by show 3 ≤ sizeLine; decide), fun t ht => k _ _ (Same.new ht) ?_⟩
        have e : lifted m p = some (.escape x (shownOf p d)) := by unfold lifted; rw [hc]
        rw [e]
        simp only [DtO, Pp.d]
        exact Dt.made upd_same (.cons (.str _) (.cons (Dt.mono (Tk.new ht) r1) (.cons (Dt.mono (Tk.new ht) r3) .nil)))
      | _ => cases c1
    refine ⟨_, rfl, b, ys, 0, _, rfl, rfl, hTc, at0 hDc.word, rfl, _, rfl, ?_⟩
    refine iteB c.dCs (fun c2 => ?_) (fun c2 => ?_)
    · cases c with
      | case x q r d =>
        obtain ⟨v0, v1, v2, v3, v4, rfl, _, r1, r2, r3, r4⟩ := hDc.c5
        have hdeep : deep p ≤ n := by omega
        refine ⟨_, rfl, b, _, rfl, hTc, rfl, _, _, rfl, _, _, rfl, _, _, rfl, _, _, rfl, _, _, rfl, rfl, ?_⟩
        refine ⟨_, rfl, _, rfl, (by show 2 ≤ sizeLine; decide), fun t ht => ⟨t, rfl, ⟨_, SqT.of upd_same⟩, fun D hD' => ?_⟩⟩
        have s1 : Same H (upd H t (.tup [v2, v3])) := Same.new ht
        have nDt : D ≠ t := fun z => by rw [z, upd_same] at hD'; cases hD'
        have hD0 : H D = none := by rw [upd_ne nDt] at hD'; exact hD'
        refine lc_tup (K := K) (a := t) (xs := [v2, v3]) (fun i H' => ∃ acc, Same H H' ∧ H' t = some (.tup [v2, v3]) ∧ H' D = some (.lst acc) ∧ acc.length = i ∧ DtAll K H' acc ((([q, r].map fun z => (roundArm m p z).d)).take i))
          ⟨[], s1.upd_old hD0, by rw [upd_ne nDt.symm]; exact upd_same, upd_same, rfl, .nil⟩ (fun i H' _ ⟨_, _, h, _⟩ => SqT.of h) ?_ ?_
        · rintro i y H' hi ⟨acc, sH, ht', hl', hlen, hda⟩
          refine ⟨rfl, ?_⟩
          refine ⟨_, rfl, _, rfl, _, rfl, ?_⟩
          rcases i with _ | _ | i
          · cases hi
            refine ⟨_, v2, p, q, _, m, rfl, Dt.mono sH.tk hv, Dt.mono sH.tk r2, hc, hdeep, fun v' H2 s2 rr => ?_⟩
            have h0 : acc = [] := List.eq_nil_of_length_eq_zero hlen
            subst h0
            refine ⟨[], s2 _ _ hl', (by decide), [v'], (sH.trans s2).upd_old hD0, by rw [upd_ne nDt.symm]; exact s2 _ _ ht', upd_same, rfl, ?_⟩
            exact DtAll.one (Dt.mono (Tk.lst (s2 _ _ hl')) rr)
          · cases hi
            refine ⟨_, v3, p, r, _, m, rfl, Dt.mono sH.tk hv, Dt.mono sH.tk r3, hc, hdeep, fun v' H2 s2 rr => ?_⟩
            refine ⟨acc, s2 _ _ hl', (by rw [hlen]; decide), acc ++ [v'], (sH.trans s2).upd_old hD0, by rw [upd_ne nDt.symm]; exact s2 _ _ ht', upd_same, by rw [List.length_append, hlen]; rfl, ?_⟩
            have tk2 : Tk H' (upd H2 D (.lst (acc ++ [v']))) := s2.tk.trans (Tk.lst (s2 _ _ hl'))
            exact (DtAll.mono tk2 hda).app (DtAll.one (Dt.mono (Tk.lst (s2 _ _ hl')) rr))
          · simp at hi
        · rintro H' ⟨acc, sH, ht', hl', hlen, hda⟩
          obtain ⟨u1, u2, rfl, q1, q2⟩ := DtAll.c2 (show DtAll K H' acc [(roundArm m p q).d, (roundArm m p r).d] from hda)
          refine ⟨_, rfl, _, rfl, D, _, 0, _, rfl, rfl, SqL.of hl', at0 rfl, _, rfl, D, _, 1, _, rfl, rfl, SqL.of hl', at1 rfl, _, rfl, _, rfl, _, v4, p, d, rfl, Dt.mono sH.tk hv, Dt.mono sH.tk r4, hw.shown hc (.inl ⟨x, q, r, rfl⟩), fun v5 q5 => ?_⟩
          refine ⟨(by show 5 ≤ sizeLine; decide), fun t2 ht2 => k _ _ (sH.trans (Same.new ht2)) ?_⟩
          have e : lifted m p = some (.case x (roundArm m p q) (roundArm m p r) (shownOf p d)) := by unfold lifted; rw [hc]
          rw [e]
          have tk := Tk.new (o := .tup [.str "case", v1, u1, u2, v5]) ht2
          simp only [DtO, Pp.d]
          exact Dt.made upd_same (.cons (.str _) (.cons (Dt.mono (sH.tk.trans tk) r1) (.cons (Dt.mono tk q1) (.cons (Dt.mono tk q2) (.cons (Dt.mono tk q5) .nil)))))
      | _ => cases c2
    · refine k _ _ (Same.refl _) ?_
      have e : lifted m p = none := by
        unfold lifted
        rw [hc]
        cases c <;> first | rfl | (cases c1; done) | (cases c2; done)
      rw [e]
      rfl

def spHere (K : PySem.W.Frag) (n : Nat) : Sp := fun vs H Q _ => ∃ (v : V) (p : Pp) (m : Nat), vs = [.int m, v] ∧ Dt K H v p.d ∧ WT p ∧ size p ≤ n ∧ ∀ v' H', Same H H' → DtO K H' v' (stepHere m p) → Q v' H'
theorem scHe : FnScope ["many", "paper", "found"] ["many", "paper"] (defScope sHere) := ⟨rfl, rfl, rfl, by decide +kernel, rfl, by decide +kernel, by decide +kernel⟩
theorem ok_here {n : Nat} (F : Fun K "step_here" "step_here" sHere f fd) (hch : ∃ c, mg "CHIEFS" = some (.ref c) ∧ KTup K c chs) (cJ : Cal P w K mg base (n + 4) "joined" ["many", "paper"] (spJoined K n)) (cL : Cal P w K mg base (n + 3) "lifted" ["many", "paper"] (spLifted K n)) :
    FnOk P w K mg base CX0 (n + 5) f fd ["many", "paper"] (spHere K n) := by
  refine F.ok scHe (fun vs H Q E h => ?_) (fun cdv A outer s H vs Q E hr h => ?_)
  · obtain ⟨v, p, m, rfl, _⟩ := h
    rfl
  · obtain ⟨v, p, m, rfl, hv, hw, hn, k⟩ := h
    obtain ⟨ch, mch, kch⟩ := hch
    obtain ⟨a, xs, rfl, hT, hD⟩ := hv.paper
    have hr1 : Room (n + 3) _ := hr.mono (by omega)
    refine ⟨_, pss_cons (ps_if (pt_cmpR op_notIn_seq (pe_ix ix_tup (pv 1) pe_int (fun _ _ => rfl)) (pe_glob (v := .ref ch) rfl mch rfl) rfl) (pss_one (ps_ret pe_non)) pss_nil)
      (pss_cons (ps_set (i := 2) scHe.nd rfl (Or.inl rfl) (pe_cal cJ hr rfl (pa_cons (pv 0) (pa_cons (pv 1) pa_nil))))
      (pss_cons (ps_if (pt_cmp (pc_isN (pv 2))) (pss_one (ps_set (i := 2) scHe.nd rfl (Or.inl rfl) (pe_cal cL hr1 rfl (pa_cons (pv 0) (pa_cons (pv 1) pa_nil))))) pss_nil)
      (pss_one (ps_ret (pv 2))))), ?_⟩
    refine ⟨_, rfl, a, xs, 0, _, rfl, rfl, hT, at0 hD.word, ch, chs, rfl, .inr kch.seq, rfl, (by decide +kernel), _, rfl, ?_⟩
    refine iteB (c := (chief? p).isNone) (by show (!inV (V.str p.word) chs) = _; rw [p.dChief]; cases chief? p <;> rfl) (fun c => ?_) (fun c => ?_)
    · refine k _ _ (Same.refl _) ?_
      have e : stepHere m p = none := by
        cases p <;> first | rfl | (cases c; done)
      rw [e]
      rfl
    · obtain ⟨ci, hc⟩ : ∃ ci, chief? p = some ci := by
        cases e : chief? p with
        | none => rw [e] at c; cases c
        | some ci => exact ⟨ci, rfl⟩
      refine ⟨_, rfl, _, rfl, _, p, ci, m, rfl, hv, hc, hn, fun v1 H1 s1 r1 => ?_⟩
      refine ⟨_, rfl, _, rfl, ?_⟩
      cases ej : joined m p with
      | some x =>
        rw [ej] at r1
        have hx : Dt K H1 v1 x.d := r1
        obtain ⟨a1, _, rfl, _⟩ := hx.paper
        refine ifF (decide_eq_false fun z => nomatch z) ?_
        refine ⟨_, rfl, k _ _ s1 ?_⟩
        have e : stepHere m p = some x := by unfold stepHere; rw [ej]
        rw [e]
        exact hx
      | none =>
        rw [ej] at r1
        obtain rfl : v1 = .non := r1
        refine ifT (decide_eq_true rfl) ?_
        refine ⟨_, rfl, _, rfl, _, p, ci, m, rfl, Dt.mono s1.tk hv, hc, hw, hn, fun v2 H2 s2 r2 => ⟨_, rfl, k _ _ (s1.trans s2) ?_⟩⟩
        have e : stepHere m p = lifted m p := by unfold stepHere; rw [ej]
        rw [e]
        exact r2

theorem step_go {m : Nat} {p : Pp} (h : stepHere m p = none) {i k a : Nat} {q x : Pp} (hq : p.sub[i]? = some q) (hk : p.pls[i]? = some k) (ha : p.as[i]? = some a)
    (before : ∀ (j : Nat) (q' : Pp) (a' : Nat), j < i → p.sub[j]? = some q' → p.as[j]? = some a' → step (m + a') q' = none) (hx : step (m + a) q = some x) : ∃ r, step m p = some r ∧ r.fs = p.fs.set k x.d := by
  have b0 := before 0
  have b1 := before 1
  cases p <;> simp only [Pp.sub, Pp.pls, Pp.as] at hq hk ha b0 b1 <;> (rcases i with _ | _ | _ | i) <;> simp at hq hk ha b0 b1 <;> subst hq <;> subst hk <;> subst ha <;> simp_all only [step, Nat.add_zero, Option.map_some] <;> exact ⟨_, rfl, rfl⟩
theorem step_no {m : Nat} {p : Pp} (h : stepHere m p = none) (all : ∀ (j : Nat) (q' : Pp) (a' : Nat), p.sub[j]? = some q' → p.as[j]? = some a' → step (m + a') q' = none) : step m p = none := by
  have b0 := all 0
  have b1 := all 1
  have b2 := all 2
  cases p <;> simp only [Pp.sub, Pp.as] at b0 b1 b2 <;> simp at b0 b1 b2 <;> simp_all only [step, Nat.add_zero, Option.map_none]
theorem step_is {m : Nat} {p x : Pp} (h : stepHere m p = some x) : step m p = some x := by
  cases p <;> first | (simp only [step]; rw [h]; done) | (simp only [step, h]; done) | cases h

def spStep (K : PySem.W.Frag) (n : Nat) : Sp := fun vs H Q _ => ∃ (v : V) (p : Pp) (m : Nat), vs = [.int m, v] ∧ Dt K H v p.d ∧ WT p ∧ size p ≤ n ∧ ∀ v' H', Same H H' → DtO K H' v' (step m p) → Q v' H'
theorem scSt : FnScope ["many", "paper", "found", "place", "part"] ["many", "paper"] (defScope sStep) := ⟨rfl, rfl, rfl, by decide +kernel, rfl, by decide +kernel, by decide +kernel⟩
theorem ok_step {n : Nat} (F : Fun K "step" "step" sStep f fd) (cH : Cal P w K mg base (n + 1 + 5) "step_here" ["many", "paper"] (spHere K (n + 1))) (cP : Cal P w K mg base 1 "places_of" ["paper"] (spPlaces K)) (cW : Cal P w K mg base 1 "with_part" ["paper", "place", "part"] (spWith K))
    (cA : Cal P w K mg base 1 "assumed" ["paper", "place"] (spAssumed K)) (cS : Cal P w K mg base (n + 6) "step" ["many", "paper"] (spStep K n)) : FnOk P w K mg base CX0 (n + 6 + 1) f fd ["many", "paper"] (spStep K (n + 1)) := by
  refine F.ok scSt (fun vs H Q E h => ?_) (fun cdv A outer s H vs Q E hr h => ?_)
  · obtain ⟨v, p, m, rfl, _⟩ := h
    rfl
  · obtain ⟨v, p, m, rfl, hv, hw, hn, k⟩ := h
    obtain ⟨a, xs, rfl, hT, hD⟩ := hv.paper
    have hr1 : Room 1 _ := hr.mono (by omega)
    refine ⟨_, pss_cons (ps_set (i := 2) scSt.nd rfl (Or.inl rfl) (pe_cal cH hr rfl (pa_cons (pv 0) (pa_cons (pv 1) pa_nil))))
      (pss_cons (ps_if (pt_cmp (pc_notN (pv 2))) (pss_one (ps_ret (pv 2))) pss_nil)
      (pss_cons (ps_for PassesOwn.never rfl (pi_tup (pe_cal cP hr1 rfl (pa_cons (pv 1) pa_nil))) (pg_name (i := 3) scSt.nd rfl (Or.inl rfl))
        (pss_cons (ps_set (i := 4) scSt.nd rfl (Or.inl rfl) (pe_cal cS hr rfl (pa_cons (pe_op op_add (pv 0) (pe_cal cA hr1 rfl (pa_cons (pv 1) (pa_cons (pv 3) pa_nil)))) (pa_cons (pe_ix ix_tup (pv 1) (pv 3) (fun _ _ => rfl)) pa_nil))))
        (pss_one (ps_if (pt_cmp (pc_notN (pv 4))) (pss_one (ps_ret (pe_cal cW hr1 rfl (pa_cons (pv 1) (pa_cons (pv 3) (pa_cons (pv 4) pa_nil)))))) pss_nil))))
      (pss_one (ps_ret pe_non)))), ?_⟩
    refine ⟨_, rfl, _, rfl, _, p, m, rfl, hv, hw, hn, fun v1 H1 s1 r1 => ?_⟩
    refine ⟨_, rfl, _, rfl, ?_⟩
    cases eh : stepHere m p with
    | some x =>
      rw [eh] at r1
      have hx : Dt K H1 v1 x.d := r1
      obtain ⟨a1, _, rfl, _⟩ := hx.paper
      refine ifT (by rw [decide_eq_false (fun z => nomatch z)]; rfl) ?_
      refine ⟨_, rfl, k _ _ s1 ?_⟩
      rw [step_is eh]
      exact hx
    | none =>
      rw [eh] at r1
      obtain rfl : v1 = .non := r1
      refine ifF (by rw [decide_eq_true rfl]; rfl) ?_
      refine ⟨_, rfl, a, xs, p, rfl, s1.tk.seqT hT, DtAll.mono s1.tk hD, fun t kt => ⟨t, rfl, ⟨_, kt.seq⟩, ?_⟩⟩
      refine for_tup (K := K) (a := t) (xs := p.pls.map fun n => V.int (n : Nat)) (fun i σ H' => ∃ (x y : Option V), σ = [some (.int m), some (.ref a), some .non, x, y] ∧ Same H H' ∧ ∀ (j : Nat) (q' : Pp) (a' : Nat), j < i → p.sub[j]? = some q' → p.as[j]? = some a' → step (m + a') q' = none)
        ⟨none, none, rfl, s1, fun j _ _ hj => absurd hj (Nat.not_lt_zero _)⟩ (fun i σ H' _ _ => kt.seq) ?_ ?_
      · rintro i y σ H' hi ⟨x1, x2, rfl, hs, bef⟩
        obtain ⟨q, hq, rfl⟩ : ∃ q, p.pls[i]? = some q ∧ V.int (q : Nat) = y := by
          rw [List.getElem?_map] at hi
          exact Option.map_eq_some_iff.mp hi
        obtain ⟨c1, hb, hf, _⟩ := Pp.pls_sub hq
        have has := Pp.pls_as hq
        obtain ⟨vb, e1, rb⟩ := (DtAll.mono hs.tk hD).get hf
        refine ⟨_, rfl, _, rfl, _, rfl, a, xs, p, q, rfl, hs.tk.seqT hT, DtAll.mono hs.tk hD, _, _, rfl, rfl, _, rfl, _, rfl, a, xs, _, vb, rfl, rfl, hs.tk.seqT hT, atI_nat e1, ?_⟩
        refine ⟨vb, c1, m + p.asm q, by rw [Int.natCast_add]; rfl, rb, hw.sub hb, by have := Pp.size_sub hb; omega, fun v2 H2 s2 r2 => ?_⟩
        refine ⟨_, rfl, _, rfl, ?_⟩
        cases es : step (m + p.asm q) c1 with
        | some x =>
          rw [es] at r2
          have hx : Dt K H2 v2 x.d := r2
          obtain ⟨a2, _, rfl, _⟩ := hx.paper
          refine ifT (by rw [decide_eq_false (fun z => nomatch z)]; rfl) ?_
          obtain ⟨r, er, fr⟩ := step_go eh hb hq has bef es
          refine ⟨_, rfl, _, rfl, _, rfl, a, xs, q, _, rfl, (hs.trans s2).tk.seqT hT, by rw [hD.len]; exact pls_pos hq, fun r' H3 s3 e3 => k _ _ (hs.trans (s2.trans s3)) ?_⟩
          rw [er]
          show Dt K H3 _ r.d
          rw [Pp.d_fs, fr]
          exact Dt.made e3 ((DtAll.mono (hs.trans (s2.trans s3)).tk hD).set q (Dt.mono s3.tk hx))
        | none =>
          rw [es] at r2
          obtain rfl : v2 = .non := r2
          refine ifF (by rw [decide_eq_true rfl]; rfl) ?_
          refine ⟨_, _, rfl, hs.trans s2, fun j q' a' hj e2 e3 => ?_⟩
          by_cases hji : j = i
          · subst hji
            rw [hb] at e2
            rw [has] at e3
            cases e2
            cases e3
            exact es
          · exact bef j q' a' (by omega) e2 e3
      · rintro σ H' ⟨x1, x2, rfl, hs, bef⟩
        refine k _ _ hs ?_
        have e : step m p = none := step_no eh fun j q' a' e2 e3 => bef j q' a' (by
          rw [List.length_map, pls_len]
          exact (List.getElem?_eq_some_iff.mp e2).1) e2 e3
        rw [e]
        rfl
theorem all_step (D : Df K mg "step" sStep ["many", "paper"]) (cH : ∀ n, Cal P w K mg base (n + 5) "step_here" ["many", "paper"] (spHere K n)) (cP : Cal P w K mg base 1 "places_of" ["paper"] (spPlaces K)) (cW : Cal P w K mg base 1 "with_part" ["paper", "place", "part"] (spWith K))
    (cA : Cal P w K mg base 1 "assumed" ["paper", "place"] (spAssumed K)) : ∀ n, Cal P w K mg base (n + 6) "step" ["many", "paper"] (spStep K n)
  | 0 => D.cal fun f fd F => FnOk.void fun vs H Q E ⟨v, p, m, _, _, _, hn, _⟩ => by have := size_pos p; omega
  | n + 1 => D.cal fun f fd F => ok_step F (cH (n + 1)) cP cW cA (all_step D cH cP cW cA n)
end
end Ob
namespace Ob
open PySem L2

/-! ### more about the making of rows -/
theorem lay_len : ∀ (p : Pp) (st : List Rw × List Pp), (lay p st).1.length + (lay p st).2.length ≤ st.1.length + st.2.length + size p
  | .use k, st => by simp only [lay, List.length_append, List.length_cons, List.length_nil, size]; omega
  | .make c p, st => by
    have h := size_pos p
    simp only [lay, List.length_append, List.length_cons, List.length_nil, size]; omega
  | .case p q r c, st => by
    have h := lay_len p st
    have h1 := size_pos q
    have h2 := size_pos r
    simp only [lay, List.length_append, List.length_cons, List.length_nil, size] at h ⊢; omega
  | .pair p q, st => by
    have h := lay_len p st
    have h2 := lay_len q (lay p st)
    simp only [lay, List.length_append, List.length_cons, List.length_nil, size] at h h2 ⊢; omega
  | .apply p q, st => by
    have h := lay_len p st
    have h2 := lay_len q (lay p st)
    simp only [lay, List.length_append, List.length_cons, List.length_nil, size] at h h2 ⊢; omega
  | .first p, st => by
    have h := lay_len p st
    simp only [lay, List.length_append, List.length_cons, List.length_nil, size] at h ⊢; omega
  | .second p, st => by
    have h := lay_len p st
    simp only [lay, List.length_append, List.length_cons, List.length_nil, size] at h ⊢; omega
  | .left p _, st => by
    have h := lay_len p st
    simp only [lay, List.length_append, List.length_cons, List.length_nil, size] at h ⊢; omega
  | .right _ p, st => by
    have h := lay_len p st
    simp only [lay, List.length_append, List.length_cons, List.length_nil, size] at h ⊢; omega
  | .escape p _, st => by
    have h := lay_len p st
    simp only [lay, List.length_append, List.length_cons, List.length_nil, size] at h ⊢; omega
def rwOk (n : Nat) : Rw → Prop
  | .make t => t < n
  | .case t u => t < n ∧ u < n
  | _ => True
theorem rwOk.mono {n m : Nat} (h : n ≤ m) : ∀ {r : Rw}, rwOk n r → rwOk m r
  | .make t, q => Nat.lt_of_lt_of_le q h
  | .case t u, q => ⟨Nat.lt_of_lt_of_le q.1 h, Nat.lt_of_lt_of_le q.2 h⟩
  | .take _, _ | .pair, _ | .first, _ | .second, _ | .left, _ | .right, _ | .apply, _ | .escape, _ | .back, _ => trivial
def AllOk (st : List Rw × List Pp) : Prop := ∀ r ∈ st.1, rwOk st.2.length r
theorem allOk_app {st : List Rw × List Pp} {r : Rw} {m : List Pp} (h : AllOk st) (q : rwOk (st.2 ++ m).length r) : AllOk (st.1 ++ [r], st.2 ++ m) := by
  intro x hx
  rcases (List.mem_append.mp hx) with hx | hx
  · exact (h x hx).mono (by simp)
  · rw [List.mem_singleton.mp hx]; exact q
theorem allOk_app0 {st : List Rw × List Pp} {r : Rw} (h : AllOk st) (q : rwOk st.2.length r) : AllOk (st.1 ++ [r], st.2) := by
  intro x hx
  rcases (List.mem_append.mp hx) with hx | hx
  · exact h x hx
  · rw [List.mem_singleton.mp hx]; exact q
theorem lay_allOk : ∀ (p : Pp) (st : List Rw × List Pp), AllOk st → AllOk (lay p st)
  | .use k, st, h => allOk_app0 h trivial
  | .make c p, st, h => allOk_app h (by show st.2.length < _; simp)
  | .case p q r c, st, h => allOk_app (lay_allOk p st h) (by show _ < _ ∧ _ < _; simp)
  | .pair p q, st, h => allOk_app0 (lay_allOk q _ (lay_allOk p st h)) trivial
  | .apply p q, st, h => allOk_app0 (lay_allOk q _ (lay_allOk p st h)) trivial
  | .first p, st, h => allOk_app0 (lay_allOk p st h) trivial
  | .second p, st, h => allOk_app0 (lay_allOk p st h) trivial
  | .left p _, st, h => allOk_app0 (lay_allOk p st h) trivial
  | .right _ p, st, h => allOk_app0 (lay_allOk p st h) trivial
  | .escape p _, st, h => allOk_app0 (lay_allOk p st h) trivial

/-- the papers within, one after another -/
def layL : List Pp → List Rw × List Pp → List Rw × List Pp
  | [], st => st
  | p :: r, st => layL r (lay p st)
theorem layL_app : ∀ (l : List Pp) (p : Pp) (st : List Rw × List Pp), layL (l ++ [p]) st = lay p (layL l st)
  | [], _, _ => rfl
  | _ :: l, p, st => layL_app l p _
theorem layL_len : ∀ (l : List Pp) (st : List Rw × List Pp), (layL l st).1.length + (layL l st).2.length ≤ st.1.length + st.2.length + (l.map size).sum
  | [], st => by simp [layL]
  | p :: l, st => by
    have h := layL_len l (lay p st)
    have h2 := lay_len p st
    simp only [layL, List.map_cons, List.sum_cons]
    omega
def rwOf : Pp → Rw
  | .pair _ _ => .pair
  | .first _ => .first
  | .second _ => .second
  | .left _ _ => .left
  | .right _ _ => .right
  | .apply _ _ => .apply
  | _ => .escape
theorem lay_plain {p : Pp} (h1 : p.isUse = false) (h2 : p.isMk = false) (h3 : p.isCs = false) (st : List Rw × List Pp) : lay p st = ((layL p.sub st).1 ++ [rwOf p], (layL p.sub st).2) ∧ (rwOf p).d = .tuple [.str p.word] := by
  cases p <;> first
    | exact ⟨rfl, rfl⟩
    | (cases h1; done)
    | (cases h2; done)
    | (cases h3; done)
theorem sub_sizes {p q : Pp} {i : Nat} (h : p.sub[i]? = some q) : ((p.sub.take i).map size).sum + size q < size p := by
  cases p <;> simp only [Pp.sub] at h ⊢ <;> (rcases i with _ | _ | _ | i) <;> simp at h ⊢ <;> subst h <;> simp only [size] <;> omega
theorem sub_all {p : Pp} : ((p.sub).map size).sum < size p := by
  cases p <;> simp only [Pp.sub] <;> simp <;> simp only [size] <;> omega
def plnTab : List (Str × List Nat) := [("pair", [1, 2]), ("first", [1]), ("second", [1]), ("left", [1]), ("right", [2]), ("apply", [1, 2]), ("escape", [1])]
theorem plnTab_at {p : Pp} (h1 : p.isUse = false) (h2 : p.isMk = false) (h3 : p.isCs = false) : plnTab.lookup p.word = some p.pls := by
  cases p
  · cases h1
  · exact (by decide +kernel : plnTab.lookup ("pair" : Str) = some [1, 2])
  · exact (by decide +kernel : plnTab.lookup ("first" : Str) = some [1])
  · exact (by decide +kernel : plnTab.lookup ("second" : Str) = some [1])
  · exact (by decide +kernel : plnTab.lookup ("left" : Str) = some [1])
  · exact (by decide +kernel : plnTab.lookup ("right" : Str) = some [2])
  · cases h3
  · cases h2
  · exact (by decide +kernel : plnTab.lookup ("apply" : Str) = some [1, 2])
  · exact (by decide +kernel : plnTab.lookup ("escape" : Str) = some [1])

/-- rows at R, what stands apart at T -/
structure CAt (K : PySem.W.Frag) (H : Hp) (R T : Addr) (st : List Rw × List Pp) : Prop where
  ne : R ≠ T
  ex : ∃ vr vt, H R = some (.lst vr) ∧ H T = some (.lst vt) ∧ DtAll K H vr (st.1.map Rw.d) ∧ DtAll K H vt (st.2.map Pp.d)
theorem Kp.tk2 {H H' : Hp} {R T : Addr} {vr vt : List V} (k : Kp [R, T] H H') (h1 : H R = some (.lst vr)) (h2 : H T = some (.lst vt)) : Tk H H' :=
  ⟨fun b xs e => k b _ e (by
      intro z
      rcases (List.mem_cons.mp z) with z | z
      · rw [z, h1] at e; cases e
      · rw [List.mem_singleton.mp z, h2] at e; cases e),
   fun b o u e => k b _ e (by
      intro z
      rcases (List.mem_cons.mp z) with z | z
      · rw [z, h1] at e; cases e
      · rw [List.mem_singleton.mp z, h2] at e; cases e)⟩
theorem CAt.tk {K : PySem.W.Frag} {H H' : Hp} {R T : Addr} {st : List Rw × List Pp} (c : CAt K H R T st) (k : Kp [R, T] H H') : Tk H H' := by
  obtain ⟨_, _, h1, h2, _⟩ := c.ex
  exact k.tk2 h1 h2
/-- what is new leaves it -/
theorem CAt.same {K : PySem.W.Frag} {H H' : Hp} {R T : Addr} {st : List Rw × List Pp} (c : CAt K H R T st) (s : Same H H') : CAt K H' R T st := by
  obtain ⟨_, _, h1, h2, r1, r2⟩ := c.ex
  exact ⟨c.ne, _, _, s _ _ h1, s _ _ h2, DtAll.mono s.tk r1, DtAll.mono s.tk r2⟩

abbrev sLay : Stmt := top 15
abbrev sSettled : Stmt := top 16
abbrev sCode : Stmt := top 17
theorem small100 {n : Nat} (h : n ≤ 100000) : n < sizeLine := Nat.lt_of_le_of_lt h (by decide)

section
variable {P : Program} {w : World} {K : PySem.W.Frag} {mg : Str → Option Value} {base : Heap} {f : Addr} {fd : FuncData}
def spLay (K : PySem.W.Frag) (n : Nat) : Sp := fun vs H Q _ => ∃ (v : V) (R T : Addr) (p : Pp) (st : List Rw × List Pp), vs = [v, .ref R, .ref T] ∧ Dt K H v p.d ∧ CAt K H R T st ∧ deep p ≤ n ∧ st.1.length + st.2.length + size p ≤ 100000 ∧
  ∀ H', Kp [R, T] H H' → CAt K H' R T (lay p st) → Q .non H'
theorem scLy : FnScope ["paper", "rows", "todo", "word", "place"] ["paper", "rows", "todo"] (defScope sLay) := ⟨rfl, rfl, rfl, by decide +kernel, rfl, by decide +kernel, by decide +kernel⟩
theorem ok_lay {n : Nat} (F : Fun K "lay_rows" "lay_rows" sLay f fd) (TP : Tab K mg w "PLAIN" plnTab) (ml : mg "len" = none) (cL : Cal P w K mg base (n + 1) "lay_rows" ["paper", "rows", "todo"] (spLay K n)) :
    FnOk P w K mg base CX0 (n + 1 + 1) f fd ["paper", "rows", "todo"] (spLay K (n + 1)) := by
  refine F.ok scLy (fun vs H Q E h => ?_) (fun cdv A outer s H vs Q E hr h => ?_)
  · obtain ⟨v, R, T, p, st, rfl, _⟩ := h
    rfl
  · obtain ⟨v, R, T, p, st, rfl, hv, hC, hn, hz, k⟩ := h
    obtain ⟨a, xs, rfl, hT, hD⟩ := hv.paper
    obtain ⟨d, md, hd⟩ := TP.ex
    have hne := hC.ne
    obtain ⟨vr, vt, h1, h2, r1, r2⟩ := hC.ex
    have l1 : vr.length = st.1.length := by rw [r1.len, List.length_map]
    have l2 : vt.length = st.2.length := by rw [r2.len, List.length_map]
    refine ⟨_, (pss_cons (ps_set (i := 3) scLy.nd rfl (Or.inl rfl) (pe_ix ix_tup (pv 0) pe_int (fun _ _ => rfl))) (pss_one (ps_if (pt_cmpR op_eq (pv 3) pe_str (nomark _)) (pss_one (ps_expr (pe_bm PySem.F.plainAttrs_list PySem.F.slot_list_append PySem.F.type_list_append mt_append (pv 1) (pa_cons (pe_tup (pa_cons pe_str (pa_cons (pe_ix ix_tup (pv 0) pe_int (fun _ _ => rfl)) pa_nil))) pa_nil)))) (pss_one (ps_if (pt_cmpR op_eq (pv 3) pe_str (nomark _)) (pss_cons (ps_expr (pe_bm PySem.F.plainAttrs_list PySem.F.slot_list_append PySem.F.type_list_append mt_append (pv 2) (pa_cons (pe_ix ix_tup (pv 0) pe_int (fun _ _ => rfl)) pa_nil))) (pss_one (ps_expr (pe_bm PySem.F.plainAttrs_list PySem.F.slot_list_append PySem.F.type_list_append mt_append (pv 1) (pa_cons (pe_tup (pa_cons pe_str (pa_cons (pe_op op_sub (pe_callB call_len_seq (by rfl) ml PySem.boot_len (pa_cons (pv 2) pa_nil)) pe_int) pa_nil))) pa_nil))))) (pss_one (ps_if (pt_cmpR op_eq (pv 3) pe_str (nomark _)) (pss_cons (ps_expr (pe_cal cL hr rfl (pa_cons (pe_ix ix_tup (pv 0) pe_int (fun _ _ => rfl)) (pa_cons (pv 1) (pa_cons (pv 2) pa_nil))))) (pss_cons (ps_expr (pe_bm PySem.F.plainAttrs_list PySem.F.slot_list_extend PySem.F.type_list_extend mt_extend (pv 2) (pa_cons (pe_lst (pa_cons (pe_ix ix_tup (pv 0) pe_int (fun _ _ => rfl)) (pa_cons (pe_ix ix_tup (pv 0) pe_int (fun _ _ => rfl)) pa_nil))) pa_nil))) (pss_one (ps_expr (pe_bm PySem.F.plainAttrs_list PySem.F.slot_list_append PySem.F.type_list_append mt_append (pv 1) (pa_cons (pe_tup (pa_cons pe_str (pa_cons (pe_op op_sub (pe_callB call_len_seq (by rfl) ml PySem.boot_len (pa_cons (pv 2) pa_nil)) pe_int) (pa_cons (pe_op op_sub (pe_callB call_len_seq (by rfl) ml PySem.boot_len (pa_cons (pv 2) pa_nil)) pe_int) pa_nil)))) pa_nil)))))) (pss_cons (ps_for PassesOwn.never rfl (pi_tup (pe_ix ix_kdict (pe_glob (v := .ref d) rfl md rfl) (pv 3) (fun _ _ => rfl))) (pg_name (i := 4) scLy.nd rfl (Or.inl rfl)) (pss_one (ps_expr (pe_cal cL hr rfl (pa_cons (pe_ix ix_tup (pv 0) (pv 4) (fun _ _ => rfl)) (pa_cons (pv 1) (pa_cons (pv 2) pa_nil))))))) (pss_one (ps_expr (pe_bm PySem.F.plainAttrs_list PySem.F.slot_list_append PySem.F.type_list_append mt_append (pv 1) (pa_cons (pe_tup (pa_cons (pv 3) pa_nil)) pa_nil)))))))))))), ?_⟩
    refine ⟨_, rfl, a, xs, 0, _, rfl, rfl, hT, at0 hD.word, ?_⟩
    refine ⟨_, rfl, rfl, _, rfl, iteB p.dUse (fun c => ?_) (fun c => ?_)⟩
    · cases p with
      | use u =>
        obtain ⟨x0, x1, rfl, q0, q1⟩ := hD.c2
        refine ⟨_, rfl, .inl ⟨rfl, _, SqL.of h1⟩, _, rfl, a, _, 1, _, rfl, rfl, hT, at1 rfl, (by show 2 ≤ sizeLine; decide), fun t ht => ?_⟩
        have nR : R ≠ t := ne_of_none h1 ht
        have nT : T ≠ t := ne_of_none h2 ht
        have tk1 : Tk H (upd H t (.tup [.str "take", x1])) := Tk.new ht
        have hR1 : upd H t (.tup [.str "take", x1]) R = some (.lst vr) := by rw [upd_ne nR]; exact h1
        refine ⟨R, vr, _, rfl, rfl, hR1, small100 (by rw [l1]; omega), ?_⟩
        have tk2 := tk1.trans (Tk.lst (o := .lst (vr ++ [.ref t])) hR1)
        refine k _ ((Kp.new ht).trans (Kp.at (by simp))) ⟨hne, _, _, upd_same, by rw [upd_ne hne.symm, upd_ne nT]; exact h2, ?_, DtAll.mono tk2 r2⟩
        simp only [lay, List.map_append, List.map_cons, List.map_nil]
        refine (DtAll.mono tk2 r1).app (DtAll.one ?_)
        simp only [Rw.d]
        exact Dt.made (xs := [.str "take", x1]) (by rw [upd_ne nR.symm]; exact upd_same) (.cons (.str _) (.cons (Dt.mono tk2 q1) .nil))
      | _ => cases c
    refine ⟨_, rfl, rfl, _, rfl, iteB p.dMk (fun c2 => ?_) (fun c2 => ?_)⟩
    · cases p with
      | make m q =>
        obtain ⟨x0, x1, x2, rfl, q0, q1, q2⟩ := hD.c3
        refine ⟨_, rfl, .inl ⟨rfl, _, SqL.of h2⟩, _, rfl, a, _, 2, _, rfl, rfl, hT, at2 rfl, T, vt, _, rfl, rfl, h2, small100 (by rw [l2]; omega), ?_⟩
        have tkA : Tk H (upd H T (.lst (vt ++ [x2]))) := Tk.lst h2
        have hR0 : upd H T (.lst (vt ++ [x2])) R = some (.lst vr) := by rw [upd_ne hne]; exact h1
        refine ⟨_, rfl, .inl ⟨rfl, _, SqL.of hR0⟩, _, rfl, T, _, rfl, .inl (SqL.of upd_same), _, _, rfl, rfl, (by show 2 ≤ sizeLine; decide), fun t ht => ?_⟩
        have nR : R ≠ t := ne_of_none hR0 ht
        have nT : T ≠ t := ne_of_none upd_same ht
        have tk1 : Tk H (upd (upd H T (.lst (vt ++ [x2]))) t (.tup [.str "make", .int (((vt ++ [x2]).length : Nat) - 1)])) := tkA.trans (Tk.new ht)
        have hR1 : (upd (upd H T (.lst (vt ++ [x2]))) t (.tup [.str "make", .int (((vt ++ [x2]).length : Nat) - 1)])) R = some (.lst vr) := by rw [upd_ne nR]; exact hR0
        refine ⟨R, vr, _, rfl, rfl, hR1, small100 (by rw [l1]; omega), ?_⟩
        have tk2 := tk1.trans (Tk.lst (o := .lst (vr ++ [.ref t])) hR1)
        refine k _ (((Kp.at (by simp)).trans (Kp.new ht)).trans (Kp.at (by simp))) ⟨hne, _, _, upd_same, by rw [upd_ne hne.symm, upd_ne nT]; exact upd_same, ?_, ?_⟩
        · simp only [lay, List.map_append, List.map_cons, List.map_nil]
          refine (DtAll.mono tk2 r1).app (DtAll.one ?_)
          simp only [Rw.d]
          have e : (((vt ++ [x2]).length : Nat) : Int) - 1 = ((st.2.length : Nat) : Int) := by rw [List.length_append, List.length_singleton, l2]; omega
          refine Dt.made (xs := [.str "make", .int (((vt ++ [x2]).length : Nat) - 1)]) (by rw [upd_ne nR.symm]; exact upd_same) (.cons (.str _) (.cons ?_ .nil))
          rw [e]
          exact .int _
        · simp only [lay, List.map_append, List.map_cons, List.map_nil]
          exact (DtAll.mono tk2 r2).app (DtAll.one (Dt.mono tk2 q2))
      | _ => cases c2
    refine ⟨_, rfl, rfl, _, rfl, iteB p.dCs (fun c3 => ?_) (fun c3 => ?_)⟩
    · cases p with
      | case y1 y2 y3 y4 =>
        obtain ⟨x0, x1, x2, x3, x4, rfl, q0, q1, q2, q3, q4⟩ := hD.c5
        have z2 := size_pos y2
        have z3 := size_pos y3
        refine ⟨_, rfl, a, _, 1, _, rfl, rfl, hT, at1 rfl, _, rfl, _, rfl, x1, R, T, y1, st, rfl, q1, hC, by simp only [deep] at hn; omega, by simp only [size] at hz; omega, fun H1 k1 c1 => ?_⟩
        have tk0 := hC.tk k1
        obtain ⟨vr, vt, h1, h2, r1, r2⟩ := c1.ex
        have l1 : vr.length = (lay y1 st).1.length := by rw [r1.len, List.length_map]
        have l2 : vt.length = (lay y1 st).2.length := by rw [r2.len, List.length_map]
        have hl := lay_len y1 st
        refine ⟨_, rfl, .inl ⟨rfl, _, SqL.of h2⟩, _, rfl, a, _, 2, _, rfl, rfl, tk0.seqT hT, at2 rfl, _, rfl, a, _, 3, _, rfl, rfl, tk0.seqT hT, at3 rfl, (by show 2 ≤ sizeLine; decide), fun b hb => ?_⟩
        have nRb : R ≠ b := ne_of_none h1 hb
        have nTb : T ≠ b := ne_of_none h2 hb
        have sb : Same H1 (upd H1 b (.lst [x2, x3])) := Same.new hb
        refine ⟨T, b, vt, _, rfl, rfl, sb _ _ h2, upd_same, Nat.le_of_lt (small100 (by rw [l2]; show _ + 2 ≤ _; simp only [size] at hz; omega)), ?_⟩
        have tkA : Tk H1 (upd (upd H1 b (.lst [x2, x3])) T (.lst (vt ++ [x2, x3]))) := sb.tk.trans (Tk.lst (sb _ _ h2))
        have hR0 : (upd (upd H1 b (.lst [x2, x3])) T (.lst (vt ++ [x2, x3]))) R = some (.lst vr) := by rw [upd_ne hne, upd_ne nRb]; exact h1
        refine ⟨_, rfl, .inl ⟨rfl, _, SqL.of hR0⟩, _, rfl, T, _, rfl, .inl (SqL.of upd_same), _, _, rfl, rfl, _, rfl, T, _, rfl, .inl (SqL.of upd_same), _, _, rfl, rfl, (by show 3 ≤ sizeLine; decide), fun t ht => ?_⟩
        have nR : R ≠ t := ne_of_none hR0 ht
        have nT : T ≠ t := ne_of_none upd_same ht
        have tk1 := tkA.trans (Tk.new (o := .tup [.str "case", .int (((vt ++ [x2, x3]).length : Nat) - 2), .int (((vt ++ [x2, x3]).length : Nat) - 1)]) ht)
        have hR1 : (upd (upd (upd H1 b (.lst [x2, x3])) T (.lst (vt ++ [x2, x3]))) t (.tup [.str "case", .int (((vt ++ [x2, x3]).length : Nat) - 2), .int (((vt ++ [x2, x3]).length : Nat) - 1)])) R = some (.lst vr) := by rw [upd_ne nR]; exact hR0
        refine ⟨R, vr, _, rfl, rfl, hR1, small100 (by rw [l1]; simp only [size] at hz; omega), ?_⟩
        have tk2 := tk1.trans (Tk.lst (o := .lst (vr ++ [.ref t])) hR1)
        refine k _ (k1.trans ((((Kp.new hb).trans (Kp.at (by simp))).trans (Kp.new ht)).trans (Kp.at (by simp)))) ⟨hne, _, _, upd_same, by rw [upd_ne hne.symm, upd_ne nT]; exact upd_same, ?_, ?_⟩
        · simp only [lay, List.map_append, List.map_cons, List.map_nil]
          refine (DtAll.mono tk2 r1).app (DtAll.one ?_)
          simp only [Rw.d]
          have e : (((vt ++ [x2, x3]).length : Nat) : Int) - 2 = (((lay y1 st).2.length : Nat) : Int) := by rw [List.length_append, l2]; show ((_ + 2 : Nat) : Int) - 2 = _; omega
          have e2 : (((vt ++ [x2, x3]).length : Nat) : Int) - 1 = (((lay y1 st).2.length + 1 : Nat) : Int) := by rw [List.length_append, l2]; show ((_ + 2 : Nat) : Int) - 1 = _; omega
          refine Dt.made (xs := [.str "case", .int (((vt ++ [x2, x3]).length : Nat) - 2), .int (((vt ++ [x2, x3]).length : Nat) - 1)]) (by rw [upd_ne nR.symm]; exact upd_same) (.cons (.str _) (.cons ?_ (.cons ?_ .nil)))
          · rw [e]; exact .int _
          · rw [e2]; exact .int _
        · simp only [lay, List.map_append, List.map_cons, List.map_nil]
          exact (DtAll.mono tk2 r2).app (.cons (Dt.mono (tk0.trans tk2) q2) (.cons (Dt.mono (tk0.trans tk2) q3) .nil))
      | _ => cases c3
    · obtain ⟨t, kd, kt⟩ := hd _ _ (plnTab_at c c2 c3)
      obtain ⟨eL, eW⟩ := lay_plain c c2 c3 st
      refine ⟨_, rfl, d, _, _, rfl, rfl, kd, t, rfl, ⟨_, kt.seq⟩, ?_⟩
      refine for_tup (K := K) (a := t) (xs := p.pls.map fun n => V.int (n : Nat)) (fun i σ H' => ∃ (x : Option V), σ = [some (.ref a), some (.ref R), some (.ref T), some (.str p.word), x] ∧ Kp [R, T] H H' ∧ CAt K H' R T (layL (p.sub.take i) st))
        ⟨none, rfl, Kp.refl _ _, hC⟩ (fun i σ H' _ _ => kt.seq) ?_ ?_
      · rintro i y σ H' hi ⟨x, rfl, hk, hc⟩
        obtain ⟨q, hq, rfl⟩ : ∃ q, p.pls[i]? = some q ∧ V.int (q : Nat) = y := by
          rw [List.getElem?_map] at hi
          exact Option.map_eq_some_iff.mp hi
        obtain ⟨c1, hb, hf, _⟩ := Pp.pls_sub hq
        have tk0 := hC.tk hk
        obtain ⟨vb, e1, rb⟩ := (DtAll.mono tk0 hD).get hf
        have hs := sub_sizes hb
        have hl := layL_len (p.sub.take i) st
        refine ⟨_, rfl, _, rfl, a, xs, _, vb, rfl, rfl, tk0.seqT hT, atI_nat e1, _, rfl, _, rfl, vb, R, T, c1, _, rfl, rb, hc, by have := Pp.deep_sub hb; omega, by omega, fun H2 k2 c2' => ?_⟩
        refine ⟨_, rfl, hk.trans k2, ?_⟩
        rw [List.take_add_one, hb, Option.toList_some, layL_app]
        exact c2'
      · rintro σ H' ⟨x, rfl, hk, hc⟩
        rw [List.length_map, pls_len, List.take_length] at hc
        obtain ⟨vr, vt, h1, h2, r1, r2⟩ := hc.ex
        have l1 : vr.length = (layL p.sub st).1.length := by rw [r1.len, List.length_map]
        have hl := layL_len p.sub st
        have ha := sub_all (p := p)
        refine ⟨_, rfl, .inl ⟨rfl, _, SqL.of h1⟩, _, rfl, (by show 1 ≤ sizeLine; decide), fun b hb => ?_⟩
        have nR : R ≠ b := ne_of_none h1 hb
        have nT : T ≠ b := ne_of_none h2 hb
        have tk1 : Tk H' (upd H' b (.tup [.str p.word])) := Tk.new hb
        have hR1 : upd H' b (.tup [.str p.word]) R = some (.lst vr) := by rw [upd_ne nR]; exact h1
        refine ⟨R, vr, _, rfl, rfl, hR1, small100 (by rw [l1]; omega), ?_⟩
        have tk2 := tk1.trans (Tk.lst (o := .lst (vr ++ [.ref b])) hR1)
        refine k _ (hk.trans ((Kp.new hb).trans (Kp.at (by simp)))) ?_
        rw [eL]
        refine ⟨hne, _, _, upd_same, by rw [upd_ne hne.symm, upd_ne nT]; exact h2, ?_, DtAll.mono tk2 r2⟩
        rw [List.map_append, List.map_cons, List.map_nil, eW]
        exact (DtAll.mono tk2 r1).app (DtAll.one (Dt.made (xs := [.str p.word]) (by rw [upd_ne nR.symm]; exact upd_same) (.cons (.str _) .nil)))
theorem all_lay (D : Df K mg "lay_rows" sLay ["paper", "rows", "todo"]) (TP : Tab K mg w "PLAIN" plnTab) (ml : mg "len" = none) : ∀ n, Cal P w K mg base (n + 1) "lay_rows" ["paper", "rows", "todo"] (spLay K n)
  | 0 => D.cal fun f fd F => FnOk.void fun vs H Q E ⟨v, R, T, p, st, _, _, _, hn, _⟩ => by have := deep_pos p; omega
  | n + 1 => D.cal fun f fd F => ok_lay F TP ml (all_lay D TP ml n)
end
end Ob
namespace Ob
open PySem L2
def Rw.fs : Rw → List PyData
  | .take k => [.str "take", .int k]
  | .pair => [.str "pair"]
  | .first => [.str "first"]
  | .second => [.str "second"]
  | .left => [.str "left"]
  | .right => [.str "right"]
  | .make i => [.str "make", .int i]
  | .apply => [.str "apply"]
  | .case i j => [.str "case", .int i, .int j]
  | .escape => [.str "escape"]
  | .back => [.str "back"]
def Rw.word : Rw → Str
  | .take _ => "take"
  | .pair => "pair"
  | .first => "first"
  | .second => "second"
  | .left => "left"
  | .right => "right"
  | .make _ => "make"
  | .apply => "apply"
  | .case _ _ => "case"
  | .escape => "escape"
  | .back => "back"
theorem Rw.d_fs (r : Rw) : r.d = .tuple r.fs := by cases r <;> rfl
theorem Rw.fs0 (r : Rw) : r.fs[0]? = some (.str r.word) := by cases r <;> rfl
def Rw.isMk : Rw → Bool
  | .make _ => true
  | _ => false
def Rw.isCs : Rw → Bool
  | .case _ _ => true
  | _ => false
theorem Rw.dMk : ∀ r : Rw, decide (V.str r.word = V.str "make") = r.isMk
  | .take _ => (by decide +kernel : decide (V.str "take" = V.str "make") = false)
  | .pair  => (by decide +kernel : decide (V.str "pair" = V.str "make") = false)
  | .first  => (by decide +kernel : decide (V.str "first" = V.str "make") = false)
  | .second  => (by decide +kernel : decide (V.str "second" = V.str "make") = false)
  | .left  => (by decide +kernel : decide (V.str "left" = V.str "make") = false)
  | .right  => (by decide +kernel : decide (V.str "right" = V.str "make") = false)
  | .make _ => (by decide +kernel : decide (V.str "make" = V.str "make") = true)
  | .apply  => (by decide +kernel : decide (V.str "apply" = V.str "make") = false)
  | .case _ _ => (by decide +kernel : decide (V.str "case" = V.str "make") = false)
  | .escape  => (by decide +kernel : decide (V.str "escape" = V.str "make") = false)
  | .back  => (by decide +kernel : decide (V.str "back" = V.str "make") = false)
theorem Rw.dCs : ∀ r : Rw, decide (V.str r.word = V.str "case") = r.isCs
  | .take _ => (by decide +kernel : decide (V.str "take" = V.str "case") = false)
  | .pair  => (by decide +kernel : decide (V.str "pair" = V.str "case") = false)
  | .first  => (by decide +kernel : decide (V.str "first" = V.str "case") = false)
  | .second  => (by decide +kernel : decide (V.str "second" = V.str "case") = false)
  | .left  => (by decide +kernel : decide (V.str "left" = V.str "case") = false)
  | .right  => (by decide +kernel : decide (V.str "right" = V.str "case") = false)
  | .make _ => (by decide +kernel : decide (V.str "make" = V.str "case") = false)
  | .apply  => (by decide +kernel : decide (V.str "apply" = V.str "case") = false)
  | .case _ _ => (by decide +kernel : decide (V.str "case" = V.str "case") = true)
  | .escape  => (by decide +kernel : decide (V.str "escape" = V.str "case") = false)
  | .back  => (by decide +kernel : decide (V.str "back" = V.str "case") = false)

theorem Dt.row {K : PySem.W.Frag} {H : Hp} {v : V} {r : Rw} (h : Dt K H v r.d) : ∃ a xs, v = .ref a ∧ SqT K H a xs ∧ DtAll K H xs r.fs := by
  rw [r.d_fs] at h
  exact h.inv
theorem DtAll.rword {K : PySem.W.Frag} {H : Hp} {xs : List V} {r : Rw} (h : DtAll K H xs r.fs) : xs[0]? = some (.str r.word) := by
  obtain ⟨v, e, q⟩ := h.get r.fs0
  rw [q.invS] at e
  exact e
def natV (l : List Nat) : List V := l.map fun n => V.int (n : Nat)
theorem natV_at {l : List Nat} {t : Nat} (h : t < l.length) : (natV l)[t]? = some (V.int ((l.getD t 0 : Nat) : Int)) := by
  unfold natV
  rw [List.getElem?_map, List.getD_eq_getElem?_getD, List.getElem?_eq_getElem h]
  rfl
section
variable {P : Program} {w : World} {K : PySem.W.Frag} {mg : Str → Option Value} {base : Heap} {f : Addr} {fd : FuncData}
def spSettled (K : PySem.W.Frag) : Sp := fun vs H Q _ => ∃ (v : V) (B : Addr) (r : Rw) (bg : List Nat), vs = [v, .ref B] ∧ Dt K H v r.d ∧ SqL K H B (natV bg) ∧ rwOk bg.length r ∧ ∀ v' H', Same H H' → Dt K H' v' (setl bg r).d → Q v' H'
theorem scSe : FnScope ["row", "begins"] ["row", "begins"] (defScope sSettled) := ⟨rfl, rfl, rfl, by decide +kernel, rfl, by decide +kernel, by decide +kernel⟩
theorem ok_settled (F : Fun K "settled_row" "settled_row" sSettled f fd) : FnOk P w K mg base CX0 1 f fd ["row", "begins"] (spSettled K) := by
  refine F.ok scSe (fun vs H Q E h => ?_) (fun cdv A outer s H vs Q E hr h => ?_)
  · obtain ⟨v, B, r, bg, rfl, _⟩ := h
    rfl
  · obtain ⟨v, B, r, bg, rfl, hv, hB, ho, k⟩ := h
    obtain ⟨a, xs, rfl, hT, hD⟩ := hv.row
    refine ⟨_, (pss_cons (ps_if (pt_cmpR op_eq (pe_ix ix_tup (pv 0) pe_int (fun _ _ => rfl)) pe_str (nomark _)) (pss_one (ps_ret (pe_tup (pa_cons pe_str (pa_cons (pe_ix ix_list (pv 1) (pe_ix ix_tup (pv 0) pe_int (fun _ _ => rfl)) (fun _ _ => rfl)) pa_nil))))) pss_nil) (pss_cons (ps_if (pt_cmpR op_eq (pe_ix ix_tup (pv 0) pe_int (fun _ _ => rfl)) pe_str (nomark _)) (pss_one (ps_ret (pe_tup (pa_cons pe_str (pa_cons (pe_ix ix_list (pv 1) (pe_ix ix_tup (pv 0) pe_int (fun _ _ => rfl)) (fun _ _ => rfl)) (pa_cons (pe_ix ix_list (pv 1) (pe_ix ix_tup (pv 0) pe_int (fun _ _ => rfl)) (fun _ _ => rfl)) pa_nil)))))) pss_nil) (pss_one (ps_ret (pv 0))))), ?_⟩
    refine ⟨_, rfl, a, xs, 0, _, rfl, rfl, hT, at0 hD.rword, rfl, _, rfl, ?_⟩
    refine iteB r.dMk (fun c => ?_) (fun c => ?_)
    · cases r with
      | make t =>
        obtain ⟨x0, x1, rfl, q0, q1⟩ := DtAll.c2 hD
        cases q1.invI
        refine ⟨_, rfl, _, rfl, a, _, 1, _, rfl, rfl, hT, at1 rfl, B, _, _, _, rfl, rfl, hB, atI_nat (natV_at ho), (by show 2 ≤ sizeLine; decide), fun p hp => ?_⟩
        refine k _ _ (Same.new hp) ?_
        simp only [setl, Rw.d]
        exact Dt.made upd_same (.cons (.str _) (.cons (.int _) .nil))
      | _ => cases c
    refine ⟨_, rfl, a, xs, 0, _, rfl, rfl, hT, at0 hD.rword, rfl, _, rfl, ?_⟩
    refine iteB r.dCs (fun c2 => ?_) (fun c2 => ?_)
    · cases r with
      | case t u =>
        obtain ⟨x0, x1, x2, rfl, q0, q1, q2⟩ := DtAll.c3 hD
        cases q1.invI
        cases q2.invI
        refine ⟨_, rfl, _, rfl, a, _, 1, _, rfl, rfl, hT, at1 rfl, B, _, _, _, rfl, rfl, hB, atI_nat (natV_at ho.1), _, rfl, _, rfl, a, _, 2, _, rfl, rfl, hT, at2 rfl, B, _, _, _, rfl, rfl, hB, atI_nat (natV_at ho.2), (by show 3 ≤ sizeLine; decide), fun p hp => ?_⟩
        refine k _ _ (Same.new hp) ?_
        simp only [setl, Rw.d]
        exact Dt.made upd_same (.cons (.str _) (.cons (.int _) (.cons (.int _) .nil)))
      | _ => cases c2
    · refine ⟨_, rfl, k _ _ (Same.refl _) ?_⟩
      have e : setl bg r = r := by cases r <;> first | rfl | (cases c; done) | (cases c2; done)
      rw [e]
      exact hv

/-! ### code -/
/-- what is still to be done -/
def left_ (s : Cst) : Nat := todoSize (s.td.drop s.bg.length)
theorem todo_split (l : List Pp) (n : Nat) : todoSize l = todoSize (l.take n) + todoSize (l.drop n) := by
  unfold todoSize
  rw [← List.sum_append, ← List.map_append, List.take_append_drop]
theorem todo_len : ∀ l : List Pp, l.length ≤ todoSize l
  | [] => Nat.le_refl _
  | p :: l => by
    have h := todo_len l
    have h2 := size_pos p
    unfold todoSize at h ⊢
    rw [List.map_cons, List.sum_cons, List.length_cons]
    omega
theorem left_turn {s : Cst} {p : Pp} (h : s.td[s.bg.length]? = some p) : left_ (cstep s p) < left_ s ∧ (cstep s p).rs.length + 2 * left_ (cstep s p) ≤ s.rs.length + 2 * left_ s := by
  have hl := lay_size p (s.rs, s.td)
  obtain ⟨_, _, m, em⟩ := lay_ok p (s.rs, s.td)
  have em' : (lay p (s.rs, s.td)).2 = s.td ++ m := em
  have lt : s.bg.length < s.td.length := (List.getElem?_eq_some_iff.mp h).1
  have e1 := todo_split s.td s.bg.length
  have e2 := todo_split (lay p (s.rs, s.td)).2 (s.bg.length + 1)
  have e3 : (lay p (s.rs, s.td)).2.take (s.bg.length + 1) = s.td.take s.bg.length ++ [p] := by
    rw [em', List.take_append_of_le_length (by omega), List.take_add_one, h]
    rfl
  have e4 : todoSize (s.td.take s.bg.length ++ [p]) = todoSize (s.td.take s.bg.length) + size p := by
    unfold todoSize
    rw [List.map_append, List.sum_append]
    simp
  rw [e3, e4] at e2
  have e5 : left_ (cstep s p) = todoSize ((lay p (s.rs, s.td)).2.drop (s.bg.length + 1)) := by
    unfold left_ cstep
    simp only [List.length_singleton, List.length_append]
  have e6 : (cstep s p).rs.length = (lay p (s.rs, s.td)).1.length + 1 := by
    unfold cstep
    simp only [List.length_singleton, List.length_append]
  have h1 : (lay p (s.rs, s.td)).1.length + todoSize (lay p (s.rs, s.td)).2 ≤ s.rs.length + todoSize s.td + size p := hl.1
  have h2 : s.rs.length < (lay p (s.rs, s.td)).1.length := hl.2.1
  unfold left_ at e5 ⊢
  constructor
  · omega
  · omega
/-- between two turns, with sizes -/
structure CJ (p : Pp) (s : Cst) : Prop where
  ci : CI p s
  ok : AllOk (s.rs, s.td)
  sz : s.rs.length + 2 * left_ s ≤ 2 * size p
  bl : s.bg.length ≤ s.rs.length
theorem CJ.start (p : Pp) : CJ p ⟨[], [p], []⟩ := ⟨CI.start p, fun r h => (List.not_mem_nil h).elim, (by show 0 + 2 * (todoSize [p]) ≤ 2 * size p; unfold todoSize; simp), Nat.le_refl _⟩
theorem CJ.turn {p0 p : Pp} {s : Cst} (c : CJ p0 s) (h : s.td[s.bg.length]? = some p) : CJ p0 (cstep s p) := by
  obtain ⟨h1, h2⟩ := left_turn h
  refine ⟨c.ci.turn h, allOk_app0 (lay_allOk p _ c.ok) trivial, Nat.le_trans h2 c.sz, ?_⟩
  have h3 : s.rs.length < (lay p (s.rs, s.td)).1.length := (lay_size p (s.rs, s.td)).2.1
  have h4 := c.bl
  unfold cstep
  simp only [List.length_singleton, List.length_append]
  omega
theorem CJ.len {p : Pp} {s : Cst} (c : CJ p s) : s.rs.length + s.td.length ≤ 3 * (2 * size p) := by
  have h1 := todo_len (s.td.drop s.bg.length)
  rw [List.length_drop] at h1
  have h2 := c.sz
  have h3 := c.bl
  have h4 := c.ci.le
  unfold left_ at h2
  omega

def spCode (K : PySem.W.Frag) (n : Nat) : Sp := fun vs H Q _ => ∃ (v : V) (p : Pp), vs = [v] ∧ Dt K H v p.d ∧ size p ≤ n ∧ n ≤ 10000 ∧
  ∀ (D : Addr) (H' : Hp) (vr : List V) (s : Cst), Same H H' → H' D = some (.lst vr) → DtAll K H' vr ((s.rs.map (setl s.bg)).map Rw.d) → CJ p s → s.bg.length = s.td.length → Q (.ref D) H'
theorem scCo : FnScope ["paper", "todo", "rows", "begins", "row"] ["paper"] (defScope sCode) := ⟨rfl, rfl, rfl, by decide +kernel, rfl, by decide +kernel, by decide +kernel⟩
theorem ok_code {n : Nat} (F : Fun K "code" "code" sCode f fd) (ml : mg "len" = none) (cL : ∀ m, Cal P w K mg base (m + 1) "lay_rows" ["paper", "rows", "todo"] (spLay K m)) (cS : Cal P w K mg base 1 "settled_row" ["row", "begins"] (spSettled K)) :
    FnOk P w K mg base CX0 (n + 3 + 1) f fd ["paper"] (spCode K n) := by
  have cL := cL (n + 2)
  refine F.ok scCo (fun vs H Q E h => ?_) (fun cdv A outer s H vs Q E hr h => ?_)
  · obtain ⟨v, p, rfl, _⟩ := h
    rfl
  · obtain ⟨v, p, rfl, hv, hn, hb, k⟩ := h
    have hr1 : Room (n + 2 + 1) _ := hr
    have hr2 : Room 1 _ := hr.mono (by omega)
    refine ⟨_, (pss_cons (ps_set (i := 1) scCo.nd rfl (Or.inl rfl) (pe_lst (pa_cons (pv 0) pa_nil))) (pss_cons (ps_set (i := 2) scCo.nd rfl (Or.inl rfl) (pe_lst pa_nil)) (pss_cons (ps_set (i := 3) scCo.nd rfl (Or.inr rfl) (pe_lst pa_nil)) (pss_cons (ps_while PassesOwn.never (pt_cmpR op_lt (pe_callB call_len_seq (by rfl) ml PySem.boot_len (pa_cons (pv 3) pa_nil)) (pe_callB call_len_seq (by rfl) ml PySem.boot_len (pa_cons (pv 1) pa_nil)) (nomark _)) (pss_cons (ps_expr (pe_bm PySem.F.plainAttrs_list PySem.F.slot_list_append PySem.F.type_list_append mt_append (pv 3) (pa_cons (pe_callB call_len_seq (by rfl) ml PySem.boot_len (pa_cons (pv 2) pa_nil)) pa_nil))) (pss_cons (ps_expr (pe_cal cL hr1 rfl (pa_cons (pe_ix ix_list (pv 1) (pe_op op_sub (pe_callB call_len_seq (by rfl) ml PySem.boot_len (pa_cons (pv 3) pa_nil)) pe_int) (fun _ _ => rfl)) (pa_cons (pv 2) (pa_cons (pv 1) pa_nil))))) (pss_one (ps_expr (pe_bm PySem.F.plainAttrs_list PySem.F.slot_list_append PySem.F.type_list_append mt_append (pv 2) (pa_cons (pe_tup (pa_cons pe_str pa_nil)) pa_nil))))))) (pss_one (ps_ret (pe_lc (own := [("row", 4)]) (g := gName 4) (tt := tYes) (by rfl) scCo.nd (pi_list (pv 2)) (blkOk_by (own := [("row", 4)]) (N := ["paper", "todo", "rows", "begins", "row"]) (sc := defScope sCode) (by decide +kernel)) (fun _ _ _ _ _ => (pg_name (i := 4) scCo.nd rfl (Or.inl rfl))) (fun _ _ _ _ _ => pts_nil) (fun _ _ _ _ _ => (pe_cal cS hr2 rfl (pa_cons (pv 4) (pa_cons (pv 3) pa_nil))))))))))), ?_⟩
    refine ⟨_, rfl, (by show 1 ≤ sizeLine; decide), fun T hT => ⟨Nat.zero_le _, fun R hR => ⟨Nat.zero_le _, fun B hB => ?_⟩⟩⟩
    have nRT : R ≠ T := fun z => by rw [z, upd_same] at hR; cases hR
    have nBR : B ≠ R := fun z => by rw [z, upd_same] at hB; cases hB
    have nBT : B ≠ T := fun z => by rw [z, upd_ne nRT.symm, upd_same] at hB; cases hB
    have hR0 : H R = none := by rw [upd_ne nRT] at hR; exact hR
    have hB0 : H B = none := by rw [upd_ne nBR, upd_ne nBT] at hB; exact hB
    have sA : Same H (upd (upd (upd H T (.lst [v])) R (.lst [])) B (.lst [])) := (((Same.new hT).upd_old hR0).upd_old hB0)
    refine ⟨fun m σ H' => ∃ (x : Option V) (s : Cst), σ = [some v, some (.ref T), some (.ref R), some (.ref B), x] ∧ m = left_ s ∧ Same H H' ∧ CAt K H' R T (s.rs, s.td) ∧ H' B = some (.lst (natV s.bg)) ∧ CJ p s,
      ⟨_, none, ⟨[], [p], []⟩, rfl, rfl, sA, ⟨nRT, [], [v], by rw [upd_ne nBR.symm]; exact upd_same, by rw [upd_ne nBT.symm, upd_ne nRT.symm]; exact upd_same, .nil, DtAll.one (Dt.mono sA.tk hv)⟩, upd_same, CJ.start p⟩, ?_⟩
    rintro m σ H' ⟨x, s, rfl, rfl, hs, hc, hbg, hj⟩
    have hlen := hj.len
    obtain ⟨vr, vt, h1, h2, r1, r2⟩ := hc.ex
    have l1 : vr.length = s.rs.length := by rw [r1.len, List.length_map]
    have l2 : vt.length = s.td.length := by rw [r2.len, List.length_map]
    have l3 : (natV s.bg).length = s.bg.length := List.length_map _
    refine ⟨_, rfl, B, _, rfl, .inl (SqL.of hbg), _, rfl, T, _, rfl, .inl (SqL.of h2), _, _, rfl, rfl, _, rfl, ?_⟩
    refine ite2 (fun c => ?_) (fun c => ?_)
    · have c' : (((natV s.bg).length : Nat) : Int) < ((vt.length : Nat) : Int) := of_decide_eq_true c
      rw [l3, l2] at c'
      have lt : s.bg.length < s.td.length := by omega
      have ep : s.td[s.bg.length]? = some (s.td[s.bg.length]'lt) := List.getElem?_eq_getElem lt
      generalize s.td[s.bg.length]'lt = q at ep
      obtain ⟨vq, e1, rq⟩ := r2.get (i := s.bg.length) (d := q.d) (by show (s.td.map Pp.d)[s.bg.length]? = _; rw [List.getElem?_map, ep]; rfl)
      have hq : size q ≤ todoSize (s.td.drop s.bg.length) := by
        have : s.td.drop s.bg.length = q :: s.td.drop (s.bg.length + 1) := by
          rw [List.drop_eq_getElem_cons lt]
          congr 1
          rw [List.getElem?_eq_getElem lt] at ep
          exact Option.some.inj ep
        rw [this]
        unfold todoSize
        rw [(List.map_cons), (List.sum_cons)]
        exact Nat.le_add_right _ _
      have hsz := hj.sz
      unfold left_ at hsz
      have hdq := deep_size q
      obtain ⟨t1, t2⟩ := left_turn ep
      refine ⟨_, fun σ' H2 h => h, ?_⟩
      refine ⟨_, rfl, .inl ⟨rfl, _, SqL.of hbg⟩, _, rfl, R, _, rfl, .inl (SqL.of h1), B, _, _, rfl, rfl, hbg, small100 (by rw [l3]; omega), ?_⟩
      have tkA : Tk H' (upd H' B (.lst (natV s.bg ++ [.int (vr.length : Nat)]))) := Tk.lst hbg
      have hcA : CAt K (upd H' B (.lst (natV s.bg ++ [.int (vr.length : Nat)]))) R T (s.rs, s.td) := ⟨nRT, vr, vt, by rw [upd_ne nBR.symm]; exact h1, by rw [upd_ne nBT.symm]; exact h2, DtAll.mono tkA r1, DtAll.mono tkA r2⟩
      have eix : (((natV s.bg ++ [V.int (vr.length : Nat)]).length : Nat) : Int) - 1 = ((s.bg.length : Nat) : Int) := by rw [List.length_append, List.length_singleton, l3]; omega
      refine ⟨_, rfl, _, rfl, B, _, rfl, .inl (SqL.of upd_same), _, _, rfl, rfl, T, vt, _, vq, rfl, rfl, SqL.of (by rw [upd_ne nBT.symm]; exact h2), (by rw [eix]; exact atI_nat e1), _, rfl, _, rfl, vq, R, T, q, (s.rs, s.td), rfl, Dt.mono tkA rq, hcA, by omega, by show s.rs.length + s.td.length + size q ≤ _; omega, fun H3 k3 c3 => ?_⟩
      have hB3 : H3 B = some (.lst (natV s.bg ++ [.int (vr.length : Nat)])) := k3 _ _ upd_same (by simp [nBR, nBT])
      obtain ⟨vr3, vt3, g1, g2, q1, q2⟩ := c3.ex
      have l4 : vr3.length = (lay q (s.rs, s.td)).1.length := by rw [q1.len, List.length_map]
      have hll := lay_len q (s.rs, s.td)
      refine ⟨_, rfl, .inl ⟨rfl, _, SqL.of g1⟩, (by show 1 ≤ sizeLine; decide), fun t ht => ?_⟩
      have nR : R ≠ t := ne_of_none g1 ht
      have nT : T ≠ t := ne_of_none g2 ht
      have nB : B ≠ t := ne_of_none hB3 ht
      have tk1 : Tk H3 (upd H3 t (.tup [.str "back"])) := Tk.new ht
      have hR1 : upd H3 t (.tup [.str "back"]) R = some (.lst vr3) := by rw [upd_ne nR]; exact g1
      have tk2 := tk1.trans (Tk.lst (o := .lst (vr3 ++ [.ref t])) hR1)
      have hll' : (lay q (s.rs, s.td)).1.length ≤ s.rs.length + s.td.length + size q := by
        have : (s.rs, s.td).1.length + (s.rs, s.td).2.length = s.rs.length + s.td.length := rfl
        omega
      refine ⟨R, vr3, _, rfl, rfl, hR1, small100 (by rw [l4]; omega), ?_⟩
      refine ⟨left_ (cstep s q), t1, _, cstep s q, rfl, rfl, ?_, ⟨nRT, _, vt3, upd_same, by rw [upd_ne nRT.symm, upd_ne nT]; exact g2, ?_, DtAll.mono tk2 q2⟩, ?_, hj.turn ep⟩
      · -- what stood at the entry stands
        intro b o e
        have hTb : b ≠ T := fun z => by rw [z, hT] at e; cases e
        have hRb : b ≠ R := fun z => by rw [z, hR0] at e; cases e
        have hBb : b ≠ B := fun z => by rw [z, hB0] at e; cases e
        have e3 : H3 b = some o := k3 b o (by rw [upd_ne hBb]; exact hs b o e) (by simp [hRb, hTb])
        rw [upd_ne hRb, upd_ne (ne_of_none e3 ht)]
        exact e3
      · show DtAll K _ _ (((lay q (s.rs, s.td)).1 ++ [Rw.back]).map Rw.d)
        rw [List.map_append, List.map_cons, List.map_nil]
        exact (DtAll.mono tk2 q1).app (DtAll.one (Dt.made (xs := [.str "back"]) (by rw [upd_ne nR.symm]; exact upd_same) (.cons (.str _) .nil)))
      · show _ = some (HO.lst (natV (s.bg ++ [s.rs.length])))
        rw [upd_ne nBR, upd_ne nB, hB3]
        unfold natV
        rw [List.map_append, List.map_cons, List.map_nil, l1]
    · have c' : ¬ (((natV s.bg).length : Nat) : Int) < ((vt.length : Nat) : Int) := of_decide_eq_false (Bool.eq_false_iff.mpr c)
      rw [l3, l2] at c'
      have hle := hj.ci.le
      have ebg : s.bg.length = s.td.length := by omega
      refine ⟨_, rfl, R, rfl, ⟨vr, SqL.of h1⟩, fun D hD => ?_⟩
      have nRD : R ≠ D := ne_of_none h1 hD
      have nBD : B ≠ D := ne_of_none hbg hD
      have hD0 : H D = none := hs.free hD
      have tkD : Tk H' (upd H' D (.lst [])) := Tk.new hD
      refine lc_list (K := K) (a := R) (xs := vr) (fun i H2 => ∃ acc, Same H H2 ∧ H2 R = some (.lst vr) ∧ H2 B = some (.lst (natV s.bg)) ∧ H2 D = some (.lst acc) ∧ acc.length = i ∧ DtAll K H2 vr (s.rs.map Rw.d) ∧ DtAll K H2 acc (((s.rs.map (setl s.bg)).map Rw.d).take i))
        ⟨[], hs.upd_old hD0, by rw [upd_ne nRD]; exact h1, by rw [upd_ne nBD]; exact hbg, upd_same, rfl, DtAll.mono tkD r1, .nil⟩ (fun i H2 _ ⟨_, _, h, _⟩ => SqL.of h) ?_ ?_
      · rintro i y H2 hi ⟨acc, sH, gR, gB, gD, hlen2, da, db⟩
        refine ⟨rfl, ?_⟩
        obtain ⟨d, ed, rd⟩ := da.get' hi
        obtain ⟨r, er, rfl⟩ : ∃ r, s.rs[i]? = some r ∧ r.d = d := by
          rw [List.getElem?_map] at ed
          exact Option.map_eq_some_iff.mp ed
        have hok : rwOk s.bg.length r := by
          rw [ebg]
          exact hj.ok r (List.mem_of_getElem? er)
        have hi2 : i < vr.length := (List.getElem?_eq_some_iff.mp hi).1
        refine ⟨_, rfl, _, rfl, y, B, r, s.bg, rfl, rd, SqL.of gB, hok, fun v' H3 s3 r3 => ?_⟩
        have tk3 : Tk H2 (upd H3 D (.lst (acc ++ [v']))) := s3.tk.trans (Tk.lst (s3 _ _ gD))
        refine ⟨acc, s3 _ _ gD, small100 (by rw [hlen2]; omega), acc ++ [v'], (sH.trans s3).upd_old hD0, by rw [upd_ne nRD]; exact s3 _ _ gR, by rw [upd_ne nBD]; exact s3 _ _ gB, upd_same, by rw [List.length_append, hlen2]; rfl, DtAll.mono tk3 da, ?_⟩
        have e9 : ((s.rs.map (setl s.bg)).map Rw.d)[i]? = some (setl s.bg r).d := by rw [List.getElem?_map, List.getElem?_map, er]; rfl
        rw [List.take_add_one, e9]
        exact (DtAll.mono tk3 db).app (DtAll.one (Dt.mono (Tk.lst (s3 _ _ gD)) r3))
      · rintro H2 ⟨acc, sH, gR, gB, gD, hlen2, da, db⟩
        rw [List.take_of_length_le (by rw [List.length_map, List.length_map, l1]; exact Nat.le_refl _)] at db
        exact k D H2 acc s sH gD db hj ebg
end
end Ob
namespace Ob
open PySem L2
/-! ### rules of our own -/
def gFld (K : PySem.W.Frag) (ta : TE) (f : Str) : TG := fun v σ H Q => ta σ H fun x H2 => ∃ a C dx fs, x = .ref a ∧ H2 a = some (.ins C dx fs) ∧ Cls K C ∧ NoAttr K C f ∧ fs.length < 1000 ∧ Q σ (upd H2 a (.ins C dx (putF f v fs)))
theorem pg_fld {X : Cx} {o : Expr} {ta : TE} {f : Str} {pos : Pos} (ha : PE X o ta) : PG X (.Attribute o f pos) (gFld X.K ta f) := by
  refine PG.mk fun pins s σ H v u Q I r h => ?_
  refine PySem.W.kas_attr (thn (ha.run pins s σ H _ I h) fun ov s2 ⟨x, H2, I2, rx, a, C, dx, fs, ex, ea, c, n, l, q⟩ => ?_)
  subst ex
  cases (show ov = Value.ref a from rx)
  exact setattr_ok I2 ea c n l r fun s3 I3 => ⟨σ, _, I3, q⟩
/-- == of data of which one is not deep -/
def rEqM (K : PySem.W.Frag) (A : Around) : R2 := fun x y H Q => ∃ d e, Dp K H x d ∧ Dp K H y e ∧ d.canLay0 = true ∧ e.canLay0 = true ∧ A.units + min d.depth e.depth < cLine ∧ Q (.bl (PyData.eqv d e)) H
theorem op_eqM {X : Cx} : OpR X (compareOp .Eq) (rEqM X.K X.A) := by
  intro pins st σ H x y v u Q I rx ry h
  obtain ⟨d, e, hd, he, sd, se, hu, q⟩ := h
  obtain ⟨as, ra⟩ := Dp.reads I d x v hd rx
  obtain ⟨bs, rb⟩ := Dp.reads I e y u he ry
  exact SeqAt.compareEq_reads ra rb sd se hu ⟨.bl _, H, I, rfl, q⟩

/-! ### data -/
theorem Mv.ds_map : ∀ gs : List Mv, Mv.ds gs = gs.map Mv.d
  | [] => rfl
  | v :: r => by rw [Mv.ds, Mv.ds_map r]; rfl
def wayD (w : Nat × List Mv) : PyData := .tuple [.int w.1, .tuple (Mv.ds w.2)]
section
variable {K : PySem.W.Frag} {H H' : Hp}
theorem DtAll.snoc : ∀ {ds : List PyData} {d : PyData} {vs : List V}, DtAll K H vs (ds ++ [d]) → ∃ ws v, vs = ws ++ [v] ∧ DtAll K H ws ds ∧ Dt K H v d
  | [], d, vs, h => by
    obtain ⟨v, rfl, r⟩ := h.c1
    exact ⟨[], v, rfl, .nil, r⟩
  | _ :: ds, d, _, h => by
    cases h with
    | cons a b =>
      obtain ⟨ws, v, rfl, q, r⟩ := DtAll.snoc b
      exact ⟨_ :: ws, v, rfl, .cons a q, r⟩
/-- a pile, the uppermost behind -/
def Pile (K : PySem.W.Frag) (H : Hp) (vs : List V) (ds : List PyData) : Prop := DtAll K H vs ds.reverse
theorem Pile.push {vs : List V} {ds : List PyData} {v : V} {d : PyData} (h : Pile K H vs ds) (r : Dt K H v d) : Pile K H (vs ++ [v]) (d :: ds) := by
  unfold Pile
  rw [List.reverse_cons]
  exact h.app (DtAll.one r)
theorem Pile.pop {vs : List V} {ds : List PyData} {d : PyData} (h : Pile K H vs (d :: ds)) : ∃ ws v, vs = ws ++ [v] ∧ Pile K H ws ds ∧ Dt K H v d := by
  unfold Pile at h
  rw [List.reverse_cons] at h
  exact h.snoc
theorem Pile.len {vs : List V} {ds : List PyData} (h : Pile K H vs ds) : vs.length = ds.length := by
  have := DtAll.len h
  rw [List.length_reverse] at this
  exact this
theorem Pile.mono {vs : List V} {ds : List PyData} (k : Tk H H') (h : Pile K H vs ds) : Pile K H' vs ds := DtAll.mono k h
end
theorem snoc_at (ws : List V) (v : V) : (ws ++ [v])[(ws ++ [v]).length - 1]? = some v := by simp
theorem snoc_drop (ws : List V) (v : V) : (ws ++ [v]).dropLast = ws := by simp

/-! ### the machine's fields -/
def mf (c g p w : V) (r : V) : List (Str × V) := [("place", c), ("given", g), ("pile", p), ("ways", w), ("rests", r)]
theorem lk_eq {f : Str} {u : V} {r : List (Str × V)} : ((f, u) :: r).lookup f = some u := by rw [List.lookup_cons, beq_self_eq_true]
theorem lk_ne {f g : Str} {u : V} {r : List (Str × V)} (h : f ≠ g) : ((g, u) :: r).lookup f = r.lookup f := by rw [List.lookup_cons, beq_eq_false_iff_ne.mpr h]
theorem putF_eq {f : Str} {u v : V} {r : List (Str × V)} : putF f v ((f, u) :: r) = (f, v) :: r := by
  show (if f = f then _ else _) = _
  rw [if_pos rfl]
theorem putF_ne {f g : Str} {u v : V} {r : List (Str × V)} (h : g ≠ f) : putF f v ((g, u) :: r) = (g, u) :: putF f v r := by
  show (if g = f then _ else _) = _
  rw [if_neg h]
theorem n_place_given : ("place" : Str) ≠ "given" := by decide +kernel
theorem n_place_pile : ("place" : Str) ≠ "pile" := by decide +kernel
theorem n_place_ways : ("place" : Str) ≠ "ways" := by decide +kernel
theorem n_place_rests : ("place" : Str) ≠ "rests" := by decide +kernel
theorem n_given_place : ("given" : Str) ≠ "place" := by decide +kernel
theorem n_given_pile : ("given" : Str) ≠ "pile" := by decide +kernel
theorem n_given_ways : ("given" : Str) ≠ "ways" := by decide +kernel
theorem n_given_rests : ("given" : Str) ≠ "rests" := by decide +kernel
theorem n_pile_place : ("pile" : Str) ≠ "place" := by decide +kernel
theorem n_pile_given : ("pile" : Str) ≠ "given" := by decide +kernel
theorem n_pile_ways : ("pile" : Str) ≠ "ways" := by decide +kernel
theorem n_pile_rests : ("pile" : Str) ≠ "rests" := by decide +kernel
theorem n_ways_place : ("ways" : Str) ≠ "place" := by decide +kernel
theorem n_ways_given : ("ways" : Str) ≠ "given" := by decide +kernel
theorem n_ways_pile : ("ways" : Str) ≠ "pile" := by decide +kernel
theorem n_ways_rests : ("ways" : Str) ≠ "rests" := by decide +kernel
theorem n_rests_place : ("rests" : Str) ≠ "place" := by decide +kernel
theorem n_rests_given : ("rests" : Str) ≠ "given" := by decide +kernel
theorem n_rests_pile : ("rests" : Str) ≠ "pile" := by decide +kernel
theorem n_rests_ways : ("rests" : Str) ≠ "ways" := by decide +kernel
theorem mf_place (c g p w r : V) : (mf c g p w r).lookup ("place" : Str) = some c := by
  unfold mf
  rw [lk_eq]
theorem mf_put_place (c g p w r x : V) : putF "place" x (mf c g p w r) = mf x g p w r := by
  unfold mf
  rw [putF_eq]
theorem mf_given (c g p w r : V) : (mf c g p w r).lookup ("given" : Str) = some g := by
  unfold mf
  rw [lk_ne n_given_place, lk_eq]
theorem mf_put_given (c g p w r x : V) : putF "given" x (mf c g p w r) = mf c x p w r := by
  unfold mf
  rw [putF_ne n_place_given, putF_eq]
theorem mf_pile (c g p w r : V) : (mf c g p w r).lookup ("pile" : Str) = some p := by
  unfold mf
  rw [lk_ne n_pile_place, lk_ne n_pile_given, lk_eq]
theorem mf_put_pile (c g p w r x : V) : putF "pile" x (mf c g p w r) = mf c g x w r := by
  unfold mf
  rw [putF_ne n_place_pile, putF_ne n_given_pile, putF_eq]
theorem mf_ways (c g p w r : V) : (mf c g p w r).lookup ("ways" : Str) = some w := by
  unfold mf
  rw [lk_ne n_ways_place, lk_ne n_ways_given, lk_ne n_ways_pile, lk_eq]
theorem mf_put_ways (c g p w r x : V) : putF "ways" x (mf c g p w r) = mf c g p x r := by
  unfold mf
  rw [putF_ne n_place_ways, putF_ne n_given_ways, putF_ne n_pile_ways, putF_eq]
theorem mf_rests (c g p w r : V) : (mf c g p w r).lookup ("rests" : Str) = some r := by
  unfold mf
  rw [lk_ne n_rests_place, lk_ne n_rests_given, lk_ne n_rests_pile, lk_ne n_rests_ways, lk_eq]
theorem mf_put_rests (c g p w r x : V) : putF "rests" x (mf c g p w r) = mf c g p w x := by
  unfold mf
  rw [putF_ne n_place_rests, putF_ne n_given_rests, putF_ne n_pile_rests, putF_ne n_ways_rests, putF_eq]
theorem mf_none (c g p w r : V) {m : Str} (h1 : m ≠ "place") (h2 : m ≠ "given") (h3 : m ≠ "pile") (h4 : m ≠ "ways") (h5 : m ≠ "rests") : (mf c g p w r).lookup m = none := by
  unfold mf
  rw [lk_ne h1, lk_ne h2, lk_ne h3, lk_ne h4, lk_ne h5]
  rfl
theorem mf_len (c g p w r : V) : (mf c g p w r).length < 1000 := by show 5 < 1000; decide
/-- the class of the machine -/
structure MCls (K : PySem.W.Frag) (C : Addr) : Prop where
  cl : Cls K C
  nP : NoAttr K C "place"
  nG : NoAttr K C "given"
  nL : NoAttr K C "pile"
  nW : NoAttr K C "ways"
  nR : NoAttr K C "rests"
/-- the machine at M, its pile at L, its ways at W -/
structure MAt (K : PySem.W.Frag) (C : Addr) (H : Hp) (M L W : Addr) (s : Ms) : Prop where
  ins : ∃ dx g, H M = some (.ins C dx (mf (.int (s.pc : Nat)) g (.ref L) (.ref W) (.bl s.rs))) ∧ Dt K H g (.tuple (Mv.ds s.gv))
  pl : ∃ vs, H L = some (.lst vs) ∧ Pile K H vs (s.pl.map Mv.d)
  ws : ∃ vs, H W = some (.lst vs) ∧ Pile K H vs (s.ws.map wayD)
  ne : L ≠ W
theorem MAt.nML {K : PySem.W.Frag} {C : Addr} {H : Hp} {M L W : Addr} {s : Ms} (m : MAt K C H M L W s) : M ≠ L := by
  obtain ⟨dx, g, h, _⟩ := m.ins
  obtain ⟨vs, h2, _⟩ := m.pl
  exact ne_of h h2 (by intro z; cases z)
theorem MAt.nMW {K : PySem.W.Frag} {C : Addr} {H : Hp} {M L W : Addr} {s : Ms} (m : MAt K C H M L W s) : M ≠ W := by
  obtain ⟨dx, g, h, _⟩ := m.ins
  obtain ⟨vs, h2, _⟩ := m.ws
  exact ne_of h h2 (by intro z; cases z)
theorem MAt.tk {K : PySem.W.Frag} {C : Addr} {H H' : Hp} {M L W : Addr} {s : Ms} (m : MAt K C H M L W s) (k : Kp [M, L, W] H H') : Tk H H' := by
  obtain ⟨dx, g, h0, _⟩ := m.ins
  obtain ⟨vs, h1, _⟩ := m.pl
  obtain ⟨ws, h2, _⟩ := m.ws
  have no : ∀ b o, H b = some o → (∀ x y z, o ≠ .ins x y z) → (∀ x, o ≠ .lst x) → b ∉ [M, L, W] := fun b o e i l z => by
    rcases (List.mem_cons.mp z) with z | z
    · rw [z, h0] at e; exact i _ _ _ (Option.some.inj e).symm
    · rcases (List.mem_cons.mp z) with z | z
      · rw [z, h1] at e; exact l _ (Option.some.inj e).symm
      · rw [List.mem_singleton.mp z, h2] at e; exact l _ (Option.some.inj e).symm
  exact ⟨fun b xs e => k b _ e (no b _ e (fun _ _ _ z => by cases z) fun _ z => by cases z), fun b o u e => k b _ e (no b _ e (fun _ _ _ z => by cases z) fun _ z => by cases z)⟩
/-- what is new leaves it -/
theorem MAt.same {K : PySem.W.Frag} {C : Addr} {H H' : Hp} {M L W : Addr} {s : Ms} (m : MAt K C H M L W s) (q : Same H H') : MAt K C H' M L W s := by
  obtain ⟨dx, g, h0, r0⟩ := m.ins
  obtain ⟨vs, h1, r1⟩ := m.pl
  obtain ⟨ws, h2, r2⟩ := m.ws
  exact ⟨⟨dx, g, q _ _ h0, Dt.mono q.tk r0⟩, ⟨vs, q _ _ h1, r1.mono q.tk⟩, ⟨ws, q _ _ h2, r2.mono q.tk⟩, m.ne⟩
/-- another pile -/
theorem MAt.pile {K : PySem.W.Frag} {C : Addr} {H : Hp} {M L W : Addr} {s : Ms} (m : MAt K C H M L W s) {vs : List V} {p : List Mv} (h : Pile K (upd H L (.lst vs)) vs (p.map Mv.d)) : MAt K C (upd H L (.lst vs)) M L W { s with pl := p } := by
  have n1 := m.nML
  obtain ⟨dx, g, h0, r0⟩ := m.ins
  obtain ⟨us, h1, r1⟩ := m.pl
  obtain ⟨ws, h2, r2⟩ := m.ws
  have tk : Tk H (upd H L (.lst vs)) := Tk.lst h1
  exact ⟨⟨dx, g, by rw [upd_ne n1]; exact h0, Dt.mono tk r0⟩, ⟨vs, upd_same, h⟩, ⟨ws, by rw [upd_ne m.ne.symm]; exact h2, r2.mono tk⟩, m.ne⟩
theorem MAt.ways {K : PySem.W.Frag} {C : Addr} {H : Hp} {M L W : Addr} {s : Ms} (m : MAt K C H M L W s) {vs : List V} {p : List (Nat × List Mv)} (h : Pile K (upd H W (.lst vs)) vs (p.map wayD)) : MAt K C (upd H W (.lst vs)) M L W { s with ws := p } := by
  have n1 := m.nMW
  obtain ⟨dx, g, h0, r0⟩ := m.ins
  obtain ⟨us, h1, r1⟩ := m.pl
  obtain ⟨ws, h2, r2⟩ := m.ws
  have tk : Tk H (upd H W (.lst vs)) := Tk.lst h2
  exact ⟨⟨dx, g, by rw [upd_ne n1]; exact h0, Dt.mono tk r0⟩, ⟨us, by rw [upd_ne m.ne]; exact h1, r1.mono tk⟩, ⟨vs, upd_same, h⟩, m.ne⟩
/-- other fields -/
theorem MAt.flds {K : PySem.W.Frag} {C : Addr} {H : Hp} {M L W : Addr} {s : Ms} (m : MAt K C H M L W s) {dx : Addr} {g : V} {c : Nat} {gv : List Mv} {r : Bool} (h : Dt K H g (.tuple (Mv.ds gv))) :
    MAt K C (upd H M (.ins C dx (mf (.int (c : Nat)) g (.ref L) (.ref W) (.bl r)))) M L W { s with pc := c, gv := gv, rs := r } := by
  have n1 := m.nML
  have n2 := m.nMW
  obtain ⟨dx', g', h0, r0⟩ := m.ins
  obtain ⟨us, h1, r1⟩ := m.pl
  obtain ⟨ws, h2, r2⟩ := m.ws
  have tk : Tk H (upd H M (.ins C dx (mf (.int (c : Nat)) g (.ref L) (.ref W) (.bl r)))) := Tk.ins h0
  exact ⟨⟨dx, g, upd_same, Dt.mono tk h⟩, ⟨us, by rw [upd_ne n1.symm]; exact h1, r1.mono tk⟩, ⟨ws, by rw [upd_ne n2.symm]; exact h2, r2.mono tk⟩, m.ne⟩

/-! ### how wide it grows -/
mutual
def wd : Mv → Nat
  | .pair u v => max (wd u) (wd v)
  | .left u => wd u
  | .right u => wd u
  | .make _ gs => max gs.length (wds gs)
def wds : List Mv → Nat
  | [] => 0
  | v :: r => max (wd v) (wds r)
end
def wws : List (Nat × List Mv) → Nat
  | [] => 0
  | w :: r => max (max w.2.length (wds w.2)) (wws r)
def swd (s : Ms) : Nat := max (max s.gv.length (wds s.gv)) (max (wds s.pl) (wws s.ws))
theorem wds_app : ∀ (a : List Mv) (v : Mv), wds (a ++ [v]) = max (wds a) (wd v)
  | [], v => by simp [wds]
  | x :: a, v => by
    have h := wds_app a v
    simp only [List.cons_append, wds]
    omega
theorem wds_get : ∀ {a : List Mv} {k : Nat} {v : Mv}, a[k]? = some v → wd v ≤ wds a
  | [], _, _, h => by simp at h
  | x :: a, 0, v, h => by
    simp at h
    subst h
    exact Nat.le_max_left _ _
  | x :: a, k + 1, v, h => by
    have h2 := wds_get (a := a) (k := k) (v := v) (by simpa using h)
    simp only [wds]
    omega
/-- sizes of a state: at most n -/
def Sz (n : Nat) (s : Ms) : Prop := swd s ≤ n ∧ s.pl.length ≤ n ∧ s.ws.length ≤ n
theorem deed_sz {r : Rw} {s t : Ms} {n : Nat} (h : deed r s = some t) (z : Sz n s) : Sz (n + 1) t := by
  obtain ⟨z1, z2, z3⟩ := z
  unfold swd at z1
  cases r <;> simp only [deed] at h
  case take k =>
    split at h
    · rename_i v e
      cases h
      have h2 := wds_get e
      refine ⟨?_, ?_, ?_⟩
      · simp only [swd, wds]; omega
      · simp only [List.length_cons] <;> omega
      · dsimp only; omega
    · cases h
  case pair =>
    split at h
    · rename_i v u r e
      cases h
      rw [e] at z1 z2
      simp only [wds, List.length_cons] at z1 z2
      refine ⟨?_, ?_, ?_⟩
      · simp only [swd, wds, wd]; omega
      · simp only [List.length_cons] <;> omega
      · dsimp only; omega
    · cases h
  case first =>
    split at h
    · rename_i v u r e
      cases h
      rw [e] at z1 z2
      simp only [wds, wd, List.length_cons] at z1 z2
      refine ⟨?_, ?_, ?_⟩
      · simp only [swd, wds, wd]; omega
      · simp only [List.length_cons] <;> omega
      · dsimp only; omega
    · cases h
  case second =>
    split at h
    · rename_i v u r e
      cases h
      rw [e] at z1 z2
      simp only [wds, wd, List.length_cons] at z1 z2
      refine ⟨?_, ?_, ?_⟩
      · simp only [swd, wds, wd]; omega
      · simp only [List.length_cons] <;> omega
      · dsimp only; omega
    · cases h
  case left =>
    split at h
    · rename_i u r e
      cases h
      rw [e] at z1 z2
      simp only [wds, wd, List.length_cons] at z1 z2
      refine ⟨?_, ?_, ?_⟩
      · simp only [swd, wds, wd]; omega
      · simp only [List.length_cons] <;> omega
      · dsimp only; omega
    · cases h
  case right =>
    split at h
    · rename_i u r e
      cases h
      rw [e] at z1 z2
      simp only [wds, wd, List.length_cons] at z1 z2
      refine ⟨?_, ?_, ?_⟩
      · simp only [swd, wds, wd]; omega
      · simp only [List.length_cons] <;> omega
      · dsimp only; omega
    · cases h
  case make i =>
    cases h
    refine ⟨?_, ?_, ?_⟩
    · simp only [swd, wds, wd]; omega
    · simp only [List.length_cons] <;> omega
    · dsimp only; omega
  case apply =>
    split at h
    · rename_i v i gs r e
      cases h
      rw [e] at z1 z2
      simp only [wds, wd, List.length_cons] at z1 z2
      refine ⟨?_, ?_, ?_⟩
      · simp only [swd, wds_app, wws, List.length_append, List.length_cons, List.length_nil]; omega
      · dsimp only; omega
      · simp only [List.length_cons] <;> omega
    · cases h
  case case i j =>
    split at h
    · rename_i u r e
      cases h
      rw [e] at z1 z2
      simp only [wds, wd, List.length_cons] at z1 z2
      refine ⟨?_, ?_, ?_⟩
      · simp only [swd, wds_app, wws, List.length_append, List.length_cons, List.length_nil]; omega
      · dsimp only; omega
      · simp only [List.length_cons] <;> omega
    · rename_i u r e
      cases h
      rw [e] at z1 z2
      simp only [wds, wd, List.length_cons] at z1 z2
      refine ⟨?_, ?_, ?_⟩
      · simp only [swd, wds_app, wws, List.length_append, List.length_cons, List.length_nil]; omega
      · dsimp only; omega
      · simp only [List.length_cons] <;> omega
    · cases h
  case escape => cases h
  case back =>
    split at h
    · rename_i c g r e
      cases h
      rw [e] at z1 z3
      simp only [wws, List.length_cons] at z1 z3
      refine ⟨?_, ?_, ?_⟩
      · simp only [swd]; omega
      · dsimp only; omega
      · dsimp only; omega
    · cases h
      refine ⟨?_, ?_, ?_⟩
      · simp only [swd]; omega
      · dsimp only; omega
      · dsimp only; omega
end Ob
namespace Ob
open PySem L2
abbrev sInit : Stmt := inClass (top 1) 0
abbrev sGoIn : Stmt := inClass (top 1) 1
abbrev sTake : Stmt := top 2
abbrev sPair : Stmt := top 3
abbrev sPart : Stmt := top 4
abbrev sSide : Stmt := top 5
abbrev sMake : Stmt := top 6
abbrev sApply : Stmt := top 7
abbrev sCase : Stmt := top 8
abbrev sBack : Stmt := top 9
def Rw.isTake : Rw → Bool
  | .take _ => true
  | _ => false
def Rw.isPair : Rw → Bool
  | .pair => true
  | _ => false
def Rw.isPart : Rw → Bool
  | .first | .second => true
  | _ => false
def Rw.isSide : Rw → Bool
  | .left | .right => true
  | _ => false
def Rw.isApply : Rw → Bool
  | .apply => true
  | _ => false
def Rw.isBack : Rw → Bool
  | .back => true
  | _ => false
theorem mf_init (c g p w r : V) : putF "rests" r (putF "ways" w (putF "pile" p (putF "given" g (putF "place" c [])))) = mf c g p w r := by
  have e0 : putF "place" c [] = [(("place" : Str), c)] := rfl
  have e1 : putF "given" g [(("place" : Str), c)] = [(("place" : Str), c), ("given", g)] := by rw [putF_ne n_place_given]; rfl
  have e2 : putF "pile" p [(("place" : Str), c), ("given", g)] = [(("place" : Str), c), ("given", g), ("pile", p)] := by rw [putF_ne n_place_pile, putF_ne n_given_pile]; rfl
  have e3 : putF "ways" w [(("place" : Str), c), ("given", g), ("pile", p)] = [(("place" : Str), c), ("given", g), ("pile", p), ("ways", w)] := by rw [putF_ne n_place_ways, putF_ne n_given_ways, putF_ne n_pile_ways]; rfl
  rw [e0, e1, e2, e3, putF_ne n_place_rests, putF_ne n_given_rests, putF_ne n_pile_rests, putF_ne n_ways_rests]
  rfl

section
variable {P : Program} {w : World} {K : PySem.W.Frag} {mg : Str → Option Value} {base : Heap} {f C : Addr} {fd : FuncData}
def spInit (K : PySem.W.Frag) (C : Addr) : Sp := fun vs H Q _ => ∃ (M dx : Addr), vs = [.ref M] ∧ H M = some (.ins C dx []) ∧ ∀ (H' : Hp) (L W : Addr), Kp [M] H H' → MAt K C H' M L W ⟨0, [], [], [], false⟩ → H L = none → H W = none → Q .non H'
theorem scIn : FnScope ["self"] ["self"] (defScope sInit) := ⟨rfl, rfl, rfl, by decide +kernel, rfl, by decide +kernel, by decide +kernel⟩
theorem ok_init (F : Fun K "__init__" "Machine.__init__" sInit f fd) (T : MCls K C) : FnOk P w K mg base CX0 1 f fd ["self"] (spInit K C) := by
  refine F.ok scIn (fun vs H Q E h => ?_) (fun cdv A outer s H vs Q E hr h => ?_)
  · obtain ⟨M, dx, rfl, _⟩ := h
    rfl
  · obtain ⟨M, dx, rfl, hM, k⟩ := h
    refine ⟨_, (pss_cons (ps_fld (pv 0) pe_int rfl) (pss_cons (ps_fld (pv 0) (pe_tup pa_nil) rfl) (pss_cons (ps_fld (pv 0) (pe_lst pa_nil) rfl) (pss_cons (ps_fld (pv 0) (pe_lst pa_nil) rfl) (pss_one (ps_fld (pv 0) pe_bl rfl)))))), ?_⟩
    refine ⟨_, rfl, M, C, dx, _, rfl, hM, T.cl, T.nP, (by show 0 < 1000; decide), Nat.zero_le _, fun g hg => ?_⟩
    have ng : M ≠ g := fun z => by rw [z, upd_same] at hg; cases hg
    refine ⟨_, rfl, M, C, dx, _, rfl, (by rw [upd_ne ng]; exact upd_same), T.cl, T.nG, (by show 1 < 1000; decide), Nat.zero_le _, fun L hL => ?_⟩
    have nL : M ≠ L := fun z => by rw [z, upd_same] at hL; cases hL
    refine ⟨_, rfl, M, C, dx, _, rfl, (by rw [upd_ne nL]; exact upd_same), T.cl, T.nL, (Nat.lt_of_le_of_lt (length_putF _ _ _) (by show 2 < 1000; decide)), Nat.zero_le _, fun W hW => ?_⟩
    have nW : M ≠ W := fun z => by rw [z, upd_same] at hW; cases hW
    refine ⟨_, rfl, M, C, dx, _, rfl, (by rw [upd_ne nW]; exact upd_same), T.cl, T.nW, (Nat.lt_of_le_of_lt (length_putF _ _ _) (Nat.lt_of_le_of_lt (Nat.succ_le_succ (length_putF _ _ _)) (by show 3 < 1000; decide))), ?_⟩
    refine ⟨_, rfl, M, C, dx, _, rfl, upd_same, T.cl, T.nR, (Nat.lt_of_le_of_lt (length_putF _ _ _) (Nat.lt_of_le_of_lt (Nat.succ_le_succ (length_putF _ _ _)) (Nat.lt_of_le_of_lt (Nat.succ_le_succ (Nat.succ_le_succ (length_putF _ _ _))) (by show 4 < 1000; decide)))), ?_⟩
    have nLg : L ≠ g := fun z => by rw [z, upd_ne ng.symm, upd_same] at hL; cases hL
    have nWL : W ≠ L := fun z => by rw [z, upd_ne nL.symm, upd_same] at hW; cases hW
    have nWg : W ≠ g := fun z => by rw [z, upd_ne ng.symm, upd_ne nLg.symm, upd_ne ng.symm, upd_same] at hW; cases hW
    have hg0 : H g = none := by rw [upd_ne ng.symm] at hg; exact hg
    have hL0 : H L = none := by rw [upd_ne nL.symm, upd_ne nLg, upd_ne nL.symm] at hL; exact hL
    have hW0 : H W = none := by rw [upd_ne nW.symm, upd_ne nWL, upd_ne nW.symm, upd_ne nWg, upd_ne nW.symm] at hW; exact hW
    refine k _ L W (fun b o e nb => ?_) ?_ hL0 hW0
    · have b1 : b ≠ M := fun z => nb (by rw [z]; simp)
      rw [upd_ne b1, upd_ne b1, upd_ne (ne_of_none e hW0), upd_ne b1, upd_ne (ne_of_none e hL0), upd_ne b1, upd_ne (ne_of_none e hg0), upd_ne b1]
      exact e
    · rw [mf_init]
      refine ⟨⟨dx, _, upd_same, ?_⟩, ⟨[], ?_, .nil⟩, ⟨[], ?_, .nil⟩, nWL.symm⟩
      · exact Dt.made (xs := []) (by rw [upd_ne ng.symm, upd_ne ng.symm, upd_ne nWg.symm, upd_ne ng.symm, upd_ne nLg.symm, upd_ne ng.symm]; exact upd_same) .nil
      · rw [upd_ne nL.symm, upd_ne nL.symm, upd_ne nWL.symm, upd_ne nL.symm]; exact upd_same
      · rw [upd_ne nW.symm, upd_ne nW.symm]; exact upd_same

def spGoIn (K : PySem.W.Frag) (C : Addr) : Sp := fun vs H Q _ => ∃ (M L W : Addr) (c : Nat) (g : V) (gv : List Mv) (s : Ms), vs = [.ref M, .int c, g] ∧ MAt K C H M L W s ∧ Dt K H g (.tuple (Mv.ds gv)) ∧ s.ws.length ≤ 100000 ∧
  ∀ H', Kp [M, L, W] H H' → MAt K C H' M L W { s with pc := c, gv := gv, ws := (s.pc, s.gv) :: s.ws } → Q .non H'
theorem scGo : FnScope ["self", "place", "given"] ["self", "place", "given"] (defScope sGoIn) := ⟨rfl, rfl, rfl, by decide +kernel, rfl, by decide +kernel, by decide +kernel⟩
theorem ok_goin (F : Fun K "go_in" "Machine.go_in" sGoIn f fd) (T : MCls K C) : FnOk P w K mg base CX0 1 f fd ["self", "place", "given"] (spGoIn K C) := by
  refine F.ok scGo (fun vs H Q E h => ?_) (fun cdv A outer s H vs Q E hr h => ?_)
  · obtain ⟨M, L, W, c, g, gv, s, rfl, _⟩ := h
    rfl
  · obtain ⟨M, L, W, c, g, gv, s, rfl, m, hg, hz, k⟩ := h
    obtain ⟨dx, g0, hM, rg⟩ := m.ins
    obtain ⟨ws, hW, rw_⟩ := m.ws
    have lw : ws.length = s.ws.length := by rw [rw_.len, List.length_map]
    refine ⟨_, (pss_cons (ps_expr (pe_bm PySem.F.plainAttrs_list PySem.F.slot_list_append PySem.F.type_list_append mt_append (pe_fld (pv 0) rfl) (pa_cons (pe_tup (pa_cons (pe_fld (pv 0) rfl) (pa_cons (pe_fld (pv 0) rfl) pa_nil))) pa_nil))) (pss_cons (ps_fld (pv 0) (pv 1) rfl) (pss_one (ps_fld (pv 0) (pv 2) rfl)))), ?_⟩
    refine ⟨_, rfl, M, C, dx, _, _, rfl, hM, T.cl, T.nW, mf_ways _ _ _ _ _, .inl ⟨rfl, _, SqL.of hW⟩, _, rfl, M, C, dx, _, _, rfl, hM, T.cl, T.nP, mf_place _ _ _ _ _, _, rfl, M, C, dx, _, _, rfl, hM, T.cl, T.nG, mf_given _ _ _ _ _, (by show 2 ≤ sizeLine; decide), fun t ht => ?_⟩
    have m1 := m.same (Same.new (o := .tup [.int (s.pc : Nat), g0]) ht)
    have hM1 : upd H t (.tup [.int (s.pc : Nat), g0]) M = some (.ins C dx (mf (.int (s.pc : Nat)) g0 (.ref L) (.ref W) (.bl s.rs))) := by rw [upd_ne (ne_of_none hM ht)]; exact hM
    have hW1 : upd H t (.tup [.int (s.pc : Nat), g0]) W = some (.lst ws) := by rw [upd_ne (ne_of_none hW ht)]; exact hW
    refine ⟨W, ws, _, rfl, rfl, hW1, small100 (by rw [lw]; exact hz), ?_⟩
    have tk2 : Tk H (upd (upd H t (.tup [.int (s.pc : Nat), g0])) W (.lst (ws ++ [.ref t]))) := (Tk.new ht).trans (Tk.lst hW1)
    have hp : Pile K (upd (upd H t (.tup [.int (s.pc : Nat), g0])) W (.lst (ws ++ [.ref t]))) (ws ++ [.ref t]) (((s.pc, s.gv) :: s.ws).map wayD) := (rw_.mono tk2).push (Dt.made (xs := [.int (s.pc : Nat), g0]) (by rw [upd_ne (ne_of_none hW ht).symm]; exact upd_same) (.cons (.int _) (.cons (Dt.mono tk2 rg) .nil)))
    have m2 := m1.ways hp
    refine ⟨_, rfl, _, rfl, M, C, dx, _, rfl, (by rw [upd_ne m.nMW]; exact hM1), T.cl, T.nP, mf_len _ _ _ _ _, ?_⟩
    refine ⟨_, rfl, _, rfl, M, C, dx, _, rfl, upd_same, T.cl, T.nG, (by rw [mf_put_place]; exact mf_len _ _ _ _ _), ?_⟩
    refine k _ ((((Kp.new ht).trans (Kp.at (by simp))).trans (Kp.at (by simp))).trans (Kp.at (by simp))) ?_
    rw [mf_put_place, mf_put_given, upd_upd]
    exact m2.flds (c := c) (r := s.rs) (Dt.mono tk2 hg)

/-- a row done -/
def spDeed (K : PySem.W.Frag) (C : Addr) (ok : Rw → Bool) : Sp := fun vs H Q _ => ∃ (M L W ra : Addr) (rxs : List V) (r : Rw) (s t : Ms), vs = [.ref M, .ref ra] ∧ SqT K H ra rxs ∧ DtAll K H rxs r.fs ∧ ok r = true ∧ MAt K C H M L W s ∧ deed r s = some t ∧ Sz 90000 s ∧
  ∀ H', Kp [M, L, W] H H' → MAt K C H' M L W t → Q .non H'
theorem scTa : FnScope ["machine", "row"] ["machine", "row"] (defScope sTake) := ⟨rfl, rfl, rfl, by decide +kernel, rfl, by decide +kernel, by decide +kernel⟩
theorem ok_take (F : Fun K "do_take" "do_take" sTake f fd) (T : MCls K C) : FnOk P w K mg base CX0 1 f fd ["machine", "row"] (spDeed K C Rw.isTake) := by
  refine F.ok scTa (fun vs H Q E h => ?_) (fun cdv A outer s H vs Q E hr h => ?_)
  · obtain ⟨M, L, W, ra, rxs, r, s, t, rfl, _⟩ := h
    rfl
  · obtain ⟨M, L, W, ra, rxs, r, s, t, rfl, hT, hD, hw, m, hd, hz, k⟩ := h
    cases r with
    | take j =>
      obtain ⟨x0, x1, rfl, _, q1⟩ := DtAll.c2 hD
      cases q1.invI
      obtain ⟨dx, g, hM, rg⟩ := m.ins
      obtain ⟨vp, hL, rp⟩ := m.pl
      obtain ⟨ga, gs, rfl, hG, dG⟩ := rg.inv
      have lp : vp.length = s.pl.length := by rw [rp.len, List.length_map]
      simp only [deed] at hd
      split at hd
      · rename_i v e
        cases hd
        obtain ⟨u, e2, r2⟩ := dG.get (i := j) (d := v.d) (by rw [Mv.ds_map, List.getElem?_map, e]; rfl)
        refine ⟨_, (pss_one (ps_expr (pe_bm PySem.F.plainAttrs_list PySem.F.slot_list_append PySem.F.type_list_append mt_append (pe_fld (pv 0) rfl) (pa_cons (pe_ix ix_tup (pe_fld (pv 0) rfl) (pe_ix ix_tup (pv 1) pe_int (fun _ _ => rfl)) (fun _ _ => rfl)) pa_nil)))), ?_⟩
        refine ⟨_, rfl, M, C, dx, _, _, rfl, hM, T.cl, T.nL, mf_pile _ _ _ _ _, .inl ⟨rfl, _, SqL.of hL⟩, _, rfl, M, C, dx, _, _, rfl, hM, T.cl, T.nG, mf_given _ _ _ _ _, _, rfl, ra, _, 1, _, rfl, rfl, hT, at1 rfl, ga, gs, _, _, rfl, rfl, hG, atI_nat e2, L, vp, _, rfl, rfl, hL, small100 (by rw [lp]; have := hz.2.1; omega), ?_⟩
        exact k _ (Kp.at (by simp)) (m.pile ((rp.mono (Tk.lst hL)).push (Dt.mono (Tk.lst hL) r2)))
      · cases hd
    | _ => cases hw
theorem scDp : FnScope ["machine", "row", "last"] ["machine", "row"] (defScope sPair) := ⟨rfl, rfl, rfl, by decide +kernel, rfl, by decide +kernel, by decide +kernel⟩
theorem ok_pair (F : Fun K "do_pair" "do_pair" sPair f fd) (T : MCls K C) : FnOk P w K mg base CX0 1 f fd ["machine", "row"] (spDeed K C Rw.isPair) := by
  refine F.ok scDp (fun vs H Q E h => ?_) (fun cdv A outer s H vs Q E hr h => ?_)
  · obtain ⟨M, L, W, ra, rxs, r, s, t, rfl, _⟩ := h
    rfl
  · obtain ⟨M, L, W, ra, rxs, r, s, t, rfl, hT, hD, hw, m, hd, hz, k⟩ := h
    cases r with
    | pair =>
      obtain ⟨dx, g, hM, rg⟩ := m.ins
      obtain ⟨vp, hL, rp⟩ := m.pl
      have nML := m.nML
      simp only [deed] at hd
      split at hd
      · rename_i v u r e
        cases hd
        have hz2 := hz.2.1
        rw [e, List.map_cons] at rp
        rw [e] at hz2
        obtain ⟨vp, x2, rfl, rp, q2⟩ := rp.pop
        rw [List.map_cons] at rp
        obtain ⟨vp, x1, rfl, rp, q1⟩ := rp.pop
        have lp : vp.length = r.length := by rw [rp.len, List.length_map]
        simp only [List.length_cons] at hz2
        refine ⟨_, (pss_cons (ps_set (i := 2) scDp.nd rfl (Or.inl rfl) (pe_bm0 PySem.F.plainAttrs_list PySem.F.slot_list_pop PySem.F.type_list_pop mt_pop (pe_fld (pv 0) rfl))) (pss_one (ps_expr (pe_bm PySem.F.plainAttrs_list PySem.F.slot_list_append PySem.F.type_list_append mt_append (pe_fld (pv 0) rfl) (pa_cons (pe_tup (pa_cons pe_str (pa_cons (pe_bm0 PySem.F.plainAttrs_list PySem.F.slot_list_pop PySem.F.type_list_pop mt_pop (pe_fld (pv 0) rfl)) (pa_cons (pv 2) pa_nil)))) pa_nil))))), ?_⟩
        refine ⟨_, rfl, M, C, dx, _, _, rfl, hM, T.cl, T.nL, mf_pile _ _ _ _ _, .inl ⟨rfl, _, SqL.of hL⟩, L, _, _, rfl, rfl, hL, snoc_at _ _, ?_⟩
        have hM1 : upd H L (.lst ((vp ++ [x1]) ++ [x2]).dropLast) M = some (.ins C dx (mf (.int (s.pc : Nat)) g (.ref L) (.ref W) (.bl s.rs))) := by rw [upd_ne nML]; exact hM
        refine ⟨_, rfl, M, C, dx, _, _, rfl, hM1, T.cl, T.nL, mf_pile _ _ _ _ _, .inl ⟨rfl, _, SqL.of upd_same⟩, _, rfl, M, C, dx, _, _, rfl, hM1, T.cl, T.nL, mf_pile _ _ _ _ _, .inl ⟨rfl, _, SqL.of upd_same⟩, L, _, x1, rfl, rfl, upd_same, (by rw [snoc_drop]; exact snoc_at _ _), ?_⟩
        rw [snoc_drop, snoc_drop, upd_upd]
        refine ⟨_, rfl, (by show 3 ≤ sizeLine; decide), fun t ht => ?_⟩
        have nL : L ≠ t := fun z => by rw [z, upd_same] at ht; cases ht
        have ht0 : H t = none := by rw [upd_ne nL.symm] at ht; exact ht
        refine ⟨L, vp, _, rfl, rfl, (by rw [upd_ne nL]; exact upd_same), small100 (by rw [lp]; omega), ?_⟩
        have tk1 : Tk H (upd H L (.lst vp)) := Tk.lst hL
        have tk2 := tk1.trans (Tk.new (o := .tup [.str "pair", x1, x2]) ht)
        have tk3 := tk2.trans (Tk.lst (o := .lst (vp ++ [.ref t])) (by rw [upd_ne nL]; exact upd_same))
        have mm := ((m.pile (vs := vp) (p := r) (rp.mono tk1)).same (Same.new (o := .tup [.str "pair", x1, x2]) ht)).pile (vs := vp ++ [.ref t]) (p := .pair u v :: r) ?_
        · exact k _ (((Kp.at (by simp)).trans (Kp.new ht)).trans (Kp.at (by simp))) mm
        · rw [List.map_cons]
          refine (rp.mono tk3).push ?_
          simp only [Mv.d]
          exact Dt.made (xs := [.str "pair", x1, x2]) (by rw [upd_ne nL.symm]; exact upd_same) (.cons (.str _) (.cons (Dt.mono tk3 q1) (.cons (Dt.mono tk3 q2) .nil)))
      · cases hd
    | _ => cases hw
end
end Ob
namespace Ob
open PySem L2
section
variable {P : Program} {w : World} {K : PySem.W.Frag} {mg : Str → Option Value} {base : Heap} {f C : Addr} {fd : FuncData}
theorem dSec : ∀ {r : Rw}, r.isPart = true → ∃ b, decide (V.str r.word = V.str "second") = b ∧ r = (if b then .second else .first)
  | .first, _ => ⟨false, (by decide +kernel : decide (V.str "first" = V.str "second") = false), rfl⟩
  | .second, _ => ⟨true, (by decide +kernel : decide (V.str "second" = V.str "second") = true), rfl⟩
theorem scDr : FnScope ["machine", "row"] ["machine", "row"] (defScope sPart) := ⟨rfl, rfl, rfl, by decide +kernel, rfl, by decide +kernel, by decide +kernel⟩
theorem ok_part (F : Fun K "do_part" "do_part" sPart f fd) (T : MCls K C) (mi : mg "int" = none) : FnOk P w K mg base CX0 1 f fd ["machine", "row"] (spDeed K C Rw.isPart) := by
  refine F.ok scDr (fun vs H Q E h => ?_) (fun cdv A outer s H vs Q E hr h => ?_)
  · obtain ⟨M, L, W, ra, rxs, r, s, t, rfl, _⟩ := h
    rfl
  · obtain ⟨M, L, W, ra, rxs, r, s, t, rfl, hT, hD, hw, m, hd, hz, k⟩ := h
    obtain ⟨dx, g, hM, rg⟩ := m.ins
    obtain ⟨vp, hL, rp⟩ := m.pl
    have nML := m.nML
    have hz2 := hz.2.1
    obtain ⟨b, eb, er⟩ := dSec hw
    -- the uppermost is a pair
    obtain ⟨u, v, r', e, rfl⟩ : ∃ u v r', s.pl = .pair u v :: r' ∧ t = { s with pl := (if b then v else u) :: r' } := by
      cases b with
      | false =>
        have hd2 : deed .first s = some t := by rw [er] at hd; exact hd
        simp only [deed] at hd2
        split at hd2
        · rename_i a c d e; cases hd2; exact ⟨_, _, _, e, rfl⟩
        · cases hd2
      | true =>
        have hd2 : deed .second s = some t := by rw [er] at hd; exact hd
        simp only [deed] at hd2
        split at hd2
        · rename_i a c d e; cases hd2; exact ⟨_, _, _, e, rfl⟩
        · cases hd2
    rw [e, List.map_cons] at rp
    rw [e] at hz2
    obtain ⟨vp, x, rfl, rq, q⟩ := rp.pop
    have lp : vp.length = r'.length := by rw [rq.len, List.length_map]
    simp only [List.length_cons] at hz2
    simp only [Mv.d] at q
    obtain ⟨pa, pxs, rfl, hpa, dpa⟩ := q.inv
    obtain ⟨w0, y1, y2, rfl, _, q1, q2⟩ := dpa.c3
    have tk1 : Tk H (upd H L (.lst vp)) := Tk.lst hL
    refine ⟨_, (pss_one (ps_expr (pe_bm PySem.F.plainAttrs_list PySem.F.slot_list_append PySem.F.type_list_append mt_append (pe_fld (pv 0) rfl) (pa_cons (pe_ix ix_tup (pe_bm0 PySem.F.plainAttrs_list PySem.F.slot_list_pop PySem.F.type_list_pop mt_pop (pe_fld (pv 0) rfl)) (pe_op op_add pe_int (pe_callTy call_int1 (by rfl) mi (by decide +kernel) (pa_cons (pe_cmpR op_eq (pe_ix ix_tup (pv 1) pe_int (fun _ _ => rfl)) pe_str (nomark _)) pa_nil))) (fun _ _ => rfl)) pa_nil)))), ?_⟩
    refine ⟨_, rfl, M, C, dx, _, _, rfl, hM, T.cl, T.nL, mf_pile _ _ _ _ _, .inl ⟨rfl, _, SqL.of hL⟩, _, rfl, M, C, dx, _, _, rfl, hM, T.cl, T.nL, mf_pile _ _ _ _ _, .inl ⟨rfl, _, SqL.of hL⟩, L, _, _, rfl, rfl, hL, snoc_at _ _, ?_⟩
    rw [snoc_drop]
    refine ⟨_, rfl, ra, rxs, 0, _, rfl, rfl, tk1.seqT hT, at0 hD.rword, rfl, .inr ⟨b, by rw [eb], _, _, rfl, rfl, ?_⟩⟩
    have ix : atI [w0, y1, y2] (1 + (if b = true then (1 : Int) else 0)) = some (if b then y2 else y1) := by
      cases b
      · exact at1 rfl
      · exact at2 rfl
    refine ⟨pa, _, _, _, rfl, rfl, tk1.seqT hpa, ix, L, vp, _, rfl, rfl, upd_same, small100 (by rw [lp]; omega), ?_⟩
    rw [upd_upd]
    have tk2 : Tk H (upd H L (.lst (vp ++ [if b then y2 else y1]))) := Tk.lst hL
    refine k _ (Kp.at (by simp)) (m.pile ?_)
    rw [List.map_cons]
    refine (rq.mono tk2).push ?_
    cases b
    · exact Dt.mono tk2 q1
    · exact Dt.mono tk2 q2

theorem scDs : FnScope ["machine", "row"] ["machine", "row"] (defScope sSide) := ⟨rfl, rfl, rfl, by decide +kernel, rfl, by decide +kernel, by decide +kernel⟩
theorem ok_side (F : Fun K "do_side" "do_side" sSide f fd) (T : MCls K C) : FnOk P w K mg base CX0 1 f fd ["machine", "row"] (spDeed K C Rw.isSide) := by
  refine F.ok scDs (fun vs H Q E h => ?_) (fun cdv A outer s H vs Q E hr h => ?_)
  · obtain ⟨M, L, W, ra, rxs, r, s, t, rfl, _⟩ := h
    rfl
  · obtain ⟨M, L, W, ra, rxs, r, s, t, rfl, hT, hD, hw, m, hd, hz, k⟩ := h
    obtain ⟨dx, g, hM, rg⟩ := m.ins
    obtain ⟨vp, hL, rp⟩ := m.pl
    have nML := m.nML
    have hz2 := hz.2.1
    obtain ⟨u, r', e, mk, hmk, rfl⟩ : ∃ (u : Mv) (r' : List Mv), s.pl = u :: r' ∧ ∃ mk : Mv, mk.d = .tuple [.str r.word, u.d] ∧ t = { s with pl := mk :: r' } := by
      cases r with
      | left =>
        simp only [deed] at hd
        split at hd
        · rename_i u r' e; cases hd; exact ⟨u, r', e, .left u, (by simp only [Mv.d, Rw.word]), rfl⟩
        · cases hd
      | right =>
        simp only [deed] at hd
        split at hd
        · rename_i u r' e; cases hd; exact ⟨u, r', e, .right u, (by simp only [Mv.d, Rw.word]), rfl⟩
        · cases hd
      | _ => cases hw
    rw [e, List.map_cons] at rp
    rw [e] at hz2
    obtain ⟨vp, x, rfl, rp, q⟩ := rp.pop
    have lp : vp.length = r'.length := by rw [rp.len, List.length_map]
    simp only [List.length_cons] at hz2
    have tk1 : Tk H (upd H L (.lst vp)) := Tk.lst hL
    refine ⟨_, (pss_one (ps_expr (pe_bm PySem.F.plainAttrs_list PySem.F.slot_list_append PySem.F.type_list_append mt_append (pe_fld (pv 0) rfl) (pa_cons (pe_tup (pa_cons (pe_ix ix_tup (pv 1) pe_int (fun _ _ => rfl)) (pa_cons (pe_bm0 PySem.F.plainAttrs_list PySem.F.slot_list_pop PySem.F.type_list_pop mt_pop (pe_fld (pv 0) rfl)) pa_nil))) pa_nil)))), ?_⟩
    refine ⟨_, rfl, M, C, dx, _, _, rfl, hM, T.cl, T.nL, mf_pile _ _ _ _ _, .inl ⟨rfl, _, SqL.of hL⟩, _, rfl, ra, rxs, 0, _, rfl, rfl, hT, at0 hD.rword, _, rfl, M, C, dx, _, _, rfl, hM, T.cl, T.nL, mf_pile _ _ _ _ _, .inl ⟨rfl, _, SqL.of hL⟩, L, _, _, rfl, rfl, hL, snoc_at _ _, ?_⟩
    rw [snoc_drop]
    refine ⟨(by show 2 ≤ sizeLine; decide), fun p hp => ?_⟩
    have nL : L ≠ p := fun z => by rw [z, upd_same] at hp; cases hp
    have ht0 : H p = none := by rw [upd_ne nL.symm] at hp; exact hp
    refine ⟨L, vp, _, rfl, rfl, (by rw [upd_ne nL]; exact upd_same), small100 (by rw [lp]; omega), ?_⟩
    have tk2 := tk1.trans (Tk.new (o := .tup [.str r.word, x]) hp)
    have tk3 := tk2.trans (Tk.lst (o := .lst (vp ++ [.ref p])) (by rw [upd_ne nL]; exact upd_same))
    have mm := ((m.pile (vs := vp) (p := r') (rp.mono tk1)).same (Same.new (o := .tup [.str r.word, x]) hp)).pile (vs := vp ++ [.ref p]) (p := mk :: r') ?_
    · exact k _ (((Kp.at (by simp)).trans (Kp.new hp)).trans (Kp.at (by simp))) mm
    · rw [List.map_cons]
      refine (rp.mono tk3).push ?_
      rw [hmk]
      exact Dt.made (xs := [.str r.word, x]) (by rw [upd_ne nL.symm]; exact upd_same) (.cons (.str _) (.cons (Dt.mono tk3 q) .nil))

theorem scDm : FnScope ["machine", "row"] ["machine", "row"] (defScope sMake) := ⟨rfl, rfl, rfl, by decide +kernel, rfl, by decide +kernel, by decide +kernel⟩
theorem ok_make (F : Fun K "do_make" "do_make" sMake f fd) (T : MCls K C) : FnOk P w K mg base CX0 1 f fd ["machine", "row"] (spDeed K C Rw.isMk) := by
  refine F.ok scDm (fun vs H Q E h => ?_) (fun cdv A outer s H vs Q E hr h => ?_)
  · obtain ⟨M, L, W, ra, rxs, r, s, t, rfl, _⟩ := h
    rfl
  · obtain ⟨M, L, W, ra, rxs, r, s, t, rfl, hT, hD, hw, m, hd, hz, k⟩ := h
    obtain ⟨dx, g, hM, rg⟩ := m.ins
    obtain ⟨vp, hL, rp⟩ := m.pl
    have nML := m.nML
    have hz2 := hz.2.1
    cases r with
    | make i =>
      obtain ⟨x0, x1, rfl, _, q1⟩ := DtAll.c2 hD
      cases q1.invI
      cases hd
      have lp : vp.length = s.pl.length := by rw [rp.len, List.length_map]
      refine ⟨_, (pss_one (ps_expr (pe_bm PySem.F.plainAttrs_list PySem.F.slot_list_append PySem.F.type_list_append mt_append (pe_fld (pv 0) rfl) (pa_cons (pe_tup (pa_cons pe_str (pa_cons (pe_ix ix_tup (pv 1) pe_int (fun _ _ => rfl)) (pa_cons (pe_fld (pv 0) rfl) pa_nil)))) pa_nil)))), ?_⟩
      refine ⟨_, rfl, M, C, dx, _, _, rfl, hM, T.cl, T.nL, mf_pile _ _ _ _ _, .inl ⟨rfl, _, SqL.of hL⟩, _, rfl, ra, _, 1, _, rfl, rfl, hT, at1 rfl, _, rfl, M, C, dx, _, _, rfl, hM, T.cl, T.nG, mf_given _ _ _ _ _, (by show 3 ≤ sizeLine; decide), fun p hp => ?_⟩
      have nL : L ≠ p := ne_of_none hL hp
      have hL1 : upd H p (.tup [.str "make", .int (i : Nat), g]) L = some (.lst vp) := by rw [upd_ne nL]; exact hL
      refine ⟨L, vp, _, rfl, rfl, hL1, small100 (by rw [lp]; omega), ?_⟩
      have tk3 := (Tk.new (o := .tup [.str "make", .int (i : Nat), g]) hp).trans (Tk.lst (o := .lst (vp ++ [.ref p])) hL1)
      have mm := (m.same (Same.new (o := .tup [.str "make", .int (i : Nat), g]) hp)).pile (vs := vp ++ [.ref p]) (p := .make i s.gv :: s.pl) ?_
      · exact k _ ((Kp.new hp).trans (Kp.at (by simp))) mm
      · rw [List.map_cons]
        refine (rp.mono tk3).push ?_
        simp only [Mv.d]
        exact Dt.made (xs := [.str "make", .int (i : Nat), g]) (by rw [upd_ne nL.symm]; exact upd_same) (.cons (.str _) (.cons (.int _) (.cons (Dt.mono tk3 rg) .nil)))
    | _ => cases hw

/-- a tuple and one more -/
theorem DtAll.plus {H : Hp} {gs : List V} {gv : List Mv} {x : V} {u : Mv} (h : DtAll K H gs (Mv.ds gv)) (r : Dt K H x u.d) : DtAll K H (gs ++ [x]) (Mv.ds (gv ++ [u])) := by
  rw [Mv.ds_map] at h ⊢
  rw [List.map_append]
  exact h.app (DtAll.one r)
theorem scDa : FnScope ["machine", "row", "value", "word", "place", "given"] ["machine", "row"] (defScope sApply) := ⟨rfl, rfl, rfl, by decide +kernel, rfl, by decide +kernel, by decide +kernel⟩
theorem ok_apply {fG : Addr} {fdG : FuncData} (F : Fun K "do_apply" "do_apply" sApply f fd) (T : MCls K C) (mG : Meth K C "go_in" fG) (G : FnOk P w K mg base CX0 1 fG fdG ["self", "place", "given"] (spGoIn K C)) (bG : Binds K fdG ["self", "place", "given"] []) :
    FnOk P w K mg base CX0 2 f fd ["machine", "row"] (spDeed K C Rw.isApply) := by
  refine F.ok scDa (fun vs H Q E h => ?_) (fun cdv A outer s H vs Q E hr h => ?_)
  · obtain ⟨M, L, W, ra, rxs, r, s, t, rfl, _⟩ := h
    rfl
  · obtain ⟨M, L, W, ra, rxs, r, s, t, rfl, hT, hD, hw, m, hd, hz, k⟩ := h
    obtain ⟨dx, g, hM, rg⟩ := m.ins
    obtain ⟨vp, hL, rp⟩ := m.pl
    have nML := m.nML
    have hz2 := hz.2.1
    have hz1 := hz.1
    have hz3 := hz.2.2
    unfold swd at hz1
    cases r with
    | apply =>
      simp only [deed] at hd
      split at hd
      · rename_i v i gs r' e
        cases hd
        rw [e, List.map_cons] at rp
        rw [e] at hz1 hz2
        obtain ⟨vp, x2, rfl, rp, q2⟩ := rp.pop
        rw [List.map_cons] at rp
        obtain ⟨vp, x1, rfl, rq, q1⟩ := rp.pop
        simp only [wds, wd] at hz1
        simp only [Mv.d] at q1
        obtain ⟨ca, cxs, rfl, hca, dca⟩ := q1.inv
        obtain ⟨_, y1, y2, rfl, _, p1, p2⟩ := dca.c3
        cases p1.invI
        obtain ⟨ga, gxs, rfl, hga, dga⟩ := p2.inv
        have lg : gxs.length = gs.length := by rw [dga.len, Mv.ds_map, List.length_map]
        refine ⟨_, (pss_cons (ps_set (i := 2) scDa.nd rfl (Or.inl rfl) (pe_bm0 PySem.F.plainAttrs_list PySem.F.slot_list_pop PySem.F.type_list_pop mt_pop (pe_fld (pv 0) rfl))) (pss_cons (ps_asg (pe_bm0 PySem.F.plainAttrs_list PySem.F.slot_list_pop PySem.F.type_list_pop mt_pop (pe_fld (pv 0) rfl)) (pg_tup rfl (pgs_cons (pg_name (i := 3) scDa.nd rfl (Or.inl rfl)) (pgs_cons (pg_name (i := 4) scDa.nd rfl (Or.inl rfl)) (pgs_cons (pg_name (i := 5) scDa.nd rfl (Or.inl rfl)) pgs_nil))))) (pss_one (ps_expr (pe_meth (pv 0) T.cl mG G hr bG .nil pass0 (pa_cons (pv 4) (pa_cons (pe_op op_catA (pv 5) (pe_tup (pa_cons (pv 2) pa_nil))) pa_nil))))))), ?_⟩
        refine ⟨_, rfl, M, C, dx, _, _, rfl, hM, T.cl, T.nL, mf_pile _ _ _ _ _, .inl ⟨rfl, _, SqL.of hL⟩, L, _, _, rfl, rfl, hL, snoc_at _ _, ?_⟩
        have hM1 : upd H L (.lst ((vp ++ [V.ref ca]) ++ [x2]).dropLast) M = some (.ins C dx (mf (.int (s.pc : Nat)) g (.ref L) (.ref W) (.bl s.rs))) := by rw [upd_ne nML]; exact hM
        refine ⟨_, rfl, M, C, dx, _, _, rfl, hM1, T.cl, T.nL, mf_pile _ _ _ _ _, .inl ⟨rfl, _, SqL.of upd_same⟩, L, _, V.ref ca, rfl, rfl, upd_same, (by rw [snoc_drop]; exact snoc_at _ _), ?_⟩
        rw [snoc_drop, snoc_drop, upd_upd]
        have tk1 : Tk H (upd H L (.lst vp)) := Tk.lst hL
        have m1 := m.pile (vs := vp) (p := r') (rq.mono tk1)
        have hM2 : upd H L (.lst vp) M = some (.ins C dx (mf (.int (s.pc : Nat)) g (.ref L) (.ref W) (.bl s.rs))) := by rw [upd_ne nML]; exact hM
        refine ⟨ca, _, rfl, tk1.seqT hca, rfl, _, _, rfl, _, _, rfl, _, _, rfl, rfl, ?_⟩
        have nogo : (mf (.int (s.pc : Nat)) g (.ref L) (.ref W) (.bl s.rs)).lookup ("go_in" : Str) = none := mf_none _ _ _ _ _ (by decide +kernel) (by decide +kernel) (by decide +kernel) (by decide +kernel) (by decide +kernel)
        refine ⟨_, rfl, M, dx, _, rfl, hM2, nogo, _, rfl, _, rfl, _, rfl, (by show 1 ≤ sizeLine; decide), fun p hp => ?_⟩
        have nL : L ≠ p := fun z => by rw [z, upd_same] at hp; cases hp
        have tk2 := tk1.trans (Tk.new (o := .tup [x2]) hp)
        have m2 := m1.same (Same.new (o := .tup [x2]) hp)
        refine ⟨ga, p, gxs, [x2], rfl, rfl, tk2.seqT hga, SqT.of upd_same, (by show gxs.length + 1 ≤ _; exact Nat.le_of_lt (small100 (by omega))), fun z => ?_, fun _ z => (by cases z), fun _ _ p2 hp2 => ?_⟩
        · subst z
          have e0 : gs = [] := List.eq_nil_of_length_eq_zero lg.symm
          subst e0
          refine ⟨M, L, W, i, .ref p, [v], _, rfl, m2, ?_, (by show s.ws.length ≤ _; omega), fun H' kk mm => k _ (((Kp.at (by simp)).trans (Kp.new hp)).trans kk) mm⟩
          exact Dt.made upd_same (DtAll.one (Dt.mono tk2 q2))
        · have tk3 := tk2.trans (Tk.new (o := .tup (gxs ++ [x2])) hp2)
          have m3 := m2.same (Same.new (o := .tup (gxs ++ [x2])) hp2)
          refine ⟨M, L, W, i, .ref p2, gs ++ [v], _, rfl, m3, ?_, (by show s.ws.length ≤ _; omega), fun H' kk mm => k _ ((((Kp.at (by simp)).trans (Kp.new hp)).trans (Kp.new hp2)).trans kk) mm⟩
          exact Dt.made upd_same (DtAll.plus (DtAll.mono tk3 dga) (Dt.mono tk3 q2))
      · cases hd
    | _ => cases hw

theorem dRight : ∀ {b : Bool}, decide (V.str (if b then "right" else "left") = V.str "right") = b
  | true => (by decide +kernel : decide (V.str "right" = V.str "right") = true)
  | false => (by decide +kernel : decide (V.str "left" = V.str "right") = false)
theorem scDc : FnScope ["machine", "row", "word", "value"] ["machine", "row"] (defScope sCase) := ⟨rfl, rfl, rfl, by decide +kernel, rfl, by decide +kernel, by decide +kernel⟩
theorem ok_case {fG : Addr} {fdG : FuncData} (F : Fun K "do_case" "do_case" sCase f fd) (T : MCls K C) (mi : mg "int" = none) (mG : Meth K C "go_in" fG) (G : FnOk P w K mg base CX0 1 fG fdG ["self", "place", "given"] (spGoIn K C)) (bG : Binds K fdG ["self", "place", "given"] []) :
    FnOk P w K mg base CX0 2 f fd ["machine", "row"] (spDeed K C Rw.isCs) := by
  refine F.ok scDc (fun vs H Q E h => ?_) (fun cdv A outer s H vs Q E hr h => ?_)
  · obtain ⟨M, L, W, ra, rxs, r, s, t, rfl, _⟩ := h
    rfl
  · obtain ⟨M, L, W, ra, rxs, r, s, t, rfl, hT, hD, hw, m, hd, hz, k⟩ := h
    obtain ⟨dx, g, hM, rg⟩ := m.ins
    obtain ⟨vp, hL, rp⟩ := m.pl
    have nML := m.nML
    have hz2 := hz.2.1
    have hz1 := hz.1
    have hz3 := hz.2.2
    unfold swd at hz1
    cases r with
    | case i j =>
      obtain ⟨z0, z1, z2, rfl, _, y1, y2⟩ := DtAll.c3 hD
      cases y1.invI
      cases y2.invI
      obtain ⟨b, u, r', mk, e, hmk, rfl⟩ : ∃ (b : Bool) (u : Mv) (r' : List Mv) (mk : Mv), s.pl = mk :: r' ∧ mk.d = .tuple [.str (if b then "right" else "left"), u.d] ∧ t = { s with pc := (if b then j else i), gv := s.gv ++ [u], pl := r', ws := (s.pc, s.gv) :: s.ws } := by
        simp only [deed] at hd
        split at hd
        · rename_i u r' e; cases hd; exact ⟨false, u, r', _, e, (by simp only [Mv.d]; rfl), rfl⟩
        · rename_i u r' e; cases hd; exact ⟨true, u, r', _, e, (by simp only [Mv.d]; rfl), rfl⟩
        · cases hd
      rw [e, List.map_cons, hmk] at rp
      obtain ⟨vp, x, rfl, rq, q⟩ := rp.pop
      obtain ⟨ca, cxs, rfl, hca, dca⟩ := q.inv
      obtain ⟨w0, x1, rfl, p0, p1⟩ := dca.c2
      cases p0.invS
      obtain ⟨ga, gxs, rfl, hga, dga⟩ := rg.inv
      have lg : gxs.length = s.gv.length := by rw [dga.len, Mv.ds_map, List.length_map]
      refine ⟨_, (pss_cons (ps_asg (pe_bm0 PySem.F.plainAttrs_list PySem.F.slot_list_pop PySem.F.type_list_pop mt_pop (pe_fld (pv 0) rfl)) (pg_tup rfl (pgs_cons (pg_name (i := 2) scDc.nd rfl (Or.inl rfl)) (pgs_cons (pg_name (i := 3) scDc.nd rfl (Or.inl rfl)) pgs_nil)))) (pss_one (ps_expr (pe_meth (pv 0) T.cl mG G hr bG .nil pass0 (pa_cons (pe_ix ix_tup (pv 1) (pe_op op_add pe_int (pe_callTy call_int1 (by rfl) mi (by decide +kernel) (pa_cons (pe_cmpR op_eq (pv 2) pe_str (nomark _)) pa_nil))) (fun _ _ => rfl)) (pa_cons (pe_op op_catA (pe_fld (pv 0) rfl) (pe_tup (pa_cons (pv 3) pa_nil))) pa_nil)))))), ?_⟩
      refine ⟨_, rfl, M, C, dx, _, _, rfl, hM, T.cl, T.nL, mf_pile _ _ _ _ _, .inl ⟨rfl, _, SqL.of hL⟩, L, _, _, rfl, rfl, hL, snoc_at _ _, ?_⟩
      rw [snoc_drop]
      have tk1 : Tk H (upd H L (.lst vp)) := Tk.lst hL
      have m1 := m.pile (vs := vp) (p := r') (rq.mono tk1)
      have hM2 : upd H L (.lst vp) M = some (.ins C dx (mf (.int (s.pc : Nat)) (.ref ga) (.ref L) (.ref W) (.bl s.rs))) := by rw [upd_ne nML]; exact hM
      refine ⟨ca, _, rfl, tk1.seqT hca, rfl, _, _, rfl, _, _, rfl, rfl, ?_⟩
      have nogo : (mf (.int (s.pc : Nat)) (.ref ga) (.ref L) (.ref W) (.bl s.rs)).lookup ("go_in" : Str) = none := mf_none _ _ _ _ _ (by decide +kernel) (by decide +kernel) (by decide +kernel) (by decide +kernel) (by decide +kernel)
      have ix : atI [z0, V.int (i : Nat), V.int (j : Nat)] (1 + (if b = true then (1 : Int) else 0)) = some (.int ((if b then j else i : Nat) : Int)) := by
        cases b
        · exact at1 rfl
        · exact at2 rfl
      refine ⟨_, rfl, M, dx, _, rfl, hM2, nogo, _, rfl, _, rfl, rfl, .inr ⟨b, by rw [dRight], _, _, rfl, rfl, ra, _, _, _, rfl, rfl, tk1.seqT hT, ix, ?_⟩⟩
      refine ⟨_, rfl, M, C, dx, _, _, rfl, hM2, T.cl, T.nG, mf_given _ _ _ _ _, _, rfl, (by show 1 ≤ sizeLine; decide), fun p hp => ?_⟩
      have nL : L ≠ p := fun z => by rw [z, upd_same] at hp; cases hp
      have tk2 := tk1.trans (Tk.new (o := .tup [x1]) hp)
      have m2 := m1.same (Same.new (o := .tup [x1]) hp)
      refine ⟨ga, p, gxs, [x1], rfl, rfl, tk2.seqT hga, SqT.of upd_same, (by show gxs.length + 1 ≤ _; exact Nat.le_of_lt (small100 (by omega))), fun z => ?_, fun _ z => (by cases z), fun _ _ p2 hp2 => ?_⟩
      · subst z
        have e0 : s.gv = [] := List.eq_nil_of_length_eq_zero lg.symm
        refine ⟨M, L, W, _, .ref p, s.gv ++ [u], _, rfl, m2, ?_, (by show s.ws.length ≤ _; omega), fun H' kk mm => k _ (((Kp.at (by simp)).trans (Kp.new hp)).trans kk) mm⟩
        rw [e0]
        exact Dt.made upd_same (DtAll.one (Dt.mono tk2 p1))
      · have tk3 := tk2.trans (Tk.new (o := .tup (gxs ++ [x1])) hp2)
        have m3 := m2.same (Same.new (o := .tup (gxs ++ [x1])) hp2)
        refine ⟨M, L, W, _, .ref p2, s.gv ++ [u], _, rfl, m3, ?_, (by show s.ws.length ≤ _; omega), fun H' kk mm => k _ ((((Kp.at (by simp)).trans (Kp.new hp)).trans (Kp.new hp2)).trans kk) mm⟩
        exact Dt.made upd_same (DtAll.plus (DtAll.mono tk3 dga) (Dt.mono tk3 p1))
    | _ => cases hw

/-! ### back -/
mutual
theorem canLay_mv : ∀ v : Mv, (v.d).canLay0 = true
  | .pair u v => by
    have h1 := canLay_mv u
    have h2 := canLay_mv v
    have h3 : PyData.strOk "pair" = true := by decide +kernel
    simp only [Mv.d, PyData.canLay0, PyData.canLayAll0, h1, h2, h3, Bool.and_self]
  | .left u => by
    have h1 := canLay_mv u
    have h3 : PyData.strOk "left" = true := by decide +kernel
    simp only [Mv.d, PyData.canLay0, PyData.canLayAll0, h1, h3, Bool.and_self]
  | .right u => by
    have h1 := canLay_mv u
    have h3 : PyData.strOk "right" = true := by decide +kernel
    simp only [Mv.d, PyData.canLay0, PyData.canLayAll0, h1, h3, Bool.and_self]
  | .make i gs => by
    have h1 := canLay_mvs gs
    have h3 : PyData.strOk "make" = true := by decide +kernel
    simp only [Mv.d, PyData.canLay0, PyData.canLayAll0, h1, h3, Bool.and_self]
theorem canLay_mvs : ∀ gs : List Mv, PyData.canLayAll0 (Mv.ds gs) = true
  | [] => by simp only [Mv.ds, PyData.canLayAll0]
  | v :: r => by
    have h1 := canLay_mv v
    have h2 := canLay_mvs r
    simp only [Mv.ds, PyData.canLayAll0, h1, h2, Bool.and_self]
end
theorem canLay_ways : ∀ ws : List (Nat × List Mv), PyData.canLayAll0 (ws.map wayD) = true
  | [] => by simp only [List.map_nil, PyData.canLayAll0]
  | x :: r => by
    have h1 := canLay_mvs x.2
    have h2 := canLay_ways r
    simp only [List.map_cons, wayD, PyData.canLay0, PyData.canLayAll0, h1, h2, Bool.and_self]
theorem canLayAll_app : ∀ (a b : List PyData), PyData.canLayAll0 a = true → PyData.canLayAll0 b = true → PyData.canLayAll0 (a ++ b) = true
  | [], _, _, h => h
  | x :: a, b, h, g => by
    simp only [PyData.canLayAll0, Bool.and_eq_true] at h
    simp only [List.cons_append, PyData.canLayAll0, Bool.and_eq_true]
    exact ⟨h.1, canLayAll_app a b h.2 g⟩
theorem canLayAll_rev : ∀ (a : List PyData), PyData.canLayAll0 a = true → PyData.canLayAll0 a.reverse = true
  | [], h => h
  | x :: a, h => by
    simp only [PyData.canLayAll0, Bool.and_eq_true] at h
    rw [List.reverse_cons]
    exact canLayAll_app _ _ (canLayAll_rev a h.2) (by simp only [PyData.canLayAll0, h.1, Bool.and_self])
theorem eqv_nil : ∀ ds : List PyData, PyData.eqv (.list ds) (.list []) = ds.isEmpty
  | [] => by simp only [PyData.eqv, PyData.eqvAll, List.isEmpty_nil]
  | _ :: _ => by simp only [PyData.eqv, PyData.eqvAll, List.isEmpty_cons]
theorem scDb : FnScope ["machine", "row"] ["machine", "row"] (defScope sBack) := ⟨rfl, rfl, rfl, by decide +kernel, rfl, by decide +kernel, by decide +kernel⟩
theorem ok_back (F : Fun K "do_back" "do_back" sBack f fd) (T : MCls K C) : FnOk P w K mg base CX0 1 f fd ["machine", "row"] (spDeed K C Rw.isBack) := by
  refine F.ok scDb (fun vs H Q E h => ?_) (fun cdv A outer s H vs Q E hr h => ?_)
  · obtain ⟨M, L, W, ra, rxs, r, s, t, rfl, _⟩ := h
    rfl
  · obtain ⟨M, L, W, ra, rxs, r, s, t, rfl, hT, hD, hw, m, hd, hz, k⟩ := h
    obtain ⟨dx, g, hM, rg⟩ := m.ins
    obtain ⟨vp, hL, rp⟩ := m.pl
    have nML := m.nML
    have hz2 := hz.2.1
    obtain ⟨vw, hW, rw_⟩ := m.ws
    cases r with
    | back =>
      refine ⟨_, (pss_one (ps_if (pt_cmpR op_eqM (pe_fld (pv 0) rfl) (pe_lst pa_nil) (nomark _)) (pss_one (ps_fld (pv 0) pe_bl rfl)) (pss_one (ps_asg (pe_bm0 PySem.F.plainAttrs_list PySem.F.slot_list_pop PySem.F.type_list_pop mt_pop (pe_fld (pv 0) rfl)) (pg_tup rfl (pgs_cons (pg_fld (pv 0)) (pgs_cons (pg_fld (pv 0)) pgs_nil))))))), ?_⟩
      refine ⟨_, rfl, M, C, dx, _, _, rfl, hM, T.cl, T.nW, mf_ways _ _ _ _ _, Nat.zero_le _, fun p hp => ?_⟩
      have sp1 : Same H (upd H p (.lst [])) := Same.new hp
      have m1 := m.same sp1
      have hun := hr.units
      refine ⟨.list (s.ws.map wayD).reverse, .list [], .lst (SqL.of (sp1 _ _ hW)) (DtAll.dp (DtAll.mono sp1.tk rw_)), .lst (SqL.of upd_same) .nil, ?_, (by simp only [PyData.canLay0, PyData.canLayAll0]), ?_, _, rfl, ?_⟩
      · simp only [PyData.canLay0]
        exact canLayAll_rev _ (canLay_ways _)
      · have e1 : PyData.depth (.list []) = 1 := by simp only [PyData.depth, PyData.depthAll]
        rw [e1]
        have : min (PyData.depth (.list (s.ws.map wayD).reverse)) 1 ≤ 64 := Nat.le_trans (Nat.min_le_right _ _) (by decide)
        exact Nat.lt_of_le_of_lt (Nat.add_le_add_left this _) hun
      · rw [eqv_nil, List.isEmpty_reverse]
        cases e : s.ws with
        | nil =>
          simp only [deed, e] at hd
          cases hd
          refine iteT ?_
          refine ⟨_, rfl, M, C, dx, _, rfl, sp1 _ _ hM, T.cl, T.nR, mf_len _ _ _ _ _, ?_⟩
          refine k _ ((Kp.new hp).trans (Kp.at (by simp))) ?_
          rw [mf_put_rests]
          have q := m1.flds (dx := dx) (c := s.pc) (r := true) (Dt.mono sp1.tk rg)
          rw [e] at q
          exact q
        | cons x r' =>
          simp only [deed, e] at hd
          cases hd
          refine iteF ?_
          rw [e, List.map_cons] at rw_
          obtain ⟨vw, x1, rfl, rwq, q⟩ := rw_.pop
          obtain ⟨xc, xg⟩ := x
          simp only [wayD] at q
          obtain ⟨ca, cxs, rfl, hca, dca⟩ := q.inv
          obtain ⟨w0, w1, rfl, p0, p1⟩ := dca.c2
          cases p0.invI
          have hW1 : upd H p (.lst []) W = some (.lst (vw ++ [.ref ca])) := sp1 _ _ hW
          have hM1 : upd H p (.lst []) M = some (.ins C dx (mf (.int (s.pc : Nat)) g (.ref L) (.ref W) (.bl s.rs))) := sp1 _ _ hM
          refine ⟨_, rfl, M, C, dx, _, _, rfl, hM1, T.cl, T.nW, mf_ways _ _ _ _ _, .inl ⟨rfl, _, SqL.of hW1⟩, W, _, _, rfl, rfl, hW1, snoc_at _ _, ?_⟩
          rw [snoc_drop]
          have tk2 := sp1.tk.trans (Tk.lst (o := .lst vw) hW1)
          have m2 := m1.ways (vs := vw) (p := r') (rwq.mono tk2)
          refine ⟨ca, _, rfl, tk2.seqT hca, rfl, _, _, rfl, _, rfl, M, C, dx, _, rfl, (by rw [upd_ne m.nMW]; exact hM1), T.cl, T.nP, mf_len _ _ _ _ _, _, _, rfl, _, rfl, M, C, dx, _, rfl, upd_same, T.cl, T.nG, (by rw [mf_put_place]; exact mf_len _ _ _ _ _), rfl, ?_⟩
          refine k _ ((((Kp.new hp).trans (Kp.at (by simp))).trans (Kp.at (by simp))).trans (Kp.at (by simp))) ?_
          rw [mf_put_place, mf_put_given, upd_upd]
          exact m2.flds (c := xc) (r := s.rs) (Dt.mono tk2 p1)
    | _ => cases hw
end
end Ob
namespace Ob
open PySem L2
abbrev sShape : Stmt := top 11
abbrev sRun : Stmt := top 12
def Mv.word : Mv → Str
  | .pair _ _ => "pair"
  | .left _ => "left"
  | .right _ => "right"
  | .make _ _ => "make"
def Mv.isPair : Mv → Bool
  | .pair _ _ => true
  | _ => false
def Mv.isMk : Mv → Bool
  | .make _ _ => true
  | _ => false
theorem Mv.dPair : ∀ v : Mv, decide (V.str v.word = V.str "pair") = v.isPair
  | .pair _ _ => (by decide +kernel : decide (V.str "pair" = V.str "pair") = true)
  | .left _ => (by decide +kernel : decide (V.str "left" = V.str "pair") = false)
  | .right _ => (by decide +kernel : decide (V.str "right" = V.str "pair") = false)
  | .make _ _ => (by decide +kernel : decide (V.str "make" = V.str "pair") = false)
theorem Mv.dMk : ∀ v : Mv, decide (V.str v.word = V.str "make") = v.isMk
  | .pair _ _ => (by decide +kernel : decide (V.str "pair" = V.str "make") = false)
  | .left _ => (by decide +kernel : decide (V.str "left" = V.str "make") = false)
  | .right _ => (by decide +kernel : decide (V.str "right" = V.str "make") = false)
  | .make _ _ => (by decide +kernel : decide (V.str "make" = V.str "make") = true)
theorem Dt.value {K : PySem.W.Frag} {H : Hp} {x : V} {v : Mv} (h : Dt K H x v.d) : ∃ a xs ds, x = .ref a ∧ SqT K H a xs ∧ v.d = .tuple ds ∧ DtAll K H xs ds ∧ xs[0]? = some (.str v.word) := by
  cases v with
  | pair u w =>
    simp only [Mv.d] at h ⊢
    obtain ⟨a, xs, rfl, h1, h2⟩ := h.inv
    obtain ⟨y0, _, _, rfl, q, _, _⟩ := h2.c3
    cases q.invS
    exact ⟨a, _, _, rfl, h1, rfl, h2, rfl⟩
  | left u =>
    simp only [Mv.d] at h ⊢
    obtain ⟨a, xs, rfl, h1, h2⟩ := h.inv
    obtain ⟨y0, _, rfl, q, _⟩ := h2.c2
    cases q.invS
    exact ⟨a, _, _, rfl, h1, rfl, h2, rfl⟩
  | right u =>
    simp only [Mv.d] at h ⊢
    obtain ⟨a, xs, rfl, h1, h2⟩ := h.inv
    obtain ⟨y0, _, rfl, q, _⟩ := h2.c2
    cases q.invS
    exact ⟨a, _, _, rfl, h1, rfl, h2, rfl⟩
  | make i gs =>
    simp only [Mv.d] at h ⊢
    obtain ⟨a, xs, rfl, h1, h2⟩ := h.inv
    obtain ⟨y0, _, _, rfl, q, _, _⟩ := h2.c3
    cases q.invS
    exact ⟨a, _, _, rfl, h1, rfl, h2, rfl⟩
theorem hdeep_pos : ∀ s : Sh, 1 ≤ hdeep s
  | .pair _ _ => Nat.le_add_left _ _
  | .left _ => Nat.le_add_left _ _
  | .right _ => Nat.le_add_left _ _
  | .make => Nat.le_refl _

section
variable {P : Program} {w : World} {K : PySem.W.Frag} {mg : Str → Option Value} {base : Heap} {f C : Addr} {fd : FuncData}
def spShape (K : PySem.W.Frag) (n : Nat) : Sp := fun vs H Q _ => ∃ (x : V) (v : Mv), vs = [x] ∧ Dt K H x v.d ∧ hdeep (shOf v) ≤ n ∧ ∀ y H', Same H H' → Dt K H' y (shOf v).d → Q y H'
theorem scSp : FnScope ["value"] ["value"] (defScope sShape) := ⟨rfl, rfl, rfl, by decide +kernel, rfl, by decide +kernel, by decide +kernel⟩
theorem ok_shape {n : Nat} (F : Fun K "shape_of" "shape_of" sShape f fd) (cS : Cal P w K mg base (n + 1) "shape_of" ["value"] (spShape K n)) : FnOk P w K mg base CX0 (n + 1 + 1) f fd ["value"] (spShape K (n + 1)) := by
  refine F.ok scSp (fun vs H Q E h => ?_) (fun cdv A outer s H vs Q E hr h => ?_)
  · obtain ⟨x, v, rfl, _⟩ := h
    rfl
  · obtain ⟨x, v, rfl, hx, hn, k⟩ := h
    obtain ⟨a, xs, ds, rfl, hT, ed, hD, w0⟩ := hx.value
    refine ⟨_, (pss_cons (ps_if (pt_cmpR op_eq (pe_ix ix_tup (pv 0) pe_int (fun _ _ => rfl)) pe_str (nomark _)) (pss_one (ps_ret (pe_tup (pa_cons pe_str (pa_cons (pe_cal cS hr rfl (pa_cons (pe_ix ix_tup (pv 0) pe_int (fun _ _ => rfl)) pa_nil)) (pa_cons (pe_cal cS hr rfl (pa_cons (pe_ix ix_tup (pv 0) pe_int (fun _ _ => rfl)) pa_nil)) pa_nil)))))) pss_nil) (pss_cons (ps_if (pt_cmpR op_eq (pe_ix ix_tup (pv 0) pe_int (fun _ _ => rfl)) pe_str (nomark _)) (pss_one (ps_ret (pe_tup (pa_cons pe_str pa_nil)))) pss_nil) (pss_one (ps_ret (pe_tup (pa_cons (pe_ix ix_tup (pv 0) pe_int (fun _ _ => rfl)) (pa_cons (pe_cal cS hr rfl (pa_cons (pe_ix ix_tup (pv 0) pe_int (fun _ _ => rfl)) pa_nil)) pa_nil))))))), ?_⟩
    refine ⟨_, rfl, a, xs, 0, _, rfl, rfl, hT, at0 w0, rfl, _, rfl, iteB v.dPair (fun c => ?_) (fun c => ?_)⟩
    · cases v with
      | pair u z =>
        simp only [Mv.d, PyData.tuple.injEq] at ed
        subst ed
        obtain ⟨y0, y1, y2, rfl, _, q1, q2⟩ := hD.c3
        simp only [shOf, hdeep] at hn
        refine ⟨_, rfl, a, _, 1, _, rfl, rfl, hT, at1 rfl, y1, u, rfl, q1, by omega, fun s1 H1 e1 r1 => ?_⟩
        refine ⟨_, rfl, a, _, 2, _, rfl, rfl, e1.tk.seqT hT, at2 rfl, y2, z, rfl, Dt.mono e1.tk q2, by omega, fun s2 H2 e2 r2 => ?_⟩
        refine ⟨(by show 3 ≤ sizeLine; decide), fun p hp => k _ _ (e1.trans (e2.trans (Same.new hp))) ?_⟩
        simp only [shOf, Sh.d]
        have tk := Tk.new (o := .tup [.str "pair", s1, s2]) hp
        exact Dt.made upd_same (.cons (.str _) (.cons (Dt.mono (e2.tk.trans tk) r1) (.cons (Dt.mono tk r2) .nil)))
      | _ => cases c
    refine ⟨_, rfl, a, xs, 0, _, rfl, rfl, hT, at0 w0, rfl, _, rfl, iteB v.dMk (fun c2 => ?_) (fun c2 => ?_)⟩
    · cases v with
      | make i gs =>
        refine ⟨(by show 1 ≤ sizeLine; decide), fun p hp => k _ _ (Same.new hp) ?_⟩
        simp only [shOf, Sh.d]
        exact Dt.made upd_same (.cons (.str _) .nil)
      | _ => cases c2
    · obtain ⟨u, y0, y1, rfl, q1, es, eh⟩ : ∃ (u : Mv) (y0 y1 : V), xs = [y0, y1] ∧ Dt K H y1 u.d ∧ (shOf v).d = .tuple [.str v.word, (shOf u).d] ∧ hdeep (shOf v) = hdeep (shOf u) + 1 := by
        cases v with
        | left u =>
          simp only [Mv.d, PyData.tuple.injEq] at ed
          subst ed
          obtain ⟨y0, y1, rfl, _, q1⟩ := hD.c2
          exact ⟨u, y0, y1, rfl, q1, (by simp only [shOf, Sh.d, Mv.word]), (by simp only [shOf, hdeep])⟩
        | right u =>
          simp only [Mv.d, PyData.tuple.injEq] at ed
          subst ed
          obtain ⟨y0, y1, rfl, _, q1⟩ := hD.c2
          exact ⟨u, y0, y1, rfl, q1, (by simp only [shOf, Sh.d, Mv.word]), (by simp only [shOf, hdeep])⟩
        | pair _ _ => cases c
        | make _ _ => cases c2
      refine ⟨_, rfl, a, _, 0, _, rfl, rfl, hT, at0 w0, _, rfl, a, _, 1, _, rfl, rfl, hT, at1 rfl, y1, u, rfl, q1, by omega, fun s1 H1 e1 r1 => ?_⟩
      refine ⟨(by show 2 ≤ sizeLine; decide), fun p hp => k _ _ (e1.trans (Same.new hp)) ?_⟩
      rw [es]
      exact Dt.made (xs := [.str v.word, s1]) upd_same (.cons (.str _) (.cons (Dt.mono (Tk.new hp) r1) .nil))
theorem all_shape (D : Df K mg "shape_of" sShape ["value"]) : ∀ n, Cal P w K mg base (n + 1) "shape_of" ["value"] (spShape K n)
  | 0 => D.cal fun f fd F => FnOk.void fun vs H Q E ⟨x, v, _, _, hn, _⟩ => by have := hdeep_pos (shOf v); omega
  | n + 1 => D.cal fun f fd F => ok_shape F (all_shape D n)

/-! ### run_code -/
/-- a call of what a slot holds, whichever def of the table it is -/
def tCallH (P : Program) (w : World) (K : PySem.W.Frag) (mg : Str → Option Value) (base : Heap) (k i : Nat) (t : TA) : TE := fun σ H Q => ∃ f sp, σ[i]? = some (some (.ref f)) ∧ Held P w K mg base k f sp ∧ t σ H fun vs H1 => sp vs H1 Q fun _ _ _ => False
theorem pe_callH {X : Cx} {k i : Nat} {x : Str} {p pos : Pos} {e : Expr} {es : List Expr} {t : TA} (hr : Room k X.A) (hN : X.N[i]? = some x) (hv : Vis X.env.scope x) (ha : PA X (e :: es) t)
    (hcd : (x == ("__classdict__" : Str)) = false := by decide) (hdb : (x == ("__debug__" : Str)) = false := by decide)
    (hpl : (backTo pos (starEach es X.env)).any (·.1) = false := by rfl) (he : starEach (e :: es) X.env = (false, eval e X.env) :: starEach es X.env := by rfl) :
    PE X (.Call (.Name x p) (e :: es) [] pos) (tCallH X.prog X.w X.K X.mg X.base k i t) := by
  refine PE.mk fun pins s σ H Q I h => ?_
  obtain ⟨f, sp, hs, hh, ht⟩ := h
  refine (pe_callA (S := fun g => if g = f then some sp else none) (fun g sp' hg => ?_) hr hN hv ha hdb hcd he hpl).run pins s σ H Q I ⟨f, sp, hs, if_pos rfl, ht⟩
  by_cases z : g = f
  · rw [if_pos z] at hg
    cases hg
    rw [z]
    exact hh
  · rw [if_neg z] at hg
    cases hg
/-- the table of the deeds -/
structure DTab (P : Program) (w : World) (K : PySem.W.Frag) (mg : Str → Option Value) (base : Heap) (C : Addr) : Prop where
  ex : ∃ d, mg "DEEDS" = some (.ref d) ∧ ∀ r : Rw, r ≠ .escape → ∃ f ok, KDct K w d r.word (.ref f) ∧ Held P w K mg base 2 f (spDeed K C ok) ∧ ok r = true
theorem Run.rest {rows : List Rw} {a b : Ms} {i : Nat} (h : Run rows a i b) : ∀ {n : Nat} {c : Ms}, Run rows a n c → i ≤ n → Run rows b (n - i) c := by
  induction h with
  | nil s => intro n c h2 _; exact h2
  | cons h1 h2 _ ih =>
    intro n c h3 hle
    cases h3 with
    | nil => omega
    | cons g1 g2 g3 =>
      rw [h1] at g1
      cases g1
      rw [Nat.add_sub_add_right]
      exact ih g3 (by omega)
theorem Run.more {rows : List Rw} {a b c : Ms} {i : Nat} (h : Run rows a i b) (h1 : mstep rows b = some c) (h2 : c.rs = false) : Run rows a (i + 1) c := h.trans (.one h1 h2)
def ms0 : Ms := ⟨0, [], [], [], false⟩
def ansD (n : Nat) (v : Mv) (most : Nat) : PyData := if n < most then .tuple [(shOf v).d, .int ((n + 1 : Nat) : Int)] else .tuple [.tuple [.str "more"], .int (most : Nat)]
def spRun (K : PySem.W.Frag) (dp : Nat) : Sp := fun vs H Q _ => ∃ (R : Addr) (vr : List V) (rows : List Rw) (most n j : Nat) (v : Mv), vs = [.ref R, .int (most : Nat)] ∧ H R = some (.lst vr) ∧ DtAll K H vr (rows.map Rw.d) ∧ most ≤ 4000 ∧
  Run rows ms0 n ⟨j, [], [v], [], false⟩ ∧ mstep rows ⟨j, [], [v], [], false⟩ = some ⟨j + 1, [], [v], [], true⟩ ∧ hdeep (shOf v) ≤ dp ∧ ∀ y H', Same H H' → Dt K H' y (ansD n v most) → Q y H'
theorem scRu : FnScope ["rows", "most", "machine", "done", "row", "deed"] ["rows", "most"] (defScope sRun) := ⟨rfl, rfl, rfl, by decide +kernel, rfl, by decide +kernel, by decide +kernel⟩
theorem ok_run {dp : Nat} {fI : Addr} {fdI : FuncData} (F : Fun K "run_code" "run_code" sRun f fd) (T : MCls K C) (MK : Mk K C fI) (GI : FnOk P w K mg base CX0 1 fI fdI ["self"] (spInit K C)) (bI : Binds K fdI ["self"] []) (mgC : mg "Machine" = some (.ref C)) (mr : mg "range" = none)
    (D : DTab P w K mg base C) (cS : Cal P w K mg base (dp + 1) "shape_of" ["value"] (spShape K dp)) : FnOk P w K mg base CX0 (dp + 3 + 1) f fd ["rows", "most"] (spRun K dp) := by
  refine F.ok scRu (fun vs H Q E h => ?_) (fun cdv A outer s H vs Q E hr h => ?_)
  · obtain ⟨R, vr, rows, most, n, j, v, rfl, _⟩ := h
    rfl
  · obtain ⟨R, vr, rows, most, n, j, v, rfl, hR, dR, hmost, hrun, hlast, hdp, k⟩ := h
    obtain ⟨d, md, hd⟩ := D.ex
    have hrm : Room (1 + 1) _ := hr.mono (by omega)
    have hr2 : Room 2 _ := hr.mono (by omega)
    have hr3 : Room (dp + 1) _ := hr.mono (by omega)
    refine ⟨_, (pss_cons (ps_set (i := 2) scRu.nd rfl (Or.inl rfl) (pe_make0 MK GI hrm rfl mgC bI .nil pass0)) (pss_cons (ps_for PassesOwn.never rfl (pi_range1 rfl mr (pa_cons (pv 1) pa_nil)) (pg_name (i := 3) scRu.nd rfl (Or.inl rfl)) (pss_cons (ps_set (i := 4) scRu.nd rfl (Or.inl rfl) (pe_ix ix_list (pv 0) (pe_fld (pv 2) rfl) (fun _ _ => rfl))) (pss_cons (ps_fldaug (pv 2) pe_int in_add) (pss_cons (ps_set (i := 5) scRu.nd rfl (Or.inl rfl) (pe_ix ix_kdict (pe_glob (v := .ref d) rfl md rfl) (pe_ix ix_tup (pv 4) pe_int (fun _ _ => rfl)) (fun _ _ => rfl))) (pss_cons (ps_expr (pe_callH (i := 5) (k := 2) hr2 rfl (Or.inl rfl) (pa_cons (pv 2) (pa_cons (pv 4) pa_nil)))) (pss_one (ps_if (pt_val (pe_fld (pv 2) rfl)) (pss_one (ps_ret (pe_tup (pa_cons (pe_cal cS hr3 rfl (pa_cons (pe_ix ix_list (pe_fld (pv 2) rfl) (pe_un un_neg pe_int) (fun _ _ => rfl)) pa_nil)) (pa_cons (pe_op op_add (pv 3) pe_int) pa_nil))))) pss_nil))))))) (pss_one (ps_ret (pe_tup (pa_cons (pe_tup (pa_cons pe_str pa_nil)) (pa_cons (pv 1) pa_nil))))))), ?_⟩
    intro M dx nM ndx nex
    refine ⟨M, dx, rfl, upd_same, fun H1 L W k1 m1 hL hW => ?_⟩
    have nLM : L ≠ M := fun z => by rw [z, upd_same] at hL; cases hL
    have nWM : W ≠ M := fun z => by rw [z, upd_same] at hW; cases hW
    have nLd : L ≠ dx := fun z => by rw [z, upd_ne nex, upd_same] at hL; cases hL
    have nWd : W ≠ dx := fun z => by rw [z, upd_ne nex, upd_same] at hW; cases hW
    have hL0 : H L = none := by rw [upd_ne nLM, upd_ne nLd] at hL; exact hL
    have hW0 : H W = none := by rw [upd_ne nWM, upd_ne nWd] at hW; exact hW
    have s1 : Same H H1 := fun b o e => k1 b o (by rw [upd_ne (ne_of_none e nM), upd_ne (ne_of_none e ndx)]; exact e) (by rw [List.mem_singleton]; exact ne_of_none e nM)
    have stay : ∀ {H2 H3 : Hp}, Same H H2 → Kp [M, L, W] H2 H3 → Same H H3 := fun {H2 H3} a b c o e => b c o (a c o e) (by
      intro z
      rcases (List.mem_cons.mp z) with z | z
      · rw [z, nM] at e; cases e
      · rcases (List.mem_cons.mp z) with z | z
        · rw [z, hL0] at e; cases e
        · rw [List.mem_singleton.mp z, hW0] at e; cases e)
    refine ⟨rfl, _, rfl, (most : Int), rfl, (by omega), (by omega), ?_⟩
    refine for_range (lo := 0) (n := (most : Int).toNat) (fun i σ H' => ∃ (s : Ms) (x y z : Option V), σ = [some (.ref R), some (.int (most : Nat)), some (.ref M), x, y, z] ∧ Same H H' ∧ MAt K C H' M L W s ∧ Run rows ms0 i s ∧ i ≤ n ∧ Sz i s)
      ⟨ms0, none, none, none, rfl, s1, m1, .nil _, Nat.zero_le _, ⟨Nat.le_refl 0, Nat.le_refl 0, Nat.le_refl 0⟩⟩ ?_ ?_
    · rintro i σ H' hi ⟨s, x, y, z, rfl, hs, m, hri, hin, hz⟩
      rw [Int.toNat_natCast] at hi
      obtain ⟨dx', g, hM, rg⟩ := m.ins
      -- the row
      obtain ⟨t, ht, hcase⟩ : ∃ t, mstep rows s = some t ∧ ((i < n ∧ t.rs = false) ∨ (i = n ∧ t.rs = true ∧ t.pl = [v])) := by
        have q := hri.rest hrun hin
        by_cases e : i = n
        · rw [e, Nat.sub_self] at q
          cases q
          exact ⟨_, hlast, .inr ⟨e, rfl, rfl⟩⟩
        · generalize en : n - i = m' at q
          cases q with
          | nil => omega
          | cons g1 g2 _ => exact ⟨_, g1, .inl ⟨by omega, g2⟩⟩
      unfold mstep at ht
      split at ht
      · rename_i r er
        have ne : r ≠ .escape := fun q => by rw [q] at ht; cases ht
        obtain ⟨vx, ex, rx⟩ := (DtAll.mono hs.tk dR).get (i := s.pc) (d := r.d) (by rw [List.getElem?_map, er]; rfl)
        obtain ⟨ra, rxs, rfl, hT, hD⟩ := rx.row
        obtain ⟨fdd, ok, kd, held, hok⟩ := hd r ne
        refine ⟨_, rfl, _, rfl, M, C, dx', _, _, rfl, hM, T.cl, T.nP, mf_place _ _ _ _ _, R, vr, _, _, rfl, rfl, SqL.of (hs _ _ hR), atI_nat ex, ?_⟩
        refine ⟨_, rfl, M, C, dx', _, _, rfl, hM, T.cl, T.nP, mf_place _ _ _ _ _, _, _, rfl, rfl, dx', _, hM, mf_len _ _ _ _ _, ?_⟩
        have e1 : ((s.pc : Nat) : Int) + 1 = ((s.pc + 1 : Nat) : Int) := by omega
        rw [mf_put_place, e1]
        have m2 := m.flds (dx := dx') (g := g) (c := s.pc + 1) (r := s.rs) rg
        have tk2 : Tk H' (upd H' M (.ins C dx' (mf (.int ((s.pc + 1 : Nat) : Int)) g (.ref L) (.ref W) (.bl s.rs)))) := Tk.ins hM
        refine ⟨_, rfl, ra, rxs, 0, _, rfl, rfl, tk2.seqT hT, at0 hD.rword, d, _, _, rfl, rfl, kd, ?_⟩
        have hz' : Sz 90000 { s with pc := s.pc + 1 } := by
          obtain ⟨a1, a2, a3⟩ := hz
          exact ⟨Nat.le_trans (show swd s ≤ i from a1) (by omega), Nat.le_trans (show s.pl.length ≤ i from a2) (by omega), Nat.le_trans (show s.ws.length ≤ i from a3) (by omega)⟩
        refine ⟨fdd, _, rfl, held, _, rfl, _, rfl, M, L, W, ra, rxs, r, _, t, rfl, tk2.seqT hT, DtAll.mono tk2 hD, hok, m2, ht, hz', fun H3 k3 m3 => ?_⟩
        have hs3 : Same H H3 := stay (stay hs (Kp.at (by simp))) k3
        have hzt : Sz (i + 1) t := deed_sz (s := { s with pc := s.pc + 1 }) ht hz
        obtain ⟨dx3, g3, hM3, rg3⟩ := m3.ins
        refine ⟨_, rfl, M, C, dx3, _, _, rfl, hM3, T.cl, T.nR, mf_rests _ _ _ _ _, _, rfl, ?_⟩
        rcases hcase with ⟨hlt, hrs⟩ | ⟨heq, hrs, hpl⟩
        · refine ifF hrs ?_
          exact ⟨t, _, _, _, rfl, hs3, m3, hri.more (by unfold mstep; rw [er]; exact ht) hrs, hlt, hzt⟩
        · refine ifT hrs ?_
          obtain ⟨vp, hL3, rp⟩ := m3.pl
          rw [hpl] at rp
          obtain ⟨vp, x1, rfl, rp, q1⟩ := Pile.pop (K := K) (H := H3) (vs := vp) (ds := []) (d := v.d) rp
          have e0 : vp = [] := List.eq_nil_of_length_eq_zero rp.len
          subst e0
          refine ⟨_, rfl, M, C, dx3, _, _, rfl, hM3, T.cl, T.nL, mf_pile _ _ _ _ _, _, rfl, L, _, _, x1, rfl, rfl, SqL.of hL3, atI_last [] x1, x1, v, rfl, q1, hdp, fun y4 H4 s4 r4 => ?_⟩
          refine ⟨_, rfl, _, _, rfl, rfl, (by show 2 ≤ sizeLine; decide), fun p hp => k _ _ (hs3.trans (s4.trans (Same.new hp))) ?_⟩
          unfold ansD
          rw [if_pos (by omega)]
          have e2 : (0 : Int) + (i : Int) + 1 = ((n + 1 : Nat) : Int) := by omega
          refine Dt.made (xs := [y4, .int (0 + (i : Int) + 1)]) upd_same (.cons (Dt.mono (Tk.new hp) r4) (.cons ?_ .nil))
          rw [e2]
          exact .int _
      · cases ht
    · rintro σ H' ⟨s, x, y, z, rfl, hs, m, hri, hin, hz⟩
      rw [Int.toNat_natCast] at hin
      refine ⟨(by show 1 ≤ sizeLine; decide), fun p hp => ⟨_, rfl, (by show 2 ≤ sizeLine; decide), fun p2 hp2 => k _ _ (hs.trans ((Same.new hp).trans (Same.new hp2))) ?_⟩⟩
      unfold ansD
      rw [if_neg (by omega)]
      have n2 : p2 ≠ p := fun z => by rw [z, upd_same] at hp2; cases hp2
      exact Dt.made (xs := [.ref p, .int (most : Nat)]) upd_same (.cons (Dt.made (xs := [.str "more"]) (by rw [upd_ne n2.symm]; exact upd_same) (.cons (.str _) .nil)) (.cons (.int _) .nil))
end
end Ob
namespace Ob
open PySem L2
/-! ### what the top has written, as it is read off -/
def DefIn (K : PySem.W.Frag) (x : Str) (st : Stmt) : Prop := ∃ (f : Addr) (oc kV dc pm cd ct : Value) (od an : Option Addr) (sl : Array (Option Value)), PySem.W.nsIn K mainGlobals x = some (some (.ref f)) ∧
  K.lookup f = some ⟨oc, od, .func (PySem.W.fnOf x x (defArgs st) (defBody st) (defScope st) .none kV dc pm an cd ct), sl⟩ ∧ PySem.W.codeIn K cd x = true ∧ PySem.W.keepIn K (.ref f) = true
theorem DefIn.mk {K : PySem.W.Frag} {x : Str} {st : Stmt} {f : Addr} {oc kV dc pm cd ct : Value} {od an : Option Addr} {sl : Array (Option Value)} (a : PySem.W.nsIn K mainGlobals x = some (some (.ref f)))
    (l : K.lookup f = some ⟨oc, od, .func (PySem.W.fnOf x x (defArgs st) (defBody st) (defScope st) .none kV dc pm an cd ct), sl⟩) (c : PySem.W.codeIn K cd x = true) (k : PySem.W.keepIn K (.ref f) = true) : DefIn K x st :=
  ⟨f, oc, kV, dc, pm, cd, ct, od, an, sl, a, l, c, k⟩
def MethIn (K : PySem.W.Frag) (C : Addr) (x qual : Str) (st : Stmt) : Prop := ∃ (f : Addr) (oc kV dc pm cd ct : Value) (od an : Option Addr) (sl : Array (Option Value)), PySem.W.findIn K (.ref C) x = some (some (.ref f)) ∧ PySem.W.isFn K (.ref f) = true ∧
  K.lookup f = some ⟨oc, od, .func (PySem.W.fnOf x qual (defArgs st) (defBody st) (defScope st) .none kV dc pm an cd ct), sl⟩ ∧ PySem.W.codeIn K cd qual = true ∧ PySem.W.keepIn K (.ref f) = true
theorem MethIn.mk {K : PySem.W.Frag} {C : Addr} {x qual : Str} {st : Stmt} {f : Addr} {oc kV dc pm cd ct : Value} {od an : Option Addr} {sl : Array (Option Value)} (a : PySem.W.findIn K (.ref C) x = some (some (.ref f))) (i : PySem.W.isFn K (.ref f) = true)
    (l : K.lookup f = some ⟨oc, od, .func (PySem.W.fnOf x qual (defArgs st) (defBody st) (defScope st) .none kV dc pm an cd ct), sl⟩) (c : PySem.W.codeIn K cd qual = true) (k : PySem.W.keepIn K (.ref f) = true) : MethIn K C x qual st :=
  ⟨f, oc, kV, dc, pm, cd, ct, od, an, sl, a, i, l, c, k⟩
/-- a written tuple of ints -/
theorem ktup_mk {K : PySem.W.Frag} {t : Addr} {od : Option Addr} {its : Array Value} {n : Nat} {sl : Array (Option Value)} {xs : List V} (l : K.lookup t = some ⟨.type "tuple", od, .seq its n, sl⟩) (z : its.size ≤ sizeLine) (r : Vals xs its.toList) : KTup K t xs :=
  ⟨_, its, n, l, rfl, rfl, z, r⟩
/-- an entry of a written dict -/
def EntIn (K : PySem.W.Frag) (d : Addr) (x : Str) (ns : List Nat) : Prop := ∃ t, PySem.W.nsIn K d x = some (some (.ref t)) ∧ KTup K t (ns.map fun n => V.int (n : Nat))
theorem EntIn.mk {K : PySem.W.Frag} {d t : Addr} {x : Str} {ns : List Nat} {od : Option Addr} {its : Array Value} {n : Nat} {sl : Array (Option Value)} (a : PySem.W.nsIn K d x = some (some (.ref t))) (l : K.lookup t = some ⟨.type "tuple", od, .seq its n, sl⟩) (z : its.size ≤ sizeLine) (r : Vals (ns.map fun n => V.int (n : Nat)) its.toList) : EntIn K d x ns :=
  ⟨t, a, ktup_mk l z r⟩
/-- a written dict of texts -/
def DctIn (K : PySem.W.Frag) (w : World) (x : Str) (d : Addr) : Prop := PySem.W.nsIn K mainGlobals x = some (some (.ref d)) ∧ ∃ es n, K.lookup d = some ⟨.type "dict", none, .dict es n, #[]⟩ ∧ PySem.W.KeysLit w.params es.toList
theorem DctIn.mk {K : PySem.W.Frag} {w : World} {x : Str} {d : Addr} {es : Array DictEntry} {n : Nat} (a : PySem.W.nsIn K mainGlobals x = some (some (.ref d))) (l : K.lookup d = some ⟨.type "dict", none, .dict es n, #[]⟩) (k : PySem.W.KeysLit w.params es.toList) : DctIn K w x d :=
  ⟨a, es, n, l, k⟩
end Ob
namespace Ob
open PySem L2
abbrev sCell : Stmt := top 35
abbrev sWell : Stmt := top 36
abbrev sDraw : Stmt := top 37
abbrev sOne : Stmt := top 38
abbrev sLetters : Stmt := top 39
/-! ### a rule of our own: a text no times or once -/
theorem op_mulS {X : Cx} : OpR X (binaryOp .Mult) (fun x y H Q => ∃ a b, x = .str a ∧ y = .int (if b = true then 1 else 0) ∧ Q (.str (if b = true then a else Str.empty)) H) := by
  intro pins st σ H x y v u Q I rx ry h
  rcases h with ⟨a, b, rfl, rfl, q⟩
  obtain ⟨t, rfl⟩ := rx
  obtain ⟨t', rfl⟩ := ry
  cases b with
  | false => exact P.mul_str_none (by decide) (by decide) ⟨.str _, H, I.tok _, ⟨_, rfl⟩, q⟩
  | true =>
    refine P.mul_str (by decide) (fun _ e => ?_) (fun _ e => ?_) ?_
    · rw [show ((if true = true then (1 : Int) else 0) == 1) = true from rfl, Bool.true_or] at e
      cases e
    · rw [show ((if true = true then (1 : Int) else 0) == 1) = true from rfl, Bool.true_or] at e
      cases e
    · rw [if_neg (by decide), if_pos (by rfl)]
      exact ⟨.str a, H, I, ⟨_, rfl⟩, q⟩

/-! ### texts -/
theorem strOk_app {a b : Str} (h : PyData.strOk a = true) (g : PyData.strOk b = true) : PyData.strOk (a ++ b) = true := by
  unfold PyData.strOk at *
  rw [Str.cps_append, Array.all_append, h, g]
  rfl
theorem xOk (b : Bool) : PyData.strOk (if b = true then ("x" : Str) else Str.empty) = true := by cases b <;> decide +kernel
theorem join_ok : ∀ (ys : List Str), (∀ y ∈ ys, PyData.strOk y = true ∧ y.length = 1) → PyData.strOk (Str.join "" ys) = true ∧ (Str.join "" ys).length = ys.length
  | [], _ => ⟨by decide +kernel, by decide +kernel⟩
  | [y], h => h y (by simp)
  | y :: z :: r, h => by
    obtain ⟨a, b⟩ := join_ok (z :: r) fun x hx => h x (List.mem_cons_of_mem _ hx)
    obtain ⟨c, d⟩ := h y (by simp)
    have e : Str.join "" (y :: z :: r) = y ++ "" ++ Str.join "" (z :: r) := rfl
    rw [e]
    refine ⟨strOk_app (strOk_app c (by decide +kernel)) a, ?_⟩
    rw [Str.length_append, Str.length_append, d, b]
    have : ("" : Str).length = 0 := by decide +kernel
    rw [this]
    simp only [List.length_cons]
    omega
def abcS : Str := "abcdefghijklmnopqrstuvwxyz"
theorem abc_len : abcS.cps.toList.length = 26 := by decide +kernel
theorem abc_ok : ∀ c ∈ abcS.cps.toList, c < 0x110000 := by decide +kernel
theorem abc_at {r : Nat} (h : r < 26) : ∃ c, abcS.cps.toList[r]? = some c ∧ PyData.strOk ⟨#[c]⟩ = true := by
  have hl : r < abcS.cps.toList.length := by rw [abc_len]; exact h
  refine ⟨_, List.getElem?_eq_getElem hl, ?_⟩
  have := abc_ok _ (List.getElem_mem hl)
  rw [Array.getElem_toList] at this
  unfold PyData.strOk
  simp [this]

/-! ### the well -/
/-- the well at p, drawn from at most n times -/
def WAt (H : Hp) (p : Addr) (n : Nat) : Prop := ∃ (a c : Int) (m : Nat), H p = some (.lst [.int a, .int c, .int (m : Nat)]) ∧ m ≤ n
theorem WAt.up {H : Hp} {p : Addr} {n m : Nat} (h : WAt H p n) (l : n ≤ m) : WAt H p m := by
  obtain ⟨a, c, k, e, q⟩ := h
  exact ⟨a, c, k, e, Nat.le_trans q l⟩
theorem WAt.same {H H' : Hp} {p : Addr} {n : Nat} (h : WAt H p n) (s : Same H H') : WAt H' p n := by
  obtain ⟨a, c, k, e, q⟩ := h
  exact ⟨a, c, k, s _ _ e, q⟩
theorem WAt.tk {H H' : Hp} {p : Addr} {n : Nat} (h : WAt H p n) (k : Kp [p] H H') : Tk H H' := by
  obtain ⟨a, c, m, e, _⟩ := h
  exact ⟨fun b xs e2 => k b _ e2 (by rw [List.mem_singleton]; intro z; rw [z, e] at e2; cases e2), fun b o u e2 => k b _ e2 (by rw [List.mem_singleton]; intro z; rw [z, e] at e2; cases e2)⟩
theorem WAt.ne {H : Hp} {p t : Addr} {n : Nat} (h : WAt H p n) (e : H t = none) : p ≠ t := by
  obtain ⟨a, c, k, q, _⟩ := h
  exact ne_of_none q e
theorem Kp.get1 {H H' : Hp} {p l : Addr} {o : HO} (k : Kp [p] H H') (e : H l = some o) (n : l ≠ p) : H' l = some o := k l o e (by rw [List.mem_singleton]; exact n)

section
variable {P : Program} {w : World} {K : PySem.W.Frag} {mg : Str → Option Value} {base : Heap} {f : Addr} {fd : FuncData}
def spCell (K : PySem.W.Frag) : Sp := fun vs H Q _ => ∃ (a : Addr) (ns : List Int) (k : Nat), vs = [.ref a, .int (k : Nat)] ∧ SqL K H a (ns.map V.int) ∧ ∀ z : Int, Q (.int z) H
theorem scCe : FnScope ["_law_script", "_law_k"] ["_law_script", "_law_k"] (defScope sCell) := ⟨rfl, rfl, rfl, by decide +kernel, rfl, by decide +kernel, by decide +kernel⟩
theorem ok_cell (F : Fun K "_law_cell_at" "_law_cell_at" sCell f fd) (ml : mg "len" = none) : FnOk P w K mg base CX0 1 f fd ["_law_script", "_law_k"] (spCell K) := by
  refine F.ok scCe (fun vs H Q E h => ?_) (fun cdv A outer s H vs Q E hr h => ?_)
  · obtain ⟨a, ns, k, rfl, _⟩ := h
    rfl
  · obtain ⟨a, ns, j, rfl, hS, k⟩ := h
    refine ⟨_, (pss_cons (ps_if (pt_cmpR op_lt (pv 1) (pe_callB call_len_seq (by rfl) ml PySem.boot_len (pa_cons (pv 0) pa_nil)) (nomark _)) (pss_one (ps_ret (pe_ix ix_list (pv 0) (pv 1) (fun _ _ => rfl)))) pss_nil) (pss_one (ps_ret pe_int))), ?_⟩
    refine ⟨_, rfl, _, rfl, a, _, rfl, .inl hS, _, _, rfl, rfl, _, rfl, ?_⟩
    refine ite2 (fun c => ?_) (fun c => ?_)
    · have c2 : (j : Int) < (((ns.map V.int).length : Nat) : Int) := of_decide_eq_true c
      have c3 : j < ns.length := by rw [List.length_map] at c2; omega
      exact ⟨_, rfl, _, rfl, a, _, _, _, rfl, rfl, hS, atI_nat (by rw [List.getElem?_map, List.getElem?_eq_getElem c3]; rfl), k _⟩
    · exact k _
def spWell : Sp := fun vs H Q _ => ∃ c : Int, vs = [.int c] ∧ ∀ p H', Same H H' → H p = none → WAt H' p 0 → Q (.ref p) H'
theorem scWe : FnScope ["_law_cell"] ["_law_cell"] (defScope sWell) := ⟨rfl, rfl, rfl, by decide +kernel, rfl, by decide +kernel, by decide +kernel⟩
theorem ok_well (F : Fun K "_law_well" "_law_well" sWell f fd) (mi : mg "int" = none) : FnOk P w K mg base CX0 1 f fd ["_law_cell"] spWell := by
  refine F.ok scWe (fun vs H Q E h => ?_) (fun cdv A outer s H vs Q E hr h => ?_)
  · obtain ⟨c, rfl, _⟩ := h
    rfl
  · obtain ⟨c, rfl, k⟩ := h
    refine ⟨_, (pss_one (ps_ret (pe_lst (pa_cons (pe_op op_mul (pv 0) (pe_callTy call_int1 (by rfl) mi (by decide +kernel) (pa_cons (pe_cmpR op_ge (pv 0) (pe_op op_pow pe_int pe_int) (nomark _)) pa_nil))) (pa_cons (pv 0) (pa_cons pe_int pa_nil)))))), ?_⟩
    refine ⟨_, rfl, _, rfl, _, _, rfl, rfl, ⟨by decide, by decide, by decide⟩, _, _, rfl, rfl, .inr ⟨_, rfl, _, _, rfl, rfl, .inr ?_, ?_⟩⟩
    · split
      · exact ⟨by decide, by decide⟩
      · exact ⟨by decide, by decide⟩
    · exact ⟨_, rfl, (by show 3 ≤ sizeLine; decide), fun p hp => k p _ (Same.new hp) hp ⟨_, _, 0, upd_same, Nat.le_refl _⟩⟩

def spDraw : Sp := fun vs H Q _ => ∃ (p : Addr) (n many : Nat), vs = [.ref p, .int (many : Nat)] ∧ WAt H p n ∧ n ≤ 1000000 ∧ 0 < many ∧ many ≤ 1000000 ∧ ∀ (r : Nat) (H' : Hp), r < many → Kp [p] H H' → WAt H' p (n + 1) → Q (.int (r : Nat)) H'
theorem scDw : FnScope ["_law_well_here", "_law_many", "_law_found", "_law_base", "_law_number"] ["_law_well_here", "_law_many"] (defScope sDraw) := ⟨rfl, rfl, rfl, by decide +kernel, rfl, by decide +kernel, by decide +kernel⟩
theorem mod_nat {x : Int} {m : Nat} (h : 0 < m) : ∃ r : Nat, r < m ∧ x % (m : Int) = (r : Int) := by
  have h1 := Int.emod_nonneg x (b := (m : Int)) (by omega)
  have h2 := Int.emod_lt_of_pos x (b := (m : Int)) (by omega)
  exact ⟨(x % (m : Int)).toNat, by omega, by omega⟩
theorem emod64 (x : Int) : -(2 ^ 64) < x % 2147483647 ∧ x % 2147483647 < 2 ^ 64 := by
  have h1 := Int.emod_nonneg x (b := 2147483647) (by omega)
  have h2 := Int.emod_lt_of_pos x (b := 2147483647) (by omega)
  omega
theorem emod64' (x : Int) : -(2 ^ 64) < x % 2147483629 ∧ x % 2147483629 < 2 ^ 64 := by
  have h1 := Int.emod_nonneg x (b := 2147483629) (by omega)
  have h2 := Int.emod_lt_of_pos x (b := 2147483629) (by omega)
  omega
theorem pow64 (c m : Int) (h : 0 ≤ m) (h2 : m ≤ 1000001) : (c % 2147483629 + c / 2147483629 % 65521 + 7919 * m + 1).natAbs < 2 ^ 64 := by
  have h1 := Int.emod_nonneg c (b := 2147483629) (by omega)
  have h2 := Int.emod_lt_of_pos c (b := 2147483629) (by omega)
  have h3 := Int.emod_nonneg (c / 2147483629) (b := 65521) (by omega)
  have h4 := Int.emod_lt_of_pos (c / 2147483629) (b := 65521) (by omega)
  generalize c % 2147483629 = x at *
  generalize c / 2147483629 % 65521 = y at *
  omega
theorem ok_draw (F : Fun K "_law_draw" "_law_draw" sDraw f fd) : FnOk P w K mg base CX0 1 f fd ["_law_well_here", "_law_many"] spDraw := by
  refine F.ok scDw (fun vs H Q E h => ?_) (fun cdv A outer s H vs Q E hr h => ?_)
  · obtain ⟨p, n, many, rfl, _⟩ := h
    rfl
  · obtain ⟨p, n, many, rfl, ⟨a, c, m, hp, hm⟩, hn, h0, h1, k⟩ := h
    refine ⟨_, (pss_cons (ps_if (pt_cmpR op_gt (pe_ix ix_list (pv 0) pe_int (fun _ _ => rfl)) pe_int (nomark _)) (pss_cons (ps_set (i := 2) scDw.nd rfl (Or.inl rfl) (pe_op op_mod (pe_ix ix_list (pv 0) pe_int (fun _ _ => rfl)) (pv 1))) (pss_cons (ps_asg (pe_op op_fdivN (pe_ix ix_list (pv 0) pe_int (fun _ _ => rfl)) (pv 1)) (pg_sub (pv 0) pe_int set_list)) (pss_one (ps_ret (pv 2))))) pss_nil) (pss_cons (ps_asg (pe_op op_add (pe_ix ix_list (pv 0) pe_int (fun _ _ => rfl)) pe_int) (pg_sub (pv 0) pe_int set_list)) (pss_cons (ps_set (i := 3) scDw.nd rfl (Or.inl rfl) (pe_op op_add (pe_op op_mod (pe_ix ix_list (pv 0) pe_int (fun _ _ => rfl)) pe_int) (pe_op op_mod (pe_op op_fdivW (pe_ix ix_list (pv 0) pe_int (fun _ _ => rfl)) pe_int) pe_int))) (pss_cons (ps_set (i := 4) scDw.nd rfl (Or.inl rfl) (pe_op op_mod (pe_op op_pow (pe_op op_add (pe_op op_add (pv 3) (pe_op op_mul pe_int (pe_ix ix_list (pv 0) pe_int (fun _ _ => rfl)))) pe_int) pe_int) pe_int)) (pss_cons (ps_set (i := 4) scDw.nd rfl (Or.inl rfl) (pe_op op_mod (pe_op op_mul (pv 4) (pe_op op_add (pe_op op_add (pe_op op_fdiv (pv 4) pe_int) pe_int) (pe_ix ix_list (pv 0) pe_int (fun _ _ => rfl)))) pe_int)) (pss_one (ps_ret (pe_op op_mod (pe_op op_mod (pe_op op_mul (pv 4) (pe_op op_add (pe_op op_fdiv (pv 4) pe_int) pe_int)) pe_int) (pv 1))))))))), ?_⟩
    refine ⟨_, rfl, p, _, 0, _, rfl, rfl, SqL.of hp, at0 rfl, _, _, rfl, rfl, _, rfl, ?_⟩
    refine ite2 (fun c1 => ?_) (fun c1 => ?_)
    · refine ⟨_, rfl, p, _, 0, _, rfl, rfl, SqL.of hp, at0 rfl, _, rfl, _, _, rfl, rfl, (by show (0 : Int) < (many : Int); omega), ?_⟩
      refine ⟨_, rfl, p, _, 0, _, rfl, rfl, SqL.of hp, at0 rfl, _, rfl, _, _, rfl, rfl, ⟨by omega, by omega⟩, _, rfl, p, _, _, 0, rfl, rfl, hp, ixN_nat (by decide : 0 < 3), ?_⟩
      obtain ⟨r, hr1, er⟩ := mod_nat (x := a) h0
      exact ⟨_, rfl, qof (k r _ hr1 (Kp.at (by simp)) ⟨_, c, m, upd_same, by omega⟩) (congrArg V.int er)⟩
    · refine ⟨_, rfl, p, _, 2, _, rfl, rfl, SqL.of hp, at2 rfl, _, _, rfl, rfl, _, rfl, p, _, _, 2, rfl, rfl, hp, ixN_nat (by decide : 2 < 3), ?_⟩
      have em : ((m : Nat) : Int) + 1 = ((m + 1 : Nat) : Int) := by omega
      have hp2 : upd H p (.lst ([V.int a, .int c, .int (m : Nat)].set 2 (.int ((m : Int) + 1)))) p = some (.lst [.int a, .int c, .int ((m + 1 : Nat) : Int)]) := by rw [upd_same, em]; rfl
      have kk : Kp [p] H (upd H p (.lst ([V.int a, .int c, .int (m : Nat)].set 2 (.int ((m : Int) + 1))))) := Kp.at (by simp)
      generalize upd H p (.lst ([V.int a, .int c, .int (m : Nat)].set 2 (.int ((m : Int) + 1)))) = H2 at hp2 kk ⊢
      have fin : ∀ X : Int, Q (.int (X % (many : Int))) H2 := fun X => by
        obtain ⟨r, hr1, er⟩ := mod_nat (x := X) h0
        exact qof (k r H2 hr1 kk ⟨a, c, m + 1, hp2, by omega⟩) (congrArg V.int er)
      refine ⟨_, rfl, p, _, 1, _, rfl, rfl, SqL.of hp2, at1 rfl, _, _, rfl, rfl, (by show (0 : Int) < 2147483629; decide), _, rfl, p, _, 1, _, rfl, rfl, SqL.of hp2, at1 rfl, _, _, rfl, rfl, wide_div (b := 32) (by decide) (by decide) (by decide) (by decide), _, _, rfl, rfl, (by show (0 : Int) < 65521; decide), _, _, rfl, rfl, ?_⟩
      refine ⟨_, rfl, _, rfl, p, _, 2, _, rfl, rfl, SqL.of hp2, at2 rfl, _, _, rfl, rfl, .inl ⟨by decide, by decide⟩, _, _, rfl, rfl, _, _, rfl, rfl, _, _, rfl, rfl, ⟨by decide, by decide, pow64 c _ (by omega) (by omega)⟩, _, _, rfl, rfl, (by show (0 : Int) < 2147483647; decide), ?_⟩
      refine ⟨_, rfl, _, rfl, _, _, rfl, rfl, ⟨by decide, by decide⟩, _, _, rfl, rfl, _, rfl, p, _, 2, _, rfl, rfl, SqL.of hp2, at2 rfl, _, _, rfl, rfl, _, _, rfl, rfl, .inl (emod64 _), _, _, rfl, rfl, (by show (0 : Int) < 2147483629; decide), ?_⟩
      exact ⟨_, rfl, _, rfl, _, _, rfl, rfl, ⟨by decide, by decide⟩, _, _, rfl, rfl, _, _, rfl, rfl, .inl (emod64' _), _, _, rfl, rfl, (by show (0 : Int) < 2147483399; decide), _, rfl, _, _, rfl, rfl, (by show (0 : Int) < (many : Int); omega), fin _⟩
def spOne : Sp := fun vs H Q _ => ∃ (p l : Addr) (n : Nat) (xs : List V), vs = [.ref p, .ref l] ∧ WAt H p n ∧ n ≤ 1000000 ∧ H l = some (.lst xs) ∧ l ≠ p ∧ 0 < xs.length ∧ xs.length ≤ 1000000 ∧
  ∀ (i : Nat) (x : V) (H' : Hp), xs[i]? = some x → Kp [p] H H' → WAt H' p (n + 1) → Q x H'
theorem scOn : FnScope ["_law_well_here", "_law_some"] ["_law_well_here", "_law_some"] (defScope sOne) := ⟨rfl, rfl, rfl, by decide +kernel, rfl, by decide +kernel, by decide +kernel⟩
theorem ok_one (F : Fun K "_law_one" "_law_one" sOne f fd) (ml : mg "len" = none) (cD : Cal P w K mg base 1 "_law_draw" ["_law_well_here", "_law_many"] spDraw) : FnOk P w K mg base CX0 2 f fd ["_law_well_here", "_law_some"] spOne := by
  refine F.ok scOn (fun vs H Q E h => ?_) (fun cdv A outer s H vs Q E hr h => ?_)
  · obtain ⟨p, l, n, xs, rfl, _⟩ := h
    rfl
  · obtain ⟨p, l, n, xs, rfl, hw, hn, hl, nl, h0, h1, k⟩ := h
    refine ⟨_, (pss_one (ps_ret (pe_ix ix_list (pv 1) (pe_cal cD hr rfl (pa_cons (pv 0) (pa_cons (pe_callB call_len_seq (by rfl) ml PySem.boot_len (pa_cons (pv 1) pa_nil)) pa_nil))) (fun _ _ => rfl)))), ?_⟩
    refine ⟨_, rfl, _, rfl, _, rfl, l, xs, rfl, .inl (SqL.of hl), p, n, xs.length, rfl, hw, hn, h0, h1, fun r H1 hr1 k1 w1 => ?_⟩
    have e : xs[r]? = some (xs[r]'hr1) := List.getElem?_eq_getElem hr1
    exact ⟨l, xs, _, _, rfl, rfl, SqL.of (k1.get1 hl nl), atI_nat e, k r _ _ e k1 w1⟩

def spLetters (K : PySem.W.Frag) : Sp := fun vs H Q _ => ∃ (p : Addr) (n : Nat), vs = [.ref p] ∧ WAt H p n ∧ n ≤ 900000 ∧
  ∀ (l : Addr) (H' : Hp) (xs : List V) (ws : List Str), Kp [p] H H' → H l = none → H' l = some (.lst xs) → DtAll K H' xs (ws.map fun x => (Sm.lt x).d) → ws.length = 4 → (∀ x ∈ ws, PyData.strOk x = true) → WAt H' p (n + 40) → Q (.ref l) H'
theorem scLt : FnScope ["_law_well_here", "_law_found", "_law_k", "_law_word", "_law_j"] ["_law_well_here"] (defScope sLetters) := ⟨rfl, rfl, rfl, by decide +kernel, rfl, by decide +kernel, by decide +kernel⟩
theorem ok_letters (F : Fun K "_law_letters" "_law_letters" sLetters f fd) (mr : mg "range" = none) (mi : mg "int" = none) (cD : Cal P w K mg base 1 "_law_draw" ["_law_well_here", "_law_many"] spDraw) : FnOk P w K mg base CX0 2 f fd ["_law_well_here"] (spLetters K) := by
  refine F.ok scLt (fun vs H Q E h => ?_) (fun cdv A outer s H vs Q E hr h => ?_)
  · obtain ⟨p, n, rfl, _⟩ := h
    rfl
  · obtain ⟨p, n, rfl, hw, hn, k⟩ := h
    refine ⟨_, (pss_cons (ps_set (i := 1) scLt.nd rfl (Or.inl rfl) (pe_lst pa_nil)) (pss_cons (ps_for PassesOwn.never rfl (pi_range1 rfl mr (pa_cons pe_int pa_nil)) (pg_name (i := 2) scLt.nd rfl (Or.inl rfl)) (pss_cons (ps_set (i := 3) scLt.nd rfl (Or.inl rfl) (pe_join pe_str (pe_lc (own := [("_law_j", 4)]) (g := gName 4) (tt := tYes) (by rfl) scLt.nd (pi_range1 rfl mr (pa_cons (pe_op op_add pe_int (pe_cal cD hr rfl (pa_cons (pv 0) (pa_cons pe_int pa_nil)))) pa_nil)) (blkOk_by (own := [("_law_j", 4)]) (N := ["_law_well_here", "_law_found", "_law_k", "_law_word", "_law_j"]) (sc := defScope sLetters) (by decide +kernel)) (fun _ _ _ _ _ => (pg_name (i := 4) scLt.nd rfl (Or.inl rfl))) (fun _ _ _ _ _ => pts_nil) (fun _ _ _ _ _ => (pe_ix ix_str pe_str (pe_cal cD hr rfl (pa_cons (pv 0) (pa_cons pe_int pa_nil))) (fun _ _ => rfl)))))) (pss_one (ps_expr (pe_bm PySem.F.plainAttrs_list PySem.F.slot_list_append PySem.F.type_list_append mt_append (pv 1) (pa_cons (pe_tup (pa_cons pe_str (pa_cons (pe_op op_add_str (pv 3) (pe_op op_mulS pe_str (pe_callTy call_int1 (by rfl) mi (by decide +kernel) (pa_cons (pe_cmpR op_in_seq (pv 3) (pe_lst (pa_cons pe_str (pa_cons pe_str (pa_cons pe_str (pa_cons pe_str pa_nil))))) (by rfl)) pa_nil)))) pa_nil))) pa_nil)))))) (pss_one (ps_ret (pv 1))))), ?_⟩
    refine ⟨Nat.zero_le _, fun l hl => ?_⟩
    have nlp : p ≠ l := hw.ne hl
    refine ⟨4, rfl, by decide, by decide, ?_⟩
    refine for_range (lo := 0) (n := (4 : Int).toNat) (fun i σ H' => ∃ (x y : Option V) (z : Option V) (xs : List V) (ws : List Str), σ = [some (.ref p), some (.ref l), x, y, z] ∧ Kp [p] H H' ∧ H' l = some (.lst xs) ∧ DtAll K H' xs (ws.map fun x => (Sm.lt x).d) ∧ ws.length = i ∧ (∀ x ∈ ws, PyData.strOk x = true) ∧ WAt H' p (n + 10 * i))
      ⟨none, none, none, [], [], rfl, Kp.new hl, upd_same, .nil, rfl, (fun _ h => by cases h), hw.same (Same.new hl)⟩ ?_ ?_
    · rintro i σ H' hi ⟨x, y, z, xs, ws, rfl, hk, hx, hd, hlen, hok, hwi⟩
      have hi4 : i < 4 := hi
      refine ⟨⟨_, rfl⟩, _, rfl, p, _, 8, rfl, hwi, by omega, by decide, by decide, fun r H1 hr1 k1 w1 => ⟨_, _, rfl, rfl, _, rfl, by omega, by omega, fun D hD => ?_⟩⟩
      have er : (1 + (r : Int)).toNat = 1 + r := by omega
      have nDp : p ≠ D := w1.ne hD
      have hx1 : H1 l = some (.lst xs) := k1.get1 hx nlp.symm
      have nDl : l ≠ D := ne_of_none hx1 hD
      have hD0 : H' D = none := by
        cases e : H' D with
        | none => rfl
        | some o =>
          have q := k1.get1 e nDp.symm
          rw [hD] at q
          cases q
      have kpD : ∀ {H2 : Hp} {o : HO}, Kp [p] H' H2 → Kp [p] H' (upd H2 D o) := fun {H2 o} k b u e nb => by
        have nb1 : b ≠ D := fun zz => by rw [zz, hD0] at e; cases e
        rw [upd_ne nb1]
        exact k b u e nb
      refine lc_range (lo := 0) (n := (1 + (r : Int)).toNat) (fun j H2 => ∃ (ys : List Str), Kp [p] H' H2 ∧ H2 D = some (.lst (ys.map V.str)) ∧ ys.length = j ∧ (∀ y ∈ ys, PyData.strOk y = true ∧ y.length = 1) ∧ WAt H2 p (n + 10 * i + 1 + j))
        ⟨[], kpD k1, upd_same, rfl, (fun _ h => by cases h), w1.same (Same.new hD)⟩ ?_ ?_
      · rintro j H2 hj ⟨ys, k2, hy, hyl, hyo, w2⟩
        rw [er] at hj
        refine ⟨rfl, ?_⟩
        refine ⟨_, rfl, p, _, 26, rfl, w2, by omega, by decide, by decide, fun r2 H3 hr2 k3 w3 => ?_⟩
        obtain ⟨c, ec, oc⟩ := abc_at hr2
        have hy3 : H3 D = some (.lst (ys.map V.str)) := k3.get1 hy nDp.symm
        refine ⟨abcS, _, c, rfl, rfl, (by show abcS.length ≤ _; decide +kernel), atI_nat ec, _, hy3, by rw [List.length_map, hyl]; exact small100 (by omega), ys ++ [⟨#[c]⟩], kpD (k2.trans k3), ?_, ?_, ?_, ?_⟩
        · rw [upd_same, List.map_append]; rfl
        · rw [List.length_append, hyl]; rfl
        · intro y hym
          rcases List.mem_append.mp hym with h | h
          · exact hyo y h
          · rw [List.mem_singleton.mp h]; exact ⟨oc, rfl⟩
        · obtain ⟨a1, a2, a3, a4, a5⟩ := w3
          exact ⟨a1, a2, a3, by rw [upd_ne nDp]; exact a4, by omega⟩
      · rintro H2 ⟨ys, k2, hy, hyl, hyo, w2⟩
        rw [er] at hyl
        obtain ⟨j1, j2⟩ := join_ok ys hyo
        have hsum : ∀ l : List Str, (∀ y ∈ l, PyData.strOk y = true ∧ y.length = 1) → (l.map (·.length)).sum = l.length := fun l => by
          induction l with
          | nil => intro _; rfl
          | cons y l ih =>
            intro h
            rw [List.map_cons, List.sum_cons, ih fun z hz => h z (List.mem_cons_of_mem _ hz), (h y (by simp)).2, List.length_cons]
            omega
        refine ⟨_, D, ys, rfl, rfl, .inl (SqL.of hy), ?_, ?_⟩
        · rw [hsum ys hyo]
          have : ("" : Str).length = 0 := by decide +kernel
          rw [this]
          omega
        · have ej : Txt.join "" ys = Str.join "" ys := StrLaws.glued_eq_join _ _
          rw [ej]
          generalize Str.join "" ys = word at j1 j2
          have hx2 : H2 l = some (.lst xs) := k2.get1 hx nlp.symm
          have tkx : Tk H' H2 := hwi.tk k2
          refine ⟨_, rfl, .inl ⟨rfl, _, SqL.of hx2⟩, _, rfl, _, rfl, (by show 4 ≤ sizeLine; decide), fun q hq => ⟨q, _, rfl, .inl (SqL.of upd_same), rfl, (by decide +kernel), .inr ⟨_, rfl, _, _, rfl, rfl, _, _, rfl, rfl, ?_, (by show 2 ≤ sizeLine; decide), fun t ht => ?_⟩⟩⟩
          · have e1 : ∀ b : Bool, (if b = true then ("x" : Str) else Str.empty).length ≤ 1 := fun b => by cases b <;> decide +kernel
            refine Nat.le_trans (Nat.add_le_add_left (e1 _) _) ?_
            rw [j2]
            exact small100 (by omega)
          · generalize hb : (if (if false = true then _ else _ : Bool) = true then ("x" : Str) else Str.empty) = tail at ht ⊢
            have tok : PyData.strOk tail = true := by
              rw [← hb]
              exact xOk _
            have nlq : l ≠ q := ne_of_none hx2 hq
            have hx3 : (upd H2 q (.lst [.str "and", .str "or", .str "then", .str "never"])) l = some (.lst xs) := by rw [upd_ne nlq]; exact hx2
            have nlt : l ≠ t := ne_of_none hx3 ht
            have npq : p ≠ q := w2.ne hq
            have w3 := w2.same (Same.new (o := .lst [.str "and", .str "or", .str "then", .str "never"]) hq)
            have npt : p ≠ t := w3.ne ht
            have hx4 : (upd (upd H2 q (.lst [.str "and", .str "or", .str "then", .str "never"])) t (.tup [.str "letter", .str (word ++ tail)])) l = some (.lst xs) := by rw [upd_ne nlt]; exact hx3
            refine ⟨l, xs, _, rfl, rfl, hx4, by rw [hd.len, List.length_map, hlen]; exact small100 (by omega), ?_⟩
            have tk4 : Tk H' (upd (upd (upd H2 q (.lst [.str "and", .str "or", .str "then", .str "never"])) t (.tup [.str "letter", .str (word ++ tail)])) l (.lst (xs ++ [.ref t]))) := ((tkx.trans (Tk.new hq)).trans (Tk.new ht)).trans (Tk.lst hx4)
            have kpl : ∀ {H3 : Hp} {o : HO}, Kp [p] H H3 → Kp [p] H (upd H3 l o) := fun {H3 o} k b u e nb => by
              have nb1 : b ≠ l := fun zz => by rw [zz, hl] at e; cases e
              rw [upd_ne nb1]
              exact k b u e nb
            refine ⟨_, _, _, xs ++ [.ref t], ws ++ [word ++ tail], rfl, kpl (((hk.trans k2).trans (Kp.new hq)).trans (Kp.new ht)), upd_same, ?_, by rw [List.length_append, hlen]; rfl, ?_, ?_⟩
            · rw [List.map_append]
              refine (DtAll.mono tk4 hd).app (DtAll.one ?_)
              simp only [Sm.d]
              exact Dt.made (xs := [.str "letter", .str (word ++ tail)]) (by rw [upd_ne nlt.symm]; exact upd_same) (.cons (.str _) (.cons (.str _) .nil))
            · intro y hy
              rcases List.mem_append.mp hy with h | h
              · exact hok y h
              · rw [List.mem_singleton.mp h]; exact strOk_app j1 tok
            · obtain ⟨a1, a2, a3, a4, a5⟩ := w3.same (Same.new (o := .tup [.str "letter", .str (word ++ tail)]) ht)
              exact ⟨a1, a2, a3, by rw [upd_ne nlp]; exact a4, by omega⟩
    · rintro σ H' ⟨x, y, z, xs, ws, rfl, hk, hx, hd, hlen, hok, hwi⟩
      exact ⟨_, rfl, k l H' xs ws hk hl hx hd hlen hok (hwi.up (by show n + 10 * 4 ≤ _; omega))⟩
end
end Ob
namespace Ob
open PySem L2
abbrev sStat : Stmt := top 40
abbrev sLPlaces : Stmt := top 41
abbrev sLMoved : Stmt := top 42
abbrev sIsOf : Stmt := top 48
abbrev sLSize : Stmt := top 49
abbrev sTold : Stmt := top 50
/-- a statement as it may be handed about -/
def sOk (n : Nat) (a : Sm) : Prop := (a.d).canLay0 = true ∧ sdeep a ≤ n
theorem sOk.up {n m : Nat} {a : Sm} (h : sOk n a) (l : n ≤ m) : sOk m a := ⟨h.1, Nat.le_trans h.2 l⟩
theorem sOk.two {n m : Nat} {a b : Sm} (h : sOk n a) (g : sOk m b) : sOk (max n m + 1) (.an a b) ∧ sOk (max n m + 1) (.or a b) ∧ sOk (max n m + 1) (.th a b) := by
  have e1 : PyData.strOk "and" = true := by decide +kernel
  have e2 : PyData.strOk "or" = true := by decide +kernel
  have e3 : PyData.strOk "then" = true := by decide +kernel
  refine ⟨⟨?_, ?_⟩, ⟨?_, ?_⟩, ⟨?_, ?_⟩⟩
  · simp only [Sm.d, PyData.canLay0, PyData.canLayAll0, e1, h.1, g.1, Bool.and_self]
  · have := h.2; have := g.2; simp only [sdeep]; omega
  · simp only [Sm.d, PyData.canLay0, PyData.canLayAll0, e2, h.1, g.1, Bool.and_self]
  · have := h.2; have := g.2; simp only [sdeep]; omega
  · simp only [Sm.d, PyData.canLay0, PyData.canLayAll0, e3, h.1, g.1, Bool.and_self]
  · have := h.2; have := g.2; simp only [sdeep]; omega
theorem sOk.parts {n : Nat} {a : Sm} (h : sOk n a) : sOk n (lhs a) ∧ sOk n (rhs a) := by
  cases a with
  | lt w => exact ⟨h, h⟩
  | nv => exact ⟨h, h⟩
  | an a b | or a b | th a b =>
    obtain ⟨h1, h2⟩ := h
    simp only [Sm.d, PyData.canLay0, PyData.canLayAll0, Bool.and_eq_true] at h1
    simp only [sdeep] at h2
    exact ⟨⟨h1.2.1, by simp only [lhs]; omega⟩, ⟨h1.2.2.1, by simp only [rhs]; omega⟩⟩

section
variable {P : Program} {w : World} {K : PySem.W.Frag} {mg : Str → Option Value} {base : Heap} {f : Addr} {fd : FuncData}
def spStat (K : PySem.W.Frag) (m : Nat) : Sp := fun vs H Q _ => ∃ (p abc : Addr) (n k : Nat) (xs : List V) (ls : List Sm), vs = [.ref p, .ref abc, .int (k : Nat)] ∧ k < m ∧ WAt H p n ∧ n + 5 * k + 2 ≤ 900000 ∧ H abc = some (.lst xs) ∧ abc ≠ p ∧ DtAll K H xs (ls.map Sm.d) ∧ (∀ a ∈ ls, sOk 1 a) ∧ ls.length ≤ 10 ∧
  ∀ (x : V) (a : Sm) (H' : Hp), Kp [p] H H' → Dt K H' x a.d → sOk (k + 1) a → WAt H' p (n + 5 * k + 2) → Q x H'
theorem scSm : FnScope ["_law_well_here", "_law_abc", "_law_most", "_law_less", "_law_left"] ["_law_well_here", "_law_abc", "_law_most"] (defScope sStat) := ⟨rfl, rfl, rfl, by decide +kernel, rfl, by decide +kernel, by decide +kernel⟩
theorem ok_stat {m : Nat} (F : Fun K "_law_statement" "_law_statement" sStat f fd) (cD : Cal P w K mg base 1 "_law_draw" ["_law_well_here", "_law_many"] spDraw) (cO : Cal P w K mg base 2 "_law_one" ["_law_well_here", "_law_some"] spOne)
    (cS : Cal P w K mg base (m + 2) "_law_statement" ["_law_well_here", "_law_abc", "_law_most"] (spStat K m)) : FnOk P w K mg base CX0 (m + 2 + 1) f fd ["_law_well_here", "_law_abc", "_law_most"] (spStat K (m + 1)) := by
  refine F.ok scSm (fun vs H Q E h => ?_) (fun cdv A outer s H vs Q E hr h => ?_)
  · obtain ⟨p, abc, n, k, xs, ls, rfl, _⟩ := h
    rfl
  · obtain ⟨p, abc, n, k, xs, ls, rfl, hkm, hw, hn, hx, nap, hd, hls, hlen, kk⟩ := h
    have hr1 : Room 1 _ := hr.mono (by omega)
    have hr2 : Room 2 _ := hr.mono (by omega)
    refine ⟨_, (pss_cons (ps_if (PW.pt (pw_or (pt_cmpR op_eq (pv 2) pe_int (nomark _)) (pw_or1 (pt_cmpR op_eq (pe_cal cD hr1 rfl (pa_cons (pv 0) (pa_cons pe_int pa_nil))) pe_int (nomark _))))) (pss_one (ps_ret (pe_cal cO hr2 rfl (pa_cons (pv 0) (pa_cons (pe_op op_cat (pv 1) (pe_lst (pa_cons (pe_tup (pa_cons pe_str pa_nil)) pa_nil))) pa_nil))))) pss_nil) (pss_cons (ps_set (i := 3) scSm.nd rfl (Or.inl rfl) (pe_cal cD hr1 rfl (pa_cons (pv 0) (pa_cons (pv 2) pa_nil)))) (pss_cons (ps_set (i := 4) scSm.nd rfl (Or.inl rfl) (pe_cal cS hr rfl (pa_cons (pv 0) (pa_cons (pv 1) (pa_cons (pv 3) pa_nil))))) (pss_one (ps_ret (pe_tup (pa_cons (pe_cal cO hr2 rfl (pa_cons (pv 0) (pa_cons (pe_lst (pa_cons pe_str (pa_cons pe_str (pa_cons pe_str pa_nil)))) pa_nil))) (pa_cons (pv 4) (pa_cons (pe_cal cS hr rfl (pa_cons (pv 0) (pa_cons (pv 1) (pa_cons (pe_op op_sub (pe_op op_sub (pv 2) pe_int) (pv 3)) pa_nil)))) pa_nil))))))))), ?_⟩
    refine ⟨_, rfl, rfl, _, rfl, ite2 (fun c => ?_) (fun c => ?_)⟩
    · refine iteT ?_
      have k1 : Kp [p] H H := Kp.refl _ _
      have hw1 : WAt H p (n + 1) := hw.up (by omega)
      generalize hH : H = H1 at k1 hw1 hx hd ⊢
      have k1 : Kp [p] H H1 := by rw [hH]; exact Kp.refl _ _
      refine ⟨_, rfl, _, rfl, (by show 1 ≤ sizeLine; decide), fun t ht => ⟨(by show 1 ≤ sizeLine; decide), fun b hb => ?_⟩⟩
      have hx1 : upd H1 t (.tup [.str "never"]) abc = some (.lst xs) := by rw [upd_ne (ne_of_none hx ht)]; exact hx
      have hx2 : upd (upd H1 t (.tup [.str "never"])) b (.lst [.ref t]) abc = some (.lst xs) := by rw [upd_ne (ne_of_none hx1 hb)]; exact hx1
      refine ⟨abc, b, xs, [.ref t], rfl, rfl, hx2, upd_same, (by rw [hd.len, List.length_map]; exact Nat.le_of_lt (small100 (by show ls.length + 1 ≤ _; omega))), fun q hq => ?_⟩
      have w1 := ((hw1.same (Same.new (o := .tup [.str "never"]) ht)).same (Same.new (o := .lst [.ref t]) hb)).same (Same.new (o := .lst (xs ++ [.ref t])) hq)
      have nt : t ≠ b := fun z => by rw [← z, upd_same] at hb; cases hb
      have nq : t ≠ q := fun z => by rw [← z, upd_ne nt, upd_same] at hq; cases hq
      have tk : Tk H1 (upd (upd (upd H1 t (.tup [.str "never"])) b (.lst [.ref t])) q (.lst (xs ++ [.ref t]))) := ((Tk.new ht).trans (Tk.new hb)).trans (Tk.new hq)
      refine ⟨p, q, _, xs ++ [.ref t], rfl, w1, by omega, upd_same, (hw1.same (Same.new (o := .tup [.str "never"]) ht)).same (Same.new (o := .lst [.ref t]) hb) |>.ne hq |>.symm, (by rw [List.length_append]; exact Nat.succ_pos _), (by rw [List.length_append, hd.len, List.length_map]; show ls.length + 1 ≤ _; omega), fun i x H2 ex k2 w2 => ?_⟩
      have hda : DtAll K (upd (upd (upd H1 t (.tup [.str "never"])) b (.lst [.ref t])) q (.lst (xs ++ [.ref t]))) (xs ++ [.ref t]) ((ls ++ [Sm.nv]).map Sm.d) := by
        rw [List.map_append]
        refine (DtAll.mono tk hd).app (DtAll.one ?_)
        simp only [Sm.d]
        exact Dt.made (xs := [.str "never"]) (by rw [upd_ne nq, upd_ne nt]; exact upd_same) (.cons (.str _) .nil)
      obtain ⟨d, ed, rd⟩ := hda.get' ex
      obtain ⟨a, ea, rfl⟩ : ∃ a, (ls ++ [Sm.nv])[i]? = some a ∧ a.d = d := by
        rw [List.getElem?_map] at ed
        exact Option.map_eq_some_iff.mp ed
      refine kk x a H2 ((((k1.trans (Kp.new ht)).trans (Kp.new hb)).trans (Kp.new hq)).trans k2) (Dt.mono (w1.tk k2) rd) ?_ (w2.up (by omega))
      have hm := List.mem_of_getElem? ea
      rcases List.mem_append.mp hm with h | h
      · exact (hls a h).up (by omega)
      · rw [List.mem_singleton.mp h]
        exact ⟨by decide +kernel, by simp only [sdeep]; omega⟩
    · have hk0 : k ≠ 0 := fun z => by
        have c1 : ¬ V.int (k : Int) = V.int 0 := of_decide_eq_false (Bool.eq_false_iff.mpr c)
        exact c1 (by rw [z]; rfl)
      refine ⟨_, rfl, p, n, 3, rfl, hw, by omega, by decide, by decide, fun r H1 hr3 k1 hw1 => ?_⟩
      have hx := k1.get1 hx nap
      have hd := DtAll.mono (hw.tk k1) hd
      refine ⟨rfl, _, rfl, ite2 (fun c1 => ?_) (fun c1 => ?_)⟩
      · skip
        refine ⟨_, rfl, _, rfl, (by show 1 ≤ sizeLine; decide), fun t ht => ⟨(by show 1 ≤ sizeLine; decide), fun b hb => ?_⟩⟩
        have hx1 : upd H1 t (.tup [.str "never"]) abc = some (.lst xs) := by rw [upd_ne (ne_of_none hx ht)]; exact hx
        have hx2 : upd (upd H1 t (.tup [.str "never"])) b (.lst [.ref t]) abc = some (.lst xs) := by rw [upd_ne (ne_of_none hx1 hb)]; exact hx1
        refine ⟨abc, b, xs, [.ref t], rfl, rfl, hx2, upd_same, (by rw [hd.len, List.length_map]; exact Nat.le_of_lt (small100 (by show ls.length + 1 ≤ _; omega))), fun q hq => ?_⟩
        have w1 := ((hw1.same (Same.new (o := .tup [.str "never"]) ht)).same (Same.new (o := .lst [.ref t]) hb)).same (Same.new (o := .lst (xs ++ [.ref t])) hq)
        have nt : t ≠ b := fun z => by rw [← z, upd_same] at hb; cases hb
        have nq : t ≠ q := fun z => by rw [← z, upd_ne nt, upd_same] at hq; cases hq
        have tk : Tk H1 (upd (upd (upd H1 t (.tup [.str "never"])) b (.lst [.ref t])) q (.lst (xs ++ [.ref t]))) := ((Tk.new ht).trans (Tk.new hb)).trans (Tk.new hq)
        refine ⟨p, q, _, xs ++ [.ref t], rfl, w1, by omega, upd_same, (hw1.same (Same.new (o := .tup [.str "never"]) ht)).same (Same.new (o := .lst [.ref t]) hb) |>.ne hq |>.symm, (by rw [List.length_append]; exact Nat.succ_pos _), (by rw [List.length_append, hd.len, List.length_map]; show ls.length + 1 ≤ _; omega), fun i x H2 ex k2 w2 => ?_⟩
        have hda : DtAll K (upd (upd (upd H1 t (.tup [.str "never"])) b (.lst [.ref t])) q (.lst (xs ++ [.ref t]))) (xs ++ [.ref t]) ((ls ++ [Sm.nv]).map Sm.d) := by
          rw [List.map_append]
          refine (DtAll.mono tk hd).app (DtAll.one ?_)
          simp only [Sm.d]
          exact Dt.made (xs := [.str "never"]) (by rw [upd_ne nq, upd_ne nt]; exact upd_same) (.cons (.str _) .nil)
        obtain ⟨d, ed, rd⟩ := hda.get' ex
        obtain ⟨a, ea, rfl⟩ : ∃ a, (ls ++ [Sm.nv])[i]? = some a ∧ a.d = d := by
          rw [List.getElem?_map] at ed
          exact Option.map_eq_some_iff.mp ed
        refine kk x a H2 ((((k1.trans (Kp.new ht)).trans (Kp.new hb)).trans (Kp.new hq)).trans k2) (Dt.mono (w1.tk k2) rd) ?_ (w2.up (by omega))
        have hm := List.mem_of_getElem? ea
        rcases List.mem_append.mp hm with h | h
        · exact (hls a h).up (by omega)
        · rw [List.mem_singleton.mp h]
          exact ⟨by decide +kernel, by simp only [sdeep]; omega⟩
      · refine ⟨_, rfl, _, rfl, p, n + 1, k, rfl, hw1, by omega, by omega, by omega, fun less H2 hless k2 hw2 => ?_⟩
        have hx2 := k2.get1 hx nap
        have hd2 := DtAll.mono (hw1.tk k2) hd
        refine ⟨_, rfl, _, rfl, _, rfl, p, abc, n + 1 + 1, less, xs, ls, rfl, by omega, hw2, by omega, hx2, nap, hd2, hls, hlen, fun vl al H3 k3 rl ol hw3 => ?_⟩
        have hx3 := k3.get1 hx2 nap
        have hd3 := DtAll.mono (hw2.tk k3) hd2
        refine ⟨_, rfl, (by show 3 ≤ sizeLine; decide), fun b hb => ?_⟩
        have nb : p ≠ b := hw3.ne hb
        have wb := hw3.same (Same.new (o := .lst [.str "and", .str "or", .str "then"]) hb)
        refine ⟨p, b, _, [.str "and", .str "or", .str "then"], rfl, wb, by omega, upd_same, nb.symm, (by decide), (by decide), fun i x H4 ex k4 w4 => ?_⟩
        have hx4 := k4.get1 (show (upd H3 b (.lst [.str "and", .str "or", .str "then"])) abc = some (.lst xs) by rw [upd_ne (ne_of_none hx3 hb)]; exact hx3) nap
        have tk4 : Tk H3 H4 := (Tk.new hb).trans (wb.tk k4)
        have e9 : ((k : Nat) : Int) - 1 - (less : Nat) = ((k - 1 - less : Nat) : Int) := by omega
        refine ⟨_, rfl, _, rfl, _, rfl, _, rfl, _, _, rfl, rfl, _, rfl, _, _, rfl, rfl, p, abc, _, k - 1 - less, xs, ls, (by show [V.ref p, V.ref abc, V.int ((k : Int) - 1 - (less : Nat))] = _; rw [e9]), by omega, w4, by omega, hx4, nap, DtAll.mono tk4 hd3, hls, hlen, fun vr ar H5 k5 rr or_ hw5 => ?_⟩
        have tk5 : Tk H3 H5 := tk4.trans (w4.tk k5)
        refine ⟨(by show 3 ≤ sizeLine; decide), fun t ht => ?_⟩
        have hk5 : Kp [p] H (upd H5 t (.tup [x, vl, vr])) := (((((k1.trans k2).trans k3).trans (Kp.new hb)).trans k4).trans k5).trans (Kp.new ht)
        have w6 := hw5.same (Same.new (o := .tup [x, vl, vr]) ht)
        have tkt := Tk.new (o := .tup [x, vl, vr]) ht
        have o3 := sOk.two ol or_
        have rl' := Dt.mono (tk5.trans tkt) rl
        have rr' := Dt.mono tkt rr
        rcases i with _ | _ | _ | i
        · cases ex
          refine kk _ (.an al ar) _ hk5 ?_ (o3.1.up (by omega)) (w6.up (by omega))
          simp only [Sm.d]
          exact Dt.made upd_same (.cons (.str _) (.cons rl' (.cons rr' .nil)))
        · cases ex
          refine kk _ (.or al ar) _ hk5 ?_ (o3.2.1.up (by omega)) (w6.up (by omega))
          simp only [Sm.d]
          exact Dt.made upd_same (.cons (.str _) (.cons rl' (.cons rr' .nil)))
        · cases ex
          refine kk _ (.th al ar) _ hk5 ?_ (o3.2.2.up (by omega)) (w6.up (by omega))
          simp only [Sm.d]
          exact Dt.made upd_same (.cons (.str _) (.cons rl' (.cons rr' .nil)))
        · simp at ex
theorem all_stat (D : Df K mg "_law_statement" sStat ["_law_well_here", "_law_abc", "_law_most"]) (cD : Cal P w K mg base 1 "_law_draw" ["_law_well_here", "_law_many"] spDraw) (cO : Cal P w K mg base 2 "_law_one" ["_law_well_here", "_law_some"] spOne) :
    ∀ m, Cal P w K mg base (m + 2) "_law_statement" ["_law_well_here", "_law_abc", "_law_most"] (spStat K m)
  | 0 => D.cal fun f fd F => FnOk.void fun vs H Q E ⟨p, abc, n, k, xs, ls, _, h, _⟩ => by omega
  | m + 1 => D.cal fun f fd F => ok_stat F cD cO (all_stat D cD cO m)

/-! ### places -/
theorem putK_new (k : Key) (v : V) : ∀ kvs : List (Key × V), k ∉ kvs.map (·.1) → putK kvs k v = kvs ++ [(k, v)] := fun kvs h => by
  unfold putK
  have e : (kvs.any fun kv => decide (kv.1 = k)) = false := by
    rw [List.any_eq_false]
    intro x hx
    rw [decide_eq_true_eq]
    intro z
    exact h (List.mem_map.mpr ⟨x, hx, z⟩)
  rw [e, if_neg (Bool.false_ne_true)]
theorem mergeK_new : ∀ (more acc : List (Key × V)), ((acc ++ more).map (·.1)).Nodup → mergeK acc more = acc ++ more
  | [], acc, _ => by rw [List.append_nil]; rfl
  | (k, v) :: r, acc, h => by
    have h2 : acc ++ (k, v) :: r = (acc ++ [(k, v)]) ++ r := by rw [List.append_assoc]; rfl
    have hk : k ∉ acc.map (·.1) := by
      rw [List.map_append, List.nodup_append] at h
      intro z
      exact h.2.2 k z k (by simp) rfl
    show mergeK (putK acc k v) r = _
    rw [putK_new k v acc hk, mergeK_new r _ (by rw [← h2]; exact h), ← h2]
theorem kn_name_use : ¬ (Sum.inr ("name" : Str) : Key) = Sum.inr ("use" : Str) := by decide +kernel
theorem kn_right_use : ¬ (Sum.inr ("right" : Str) : Key) = Sum.inr ("use" : Str) := by decide +kernel
theorem kn_make_use : ¬ (Sum.inr ("make" : Str) : Key) = Sum.inr ("use" : Str) := by decide +kernel
theorem kn_pair_use : ¬ (Sum.inr ("pair" : Str) : Key) = Sum.inr ("use" : Str) := by decide +kernel
theorem kn_apply_use : ¬ (Sum.inr ("apply" : Str) : Key) = Sum.inr ("use" : Str) := by decide +kernel
theorem kn_case_use : ¬ (Sum.inr ("case" : Str) : Key) = Sum.inr ("use" : Str) := by decide +kernel
theorem kn_use_pair : ¬ (Sum.inr ("use" : Str) : Key) = Sum.inr ("pair" : Str) := by decide +kernel
theorem kn_name_pair : ¬ (Sum.inr ("name" : Str) : Key) = Sum.inr ("pair" : Str) := by decide +kernel
theorem kn_right_pair : ¬ (Sum.inr ("right" : Str) : Key) = Sum.inr ("pair" : Str) := by decide +kernel
theorem kn_make_pair : ¬ (Sum.inr ("make" : Str) : Key) = Sum.inr ("pair" : Str) := by decide +kernel
theorem kn_apply_pair : ¬ (Sum.inr ("apply" : Str) : Key) = Sum.inr ("pair" : Str) := by decide +kernel
theorem kn_case_pair : ¬ (Sum.inr ("case" : Str) : Key) = Sum.inr ("pair" : Str) := by decide +kernel
theorem kn_use_first : ¬ (Sum.inr ("use" : Str) : Key) = Sum.inr ("first" : Str) := by decide +kernel
theorem kn_name_first : ¬ (Sum.inr ("name" : Str) : Key) = Sum.inr ("first" : Str) := by decide +kernel
theorem kn_right_first : ¬ (Sum.inr ("right" : Str) : Key) = Sum.inr ("first" : Str) := by decide +kernel
theorem kn_make_first : ¬ (Sum.inr ("make" : Str) : Key) = Sum.inr ("first" : Str) := by decide +kernel
theorem kn_pair_first : ¬ (Sum.inr ("pair" : Str) : Key) = Sum.inr ("first" : Str) := by decide +kernel
theorem kn_apply_first : ¬ (Sum.inr ("apply" : Str) : Key) = Sum.inr ("first" : Str) := by decide +kernel
theorem kn_case_first : ¬ (Sum.inr ("case" : Str) : Key) = Sum.inr ("first" : Str) := by decide +kernel
theorem kn_use_second : ¬ (Sum.inr ("use" : Str) : Key) = Sum.inr ("second" : Str) := by decide +kernel
theorem kn_name_second : ¬ (Sum.inr ("name" : Str) : Key) = Sum.inr ("second" : Str) := by decide +kernel
theorem kn_right_second : ¬ (Sum.inr ("right" : Str) : Key) = Sum.inr ("second" : Str) := by decide +kernel
theorem kn_make_second : ¬ (Sum.inr ("make" : Str) : Key) = Sum.inr ("second" : Str) := by decide +kernel
theorem kn_pair_second : ¬ (Sum.inr ("pair" : Str) : Key) = Sum.inr ("second" : Str) := by decide +kernel
theorem kn_apply_second : ¬ (Sum.inr ("apply" : Str) : Key) = Sum.inr ("second" : Str) := by decide +kernel
theorem kn_case_second : ¬ (Sum.inr ("case" : Str) : Key) = Sum.inr ("second" : Str) := by decide +kernel
theorem kn_use_left : ¬ (Sum.inr ("use" : Str) : Key) = Sum.inr ("left" : Str) := by decide +kernel
theorem kn_name_left : ¬ (Sum.inr ("name" : Str) : Key) = Sum.inr ("left" : Str) := by decide +kernel
theorem kn_right_left : ¬ (Sum.inr ("right" : Str) : Key) = Sum.inr ("left" : Str) := by decide +kernel
theorem kn_make_left : ¬ (Sum.inr ("make" : Str) : Key) = Sum.inr ("left" : Str) := by decide +kernel
theorem kn_pair_left : ¬ (Sum.inr ("pair" : Str) : Key) = Sum.inr ("left" : Str) := by decide +kernel
theorem kn_apply_left : ¬ (Sum.inr ("apply" : Str) : Key) = Sum.inr ("left" : Str) := by decide +kernel
theorem kn_case_left : ¬ (Sum.inr ("case" : Str) : Key) = Sum.inr ("left" : Str) := by decide +kernel
theorem kn_use_right : ¬ (Sum.inr ("use" : Str) : Key) = Sum.inr ("right" : Str) := by decide +kernel
theorem kn_name_right : ¬ (Sum.inr ("name" : Str) : Key) = Sum.inr ("right" : Str) := by decide +kernel
theorem kn_make_right : ¬ (Sum.inr ("make" : Str) : Key) = Sum.inr ("right" : Str) := by decide +kernel
theorem kn_pair_right : ¬ (Sum.inr ("pair" : Str) : Key) = Sum.inr ("right" : Str) := by decide +kernel
theorem kn_apply_right : ¬ (Sum.inr ("apply" : Str) : Key) = Sum.inr ("right" : Str) := by decide +kernel
theorem kn_case_right : ¬ (Sum.inr ("case" : Str) : Key) = Sum.inr ("right" : Str) := by decide +kernel
theorem kn_use_case : ¬ (Sum.inr ("use" : Str) : Key) = Sum.inr ("case" : Str) := by decide +kernel
theorem kn_name_case : ¬ (Sum.inr ("name" : Str) : Key) = Sum.inr ("case" : Str) := by decide +kernel
theorem kn_right_case : ¬ (Sum.inr ("right" : Str) : Key) = Sum.inr ("case" : Str) := by decide +kernel
theorem kn_make_case : ¬ (Sum.inr ("make" : Str) : Key) = Sum.inr ("case" : Str) := by decide +kernel
theorem kn_pair_case : ¬ (Sum.inr ("pair" : Str) : Key) = Sum.inr ("case" : Str) := by decide +kernel
theorem kn_apply_case : ¬ (Sum.inr ("apply" : Str) : Key) = Sum.inr ("case" : Str) := by decide +kernel
theorem kn_use_make : ¬ (Sum.inr ("use" : Str) : Key) = Sum.inr ("make" : Str) := by decide +kernel
theorem kn_name_make : ¬ (Sum.inr ("name" : Str) : Key) = Sum.inr ("make" : Str) := by decide +kernel
theorem kn_right_make : ¬ (Sum.inr ("right" : Str) : Key) = Sum.inr ("make" : Str) := by decide +kernel
theorem kn_pair_make : ¬ (Sum.inr ("pair" : Str) : Key) = Sum.inr ("make" : Str) := by decide +kernel
theorem kn_apply_make : ¬ (Sum.inr ("apply" : Str) : Key) = Sum.inr ("make" : Str) := by decide +kernel
theorem kn_case_make : ¬ (Sum.inr ("case" : Str) : Key) = Sum.inr ("make" : Str) := by decide +kernel
theorem kn_use_apply : ¬ (Sum.inr ("use" : Str) : Key) = Sum.inr ("apply" : Str) := by decide +kernel
theorem kn_name_apply : ¬ (Sum.inr ("name" : Str) : Key) = Sum.inr ("apply" : Str) := by decide +kernel
theorem kn_right_apply : ¬ (Sum.inr ("right" : Str) : Key) = Sum.inr ("apply" : Str) := by decide +kernel
theorem kn_make_apply : ¬ (Sum.inr ("make" : Str) : Key) = Sum.inr ("apply" : Str) := by decide +kernel
theorem kn_pair_apply : ¬ (Sum.inr ("pair" : Str) : Key) = Sum.inr ("apply" : Str) := by decide +kernel
theorem kn_case_apply : ¬ (Sum.inr ("case" : Str) : Key) = Sum.inr ("apply" : Str) := by decide +kernel
theorem kn_use_escape : ¬ (Sum.inr ("use" : Str) : Key) = Sum.inr ("escape" : Str) := by decide +kernel
theorem kn_name_escape : ¬ (Sum.inr ("name" : Str) : Key) = Sum.inr ("escape" : Str) := by decide +kernel
theorem kn_right_escape : ¬ (Sum.inr ("right" : Str) : Key) = Sum.inr ("escape" : Str) := by decide +kernel
theorem kn_make_escape : ¬ (Sum.inr ("make" : Str) : Key) = Sum.inr ("escape" : Str) := by decide +kernel
theorem kn_pair_escape : ¬ (Sum.inr ("pair" : Str) : Key) = Sum.inr ("escape" : Str) := by decide +kernel
theorem kn_apply_escape : ¬ (Sum.inr ("apply" : Str) : Key) = Sum.inr ("escape" : Str) := by decide +kernel
theorem kn_case_escape : ¬ (Sum.inr ("case" : Str) : Key) = Sum.inr ("escape" : Str) := by decide +kernel
theorem plM (l1 l2 l3 l4 l5 l6 l7 : Addr) : mergeK [] ([(Sum.inr ("use" : Str), V.ref l1), (Sum.inr ("name" : Str), V.ref l2), (Sum.inr ("right" : Str), V.ref l3), (Sum.inr ("make" : Str), V.ref l4), (Sum.inr ("pair" : Str), V.ref l5), (Sum.inr ("apply" : Str), V.ref l6), (Sum.inr ("case" : Str), V.ref l7)] : List (Key × V)) = [(Sum.inr ("use" : Str), V.ref l1), (Sum.inr ("name" : Str), V.ref l2), (Sum.inr ("right" : Str), V.ref l3), (Sum.inr ("make" : Str), V.ref l4), (Sum.inr ("pair" : Str), V.ref l5), (Sum.inr ("apply" : Str), V.ref l6), (Sum.inr ("case" : Str), V.ref l7)] :=
  mergeK_new _ [] (by show ([Sum.inr ("use" : Str), Sum.inr ("name" : Str), Sum.inr ("right" : Str), Sum.inr ("make" : Str), Sum.inr ("pair" : Str), Sum.inr ("apply" : Str), Sum.inr ("case" : Str)] : List Key).Nodup; decide +kernel)
theorem plK_use (l1 l2 l3 l4 l5 l6 l7 : Addr) : valV ([(Sum.inr ("use" : Str), V.ref l1), (Sum.inr ("name" : Str), V.ref l2), (Sum.inr ("right" : Str), V.ref l3), (Sum.inr ("make" : Str), V.ref l4), (Sum.inr ("pair" : Str), V.ref l5), (Sum.inr ("apply" : Str), V.ref l6), (Sum.inr ("case" : Str), V.ref l7)] : List (Key × V)) (Sum.inr ("use" : Str)) = some (V.ref l1) := by rw [valV_pos rfl]
theorem plK_pair (l1 l2 l3 l4 l5 l6 l7 : Addr) : valV ([(Sum.inr ("use" : Str), V.ref l1), (Sum.inr ("name" : Str), V.ref l2), (Sum.inr ("right" : Str), V.ref l3), (Sum.inr ("make" : Str), V.ref l4), (Sum.inr ("pair" : Str), V.ref l5), (Sum.inr ("apply" : Str), V.ref l6), (Sum.inr ("case" : Str), V.ref l7)] : List (Key × V)) (Sum.inr ("pair" : Str)) = some (V.ref l5) := by rw [valV_neg kn_use_pair, valV_neg kn_name_pair, valV_neg kn_right_pair, valV_neg kn_make_pair, valV_pos rfl]
theorem plK_first (l1 l2 l3 l4 l5 l6 l7 : Addr) : valV ([(Sum.inr ("use" : Str), V.ref l1), (Sum.inr ("name" : Str), V.ref l2), (Sum.inr ("right" : Str), V.ref l3), (Sum.inr ("make" : Str), V.ref l4), (Sum.inr ("pair" : Str), V.ref l5), (Sum.inr ("apply" : Str), V.ref l6), (Sum.inr ("case" : Str), V.ref l7)] : List (Key × V)) (Sum.inr ("first" : Str)) = none := by rw [valV_neg kn_use_first, valV_neg kn_name_first, valV_neg kn_right_first, valV_neg kn_make_first, valV_neg kn_pair_first, valV_neg kn_apply_first, valV_neg kn_case_first, valV_nil]
theorem plK_second (l1 l2 l3 l4 l5 l6 l7 : Addr) : valV ([(Sum.inr ("use" : Str), V.ref l1), (Sum.inr ("name" : Str), V.ref l2), (Sum.inr ("right" : Str), V.ref l3), (Sum.inr ("make" : Str), V.ref l4), (Sum.inr ("pair" : Str), V.ref l5), (Sum.inr ("apply" : Str), V.ref l6), (Sum.inr ("case" : Str), V.ref l7)] : List (Key × V)) (Sum.inr ("second" : Str)) = none := by rw [valV_neg kn_use_second, valV_neg kn_name_second, valV_neg kn_right_second, valV_neg kn_make_second, valV_neg kn_pair_second, valV_neg kn_apply_second, valV_neg kn_case_second, valV_nil]
theorem plK_left (l1 l2 l3 l4 l5 l6 l7 : Addr) : valV ([(Sum.inr ("use" : Str), V.ref l1), (Sum.inr ("name" : Str), V.ref l2), (Sum.inr ("right" : Str), V.ref l3), (Sum.inr ("make" : Str), V.ref l4), (Sum.inr ("pair" : Str), V.ref l5), (Sum.inr ("apply" : Str), V.ref l6), (Sum.inr ("case" : Str), V.ref l7)] : List (Key × V)) (Sum.inr ("left" : Str)) = none := by rw [valV_neg kn_use_left, valV_neg kn_name_left, valV_neg kn_right_left, valV_neg kn_make_left, valV_neg kn_pair_left, valV_neg kn_apply_left, valV_neg kn_case_left, valV_nil]
theorem plK_right (l1 l2 l3 l4 l5 l6 l7 : Addr) : valV ([(Sum.inr ("use" : Str), V.ref l1), (Sum.inr ("name" : Str), V.ref l2), (Sum.inr ("right" : Str), V.ref l3), (Sum.inr ("make" : Str), V.ref l4), (Sum.inr ("pair" : Str), V.ref l5), (Sum.inr ("apply" : Str), V.ref l6), (Sum.inr ("case" : Str), V.ref l7)] : List (Key × V)) (Sum.inr ("right" : Str)) = some (V.ref l3) := by rw [valV_neg kn_use_right, valV_neg kn_name_right, valV_pos rfl]
theorem plK_case (l1 l2 l3 l4 l5 l6 l7 : Addr) : valV ([(Sum.inr ("use" : Str), V.ref l1), (Sum.inr ("name" : Str), V.ref l2), (Sum.inr ("right" : Str), V.ref l3), (Sum.inr ("make" : Str), V.ref l4), (Sum.inr ("pair" : Str), V.ref l5), (Sum.inr ("apply" : Str), V.ref l6), (Sum.inr ("case" : Str), V.ref l7)] : List (Key × V)) (Sum.inr ("case" : Str)) = some (V.ref l7) := by rw [valV_neg kn_use_case, valV_neg kn_name_case, valV_neg kn_right_case, valV_neg kn_make_case, valV_neg kn_pair_case, valV_neg kn_apply_case, valV_pos rfl]
theorem plK_make (l1 l2 l3 l4 l5 l6 l7 : Addr) : valV ([(Sum.inr ("use" : Str), V.ref l1), (Sum.inr ("name" : Str), V.ref l2), (Sum.inr ("right" : Str), V.ref l3), (Sum.inr ("make" : Str), V.ref l4), (Sum.inr ("pair" : Str), V.ref l5), (Sum.inr ("apply" : Str), V.ref l6), (Sum.inr ("case" : Str), V.ref l7)] : List (Key × V)) (Sum.inr ("make" : Str)) = some (V.ref l4) := by rw [valV_neg kn_use_make, valV_neg kn_name_make, valV_neg kn_right_make, valV_pos rfl]
theorem plK_apply (l1 l2 l3 l4 l5 l6 l7 : Addr) : valV ([(Sum.inr ("use" : Str), V.ref l1), (Sum.inr ("name" : Str), V.ref l2), (Sum.inr ("right" : Str), V.ref l3), (Sum.inr ("make" : Str), V.ref l4), (Sum.inr ("pair" : Str), V.ref l5), (Sum.inr ("apply" : Str), V.ref l6), (Sum.inr ("case" : Str), V.ref l7)] : List (Key × V)) (Sum.inr ("apply" : Str)) = some (V.ref l6) := by rw [valV_neg kn_use_apply, valV_neg kn_name_apply, valV_neg kn_right_apply, valV_neg kn_make_apply, valV_neg kn_pair_apply, valV_pos rfl]
theorem plK_escape (l1 l2 l3 l4 l5 l6 l7 : Addr) : valV ([(Sum.inr ("use" : Str), V.ref l1), (Sum.inr ("name" : Str), V.ref l2), (Sum.inr ("right" : Str), V.ref l3), (Sum.inr ("make" : Str), V.ref l4), (Sum.inr ("pair" : Str), V.ref l5), (Sum.inr ("apply" : Str), V.ref l6), (Sum.inr ("case" : Str), V.ref l7)] : List (Key × V)) (Sum.inr ("escape" : Str)) = none := by rw [valV_neg kn_use_escape, valV_neg kn_name_escape, valV_neg kn_right_escape, valV_neg kn_make_escape, valV_neg kn_pair_escape, valV_neg kn_apply_escape, valV_neg kn_case_escape, valV_nil]
def spLPlaces (K : PySem.W.Frag) : Sp := fun vs H Q _ => ∃ (x : V) (p : Pp), vs = [x] ∧ Dt K H x p.d ∧ ∀ (l : Addr) (H' : Hp), Same H H' → H l = none → H' l = some (.lst (natV p.pls)) → Q (.ref l) H'
theorem scLp : FnScope ["_law_paper", "_law_some"] ["_law_paper"] (defScope sLPlaces) := ⟨rfl, rfl, rfl, by decide +kernel, rfl, by decide +kernel, by decide +kernel⟩
theorem ok_lplaces (F : Fun K "_law_places" "_law_places" sLPlaces f fd) : FnOk P w K mg base CX0 1 f fd ["_law_paper"] (spLPlaces K) := by
  refine F.ok scLp (fun vs H Q E h => ?_) (fun cdv A outer s H vs Q E hr h => ?_)
  · obtain ⟨x, p, rfl, _⟩ := h
    rfl
  · obtain ⟨x, p, rfl, hx, k⟩ := h
    obtain ⟨a, xs, rfl, hT, hD⟩ := hx.paper
    refine ⟨_, (pss_cons (ps_set (i := 1) scLp.nd rfl (Or.inl rfl) (pe_disp (pps_cons pe_str (pe_lst pa_nil) (pps_cons pe_str (pe_lst pa_nil) (pps_cons pe_str (pe_lst (pa_cons pe_int pa_nil)) (pps_cons pe_str (pe_lst (pa_cons pe_int pa_nil)) (pps_cons pe_str (pe_lst (pa_cons pe_int (pa_cons pe_int pa_nil))) (pps_cons pe_str (pe_lst (pa_cons pe_int (pa_cons pe_int pa_nil))) (pps_cons pe_str (pe_lst (pa_cons pe_int (pa_cons pe_int (pa_cons pe_int pa_nil)))) pps_nil))))))) (by rfl) (by rfl) (fun z => by cases z) (by decide))) (pss_one (ps_ret (pe_dget2 (hu_of hr) (pv 1) (pe_ix ix_tup (pv 0) pe_int (fun _ _ => rfl)) (pe_lst (pa_cons pe_int pa_nil)) ⟨by rfl, by rfl, by rfl, by rfl⟩)))), ?_⟩
    intro d hd
    have s0 : Same H (upd H d (.dK [])) := Same.new hd
    refine ⟨(by show 0 ≤ sizeLine; decide), fun l1 h1 => ?_⟩
    have s1 : Same (upd H d (.dK [])) (upd (upd H d (.dK [])) l1 (.lst [])) := Same.new h1
    refine ⟨(by show 0 ≤ sizeLine; decide), fun l2 h2 => ?_⟩
    have s2 : Same (upd (upd H d (.dK [])) l1 (.lst [])) (upd (upd (upd H d (.dK [])) l1 (.lst [])) l2 (.lst [])) := Same.new h2
    refine ⟨(by show 1 ≤ sizeLine; decide), fun l3 h3 => ?_⟩
    have s3 : Same (upd (upd (upd H d (.dK [])) l1 (.lst [])) l2 (.lst [])) (upd (upd (upd (upd H d (.dK [])) l1 (.lst [])) l2 (.lst [])) l3 (.lst [.int 2])) := Same.new h3
    refine ⟨(by show 1 ≤ sizeLine; decide), fun l4 h4 => ?_⟩
    have s4 : Same (upd (upd (upd (upd H d (.dK [])) l1 (.lst [])) l2 (.lst [])) l3 (.lst [.int 2])) (upd (upd (upd (upd (upd H d (.dK [])) l1 (.lst [])) l2 (.lst [])) l3 (.lst [.int 2])) l4 (.lst [.int 2])) := Same.new h4
    refine ⟨(by show 2 ≤ sizeLine; decide), fun l5 h5 => ?_⟩
    have s5 : Same (upd (upd (upd (upd (upd H d (.dK [])) l1 (.lst [])) l2 (.lst [])) l3 (.lst [.int 2])) l4 (.lst [.int 2])) (upd (upd (upd (upd (upd (upd H d (.dK [])) l1 (.lst [])) l2 (.lst [])) l3 (.lst [.int 2])) l4 (.lst [.int 2])) l5 (.lst [.int 1, .int 2])) := Same.new h5
    refine ⟨(by show 2 ≤ sizeLine; decide), fun l6 h6 => ?_⟩
    have s6 : Same (upd (upd (upd (upd (upd (upd H d (.dK [])) l1 (.lst [])) l2 (.lst [])) l3 (.lst [.int 2])) l4 (.lst [.int 2])) l5 (.lst [.int 1, .int 2])) (upd (upd (upd (upd (upd (upd (upd H d (.dK [])) l1 (.lst [])) l2 (.lst [])) l3 (.lst [.int 2])) l4 (.lst [.int 2])) l5 (.lst [.int 1, .int 2])) l6 (.lst [.int 1, .int 2])) := Same.new h6
    refine ⟨(by show 3 ≤ sizeLine; decide), fun l7 h7 => ?_⟩
    have s7 : Same (upd (upd (upd (upd (upd (upd (upd H d (.dK [])) l1 (.lst [])) l2 (.lst [])) l3 (.lst [.int 2])) l4 (.lst [.int 2])) l5 (.lst [.int 1, .int 2])) l6 (.lst [.int 1, .int 2])) (upd (upd (upd (upd (upd (upd (upd (upd H d (.dK [])) l1 (.lst [])) l2 (.lst [])) l3 (.lst [.int 2])) l4 (.lst [.int 2])) l5 (.lst [.int 1, .int 2])) l6 (.lst [.int 1, .int 2])) l7 (.lst [.int 1, .int 2, .int 3])) := Same.new h7
    have ed : (upd (upd (upd (upd (upd (upd (upd (upd H d (.dK [])) l1 (.lst [])) l2 (.lst [])) l3 (.lst [.int 2])) l4 (.lst [.int 2])) l5 (.lst [.int 1, .int 2])) l6 (.lst [.int 1, .int 2])) l7 (.lst [.int 1, .int 2, .int 3])) d = some (.dK []) := (s7 _ _ (s6 _ _ (s5 _ _ (s4 _ _ (s3 _ _ (s2 _ _ (s1 _ _ upd_same)))))))
    refine ⟨ed, [(Sum.inr ("use" : Str), V.ref l1), (Sum.inr ("name" : Str), V.ref l2), (Sum.inr ("right" : Str), V.ref l3), (Sum.inr ("make" : Str), V.ref l4), (Sum.inr ("pair" : Str), V.ref l5), (Sum.inr ("apply" : Str), V.ref l6), (Sum.inr ("case" : Str), V.ref l7)], rfl, (by show 7 ≤ 15; decide), ?_⟩
    generalize hm : mergeK [] ([(Sum.inr ("use" : Str), V.ref l1), (Sum.inr ("name" : Str), V.ref l2), (Sum.inr ("right" : Str), V.ref l3), (Sum.inr ("make" : Str), V.ref l4), (Sum.inr ("pair" : Str), V.ref l5), (Sum.inr ("apply" : Str), V.ref l6), (Sum.inr ("case" : Str), V.ref l7)] : List (Key × V)) = mm
    have gT : Same H (upd (upd (upd (upd (upd (upd (upd (upd (upd H d (.dK [])) l1 (.lst [])) l2 (.lst [])) l3 (.lst [.int 2])) l4 (.lst [.int 2])) l5 (.lst [.int 1, .int 2])) l6 (.lst [.int 1, .int 2])) l7 (.lst [.int 1, .int 2, .int 3])) d (.dK mm)) := ((s0.trans (s1.trans (s2.trans (s3.trans (s4.trans (s5.trans (s6.trans s7)))))))).upd_old hd
    have n1 : d ≠ l1 := ne_of_none (upd_same (H := H) (o := .dK [])) h1
    have e1 : (upd (upd (upd (upd (upd (upd (upd (upd (upd H d (.dK [])) l1 (.lst [])) l2 (.lst [])) l3 (.lst [.int 2])) l4 (.lst [.int 2])) l5 (.lst [.int 1, .int 2])) l6 (.lst [.int 1, .int 2])) l7 (.lst [.int 1, .int 2, .int 3])) d (.dK mm)) l1 = some (.lst []) := by rw [upd_ne n1.symm]; exact (s7 _ _ (s6 _ _ (s5 _ _ (s4 _ _ (s3 _ _ (s2 _ _ upd_same))))))
    have f1 : H l1 = none := Same.free s0 h1
    have n2 : d ≠ l2 := ne_of_none (s1 _ _ upd_same) h2
    have e2 : (upd (upd (upd (upd (upd (upd (upd (upd (upd H d (.dK [])) l1 (.lst [])) l2 (.lst [])) l3 (.lst [.int 2])) l4 (.lst [.int 2])) l5 (.lst [.int 1, .int 2])) l6 (.lst [.int 1, .int 2])) l7 (.lst [.int 1, .int 2, .int 3])) d (.dK mm)) l2 = some (.lst []) := by rw [upd_ne n2.symm]; exact (s7 _ _ (s6 _ _ (s5 _ _ (s4 _ _ (s3 _ _ upd_same)))))
    have f2 : H l2 = none := Same.free (s0.trans (s1)) h2
    have n3 : d ≠ l3 := ne_of_none (s2 _ _ (s1 _ _ upd_same)) h3
    have e3 : (upd (upd (upd (upd (upd (upd (upd (upd (upd H d (.dK [])) l1 (.lst [])) l2 (.lst [])) l3 (.lst [.int 2])) l4 (.lst [.int 2])) l5 (.lst [.int 1, .int 2])) l6 (.lst [.int 1, .int 2])) l7 (.lst [.int 1, .int 2, .int 3])) d (.dK mm)) l3 = some (.lst [.int 2]) := by rw [upd_ne n3.symm]; exact (s7 _ _ (s6 _ _ (s5 _ _ (s4 _ _ upd_same))))
    have f3 : H l3 = none := Same.free (s0.trans (s1.trans (s2))) h3
    have n4 : d ≠ l4 := ne_of_none (s3 _ _ (s2 _ _ (s1 _ _ upd_same))) h4
    have e4 : (upd (upd (upd (upd (upd (upd (upd (upd (upd H d (.dK [])) l1 (.lst [])) l2 (.lst [])) l3 (.lst [.int 2])) l4 (.lst [.int 2])) l5 (.lst [.int 1, .int 2])) l6 (.lst [.int 1, .int 2])) l7 (.lst [.int 1, .int 2, .int 3])) d (.dK mm)) l4 = some (.lst [.int 2]) := by rw [upd_ne n4.symm]; exact (s7 _ _ (s6 _ _ (s5 _ _ upd_same)))
    have f4 : H l4 = none := Same.free (s0.trans (s1.trans (s2.trans (s3)))) h4
    have n5 : d ≠ l5 := ne_of_none (s4 _ _ (s3 _ _ (s2 _ _ (s1 _ _ upd_same)))) h5
    have e5 : (upd (upd (upd (upd (upd (upd (upd (upd (upd H d (.dK [])) l1 (.lst [])) l2 (.lst [])) l3 (.lst [.int 2])) l4 (.lst [.int 2])) l5 (.lst [.int 1, .int 2])) l6 (.lst [.int 1, .int 2])) l7 (.lst [.int 1, .int 2, .int 3])) d (.dK mm)) l5 = some (.lst [.int 1, .int 2]) := by rw [upd_ne n5.symm]; exact (s7 _ _ (s6 _ _ upd_same))
    have f5 : H l5 = none := Same.free (s0.trans (s1.trans (s2.trans (s3.trans (s4))))) h5
    have n6 : d ≠ l6 := ne_of_none (s5 _ _ (s4 _ _ (s3 _ _ (s2 _ _ (s1 _ _ upd_same))))) h6
    have e6 : (upd (upd (upd (upd (upd (upd (upd (upd (upd H d (.dK [])) l1 (.lst [])) l2 (.lst [])) l3 (.lst [.int 2])) l4 (.lst [.int 2])) l5 (.lst [.int 1, .int 2])) l6 (.lst [.int 1, .int 2])) l7 (.lst [.int 1, .int 2, .int 3])) d (.dK mm)) l6 = some (.lst [.int 1, .int 2]) := by rw [upd_ne n6.symm]; exact (s7 _ _ upd_same)
    have f6 : H l6 = none := Same.free (s0.trans (s1.trans (s2.trans (s3.trans (s4.trans (s5)))))) h6
    have n7 : d ≠ l7 := ne_of_none (s6 _ _ (s5 _ _ (s4 _ _ (s3 _ _ (s2 _ _ (s1 _ _ upd_same)))))) h7
    have e7 : (upd (upd (upd (upd (upd (upd (upd (upd (upd H d (.dK [])) l1 (.lst [])) l2 (.lst [])) l3 (.lst [.int 2])) l4 (.lst [.int 2])) l5 (.lst [.int 1, .int 2])) l6 (.lst [.int 1, .int 2])) l7 (.lst [.int 1, .int 2, .int 3])) d (.dK mm)) l7 = some (.lst [.int 1, .int 2, .int 3]) := by rw [upd_ne n7.symm]; exact upd_same
    have f7 : H l7 = none := Same.free (s0.trans (s1.trans (s2.trans (s3.trans (s4.trans (s5.trans (s6))))))) h7
    refine ⟨_, rfl, d, rfl, .inl ⟨mm, .inl upd_same⟩, _, rfl, a, xs, 0, _, rfl, rfl, gT.tk.seqT hT, at0 hD.word, (by show 1 ≤ sizeLine; decide), fun l8 h8 => ?_⟩
    have s8 : Same (upd (upd (upd (upd (upd (upd (upd (upd (upd H d (.dK [])) l1 (.lst [])) l2 (.lst [])) l3 (.lst [.int 2])) l4 (.lst [.int 2])) l5 (.lst [.int 1, .int 2])) l6 (.lst [.int 1, .int 2])) l7 (.lst [.int 1, .int 2, .int 3])) d (.dK mm)) (upd (upd (upd (upd (upd (upd (upd (upd (upd (upd H d (.dK [])) l1 (.lst [])) l2 (.lst [])) l3 (.lst [.int 2])) l4 (.lst [.int 2])) l5 (.lst [.int 1, .int 2])) l6 (.lst [.int 1, .int 2])) l7 (.lst [.int 1, .int 2, .int 3])) d (.dK mm)) l8 (.lst [.int 1])) := Same.new h8
    refine ⟨_, DGet.k (k := Sum.inr p.word) (s8 _ _ upd_same), ?_⟩
    have gT2 := gT.trans s8
    have f8 : H l8 = none := gT.free h8
    cases p with
    | use _ =>
      have hv : valV mm (Sum.inr ("use" : Str)) = some (V.ref l1) := by rw [← hm, plM]; exact plK_use _ _ _ _ _ _ _
      show Q ((valV mm (Sum.inr ("use" : Str))).getD (V.ref l8)) _
      rw [hv]
      exact k l1 _ gT2 f1 (s8 _ _ e1)
    | right _ _ =>
      have hv : valV mm (Sum.inr ("right" : Str)) = some (V.ref l3) := by rw [← hm, plM]; exact plK_right _ _ _ _ _ _ _
      show Q ((valV mm (Sum.inr ("right" : Str))).getD (V.ref l8)) _
      rw [hv]
      exact k l3 _ gT2 f3 (s8 _ _ e3)
    | make _ _ =>
      have hv : valV mm (Sum.inr ("make" : Str)) = some (V.ref l4) := by rw [← hm, plM]; exact plK_make _ _ _ _ _ _ _
      show Q ((valV mm (Sum.inr ("make" : Str))).getD (V.ref l8)) _
      rw [hv]
      exact k l4 _ gT2 f4 (s8 _ _ e4)
    | pair _ _ =>
      have hv : valV mm (Sum.inr ("pair" : Str)) = some (V.ref l5) := by rw [← hm, plM]; exact plK_pair _ _ _ _ _ _ _
      show Q ((valV mm (Sum.inr ("pair" : Str))).getD (V.ref l8)) _
      rw [hv]
      exact k l5 _ gT2 f5 (s8 _ _ e5)
    | apply _ _ =>
      have hv : valV mm (Sum.inr ("apply" : Str)) = some (V.ref l6) := by rw [← hm, plM]; exact plK_apply _ _ _ _ _ _ _
      show Q ((valV mm (Sum.inr ("apply" : Str))).getD (V.ref l8)) _
      rw [hv]
      exact k l6 _ gT2 f6 (s8 _ _ e6)
    | case _ _ _ _ =>
      have hv : valV mm (Sum.inr ("case" : Str)) = some (V.ref l7) := by rw [← hm, plM]; exact plK_case _ _ _ _ _ _ _
      show Q ((valV mm (Sum.inr ("case" : Str))).getD (V.ref l8)) _
      rw [hv]
      exact k l7 _ gT2 f7 (s8 _ _ e7)
    | first _ =>
      have hv : valV mm (Sum.inr ("first" : Str)) = none := by rw [← hm, plM]; exact plK_first _ _ _ _ _ _ _
      show Q ((valV mm (Sum.inr ("first" : Str))).getD (V.ref l8)) _
      rw [hv]
      exact k l8 _ gT2 f8 upd_same
    | second _ =>
      have hv : valV mm (Sum.inr ("second" : Str)) = none := by rw [← hm, plM]; exact plK_second _ _ _ _ _ _ _
      show Q ((valV mm (Sum.inr ("second" : Str))).getD (V.ref l8)) _
      rw [hv]
      exact k l8 _ gT2 f8 upd_same
    | left _ _ =>
      have hv : valV mm (Sum.inr ("left" : Str)) = none := by rw [← hm, plM]; exact plK_left _ _ _ _ _ _ _
      show Q ((valV mm (Sum.inr ("left" : Str))).getD (V.ref l8)) _
      rw [hv]
      exact k l8 _ gT2 f8 upd_same
    | escape _ _ =>
      have hv : valV mm (Sum.inr ("escape" : Str)) = none := by rw [← hm, plM]; exact plK_escape _ _ _ _ _ _ _
      show Q ((valV mm (Sum.inr ("escape" : Str))).getD (V.ref l8)) _
      rw [hv]
      exact k l8 _ gT2 f8 upd_same

end
end Ob
namespace Ob
open PySem L2
def Sm.word : Sm → Str
  | .lt _ => "letter"
  | .nv  => "never"
  | .an _ _ => "and"
  | .or _ _ => "or"
  | .th _ _ => "then"
def Sm.isAn : Sm → Bool
  | .an _ _ => true
  | _ => false
theorem Sm.dAnd : ∀ a : Sm, decide (V.str a.word = V.str "and") = a.isAn
  | .lt _ => (by decide +kernel : decide (V.str "letter" = V.str "and") = false)
  | .nv  => (by decide +kernel : decide (V.str "never" = V.str "and") = false)
  | .an _ _ => (by decide +kernel : decide (V.str "and" = V.str "and") = true)
  | .or _ _ => (by decide +kernel : decide (V.str "or" = V.str "and") = false)
  | .th _ _ => (by decide +kernel : decide (V.str "then" = V.str "and") = false)
def Sm.isOr : Sm → Bool
  | .or _ _ => true
  | _ => false
theorem Sm.dOr : ∀ a : Sm, decide (V.str a.word = V.str "or") = a.isOr
  | .lt _ => (by decide +kernel : decide (V.str "letter" = V.str "or") = false)
  | .nv  => (by decide +kernel : decide (V.str "never" = V.str "or") = false)
  | .an _ _ => (by decide +kernel : decide (V.str "and" = V.str "or") = false)
  | .or _ _ => (by decide +kernel : decide (V.str "or" = V.str "or") = true)
  | .th _ _ => (by decide +kernel : decide (V.str "then" = V.str "or") = false)
def Sm.isTh : Sm → Bool
  | .th _ _ => true
  | _ => false
theorem Sm.dThen : ∀ a : Sm, decide (V.str a.word = V.str "then") = a.isTh
  | .lt _ => (by decide +kernel : decide (V.str "letter" = V.str "then") = false)
  | .nv  => (by decide +kernel : decide (V.str "never" = V.str "then") = false)
  | .an _ _ => (by decide +kernel : decide (V.str "and" = V.str "then") = false)
  | .or _ _ => (by decide +kernel : decide (V.str "or" = V.str "then") = false)
  | .th _ _ => (by decide +kernel : decide (V.str "then" = V.str "then") = true)

theorem Dt.stat {K : PySem.W.Frag} {H : Hp} {x : V} {a : Sm} (h : Dt K H x a.d) : ∃ b xs, x = .ref b ∧ SqT K H b xs ∧ xs[0]? = some (.str a.word) := by
  cases a <;> simp only [Sm.d] at h <;> obtain ⟨b, xs, rfl, h1, h2⟩ := h.inv <;> (cases h2 with
    | cons q _ =>
      cases q.invS
      exact ⟨b, _, rfl, h1, rfl⟩)
def Sh.word : Sh → Str
  | .pair _ _ => "pair"
  | .left _ => "left"
  | .right _ => "right"
  | .make => "make"
theorem Dt.shp {K : PySem.W.Frag} {H : Hp} {x : V} {s : Sh} (h : Dt K H x s.d) : ∃ b xs, x = .ref b ∧ SqT K H b xs ∧ xs[0]? = some (.str s.word) := by
  cases s <;> simp only [Sh.d] at h <;> obtain ⟨b, xs, rfl, h1, h2⟩ := h.inv <;> (cases h2 with
    | cons q _ =>
      cases q.invS
      exact ⟨b, _, rfl, h1, rfl⟩)
theorem Dt.intE {K : PySem.W.Frag} {H : Hp} {a b : Int} (e : a = b) : Dt K H (.int a) (.int b) := e ▸ .int _
/-! ### shapes compared -/
theorem canLay_sh : ∀ s : Sh, (s.d).canLay0 = true
  | .pair s t => by
    have h1 := canLay_sh s
    have h2 := canLay_sh t
    have h3 : PyData.strOk "pair" = true := by decide +kernel
    simp only [Sh.d, PyData.canLay0, PyData.canLayAll0, h1, h2, h3, Bool.and_self]
  | .left s => by
    have h1 := canLay_sh s
    have h3 : PyData.strOk "left" = true := by decide +kernel
    simp only [Sh.d, PyData.canLay0, PyData.canLayAll0, h1, h3, Bool.and_self]
  | .right s => by
    have h1 := canLay_sh s
    have h3 : PyData.strOk "right" = true := by decide +kernel
    simp only [Sh.d, PyData.canLay0, PyData.canLayAll0, h1, h3, Bool.and_self]
  | .make => by
    have h3 : PyData.strOk "make" = true := by decide +kernel
    simp only [Sh.d, PyData.canLay0, PyData.canLayAll0, h3, Bool.and_self]
theorem depth_sh : ∀ s : Sh, PyData.depth s.d = hdeep s
  | .pair s t => by
    have h1 := depth_sh s
    have h2 := depth_sh t
    simp only [Sh.d, PyData.depth, PyData.depthAll, hdeep, h1, h2]
    omega
  | .left s => by
    have h1 := depth_sh s
    simp only [Sh.d, PyData.depth, PyData.depthAll, hdeep, h1]
    omega
  | .right s => by
    have h1 := depth_sh s
    simp only [Sh.d, PyData.depth, PyData.depthAll, hdeep, h1]
    omega
  | .make => by simp only [Sh.d, PyData.depth, PyData.depthAll, hdeep]; rfl
theorem shaped_sh {s : Sh} (h : hdeep s ≤ 64) : SeqAt.shaped s.d = true := by
  unfold SeqAt.shaped
  rw [canLay_sh, depth_sh, decide_eq_true h]
  rfl
theorem depth_sm : ∀ a : Sm, PyData.depth a.d = sdeep a
  | .lt _ => by simp only [Sm.d, PyData.depth, PyData.depthAll, sdeep]; rfl
  | .nv => by simp only [Sm.d, PyData.depth, PyData.depthAll, sdeep]; rfl
  | .an a b | .or a b | .th a b => by
    have h1 := depth_sm a
    have h2 := depth_sm b
    simp only [Sm.d, PyData.depth, PyData.depthAll, sdeep, h1, h2]
    omega
theorem shaped_sm {n : Nat} {a : Sm} (h : sOk n a) (l : n ≤ 64) : SeqAt.shaped a.d = true := by
  unfold SeqAt.shaped
  have := h.2
  rw [h.1, depth_sm, decide_eq_true (by omega)]
  rfl
mutual
theorem eqv_refl : ∀ (d : PyData), d.canLay0 = true → PyData.eqv d d = true
  | .none, _ => by simp only [PyData.eqv]
  | .bool b, _ => by simp only [PyData.eqv, beq_self_eq_true]
  | .int i, _ => by simp only [PyData.eqv, beq_self_eq_true]
  | .str x, _ => by simp only [PyData.eqv, beq_self_eq_true]
  | .list xs, h => by
    simp only [PyData.canLay0] at h
    simp only [PyData.eqv, eqvAll_refl xs h]
  | .tuple xs, h => by
    simp only [PyData.canLay0] at h
    simp only [PyData.eqv, eqvAll_refl xs h]
  | .dict _, h => by simp only [PyData.canLay0] at h; cases h
theorem eqvAll_refl : ∀ ds : List PyData, PyData.canLayAll0 ds = true → PyData.eqvAll ds ds = true
  | [], _ => by simp only [PyData.eqvAll]
  | d :: ds, h => by
    simp only [PyData.canLayAll0, Bool.and_eq_true] at h
    simp only [PyData.eqvAll, eqv_refl d h.1, eqvAll_refl ds h.2, Bool.and_self]
end
def moreD : PyData := .tuple [.str "more"]
theorem shaped_more : SeqAt.shaped moreD = true := by decide +kernel
theorem eqv_more : PyData.eqv moreD moreD = true := by decide +kernel
theorem str_ne {a b : Str} (h : a ≠ b) : (a == b) = false := beq_eq_false_iff_ne.mpr h
theorem eqv_sh_more : ∀ s : Sh, PyData.eqv s.d moreD = false
  | .pair _ _ => by simp only [Sh.d, moreD, PyData.eqv, PyData.eqvAll, Bool.and_false]
  | .left _ => by simp only [Sh.d, moreD, PyData.eqv, PyData.eqvAll, Bool.and_false]
  | .right _ => by simp only [Sh.d, moreD, PyData.eqv, PyData.eqvAll, Bool.and_false]
  | .make => by
    have e : (("make" : Str) == "more") = false := str_ne (by decide +kernel)
    simp only [Sh.d, moreD, PyData.eqv, PyData.eqvAll, e, Bool.false_and]

section
variable {P : Program} {w : World} {K : PySem.W.Frag} {mg : Str → Option Value} {base : Heap} {f : Addr} {fd : FuncData}
theorem scLm : FnScope ["_law_paper", "_law_at", "_law_by", "_law_found", "_law_place"] ["_law_paper", "_law_at", "_law_by"] (defScope sLMoved) := ⟨rfl, rfl, rfl, by decide +kernel, rfl, by decide +kernel, by decide +kernel⟩
theorem ok_lmoved {n : Nat} (F : Fun K "_law_moved" "_law_moved" sLMoved f fd) (mi : mg "int" = none) (mli : mg "list" = none) (mtu : mg "tuple" = none) (cP : Cal P w K mg base 1 "_law_places" ["_law_paper"] (spLPlaces K))
    (cM : Cal P w K mg base (n + 1) "_law_moved" ["_law_paper", "_law_at", "_law_by"] (spMoved K n)) : FnOk P w K mg base CX0 (n + 1 + 1) f fd ["_law_paper", "_law_at", "_law_by"] (spMoved K (n + 1)) := by
  refine F.ok scLm (fun vs H Q E h => ?_) (fun cdv A outer s H vs Q E hr h => ?_)
  · obtain ⟨v, p, j, m, rfl, _⟩ := h
    rfl
  · obtain ⟨v, p, j, m, rfl, hv, hn, k⟩ := h
    obtain ⟨a, xs, rfl, hT, hD⟩ := hv.paper
    have hr1 : Room 1 _ := hr.mono (by omega)
    refine ⟨_, (pss_cons (ps_if (pt_cmpR op_eq (pe_ix ix_tup (pv 0) pe_int (fun _ _ => rfl)) pe_str (nomark _)) (pss_one (ps_ret (pe_tup (pa_cons pe_str (pa_cons (pe_op op_add (pe_ix ix_tup (pv 0) pe_int (fun _ _ => rfl)) (pe_op op_mul (pv 2) (pe_callTy call_int1 (by rfl) mi (by decide +kernel) (pa_cons (pe_cmpR op_ge (pe_ix ix_tup (pv 0) pe_int (fun _ _ => rfl)) (pv 1) (nomark _)) pa_nil)))) pa_nil))))) pss_nil) (pss_cons (ps_set (i := 3) scLm.nd rfl (Or.inl rfl) (pe_callTy call_list_of (by rfl) mli (by decide +kernel) (pa_cons (pv 0) pa_nil))) (pss_cons (ps_for PassesOwn.never rfl (pi_list (pe_cal cP hr1 rfl (pa_cons (pv 0) pa_nil))) (pg_name (i := 4) scLm.nd rfl (Or.inl rfl)) (pss_one (ps_asg (pe_cal cM hr rfl (pa_cons (pe_ix ix_tup (pv 0) (pv 4) (fun _ _ => rfl)) (pa_cons (pv 1) (pa_cons (pv 2) pa_nil)))) (pg_sub (pv 3) (pv 4) set_list)))) (pss_one (ps_ret (pe_callTy call_tuple_of (by rfl) mtu (by decide +kernel) (pa_cons (pv 3) pa_nil))))))), ?_⟩
    refine ⟨_, rfl, a, xs, 0, _, rfl, rfl, hT, at0 hD.word, rfl, _, rfl, ?_⟩
    refine iteB p.dUse (fun c => ?_) (fun c => ?_)
    · cases p with
      | use u =>
        obtain ⟨x0, x1, rfl, r0, r1⟩ := hD.c2
        cases r1.invI
        refine ⟨_, rfl, a, _, 1, _, rfl, rfl, hT, at1 rfl, _, rfl, _, rfl, a, _, 1, _, rfl, rfl, hT, at1 rfl, _, rfl, _, _, rfl, rfl, .inr ⟨_, rfl, _, _, rfl, rfl, .inr ?_, _, _, rfl, rfl, (by show 2 ≤ sizeLine; decide), fun t ht => ?_⟩⟩
        · split
          · exact ⟨by decide, by decide⟩
          · exact ⟨by decide, by decide⟩
        · refine k _ _ (Same.new ht) ?_
          simp only [moved]
          by_cases hj : u < j
          · rw [if_pos hj]
            simp only [Pp.d]
            refine Dt.made upd_same (.cons (.str _) (.cons ?_ .nil))
            have e : (u : Int) + (m : Int) * (if decide ((j : Int) ≤ (u : Int)) = true then 1 else 0) = ((u : Nat) : Int) := by
              rw [if_neg (by rw [decide_eq_false (by omega)]; exact Bool.false_ne_true)]; omega
            exact Dt.intE e
          · rw [if_neg hj]
            simp only [Pp.d]
            refine Dt.made upd_same (.cons (.str _) (.cons ?_ .nil))
            have e : (u : Int) + (m : Int) * (if decide ((j : Int) ≤ (u : Int)) = true then 1 else 0) = ((u + m : Nat) : Int) := by
              rw [if_pos (decide_eq_true (by omega))]; omega
            exact Dt.intE e
      | _ => cases c
    · refine ⟨_, rfl, a, xs, rfl, .inr hT, fun l hl => ?_⟩
      have s1 : Same H (upd H l (.lst xs)) := Same.new hl
      refine ⟨_, rfl, _, p, rfl, Dt.mono s1.tk hv, fun q H2 s2 hq e2 => ⟨q, rfl, ⟨_, SqL.of e2⟩, ?_⟩⟩
      have hq0 : q ≠ l := fun z => by rw [z, upd_same] at hq; cases hq
      refine for_list (K := K) (a := q) (xs := natV p.pls) (fun i σ H' => ∃ (ys : List V) (x : Option V), σ = [some (.ref a), some (.int j), some (.int m), some (.ref l), x] ∧ Same H H' ∧ H' q = some (.lst (natV p.pls)) ∧ H' l = some (.lst ys) ∧ DtAll K H' ys (fsAt p (p.sub.map fun z => moved z j m) i))
        ⟨xs, none, rfl, s1.trans s2, e2, s2 _ _ upd_same, by rw [fsAt_zero]; exact DtAll.mono (s1.trans s2).tk hD⟩ (fun i σ H' _ ⟨_, _, _, _, h, _⟩ => SqL.of h) ?_ ?_
      · rintro i y σ H' hi ⟨ys, x, rfl, hs, eq_, el, hy⟩
        obtain ⟨z, hz, rfl⟩ : ∃ z, p.pls[i]? = some z ∧ V.int (z : Nat) = y := by
          unfold natV at hi
          rw [List.getElem?_map] at hi
          exact Option.map_eq_some_iff.mp hi
        obtain ⟨b, hb, hf, _⟩ := Pp.pls_sub hz
        obtain ⟨vb, e1, r1⟩ := (DtAll.mono hs.tk hD).get hf
        refine ⟨_, rfl, _, rfl, a, xs, _, vb, rfl, rfl, hs.tk.seqT hT, atI_nat e1, _, rfl, _, rfl, ?_⟩
        refine ⟨vb, b, j, m, rfl, r1, by have := Pp.deep_sub hb; omega, fun v' H3 s3 r3 => ?_⟩
        have el3 := s3 _ _ el
        refine ⟨_, rfl, _, rfl, l, ys, _, z, rfl, rfl, el3, ixN_nat (by rw [hy.len, fsAt_len]; exact pls_pos hz), ?_⟩
        have tk : Tk H3 (upd H3 l (.lst (ys.set z v'))) := Tk.lst el3
        refine ⟨ys.set z v', _, rfl, (hs.trans s3).upd_old hl, by rw [upd_ne hq0]; exact s3 _ _ eq_, upd_same, ?_⟩
        rw [fsAt_succ hz (r := moved b j m) (by rw [List.getElem?_map, hb]; rfl)]
        exact (DtAll.mono (s3.tk.trans tk) hy).set z (Dt.mono tk r3)
      · rintro σ H' ⟨ys, x, rfl, hs, eq_, el, hy⟩
        refine ⟨_, rfl, l, ys, rfl, .inl ⟨SqL.of el, fun t ht => k _ _ (hs.trans (Same.new ht)) ?_⟩⟩
        rw [show (natV p.pls).length = p.pls.length from List.length_map _, fs_moved j m c] at hy
        rw [Pp.d_fs]
        exact Dt.made upd_same (DtAll.mono (Tk.new ht) hy)
theorem all_lmoved (D : Df K mg "_law_moved" sLMoved ["_law_paper", "_law_at", "_law_by"]) (mi : mg "int" = none) (mli : mg "list" = none) (mtu : mg "tuple" = none) (cP : Cal P w K mg base 1 "_law_places" ["_law_paper"] (spLPlaces K)) :
    ∀ n, Cal P w K mg base (n + 1) "_law_moved" ["_law_paper", "_law_at", "_law_by"] (spMoved K n)
  | 0 => D.cal fun f fd F => FnOk.void fun vs H Q E ⟨v, p, k, m, _, _, hn, _⟩ => by have := deep_pos p; omega
  | n + 1 => D.cal fun f fd F => ok_lmoved F mi mli mtu cP (all_lmoved D mi mli mtu cP n)

def spLSize (K : PySem.W.Frag) (n : Nat) : Sp := fun vs H Q _ => ∃ (v : V) (p : Pp), vs = [v] ∧ Dt K H v p.d ∧ deep p ≤ n ∧ ∀ H', Same H H' → Q (.int (size p : Nat)) H'
theorem size_subs (p : Pp) : 1 + (p.sub.map size).sum = size p := by
  cases p <;> simp only [Pp.sub, size] <;> simp <;> omega
theorem sum_nat : ∀ l : List Nat, ((l.map fun (n : Nat) => (n : Int))).sum = ((l.sum : Nat) : Int)
  | [] => rfl
  | n :: l => by rw [List.map_cons, List.sum_cons, List.sum_cons, sum_nat l]; omega
theorem scLz : FnScope ["_law_paper", "_law_place"] ["_law_paper"] (defScope sLSize) := ⟨rfl, rfl, rfl, by decide +kernel, rfl, by decide +kernel, by decide +kernel⟩
theorem ok_lsize {n : Nat} (F : Fun K "_law_size" "_law_size" sLSize f fd) (msu : mg "sum" = none) (cP : Cal P w K mg base 1 "_law_places" ["_law_paper"] (spLPlaces K)) (cZ : Cal P w K mg base (n + 1) "_law_size" ["_law_paper"] (spLSize K n)) :
    FnOk P w K mg base CX0 (n + 1 + 1) f fd ["_law_paper"] (spLSize K (n + 1)) := by
  refine F.ok scLz (fun vs H Q E h => ?_) (fun cdv A outer s H vs Q E hr h => ?_)
  · obtain ⟨v, p, rfl, _⟩ := h
    rfl
  · obtain ⟨v, p, rfl, hv, hn, k⟩ := h
    obtain ⟨a, xs, rfl, hT, hD⟩ := hv.paper
    have hr1 : Room 1 _ := hr.mono (by omega)
    refine ⟨_, (pss_one (ps_ret (pe_op op_add pe_int (pe_callB (cr_sum rfl) (by rfl) msu (by decide +kernel) (pa_cons (pe_lc (own := [("_law_place", 1)]) (g := gName 1) (tt := tYes) (by rfl) scLz.nd (pi_list (pe_cal cP hr1 rfl (pa_cons (pv 0) pa_nil))) (blkOk_by (own := [("_law_place", 1)]) (N := ["_law_paper", "_law_place"]) (sc := defScope sLSize) (by decide +kernel)) (fun _ _ _ _ _ => (pg_name (i := 1) scLz.nd rfl (Or.inl rfl))) (fun _ _ _ _ _ => pts_nil) (fun _ _ _ _ _ => (pe_cal cZ hr rfl (pa_cons (pe_ix (show IxR _ (rIxT K) from ix_tup) (pv 0) (pv 1) (fun _ _ => rfl)) pa_nil)))) pa_nil))))), ?_⟩
    refine ⟨_, rfl, _, p, rfl, hv, fun q H1 s1 hq e1 => ⟨q, rfl, ⟨_, SqL.of e1⟩, fun D hD' => ?_⟩⟩
    have nq : q ≠ D := ne_of_none e1 hD'
    have hD0 : H D = none := s1.free hD'
    refine lc_list (K := K) (a := q) (xs := natV p.pls) (fun i H' => Same H H' ∧ H' q = some (.lst (natV p.pls)) ∧ H' D = some (.lst (((((p.sub.take i).map size).map fun (n : Nat) => (n : Int))).map V.int)))
      ⟨s1.upd_old hD0, by rw [upd_ne nq]; exact e1, upd_same⟩ (fun i H' _ ⟨_, h, _⟩ => SqL.of h) ?_ ?_
    · rintro i y H' hi ⟨hs, eq_, el⟩
      obtain ⟨z, hz, rfl⟩ : ∃ z, p.pls[i]? = some z ∧ V.int (z : Nat) = y := by
        unfold natV at hi
        rw [List.getElem?_map] at hi
        exact Option.map_eq_some_iff.mp hi
      obtain ⟨b, hb, hf, _⟩ := Pp.pls_sub hz
      obtain ⟨vb, e2, r2⟩ := (DtAll.mono hs.tk hD).get hf
      refine ⟨rfl, ?_⟩
      refine ⟨_, rfl, _, rfl, a, xs, _, vb, rfl, rfl, hs.tk.seqT hT, atI_nat e2, vb, b, rfl, r2, by have := Pp.deep_sub hb; omega, fun H2 s2 => ?_⟩
      have hi3 : i < 3 := by
        have := (List.getElem?_eq_some_iff.mp hb).1
        have : p.sub.length ≤ 3 := by cases p <;> simp [Pp.sub]
        omega
      refine ⟨_, s2 _ _ el, by rw [List.length_map, List.length_map, List.length_map, List.length_take]; exact small100 (by omega), (hs.trans s2).upd_old hD0, by rw [upd_ne nq]; exact s2 _ _ eq_, ?_⟩
      rw [upd_same, List.take_add_one, hb]
      simp only [Option.toList_some, List.map_append, List.map_cons, List.map_nil]
    · rintro H' ⟨hs, eq_, el⟩
      rw [show (natV p.pls).length = p.sub.length by rw [← pls_len]; exact List.length_map _, List.take_length] at el
      refine ⟨D, _, rfl, SqL.of el, _, _, rfl, rfl, qof (k H' hs) (congrArg V.int ?_)⟩
      rw [sum_nat, ← size_subs p]
      omega
theorem all_lsize (D : Df K mg "_law_size" sLSize ["_law_paper"]) (msu : mg "sum" = none) (cP : Cal P w K mg base 1 "_law_places" ["_law_paper"] (spLPlaces K)) : ∀ n, Cal P w K mg base (n + 1) "_law_size" ["_law_paper"] (spLSize K n)
  | 0 => D.cal fun f fd F => FnOk.void fun vs H Q E ⟨v, p, _, _, hn, _⟩ => by have := deep_pos p; omega
  | n + 1 => D.cal fun f fd F => ok_lsize F msu cP (all_lsize D msu cP n)

def spIsOf (K : PySem.W.Frag) (n : Nat) : Sp := fun vs H Q _ => ∃ (x y : V) (s : Sh) (a : Sm), vs = [x, y] ∧ Dt K H x s.d ∧ Dt K H y a.d ∧ isOf s a = true ∧ hdeep s ≤ n ∧ ∀ H', Same H H' → Q (.bl true) H'
theorem scIo : FnScope ["_law_shape_here", "_law_a"] ["_law_shape_here", "_law_a"] (defScope sIsOf) := ⟨rfl, rfl, rfl, by decide +kernel, rfl, by decide +kernel, by decide +kernel⟩
theorem ok_isof {n : Nat} (F : Fun K "_law_is_of" "_law_is_of" sIsOf f fd) (mi : mg "int" = none) (cI : Cal P w K mg base (n + 1) "_law_is_of" ["_law_shape_here", "_law_a"] (spIsOf K n)) :
    FnOk P w K mg base CX0 (n + 1 + 1) f fd ["_law_shape_here", "_law_a"] (spIsOf K (n + 1)) := by
  refine F.ok scIo (fun vs H Q E h => ?_) (fun cdv A outer s H vs Q E hr h => ?_)
  · obtain ⟨x, y, s, a, rfl, _⟩ := h
    rfl
  · obtain ⟨x, y, s, a, rfl, hx, hy, hi, hn, k⟩ := h
    obtain ⟨b, ys, rfl, hB, wb⟩ := hy.stat
    obtain ⟨c, xs, rfl, hC, wc⟩ := hx.shp
    refine ⟨_, (pss_cons (ps_if (pt_cmpR op_eq (pe_ix ix_tup (pv 1) pe_int (fun _ _ => rfl)) pe_str (nomark _)) (pss_one (ps_ret (pe_and (pe_cmpR op_eq (pe_ix ix_tup (pv 0) pe_int (fun _ _ => rfl)) pe_str (nomark _)) (pe_and (pe_cal cI hr rfl (pa_cons (pe_ix ix_tup (pv 0) pe_int (fun _ _ => rfl)) (pa_cons (pe_ix ix_tup (pv 1) pe_int (fun _ _ => rfl)) pa_nil))) (pe_one (pe_cal cI hr rfl (pa_cons (pe_ix ix_tup (pv 0) pe_int (fun _ _ => rfl)) (pa_cons (pe_ix ix_tup (pv 1) pe_int (fun _ _ => rfl)) pa_nil)))))))) pss_nil) (pss_cons (ps_if (pt_cmpR op_eq (pe_ix ix_tup (pv 1) pe_int (fun _ _ => rfl)) pe_str (nomark _)) (pss_one (ps_ret (pe_and (pe_cmpR op_in_seq (pe_ix ix_tup (pv 0) pe_int (fun _ _ => rfl)) (pe_lst (pa_cons pe_str (pa_cons pe_str pa_nil))) (by rfl)) (pe_one (pe_cal cI hr rfl (pa_cons (pe_ix ix_tup (pv 0) pe_int (fun _ _ => rfl)) (pa_cons (pe_ix ix_tup (pv 1) (pe_op op_add pe_int (pe_callTy call_int1 (by rfl) mi (by decide +kernel) (pa_cons (pe_cmpR op_eq (pe_ix ix_tup (pv 0) pe_int (fun _ _ => rfl)) pe_str (nomark _)) pa_nil))) (fun _ _ => rfl)) pa_nil))))))) pss_nil) (pss_one (ps_ret (pe_and (pe_cmpR op_eq (pe_ix ix_tup (pv 1) pe_int (fun _ _ => rfl)) pe_str (nomark _)) (pe_one (pe_cmpR (op_eqD hr.units) (pv 0) (pe_tup (pa_cons pe_str pa_nil)) (nomark _)))))))), ?_⟩
    refine ⟨_, rfl, b, ys, 0, _, rfl, rfl, hB, at0 wb, rfl, _, rfl, iteB a.dAnd (fun c1 => ?_) (fun c1 => ?_)⟩
    · cases a with
      | an a1 a2 =>
        cases s with
        | pair s1 s2 =>
          simp only [isOf, Bool.and_eq_true] at hi
          simp only [hdeep] at hn
          simp only [Sm.d] at hy
          simp only [Sh.d] at hx
          obtain ⟨_, _, e, hB', dB⟩ := hy.inv
          cases e
          obtain ⟨y0, y1, y2, rfl, _, r1, r2⟩ := dB.c3
          obtain ⟨_, _, e, hC', dC⟩ := hx.inv
          cases e
          obtain ⟨x0, x1, x2, rfl, q0, q1, q2⟩ := dC.c3
          cases q0.invS
          refine ⟨_, rfl, c, _, 0, _, rfl, rfl, hC', at0 rfl, rfl, _, rfl, ifT (by decide +kernel) ?_⟩
          refine ⟨_, rfl, c, _, 1, _, rfl, rfl, hC', at1 rfl, _, rfl, b, _, 1, _, rfl, rfl, hB', at1 rfl, x1, y1, s1, a1, rfl, q1, r1, hi.1, by omega, fun H1 e1 => ⟨_, rfl, iteT ?_⟩⟩
          exact ⟨_, rfl, c, _, 2, _, rfl, rfl, e1.tk.seqT hC', at2 rfl, _, rfl, b, _, 2, _, rfl, rfl, e1.tk.seqT hB', at2 rfl, x2, y2, s2, a2, rfl, Dt.mono e1.tk q2, Dt.mono e1.tk r2, hi.2, by omega, fun H2 e2 => k H2 (e1.trans e2)⟩
        | _ => cases hi
      | _ => cases c1
    refine ⟨_, rfl, b, ys, 0, _, rfl, rfl, hB, at0 wb, rfl, _, rfl, iteB a.dOr (fun c2 => ?_) (fun c2 => ?_)⟩
    · cases a with
      | or a1 a2 =>
        simp only [Sm.d] at hy
        obtain ⟨_, _, e, hB', dB⟩ := hy.inv
        cases e
        obtain ⟨y0, y1, y2, rfl, _, r1, r2⟩ := dB.c3
        obtain ⟨bb, s1, es, hs1, hi1⟩ : ∃ (bb : Bool) (s1 : Sh), s = (if bb then .right s1 else .left s1) ∧ hdeep s = hdeep s1 + 1 ∧ isOf s1 (if bb then a2 else a1) = true := by
          cases s with
          | left s1 => exact ⟨false, s1, rfl, rfl, hi⟩
          | right s1 => exact ⟨true, s1, rfl, rfl, hi⟩
          | _ => cases hi
        have hx' : Dt K H (.ref c) (.tuple [.str (if bb then "right" else "left"), s1.d]) := by
          cases bb
          · have e0 : s = .left s1 := es
            rw [e0] at hx
            simp only [Sh.d] at hx
            exact hx
          · have e0 : s = .right s1 := es
            rw [e0] at hx
            simp only [Sh.d] at hx
            exact hx
        obtain ⟨_, _, e, hC', dC⟩ := hx'.inv
        cases e
        obtain ⟨x0, x1, rfl, q0, q1⟩ := dC.c2
        cases q0.invS
        have e1 : ∀ bb : Bool, (if false = true then !inV (V.str (if bb then "right" else "left")) [.str "left", .str "right"] else inV (V.str (if bb then "right" else "left")) [.str "left", .str "right"]) = true := fun bb => by cases bb <;> decide +kernel
        refine ⟨_, rfl, c, _, 0, _, rfl, rfl, hC', at0 rfl, (by show 2 ≤ sizeLine; decide), fun q hq => ⟨q, _, rfl, .inl (SqL.of upd_same), rfl, (by decide +kernel), _, rfl, ifT (e1 bb) ?_⟩⟩
        have sq : Same H (upd H q (.lst [.str "left", .str "right"])) := Same.new hq
        have e2 : ∀ bb : Bool, decide (V.str (if bb then "right" else "left") = V.str "right") = bb := fun bb => dRight
        have ix : atI [y0, y1, y2] (1 + (if bb = true then (1 : Int) else 0)) = some (if bb then y2 else y1) := by
          cases bb
          · exact at1 rfl
          · exact at2 rfl
        refine ⟨_, rfl, c, _, 1, _, rfl, rfl, sq.tk.seqT hC', at1 rfl, _, rfl, _, rfl, c, _, 0, _, rfl, rfl, sq.tk.seqT hC', at0 rfl, rfl, .inr ⟨bb, by rw [e2], _, _, rfl, rfl, b, _, _, _, rfl, rfl, sq.tk.seqT hB', ix, ?_⟩⟩
        refine ⟨x1, _, s1, (if bb then a2 else a1), rfl, Dt.mono sq.tk q1, ?_, hi1, by omega, fun H2 e3 => k H2 (sq.trans e3)⟩
        cases bb
        · exact Dt.mono sq.tk r1
        · exact Dt.mono sq.tk r2
      | _ => cases c2
    · cases a with
      | th a1 a2 =>
        cases s with
        | make =>
          refine ⟨_, rfl, b, ys, 0, _, rfl, rfl, hB, at0 wb, rfl, _, rfl, ifT (Sm.dThen _) ?_⟩
          refine ⟨_, rfl, (by show 1 ≤ sizeLine; decide), fun t ht => ?_⟩
          have st : Same H (upd H t (.tup [.str "make"])) := Same.new ht
          refine ⟨Sh.make.d, Sh.make.d, Dt.dp (Dt.mono st.tk hx), Dt.dp ?_, shaped_sh (by decide), shaped_sh (by decide), qof (k _ st) ?_⟩
          · simp only [Sh.d]
            exact Dt.made upd_same (.cons (.str _) .nil)
          · rw [eqv_refl _ (canLay_sh _)]
        | _ => cases hi
      | an _ _ => cases c1
      | or _ _ => cases c2
      | lt _ => cases s <;> cases hi
      | nv => cases s <;> cases hi
theorem all_isof (D : Df K mg "_law_is_of" sIsOf ["_law_shape_here", "_law_a"]) (mi : mg "int" = none) : ∀ n, Cal P w K mg base (n + 1) "_law_is_of" ["_law_shape_here", "_law_a"] (spIsOf K n)
  | 0 => D.cal fun f fd F => FnOk.void fun vs H Q E ⟨x, y, s, a, _, _, _, _, hn, _⟩ => by have := hdeep_pos s; omega
  | n + 1 => D.cal fun f fd F => ok_isof F mi (all_isof D mi n)

def spTold (K : PySem.W.Frag) : Sp := fun vs H Q _ => ∃ (v : V) (p : Pp) (a : Sm) (g : Env [] → Ty a), vs = [v] ∧ Dt K H v p.d ∧ Den [] p a g ∧ size p ≤ 200 ∧ sdeep a ≤ 60 ∧
  ∀ y H', Same H H' → (y = .non ∨ Dt K H' y (shDen a (g ())).d) → Q y H'
theorem scTo : FnScope ["_law_paper", "_law_answer", "_law_many"] ["_law_paper"] (defScope sTold) := ⟨rfl, rfl, rfl, by decide +kernel, rfl, by decide +kernel, by decide +kernel⟩
theorem ok_told (F : Fun K "_law_told" "_law_told" sTold f fd) (cC : Cal P w K mg base (200 + 3 + 1) "code" ["paper"] (spCode K 200)) (cR : Cal P w K mg base (60 + 3 + 1) "run_code" ["rows", "most"] (spRun K 60)) : FnOk P w K mg base CX0 205 f fd ["_law_paper"] (spTold K) := by
  refine F.ok scTo (fun vs H Q E h => ?_) (fun cdv A outer s H vs Q E hr h => ?_)
  · obtain ⟨v, p, a, g, rfl, _⟩ := h
    rfl
  · obtain ⟨v, p, a, g, rfl, hv, hd, hz, ha, k⟩ := h
    have hr1 : Room (60 + 3 + 1) _ := hr.mono (by omega)
    have hr2 : Room (200 + 3 + 1) _ := hr
    refine ⟨_, (pss_cons (ps_asg (pe_cal cR hr1 rfl (pa_cons (pe_cal cC hr2 rfl (pa_cons (pv 0) pa_nil)) (pa_cons pe_int pa_nil))) (pg_tup rfl (pgs_cons (pg_name (i := 1) scTo.nd rfl (Or.inl rfl)) (pgs_cons (pg_name (i := 2) scTo.nd rfl (Or.inl rfl)) pgs_nil)))) (pss_cons (ps_if (PW.pt (pw_and (pt_cmpR (op_eqD hr.units) (pv 1) (pe_tup (pa_cons pe_str pa_nil)) (nomark _)) (pw_and1 (pt_cmpR op_eq (pv 2) pe_int (nomark _))))) (pss_one (ps_ret pe_non)) pss_nil) (pss_one (ps_ret (pv 1))))), ?_⟩
    refine ⟨_, rfl, v, p, rfl, hv, hz, by decide, fun D H1 vr s s1 hD hvr hj hbg => ?_⟩
    obtain ⟨j, hlay, hback⟩ := made hj.ci hbg
    obtain ⟨n, mv, hsh, hrun, hlast⟩ := whole hd hlay hback
    have hio : isOf (shDen a (g ())) a = true := isOf_den a (g ())
    have hdp : hdeep (shOf mv) ≤ 60 := by rw [hsh]; exact Nat.le_trans (hdeep_le hio) ha
    refine ⟨D, vr, _, 4000, n, j, mv, rfl, hD, hvr, by decide, hrun, hlast, hdp, fun y H2 s2 hy => ?_⟩
    have s12 := s1.trans s2
    unfold ansD at hy
    by_cases hn : n < 4000
    · rw [if_pos hn] at hy
      obtain ⟨t, xs, rfl, hT, dT⟩ := hy.inv
      obtain ⟨x1, x2, rfl, q1, q2⟩ := dT.c2
      refine ⟨t, _, rfl, hT, rfl, _, _, rfl, _, _, rfl, rfl, ?_⟩
      refine ⟨_, rfl, (by show 1 ≤ sizeLine; decide), fun u hu => ?_⟩
      have su : Same H2 (upd H2 u (.tup [.str "more"])) := Same.new hu
      refine ⟨(shOf mv).d, moreD, Dt.dp (Dt.mono su.tk q1), Dt.dp (Dt.made upd_same (.cons (.str _) .nil)), shaped_sh (by omega), shaped_more, _, rfl, ifF (eqv_sh_more _) (iteF ?_)⟩
      refine ⟨_, rfl, k _ _ (s12.trans su) (.inr ?_)⟩
      rw [← hsh]
      exact Dt.mono su.tk q1
    · rw [if_neg hn] at hy
      obtain ⟨t, xs, rfl, hT, dT⟩ := hy.inv
      obtain ⟨x1, x2, rfl, q1, q2⟩ := dT.c2
      cases q2.invI
      refine ⟨t, _, rfl, hT, rfl, _, _, rfl, _, _, rfl, rfl, ?_⟩
      refine ⟨_, rfl, (by show 1 ≤ sizeLine; decide), fun u hu => ?_⟩
      have su : Same H2 (upd H2 u (.tup [.str "more"])) := Same.new hu
      refine ⟨moreD, moreD, Dt.dp (Dt.mono su.tk q1), Dt.dp (Dt.made upd_same (.cons (.str _) .nil)), shaped_more, shaped_more, _, rfl, ifT eqv_more ?_⟩
      refine ⟨_, rfl, rfl, _, rfl, ifT (decide_eq_true rfl) ?_⟩
      exact k _ _ (s12.trans su) (.inl rfl)
end
end Ob
namespace Ob
open PySem L2
abbrev sMade : Stmt := top 43
abbrev sApplied : Stmt := top 44
abbrev sGrown : Stmt := top 45
abbrev sClosed : Stmt := top 46
/-! ### plain: statements told apart, givens found -/
theorem u65 {k : Nat} {A : Around} (r : Room k A) : A.units + 65 < cLine := by have := r.un; omega
theorem w_ltnv : (("letter" : Str) == "never") = false := str_ne (by decide +kernel)
theorem w_ltan : (("letter" : Str) == "and") = false := str_ne (by decide +kernel)
theorem w_ltor : (("letter" : Str) == "or") = false := str_ne (by decide +kernel)
theorem w_ltth : (("letter" : Str) == "then") = false := str_ne (by decide +kernel)
theorem w_nvlt : (("never" : Str) == "letter") = false := str_ne (by decide +kernel)
theorem w_nvan : (("never" : Str) == "and") = false := str_ne (by decide +kernel)
theorem w_nvor : (("never" : Str) == "or") = false := str_ne (by decide +kernel)
theorem w_nvth : (("never" : Str) == "then") = false := str_ne (by decide +kernel)
theorem w_anlt : (("and" : Str) == "letter") = false := str_ne (by decide +kernel)
theorem w_annv : (("and" : Str) == "never") = false := str_ne (by decide +kernel)
theorem w_anor : (("and" : Str) == "or") = false := str_ne (by decide +kernel)
theorem w_anth : (("and" : Str) == "then") = false := str_ne (by decide +kernel)
theorem w_orlt : (("or" : Str) == "letter") = false := str_ne (by decide +kernel)
theorem w_ornv : (("or" : Str) == "never") = false := str_ne (by decide +kernel)
theorem w_oran : (("or" : Str) == "and") = false := str_ne (by decide +kernel)
theorem w_orth : (("or" : Str) == "then") = false := str_ne (by decide +kernel)
theorem w_thlt : (("then" : Str) == "letter") = false := str_ne (by decide +kernel)
theorem w_thnv : (("then" : Str) == "never") = false := str_ne (by decide +kernel)
theorem w_than : (("then" : Str) == "and") = false := str_ne (by decide +kernel)
theorem w_thor : (("then" : Str) == "or") = false := str_ne (by decide +kernel)
theorem eqv_inj0 (a : Sm) : ∀ b : Sm, PyData.eqv a.d b.d = true → a = b := by
  induction a with
  | lt x =>
    intro b h
    cases b with
    | lt y =>
      simp only [Sm.d, PyData.eqv, PyData.eqvAll, Bool.and_true, beq_self_eq_true, Bool.true_and] at h
      rw [eq_of_beq h]
    | nv  => simp only [Sm.d, PyData.eqv, PyData.eqvAll, w_ltnv, Bool.false_and] at h; cases h
    | an _ _ => simp only [Sm.d, PyData.eqv, PyData.eqvAll, w_ltan, Bool.false_and] at h; cases h
    | or _ _ => simp only [Sm.d, PyData.eqv, PyData.eqvAll, w_ltor, Bool.false_and] at h; cases h
    | th _ _ => simp only [Sm.d, PyData.eqv, PyData.eqvAll, w_ltth, Bool.false_and] at h; cases h
  | nv =>
    intro b h
    cases b with
    | lt _ => simp only [Sm.d, PyData.eqv, PyData.eqvAll, w_nvlt, Bool.false_and] at h; cases h
    | nv => rfl
    | an _ _ => simp only [Sm.d, PyData.eqv, PyData.eqvAll, w_nvan, Bool.false_and] at h; cases h
    | or _ _ => simp only [Sm.d, PyData.eqv, PyData.eqvAll, w_nvor, Bool.false_and] at h; cases h
    | th _ _ => simp only [Sm.d, PyData.eqv, PyData.eqvAll, w_nvth, Bool.false_and] at h; cases h
  | an a1 a2 h1 h2 =>
    intro b h
    cases b with
    | lt _ => simp only [Sm.d, PyData.eqv, PyData.eqvAll, w_anlt, Bool.false_and] at h; cases h
    | nv  => simp only [Sm.d, PyData.eqv, PyData.eqvAll, w_annv, Bool.false_and] at h; cases h
    | an b1 b2 =>
      simp only [Sm.d, PyData.eqv, PyData.eqvAll, Bool.and_true, beq_self_eq_true, Bool.true_and, Bool.and_eq_true] at h
      rw [h1 _ h.1, h2 _ h.2]
    | or _ _ => simp only [Sm.d, PyData.eqv, PyData.eqvAll, w_anor, Bool.false_and] at h; cases h
    | th _ _ => simp only [Sm.d, PyData.eqv, PyData.eqvAll, w_anth, Bool.false_and] at h; cases h
  | or a1 a2 h1 h2 =>
    intro b h
    cases b with
    | lt _ => simp only [Sm.d, PyData.eqv, PyData.eqvAll, w_orlt, Bool.false_and] at h; cases h
    | nv  => simp only [Sm.d, PyData.eqv, PyData.eqvAll, w_ornv, Bool.false_and] at h; cases h
    | an _ _ => simp only [Sm.d, PyData.eqv, PyData.eqvAll, w_oran, Bool.false_and] at h; cases h
    | or b1 b2 =>
      simp only [Sm.d, PyData.eqv, PyData.eqvAll, Bool.and_true, beq_self_eq_true, Bool.true_and, Bool.and_eq_true] at h
      rw [h1 _ h.1, h2 _ h.2]
    | th _ _ => simp only [Sm.d, PyData.eqv, PyData.eqvAll, w_orth, Bool.false_and] at h; cases h
  | th a1 a2 h1 h2 =>
    intro b h
    cases b with
    | lt _ => simp only [Sm.d, PyData.eqv, PyData.eqvAll, w_thlt, Bool.false_and] at h; cases h
    | nv  => simp only [Sm.d, PyData.eqv, PyData.eqvAll, w_thnv, Bool.false_and] at h; cases h
    | an _ _ => simp only [Sm.d, PyData.eqv, PyData.eqvAll, w_than, Bool.false_and] at h; cases h
    | or _ _ => simp only [Sm.d, PyData.eqv, PyData.eqvAll, w_thor, Bool.false_and] at h; cases h
    | th b1 b2 =>
      simp only [Sm.d, PyData.eqv, PyData.eqvAll, Bool.and_true, beq_self_eq_true, Bool.true_and, Bool.and_eq_true] at h
      rw [h1 _ h.1, h2 _ h.2]
theorem eqv_inj {a b : Sm} (h : PyData.eqv a.d b.d = true) : a = b := eqv_inj0 a b h
theorem lk_of : ∀ {g : List Sm} {k : Nat} {a : Sm}, g.reverse[k]? = some a → ∃ f, Lk g k a f
  | [], k, a, h => by simp at h
  | b :: g, k, a, h => by
    rw [List.reverse_cons] at h
    by_cases e : k < g.length
    · rw [List.getElem?_append_left (by rw [List.length_reverse]; exact e)] at h
      obtain ⟨f, q⟩ := lk_of h
      exact ⟨_, .there q⟩
    · rw [List.getElem?_append_right (by rw [List.length_reverse]; omega), List.length_reverse] at h
      have e2 : k = g.length := by
        cases e3 : k - g.length with
        | zero => omega
        | succ z => rw [e3] at h; simp at h
      subst e2
      rw [Nat.sub_self] at h
      simp at h
      subst h
      exact ⟨_, .here⟩
theorem canLayAll_sm {n : Nat} : ∀ {as : List Sm}, (∀ a ∈ as, sOk n a) → PyData.canLayAll0 (as.map Sm.d) = true ∧ PyData.depthAll (as.map Sm.d) ≤ n
  | [], _ => by simp only [List.map_nil, PyData.canLayAll0, PyData.depthAll]; exact ⟨trivial, Nat.zero_le _⟩
  | a :: r, h => by
    obtain ⟨h1, h2⟩ := canLayAll_sm fun x hx => h x (List.mem_cons_of_mem _ hx)
    obtain ⟨h3, h4⟩ := h a (by simp)
    simp only [List.map_cons, PyData.canLayAll0, PyData.depthAll, h1, h3, Bool.and_self, depth_sm]
    exact ⟨trivial, by omega⟩
theorem shaped_sms {n : Nat} {as : List Sm} (h : ∀ a ∈ as, sOk n a) (l : n ≤ 60) : SeqAt.shaped (.list (as.map Sm.d)) = true := by
  obtain ⟨h1, h2⟩ := canLayAll_sm h
  unfold SeqAt.shaped
  simp only [PyData.canLay0, PyData.depth, h1, Bool.true_and]
  exact (decide_eq_true (by omega))
theorem shaped_nil : SeqAt.shaped (.list []) = true := by decide +kernel
theorem shaped_ints : ∀ ks : List Nat, SeqAt.shaped (.list (ks.map fun (k : Nat) => PyData.int (k : Nat))) = true := fun ks => by
  have e : ∀ ks : List Nat, PyData.canLayAll0 (ks.map fun (k : Nat) => PyData.int (k : Nat)) = true ∧ PyData.depthAll (ks.map fun (k : Nat) => PyData.int (k : Nat)) = 0 := fun ks => by
    induction ks with
    | nil => simp only [List.map_nil, PyData.canLayAll0, PyData.depthAll]; exact ⟨trivial, trivial⟩
    | cons k ks ih => simp only [List.map_cons, PyData.canLayAll0, PyData.depthAll, ih.1, ih.2, PyData.canLay0, PyData.depth, Bool.and_self]; exact ⟨trivial, rfl⟩
  unfold SeqAt.shaped
  simp only [PyData.canLay0, PyData.depth, (e ks).1, (e ks).2, Bool.true_and]
  rfl
theorem dt_ints {K : PySem.W.Frag} {H : Hp} : ∀ ks : List Nat, DtAll K H (ks.map fun (k : Nat) => V.int (k : Nat)) (ks.map fun (k : Nat) => PyData.int (k : Nat))
  | [] => .nil
  | _ :: r => .cons (.int _) (dt_ints r)
theorem first_at {p : PyData → Bool} : ∀ {ds : List PyData}, ds.any p = true → ∃ (j : Nat) (z : PyData), ds[j]? = some z ∧ p z = true ∧ ∀ (m : Nat) (z' : PyData), m < j → ds[m]? = some z' → p z' = false
  | [], h => by cases h
  | d :: ds, h => by
    cases e : p d with
    | true => exact ⟨0, d, rfl, e, fun m z' q => absurd q (Nat.not_lt_zero _)⟩
    | false =>
      rw [List.any_cons, e, Bool.false_or] at h
      obtain ⟨j, z, h1, h2, h3⟩ := first_at h
      refine ⟨j + 1, z, h1, h2, fun m z' q r => ?_⟩
      cases m with
      | zero => cases r; exact e
      | succ m => exact h3 m z' (by omega) r
/-! ### what the makers are handed, and give -/
def rD : Nat → Nat
  | 0 => 0
  | n + 1 => 2 * rD n + 1
def cM : Nat → Nat
  | 0 => 30
  | n + 1 => 2 * cM n + 30
def sz : Nat → Nat
  | 0 => 3
  | n + 1 => 3 * sz n + 6
structure Gv (K : PySem.W.Frag) (p abc gl : Addr) (ls g : List Sm) (G n : Nat) (H : Hp) : Prop where
  w : WAt H p n
  ga : ∃ lx, H abc = some (.lst lx) ∧ DtAll K H lx (ls.map Sm.d)
  gg : ∃ gx, H gl = some (.lst gx) ∧ DtAll K H gx (g.reverse.map Sm.d)
  na : abc ≠ p
  ng : gl ≠ p
  l1 : ∀ a ∈ ls, sOk 1 a
  l2 : ls.length ≤ 10
  g1 : ∀ a ∈ g, sOk G a
  g4 : 4 ≤ G
theorem Gv.next {K : PySem.W.Frag} {p abc gl : Addr} {ls g : List Sm} {G n m : Nat} {H H' : Hp} (h : Gv K p abc gl ls g G n H) (k : Kp [p] H H') (w : WAt H' p m) : Gv K p abc gl ls g G m H' := by
  obtain ⟨h1, ⟨lx, e1, d1⟩, ⟨gx, e2, d2⟩, n1, n2, q1, q2, q3, q4⟩ := h
  exact ⟨w, ⟨lx, k.get1 e1 n1, DtAll.mono (h1.tk k) d1⟩, ⟨gx, k.get1 e2 n2, DtAll.mono (h1.tk k) d2⟩, n1, n2, q1, q2, q3, q4⟩
theorem Gv.same {K : PySem.W.Frag} {p abc gl : Addr} {ls g : List Sm} {G n : Nat} {H H' : Hp} (h : Gv K p abc gl ls g G n H) (s : Same H H') : Gv K p abc gl ls g G n H' := h.next (s.kp _) (h.w.same s)
theorem Gv.grow {K : PySem.W.Frag} {p abc gl q : Addr} {ls g : List Sm} {G G' n : Nat} {H : Hp} {b : Sm} {gx : List V} (h : Gv K p abc gl ls g G n H) (l : G ≤ G') (hb : sOk G' b) (e : H q = some (.lst gx)) (r : DtAll K H gx ((b :: g).reverse.map Sm.d)) (nq : q ≠ p) : Gv K p abc q ls (b :: g) G' n H :=
  ⟨h.w, h.ga, ⟨gx, e, r⟩, h.na, nq, h.l1, h.l2, fun a ha => by
    rcases List.mem_cons.mp ha with z | z
    · rw [z]; exact hb
    · exact (h.g1 a z).up l, Nat.le_trans h.g4 l⟩
theorem Gv.rev {K : PySem.W.Frag} {p abc gl : Addr} {ls g : List Sm} {G n : Nat} {H : Hp} (h : Gv K p abc gl ls g G n H) : ∀ a ∈ g.reverse, sOk G a := fun a ha => h.g1 a (List.mem_reverse.mp ha)
def Res (K : PySem.W.Frag) (G s : Nat) (g : List Sm) (x : V) (H : Hp) : Prop := ∃ (pp : Pp) (a : Sm) (f : Env g → Ty a), Dt K H x (.tuple [pp.d, a.d]) ∧ Den g pp a f ∧ size pp ≤ s ∧ sOk G a
theorem Res.up {K : PySem.W.Frag} {G s G' s' : Nat} {g : List Sm} {x : V} {H : Hp} (h : Res K G s g x H) (l : G ≤ G') (m : s ≤ s') : Res K G' s' g x H := by
  obtain ⟨pp, a, f, h1, h2, h3, h4⟩ := h
  exact ⟨pp, a, f, h1, h2, Nat.le_trans h3 m, h4.up l⟩
theorem Dt.mk1 {K : PySem.W.Frag} {H : Hp} {t : Addr} {xs : List V} {ds : List PyData} (h : H t = none) (r : DtAll K H xs ds) : Dt K (upd H t (.tup xs)) (.ref t) (.tuple ds) := Dt.made upd_same (DtAll.mono (Tk.new h) r)
theorem Dt.at {K : PySem.W.Frag} {H : Hp} {v : V} {d : PyData} {t : Addr} {o : HO} (r : Dt K H v d) (h : H t = none) : Dt K (upd H t o) v d := Dt.mono (Tk.new h) r

section
variable {P : Program} {w : World} {K : PySem.W.Frag} {mg : Str → Option Value} {base : Heap} {f : Addr} {fd : FuncData}
def spApplied (K : PySem.W.Frag) : Sp := fun vs H Q _ => ∃ (p abc gl : Addr) (n G G' s : Nat) (ls g : List Sm) (vp va : V) (pp : Pp) (a : Sm) (h : Env g → Ty a), vs = [.ref p, .ref gl, vp, va] ∧ Gv K p abc gl ls g G n H ∧ n + 10 ≤ 900000 ∧ g.length ≤ 100 ∧
  Dt K H vp pp.d ∧ Dt K H va a.d ∧ Den g pp a h ∧ size pp ≤ s ∧ s ≤ 200 ∧ sOk G' a ∧ G ≤ G' ∧ G' ≤ 60 ∧ ∀ x H', Kp [p] H H' → WAt H' p (n + 2) → Res K G' (2 * s + 3) g x H' → Q x H'
abbrev NAp : List Str := ["_law_well_here", "_law_givens", "_law_p", "_law_a", "_law_many", "_law_some", "_law_k"]
theorem scAp : FnScope NAp ["_law_well_here", "_law_givens", "_law_p", "_law_a"] (defScope sApplied) := ⟨rfl, rfl, rfl, by decide +kernel, rfl, by decide +kernel, by decide +kernel⟩
theorem ok_applied (F : Fun K "_law_applied" "_law_applied" sApplied f fd) (ml : mg "len" = none) (mr : mg "range" = none) (cD : Cal P w K mg base 1 "_law_draw" ["_law_well_here", "_law_many"] spDraw) (cO : Cal P w K mg base 2 "_law_one" ["_law_well_here", "_law_some"] spOne)
    (cM : Cal P w K mg base (200 + 1) "_law_moved" ["_law_paper", "_law_at", "_law_by"] (spMoved K 200)) : FnOk P w K mg base CX0 202 f fd ["_law_well_here", "_law_givens", "_law_p", "_law_a"] (spApplied K) := by
  refine F.ok scAp (fun vs H Q E h => ?_) (fun cdv A outer s H vs Q E hr h => ?_)
  · obtain ⟨p, abc, gl, n, G, G', s, ls, g, vp, va, pp, a, h, rfl, _⟩ := h
    rfl
  · obtain ⟨p, abc, gl, n, G, G', s, ls, g, vp, va, pp, a, h, rfl, hG, hn, hg, hvp, hva, hd, hs, hs2, ha, hGG, hG6, k⟩ := h
    have hr1 : Room 1 _ := hr.mono (by omega)
    have hr2 : Room 2 _ := hr.mono (by omega)
    have hr3 : Room (200 + 1) _ := hr
    refine ⟨_, (pss_cons (ps_set (i := 4) scAp.nd rfl (Or.inl rfl) (pe_callB call_len_seq (by rfl) ml PySem.boot_len (pa_cons (pv 1) pa_nil))) (pss_cons (ps_setLc (i := 5) (own := [("_law_k", 6)]) (g := gName 6) (tt := _) rfl scAp.nd rfl rfl (sw_true rfl rfl rfl (by decide +kernel)) (pi_range1 rfl mr (pa_cons (pv 4) pa_nil)) (blkOk_by (own := [("_law_k", 6)]) (N := NAp) (sc := defScope sApplied) (by decide +kernel)) (fun _ _ _ _ _ => (pg_name (i := 6) scAp.nd rfl (Or.inl rfl))) (fun _ _ _ _ _ => pts_one (PW.pt (pw_and (pt_cmpR op_eq (pe_ix (show IxR _ (rIxT K) from ix_tup) (pe_ix (show IxR _ (rIxL K) from ix_list) (pv 1) (pv 6) (fun _ _ => rfl)) pe_int (fun _ _ => rfl)) pe_str (nomark _)) (pw_and1 (pt_cmpR (show OpR _ (compareOp .Eq) (rEqD K) from op_eqD hr.units) (pe_ix (show IxR _ (rIxT K) from ix_tup) (pe_ix (show IxR _ (rIxL K) from ix_list) (pv 1) (pv 6) (fun _ _ => rfl)) pe_int (fun _ _ => rfl)) (pv 3) (nomark _)))))) (fun _ _ _ _ _ => (pv 6))) (pss_cons (ps_if (PW.pt (pw_and (pt_cmpR (op_neD hr.units) (pv 5) (pe_lst pa_nil) (nomark _)) (pw_and1 (pt_cmpR op_gt (pe_cal cD hr1 rfl (pa_cons (pv 0) (pa_cons pe_int pa_nil))) pe_int (nomark _))))) (pss_cons (ps_set (i := 6) scAp.nd rfl (Or.inl rfl) (pe_cal cO hr2 rfl (pa_cons (pv 0) (pa_cons (pv 5) pa_nil)))) (pss_one (ps_ret (pe_tup (pa_cons (pe_tup (pa_cons pe_str (pa_cons (pe_tup (pa_cons pe_str (pa_cons (pv 6) pa_nil))) (pa_cons (pv 2) pa_nil)))) (pa_cons (pe_ix ix_tup (pe_ix ix_list (pv 1) (pv 6) (fun _ _ => rfl)) pe_int (fun _ _ => rfl)) pa_nil)))))) pss_nil) (pss_cons (ps_if (pt_cmpR op_ne (pe_ix ix_tup (pv 3) pe_int (fun _ _ => rfl)) pe_str (nomark _)) (pss_one (ps_ret (pe_tup (pa_cons (pe_tup (pa_cons pe_str (pa_cons (pe_tup (pa_cons pe_str (pa_cons (pv 2) (pa_cons (pv 2) pa_nil)))) pa_nil))) (pa_cons (pv 3) pa_nil))))) pss_nil) (pss_cons (ps_if (pt_cmpR (op_inD (u65 hr)) (pe_ix ix_tup (pv 3) pe_int (fun _ _ => rfl)) (pv 1) (by rfl)) (pss_one (ps_ret (pe_tup (pa_cons (pe_tup (pa_cons pe_str (pa_cons (pv 2) (pa_cons (pe_tup (pa_cons pe_str (pa_cons (pe_bm PySem.F.plainAttrs_list PySem.F.slot_list_index PySem.F.type_list_index (mt_indexD (u65 hr)) (pv 1) (pa_cons (pe_ix ix_tup (pv 3) pe_int (fun _ _ => rfl)) pa_nil)) pa_nil))) pa_nil)))) (pa_cons (pe_ix ix_tup (pv 3) pe_int (fun _ _ => rfl)) pa_nil))))) pss_nil) (pss_cons (ps_if (PW.pt (pw_and (pt_cmpR op_eq (pe_ix ix_tup (pe_ix ix_tup (pv 3) pe_int (fun _ _ => rfl)) pe_int (fun _ _ => rfl)) pe_str (nomark _)) (pw_and1 (pt_cmpR (op_eqD hr.units) (pe_ix ix_tup (pe_ix ix_tup (pv 3) pe_int (fun _ _ => rfl)) pe_int (fun _ _ => rfl)) (pe_ix ix_tup (pe_ix ix_tup (pv 3) pe_int (fun _ _ => rfl)) pe_int (fun _ _ => rfl)) (nomark _))))) (pss_one (ps_ret (pe_tup (pa_cons (pe_tup (pa_cons pe_str (pa_cons (pv 2) (pa_cons (pe_tup (pa_cons pe_str (pa_cons (pe_ix ix_tup (pe_ix ix_tup (pv 3) pe_int (fun _ _ => rfl)) pe_int (fun _ _ => rfl)) (pa_cons (pe_tup (pa_cons pe_str (pa_cons (pv 4) pa_nil))) pa_nil)))) pa_nil)))) (pa_cons (pe_ix ix_tup (pv 3) pe_int (fun _ _ => rfl)) pa_nil))))) pss_nil) (pss_one (ps_ret (pe_tup (pa_cons (pe_tup (pa_cons pe_str (pa_cons (pe_ix ix_tup (pv 3) pe_int (fun _ _ => rfl)) (pa_cons (pe_tup (pa_cons pe_str (pa_cons (pe_cal cM hr3 rfl (pa_cons (pv 2) (pa_cons (pv 4) (pa_cons pe_int pa_nil)))) (pa_cons (pe_tup (pa_cons pe_str (pa_cons (pv 4) pa_nil))) pa_nil)))) pa_nil)))) (pa_cons (pv 3) pa_nil))))))))))), ?_⟩
    obtain ⟨gx, eg, dg⟩ := hG.gg
    have hgl : gx.length = g.length := by rw [dg.len, List.length_map, List.length_reverse]
    obtain ⟨av, ax, rfl, hA, wA⟩ := hva.stat
    have sa : SeqAt.shaped a.d = true := shaped_sm ha (by omega)
    refine ⟨_, rfl, gl, gx, rfl, .inl (SqL.of eg), _, rfl, _, rfl, ?_⟩
    refine ⟨(by show -(2 ^ 62) ≤ ((gx.length : Nat) : Int); omega), (by show ((gx.length : Nat) : Int) < 2 ^ 62; omega), fun D hD => ?_⟩
    have nDg : gl ≠ D := ne_of_none eg hD
    have en : ((gx.length : Nat) : Int).toNat = gx.length := by omega
    refine lc_range (lo := 0) (n := ((gx.length : Nat) : Int).toNat) (fun i H2 => ∃ ks : List Nat, Same H H2 ∧ H2 D = some (.lst (ks.map fun (k : Nat) => V.int (k : Nat))) ∧ ks.length ≤ i ∧ ∀ k ∈ ks, ∃ c, g.reverse[k]? = some (.th a c))
      ⟨[], Same.new hD, upd_same, Nat.le_refl _, (fun _ h => by cases h)⟩ ?_ ?_
    · rintro i H2 hi ⟨ks, s2, e2, l2, q2⟩
      have hi2 : i < gx.length := by rw [en] at hi; exact hi
      obtain ⟨vi, ei⟩ : ∃ vi, gx[i]? = some vi := ⟨_, List.getElem?_eq_getElem hi2⟩
      obtain ⟨di, edi, ri⟩ := (DtAll.mono s2.tk dg).get' ei
      obtain ⟨b, eb, rfl⟩ : ∃ b, g.reverse[i]? = some b ∧ b.d = di := by
        rw [List.getElem?_map] at edi
        exact Option.map_eq_some_iff.mp edi
      obtain ⟨bv, bx, rfl, hB, wB⟩ := ri.stat
      have e0 : (0 : Int) + (i : Nat) = (i : Nat) := by omega
      have hgl2 : SqL K H2 gl gx := SqL.of (s2 _ _ eg)
      refine ⟨rfl, ?_⟩
      refine ⟨_, rfl, _, rfl, gl, gx, _, _, rfl, rfl, hgl2, (by rw [e0]; exact atI_nat ei), bv, bx, 0, _, rfl, rfl, hB, at0 wB, rfl, _, rfl, ?_⟩
      refine iteB b.dThen (fun c => ?_) (fun c => ?_)
      · cases b with
        | th b1 b2 =>
          simp only [Sm.d] at ri
          obtain ⟨_, _, e, hB', dB⟩ := ri.inv
          cases e
          obtain ⟨y0, y1, y2, rfl, _, r1, r2⟩ := dB.c3
          have ob := (hG.rev _ (List.mem_of_getElem? eb)).parts.1
          refine ⟨_, rfl, _, rfl, gl, gx, _, _, rfl, rfl, hgl2, (by rw [e0]; exact atI_nat ei), bv, _, 1, _, rfl, rfl, hB', at1 rfl, _, rfl, b1.d, a.d, r1.dp, Dt.dp (Dt.mono s2.tk hva), shaped_sm ob (by omega), sa, _, rfl, ite2 (fun c2 => ?_) (fun c2 => ?_)⟩
          · have e3 : b1 = a := eqv_inj c2
            subst e3
            refine ⟨_, rfl, _, e2, (by rw [List.length_map]; exact small100 (by omega)), ks ++ [i], s2.upd_old hD, ?_, (by rw [List.length_append]; show ks.length + 1 ≤ i + 1; omega), fun k hk => ?_⟩
            · rw [upd_same, List.map_append, e0]
              rfl
            · rcases List.mem_append.mp hk with z | z
              · exact q2 k z
              · rw [(List.mem_singleton.mp z)]
                exact ⟨_, eb⟩
          · exact ⟨ks, s2, e2, Nat.le_succ_of_le l2, q2⟩
        | _ => cases c
      · refine iteF ?_
        exact ⟨ks, s2, e2, Nat.le_succ_of_le l2, q2⟩
    · rintro H2 ⟨ks, s2, e2, l2, q2⟩
      rw [en] at l2
      have G2 := hG.same s2
      have nDp : D ≠ p := fun z => by
        obtain ⟨_, _, _, e, _⟩ := hG.w
        rw [← z, hD] at e
        cases e
      have eg2 : H2 gl = some (.lst gx) := s2 _ _ eg
      have dg2 := DtAll.mono s2.tk dg
      have hvp2 := Dt.mono s2.tk hvp
      have hva2 := Dt.mono s2.tk hva
      have k2 : Kp [p] H H2 := s2.kp _
      refine ⟨_, rfl, (by show 0 ≤ sizeLine; decide), fun b hb => ?_⟩
      have sb : Same H2 (upd H2 b (.lst [])) := Same.new hb
      refine ⟨_, _, Dp.lst (SqL.of (sb _ _ e2)) (dt_ints ks).dp, Dp.lst (SqL.of upd_same) .nil, shaped_ints ks, shaped_nil, _, rfl, ?_⟩
      rw [eqv_nil]
      have G3 := G2.same sb
      have e3 := sb _ _ e2
      have eg3 := sb _ _ eg2
      have dg3 := DtAll.mono sb.tk dg2
      have hvp3 := Dt.mono sb.tk hvp2
      have hva3 := Dt.mono sb.tk hva2
      have k3 : Kp [p] H _ := k2.trans (sb.kp _)
      generalize upd H2 b (HO.lst []) = H3 at G3 e3 eg3 dg3 hvp3 hva3 k3 ⊢
      refine ite2 (fun c0 => ?_) (fun c0 => ?_)
      · have hks : 0 < ks.length := by
          cases ks with
          | nil => cases c0
          | cons _ _ => exact Nat.succ_pos _
        refine ⟨_, rfl, p, n, 3, rfl, G3.w, by omega, by decide, by decide, fun r H4 hr4 kd w4 => ?_⟩
        have G4 := G3.next kd w4
        have k4 := k3.trans kd
        have e4 := kd.get1 e3 nDp
        have eg4 := kd.get1 eg3 hG.ng
        have dg4 := DtAll.mono (G3.w.tk kd) dg3
        have hvp4 := Dt.mono (G3.w.tk kd) hvp3
        have hva4 := Dt.mono (G3.w.tk kd) hva3
        refine ⟨_, _, rfl, rfl, _, rfl, ite2 (fun c1 => ?_) (fun c1 => ?_)⟩
        · refine ⟨_, rfl, _, rfl, p, D, n + 1, _, rfl, w4, by omega, e4, nDp, (by rw [List.length_map]; exact hks), (by rw [List.length_map]; omega), fun i x H5 ex k5 w5 => ?_⟩
          obtain ⟨kk, ek, rfl⟩ : ∃ kk, ks[i]? = some kk ∧ V.int (kk : Nat) = x := by
            rw [List.getElem?_map] at ex
            exact Option.map_eq_some_iff.mp ex
          obtain ⟨c, ec⟩ := q2 kk (List.mem_of_getElem? ek)
          obtain ⟨fl, lk⟩ := lk_of ec
          have G5 := G4.next k5 w5
          have eg5 := k5.get1 eg4 hG.ng
          have dg5 := DtAll.mono (G4.w.tk k5) dg4
          have hvp5 := Dt.mono (G4.w.tk k5) hvp4
          obtain ⟨vb, evb, rb⟩ := dg5.get (i := kk) (d := (Sm.th a c).d) (by rw [List.getElem?_map, ec]; rfl)
          simp only [Sm.d] at rb
          obtain ⟨bv, _, rfl, hB, dB⟩ := rb.inv
          obtain ⟨y0, y1, y2, rfl, _, r1, r2⟩ := dB.c3
          refine ⟨_, rfl, (by show 2 ≤ sizeLine; decide), fun t1 h1 => ⟨_, rfl, (by show 3 ≤ sizeLine; decide), fun t2 h2 => ⟨_, rfl, _, rfl, gl, gx, _, _, rfl, rfl, SqL.of ((Same.new h2) _ _ ((Same.new h1) _ _ eg5)), atI_nat evb, bv, _, 2, _, rfl, rfl, ((Tk.new h1).trans (Tk.new h2)).seqT hB, at2 rfl, (by show 2 ≤ sizeLine; decide), fun t3 h3 => ?_⟩⟩⟩
          have d1 := Dt.mk1 h1 (.cons (Dt.str (K := K) "use") (.cons (.int (kk : Nat)) .nil))
          have d2 := Dt.mk1 h2 (.cons (.str "apply") (.cons d1 (.cons (hvp5.at h1) .nil)))
          have d3 := Dt.mk1 h3 (.cons d2 (.cons ((r2.at h1).at h2) .nil))
          have oc : sOk G c := (hG.rev _ (List.mem_of_getElem? ec)).parts.2
          refine k _ _ ((((k4.trans k5).trans (Kp.new h1)).trans (Kp.new h2)).trans (Kp.new h3)) ((((G5.w.same (Same.new h1)).same (Same.new h2)).same (Same.new h3)).up (by omega)) ⟨.apply (.use kk) pp, c, _, ?_, .apply (.use lk) hd, (by simp only [size]; omega), oc.up hGG⟩
          simp only [Pp.d]
          exact d3
        · have G4 := G4
          have T4 : Tk H H4 := hG.w.tk k4
          refine ⟨_, rfl, av, ax, 0, _, rfl, rfl, T4.seqT hA, at0 wA, rfl, _, rfl, ?_⟩
          rw [a.dThen]
          refine ite2 (fun c => ?_) (fun c => ?_)
          · refine ⟨_, rfl, _, rfl, (by show 3 ≤ sizeLine; decide), fun t1 h1 => ⟨(by show 2 ≤ sizeLine; decide), fun t2 h2 => ⟨_, rfl, (by show 2 ≤ sizeLine; decide), fun t3 h3 => ?_⟩⟩⟩
            have d1 := Dt.mk1 h1 (.cons (.str "pair") (.cons hvp4 (.cons hvp4 .nil)))
            have d2 := Dt.mk1 h2 (.cons (.str "first") (.cons d1 .nil))
            have d3 := Dt.mk1 h3 (.cons d2 (.cons ((hva4.at h1).at h2) .nil))
            refine k _ _ (((k4.trans (Kp.new h1)).trans (Kp.new h2)).trans (Kp.new h3)) ((((G4.w.same (Same.new h1)).same (Same.new h2)).same (Same.new h3)).up (by omega)) ⟨.first (.pair pp pp), a, _, ?_, .first (.pair hd hd), (by simp only [size]; omega), ha⟩
            simp only [Pp.d]
            exact d3
          · cases a with
            | th a1 a2 =>
              have hva' := hva
              simp only [Sm.d] at hva'
              obtain ⟨_, _, e, hA', dA⟩ := hva'.inv
              cases e
              obtain ⟨y0, y1, y2, rfl, _, r1, r2⟩ := dA.c3
              have oa := ha.parts
              have o1 : sOk G' a1 := oa.1
              have o2 : sOk G' a2 := oa.2
              have s1 : SeqAt.shaped a1.d = true := shaped_sm o1 (by omega)
              have dl : Dp K H4 (.ref gl) (.list (g.reverse.map Sm.d)) := Dp.lst (SqL.of eg4) dg4.dp
              have sl : SeqAt.shaped (.list (g.reverse.map Sm.d)) = true := shaped_sms hG.rev (by omega)
              refine ⟨_, rfl, av, _, 1, _, rfl, rfl, T4.seqT hA', at1 rfl, _, rfl, a1.d, _, Dt.dp (Dt.mono T4 r1), dl, s1, sl, _, rfl, ite2 (fun c3 => ?_) (fun c3 => ?_)⟩
              · obtain ⟨j, z, ez, hz, hmin⟩ := first_at c3
                obtain ⟨b, eb, rfl⟩ : ∃ b, g.reverse[j]? = some b ∧ b.d = z := by
                  rw [List.getElem?_map] at ez
                  exact Option.map_eq_some_iff.mp ez
                have eb1 : b = a1 := eqv_inj hz
                subst eb1
                obtain ⟨fl, lk⟩ := lk_of eb
                refine ⟨_, rfl, _, rfl, .inl ⟨rfl, _, SqL.of eg4⟩, _, rfl, av, _, 1, _, rfl, rfl, T4.seqT hA', at1 rfl, gl, y1, b.d, _, j, b.d, rfl, rfl, dl, Dt.dp (Dt.mono T4 r1), sl, s1, ez, hz, hmin, ?_⟩
                refine ⟨(by show 2 ≤ sizeLine; decide), fun t1 h1 => ⟨(by show 3 ≤ sizeLine; decide), fun t2 h2 => ⟨_, rfl, av, _, 2, _, rfl, rfl, ((T4.trans (Tk.new h1)).trans (Tk.new h2)).seqT hA', at2 rfl, (by show 2 ≤ sizeLine; decide), fun t3 h3 => ?_⟩⟩⟩
                have d1 := Dt.mk1 h1 (.cons (Dt.str (K := K) "use") (.cons (.int (j : Nat)) .nil))
                have d2 := Dt.mk1 h2 (.cons (.str "apply") (.cons (hvp4.at h1) (.cons d1 .nil)))
                have d3 := Dt.mk1 h3 (.cons d2 (.cons ((Dt.mono T4 r2).at h1 |>.at h2) .nil))
                refine k _ _ (((k4.trans (Kp.new h1)).trans (Kp.new h2)).trans (Kp.new h3)) ((((G4.w.same (Same.new h1)).same (Same.new h2)).same (Same.new h3)).up (by omega)) ⟨.apply pp (.use j), a2, _, ?_, .apply hd (.use lk), (by simp only [size]; omega), o2⟩
                simp only [Pp.d]
                exact d3
              · obtain ⟨bv, bx, rfl, hB, wB⟩ := r1.stat
                refine ⟨_, rfl, av, _, 1, _, rfl, rfl, T4.seqT hA', at1 rfl, bv, bx, 0, _, rfl, rfl, T4.seqT hB, at0 wB, rfl, _, rfl, ?_⟩
                refine iteB a1.dThen (fun c4 => ?_) (fun c4 => ?_)
                · cases a1 with
                  | th u1 u2 =>
                    have r1' := r1
                    simp only [Sm.d] at r1'
                    obtain ⟨_, _, e, hB', dB⟩ := r1'.inv
                    cases e
                    obtain ⟨z0, z1, z2, rfl, _, q1, q2⟩ := dB.c3
                    have ou := o1.parts
                    have ou1 : sOk G' u1 := ou.1
                    have ou2 : sOk G' u2 := ou.2
                    refine ⟨_, rfl, av, _, 1, _, rfl, rfl, T4.seqT hA', at1 rfl, bv, _, 1, _, rfl, rfl, T4.seqT hB', at1 rfl, _, rfl, av, _, 1, _, rfl, rfl, T4.seqT hA', at1 rfl, bv, _, 2, _, rfl, rfl, T4.seqT hB', at2 rfl, ?_⟩
                    refine ⟨u1.d, u2.d, Dt.dp (Dt.mono T4 q1), Dt.dp (Dt.mono T4 q2), shaped_sm ou1 (by omega), shaped_sm ou2 (by omega), _, rfl, ite2 (fun c5 => ?_) (fun c5 => ?_)⟩
                    · have eu : u1 = u2 := eqv_inj c5
                      subst eu
                      refine ⟨_, rfl, _, rfl, av, _, 1, _, rfl, rfl, T4.seqT hA', at1 rfl, bv, _, 1, _, rfl, rfl, T4.seqT hB', at1 rfl, _, rfl, (by show 2 ≤ sizeLine; decide), fun t1 h1 => ⟨(by show 3 ≤ sizeLine; decide), fun t2 h2 => ⟨(by show 3 ≤ sizeLine; decide), fun t3 h3 => ⟨_, rfl, av, _, 2, _, rfl, rfl, (((T4.trans (Tk.new h1)).trans (Tk.new h2)).trans (Tk.new h3)).seqT hA', at2 rfl, (by show 2 ≤ sizeLine; decide), fun t4 h4 => ?_⟩⟩⟩⟩
                      have d1 := Dt.mk1 h1 (.cons (Dt.str (K := K) "use") (.cons (.int (gx.length : Nat)) .nil))
                      have d2 := Dt.mk1 h2 (.cons (.str "make") (.cons ((Dt.mono T4 q1).at h1) (.cons d1 .nil)))
                      have d3 := Dt.mk1 h3 (.cons (.str "apply") (.cons ((hvp4.at h1).at h2) (.cons d2 .nil)))
                      have d4 := Dt.mk1 h4 (.cons d3 (.cons (((Dt.mono T4 r2).at h1 |>.at h2).at h3) .nil))
                      refine k _ _ ((((k4.trans (Kp.new h1)).trans (Kp.new h2)).trans (Kp.new h3)).trans (Kp.new h4)) (((((G4.w.same (Same.new h1)).same (Same.new h2)).same (Same.new h3)).same (Same.new h4)).up (by omega)) ⟨.apply pp (.make u1 (.use g.length)), a2, _, ?_, .apply hd (.make (.use .here)), (by simp only [size]; omega), o2⟩
                      simp only [Pp.d]
                      rw [hgl] at d4
                      rw [hgl]
                      exact d4
                    · skip
                      refine ⟨_, rfl, av, _, 1, _, rfl, rfl, T4.seqT hA', at1 rfl, _, rfl, _, rfl, vp, pp, g.length, 1, (by rw [hgl]; rfl), hvp4, (by have := deep_size pp; omega), fun v6 H6 s6 r6 => ?_⟩
                      have G6 := G4.same s6
                      have T6 := T4.trans s6.tk
                      refine ⟨_, rfl, (by show 2 ≤ sizeLine; decide), fun t1 h1 => ⟨(by show 3 ≤ sizeLine; decide), fun t2 h2 => ⟨(by show 3 ≤ sizeLine; decide), fun t3 h3 => ⟨_, rfl, (by show 2 ≤ sizeLine; decide), fun t4 h4 => ?_⟩⟩⟩⟩
                      have d1 := Dt.mk1 h1 (.cons (Dt.str (K := K) "use") (.cons (.int (gx.length : Nat)) .nil))
                      have d2 := Dt.mk1 h2 (.cons (.str "apply") (.cons (r6.at h1) (.cons d1 .nil)))
                      have d3 := Dt.mk1 h3 (.cons (.str "make") (.cons ((Dt.mono T6 r1).at h1 |>.at h2) (.cons d2 .nil)))
                      have d4 := Dt.mk1 h4 (.cons d3 (.cons (((Dt.mono T6 hva).at h1 |>.at h2).at h3) .nil))
                      refine k _ _ (((((k4.trans (s6.kp _)).trans (Kp.new h1)).trans (Kp.new h2)).trans (Kp.new h3)).trans (Kp.new h4)) (((((G6.w.same (Same.new h1)).same (Same.new h2)).same (Same.new h3)).same (Same.new h4)).up (by omega)) ⟨.make (.th u1 u2) (.apply (moved pp g.length 1) (.use g.length)), .th (.th u1 u2) a2, _, ?_, .make (.apply (den_weak hd) (.use .here)), (by simp only [size, size_moved]; omega), ha⟩
                      simp only [Pp.d]
                      rw [hgl] at d4
                      rw [hgl]
                      exact d4
                  | _ => cases c4
                · refine iteF ?_
                  refine ⟨_, rfl, av, _, 1, _, rfl, rfl, T4.seqT hA', at1 rfl, _, rfl, _, rfl, vp, pp, g.length, 1, (by rw [hgl]; rfl), hvp4, (by have := deep_size pp; omega), fun v6 H6 s6 r6 => ?_⟩
                  have G6 := G4.same s6
                  have T6 := T4.trans s6.tk
                  refine ⟨_, rfl, (by show 2 ≤ sizeLine; decide), fun t1 h1 => ⟨(by show 3 ≤ sizeLine; decide), fun t2 h2 => ⟨(by show 3 ≤ sizeLine; decide), fun t3 h3 => ⟨_, rfl, (by show 2 ≤ sizeLine; decide), fun t4 h4 => ?_⟩⟩⟩⟩
                  have d1 := Dt.mk1 h1 (.cons (Dt.str (K := K) "use") (.cons (.int (gx.length : Nat)) .nil))
                  have d2 := Dt.mk1 h2 (.cons (.str "apply") (.cons (r6.at h1) (.cons d1 .nil)))
                  have d3 := Dt.mk1 h3 (.cons (.str "make") (.cons ((Dt.mono T6 r1).at h1 |>.at h2) (.cons d2 .nil)))
                  have d4 := Dt.mk1 h4 (.cons d3 (.cons (((Dt.mono T6 hva).at h1 |>.at h2).at h3) .nil))
                  refine k _ _ (((((k4.trans (s6.kp _)).trans (Kp.new h1)).trans (Kp.new h2)).trans (Kp.new h3)).trans (Kp.new h4)) (((((G6.w.same (Same.new h1)).same (Same.new h2)).same (Same.new h3)).same (Same.new h4)).up (by omega)) ⟨.make a1 (.apply (moved pp g.length 1) (.use g.length)), .th a1 a2, _, ?_, .make (.apply (den_weak hd) (.use .here)), (by simp only [size, size_moved]; omega), ha⟩
                  simp only [Pp.d]
                  rw [hgl] at d4
                  rw [hgl]
                  exact d4
            | _ => exact absurd rfl c
      · refine iteF ?_
        have T3 : Tk H H3 := hG.w.tk k3
        refine ⟨_, rfl, av, ax, 0, _, rfl, rfl, T3.seqT hA, at0 wA, rfl, _, rfl, ?_⟩
        rw [a.dThen]
        refine ite2 (fun c => ?_) (fun c => ?_)
        · refine ⟨_, rfl, _, rfl, (by show 3 ≤ sizeLine; decide), fun t1 h1 => ⟨(by show 2 ≤ sizeLine; decide), fun t2 h2 => ⟨_, rfl, (by show 2 ≤ sizeLine; decide), fun t3 h3 => ?_⟩⟩⟩
          have d1 := Dt.mk1 h1 (.cons (.str "pair") (.cons hvp3 (.cons hvp3 .nil)))
          have d2 := Dt.mk1 h2 (.cons (.str "first") (.cons d1 .nil))
          have d3 := Dt.mk1 h3 (.cons d2 (.cons ((hva3.at h1).at h2) .nil))
          refine k _ _ (((k3.trans (Kp.new h1)).trans (Kp.new h2)).trans (Kp.new h3)) ((((G3.w.same (Same.new h1)).same (Same.new h2)).same (Same.new h3)).up (by omega)) ⟨.first (.pair pp pp), a, _, ?_, .first (.pair hd hd), (by simp only [size]; omega), ha⟩
          simp only [Pp.d]
          exact d3
        · cases a with
          | th a1 a2 =>
            have hva' := hva
            simp only [Sm.d] at hva'
            obtain ⟨_, _, e, hA', dA⟩ := hva'.inv
            cases e
            obtain ⟨y0, y1, y2, rfl, _, r1, r2⟩ := dA.c3
            have oa := ha.parts
            have o1 : sOk G' a1 := oa.1
            have o2 : sOk G' a2 := oa.2
            have s1 : SeqAt.shaped a1.d = true := shaped_sm o1 (by omega)
            have dl : Dp K H3 (.ref gl) (.list (g.reverse.map Sm.d)) := Dp.lst (SqL.of eg3) dg3.dp
            have sl : SeqAt.shaped (.list (g.reverse.map Sm.d)) = true := shaped_sms hG.rev (by omega)
            refine ⟨_, rfl, av, _, 1, _, rfl, rfl, T3.seqT hA', at1 rfl, _, rfl, a1.d, _, Dt.dp (Dt.mono T3 r1), dl, s1, sl, _, rfl, ite2 (fun c3 => ?_) (fun c3 => ?_)⟩
            · obtain ⟨j, z, ez, hz, hmin⟩ := first_at c3
              obtain ⟨b, eb, rfl⟩ : ∃ b, g.reverse[j]? = some b ∧ b.d = z := by
                rw [List.getElem?_map] at ez
                exact Option.map_eq_some_iff.mp ez
              have eb1 : b = a1 := eqv_inj hz
              subst eb1
              obtain ⟨fl, lk⟩ := lk_of eb
              refine ⟨_, rfl, _, rfl, .inl ⟨rfl, _, SqL.of eg3⟩, _, rfl, av, _, 1, _, rfl, rfl, T3.seqT hA', at1 rfl, gl, y1, b.d, _, j, b.d, rfl, rfl, dl, Dt.dp (Dt.mono T3 r1), sl, s1, ez, hz, hmin, ?_⟩
              refine ⟨(by show 2 ≤ sizeLine; decide), fun t1 h1 => ⟨(by show 3 ≤ sizeLine; decide), fun t2 h2 => ⟨_, rfl, av, _, 2, _, rfl, rfl, ((T3.trans (Tk.new h1)).trans (Tk.new h2)).seqT hA', at2 rfl, (by show 2 ≤ sizeLine; decide), fun t3 h3 => ?_⟩⟩⟩
              have d1 := Dt.mk1 h1 (.cons (Dt.str (K := K) "use") (.cons (.int (j : Nat)) .nil))
              have d2 := Dt.mk1 h2 (.cons (.str "apply") (.cons (hvp3.at h1) (.cons d1 .nil)))
              have d3 := Dt.mk1 h3 (.cons d2 (.cons ((Dt.mono T3 r2).at h1 |>.at h2) .nil))
              refine k _ _ (((k3.trans (Kp.new h1)).trans (Kp.new h2)).trans (Kp.new h3)) ((((G3.w.same (Same.new h1)).same (Same.new h2)).same (Same.new h3)).up (by omega)) ⟨.apply pp (.use j), a2, _, ?_, .apply hd (.use lk), (by simp only [size]; omega), o2⟩
              simp only [Pp.d]
              exact d3
            · obtain ⟨bv, bx, rfl, hB, wB⟩ := r1.stat
              refine ⟨_, rfl, av, _, 1, _, rfl, rfl, T3.seqT hA', at1 rfl, bv, bx, 0, _, rfl, rfl, T3.seqT hB, at0 wB, rfl, _, rfl, ?_⟩
              refine iteB a1.dThen (fun c4 => ?_) (fun c4 => ?_)
              · cases a1 with
                | th u1 u2 =>
                  have r1' := r1
                  simp only [Sm.d] at r1'
                  obtain ⟨_, _, e, hB', dB⟩ := r1'.inv
                  cases e
                  obtain ⟨z0, z1, z2, rfl, _, q1, q2⟩ := dB.c3
                  have ou := o1.parts
                  have ou1 : sOk G' u1 := ou.1
                  have ou2 : sOk G' u2 := ou.2
                  refine ⟨_, rfl, av, _, 1, _, rfl, rfl, T3.seqT hA', at1 rfl, bv, _, 1, _, rfl, rfl, T3.seqT hB', at1 rfl, _, rfl, av, _, 1, _, rfl, rfl, T3.seqT hA', at1 rfl, bv, _, 2, _, rfl, rfl, T3.seqT hB', at2 rfl, ?_⟩
                  refine ⟨u1.d, u2.d, Dt.dp (Dt.mono T3 q1), Dt.dp (Dt.mono T3 q2), shaped_sm ou1 (by omega), shaped_sm ou2 (by omega), _, rfl, ite2 (fun c5 => ?_) (fun c5 => ?_)⟩
                  · have eu : u1 = u2 := eqv_inj c5
                    subst eu
                    refine ⟨_, rfl, _, rfl, av, _, 1, _, rfl, rfl, T3.seqT hA', at1 rfl, bv, _, 1, _, rfl, rfl, T3.seqT hB', at1 rfl, _, rfl, (by show 2 ≤ sizeLine; decide), fun t1 h1 => ⟨(by show 3 ≤ sizeLine; decide), fun t2 h2 => ⟨(by show 3 ≤ sizeLine; decide), fun t3 h3 => ⟨_, rfl, av, _, 2, _, rfl, rfl, (((T3.trans (Tk.new h1)).trans (Tk.new h2)).trans (Tk.new h3)).seqT hA', at2 rfl, (by show 2 ≤ sizeLine; decide), fun t4 h4 => ?_⟩⟩⟩⟩
                    have d1 := Dt.mk1 h1 (.cons (Dt.str (K := K) "use") (.cons (.int (gx.length : Nat)) .nil))
                    have d2 := Dt.mk1 h2 (.cons (.str "make") (.cons ((Dt.mono T3 q1).at h1) (.cons d1 .nil)))
                    have d3 := Dt.mk1 h3 (.cons (.str "apply") (.cons ((hvp3.at h1).at h2) (.cons d2 .nil)))
                    have d4 := Dt.mk1 h4 (.cons d3 (.cons (((Dt.mono T3 r2).at h1 |>.at h2).at h3) .nil))
                    refine k _ _ ((((k3.trans (Kp.new h1)).trans (Kp.new h2)).trans (Kp.new h3)).trans (Kp.new h4)) (((((G3.w.same (Same.new h1)).same (Same.new h2)).same (Same.new h3)).same (Same.new h4)).up (by omega)) ⟨.apply pp (.make u1 (.use g.length)), a2, _, ?_, .apply hd (.make (.use .here)), (by simp only [size]; omega), o2⟩
                    simp only [Pp.d]
                    rw [hgl] at d4
                    rw [hgl]
                    exact d4
                  · skip
                    refine ⟨_, rfl, av, _, 1, _, rfl, rfl, T3.seqT hA', at1 rfl, _, rfl, _, rfl, vp, pp, g.length, 1, (by rw [hgl]; rfl), hvp3, (by have := deep_size pp; omega), fun v6 H6 s6 r6 => ?_⟩
                    have G6 := G3.same s6
                    have T6 := T3.trans s6.tk
                    refine ⟨_, rfl, (by show 2 ≤ sizeLine; decide), fun t1 h1 => ⟨(by show 3 ≤ sizeLine; decide), fun t2 h2 => ⟨(by show 3 ≤ sizeLine; decide), fun t3 h3 => ⟨_, rfl, (by show 2 ≤ sizeLine; decide), fun t4 h4 => ?_⟩⟩⟩⟩
                    have d1 := Dt.mk1 h1 (.cons (Dt.str (K := K) "use") (.cons (.int (gx.length : Nat)) .nil))
                    have d2 := Dt.mk1 h2 (.cons (.str "apply") (.cons (r6.at h1) (.cons d1 .nil)))
                    have d3 := Dt.mk1 h3 (.cons (.str "make") (.cons ((Dt.mono T6 r1).at h1 |>.at h2) (.cons d2 .nil)))
                    have d4 := Dt.mk1 h4 (.cons d3 (.cons (((Dt.mono T6 hva).at h1 |>.at h2).at h3) .nil))
                    refine k _ _ (((((k3.trans (s6.kp _)).trans (Kp.new h1)).trans (Kp.new h2)).trans (Kp.new h3)).trans (Kp.new h4)) (((((G6.w.same (Same.new h1)).same (Same.new h2)).same (Same.new h3)).same (Same.new h4)).up (by omega)) ⟨.make (.th u1 u2) (.apply (moved pp g.length 1) (.use g.length)), .th (.th u1 u2) a2, _, ?_, .make (.apply (den_weak hd) (.use .here)), (by simp only [size, size_moved]; omega), ha⟩
                    simp only [Pp.d]
                    rw [hgl] at d4
                    rw [hgl]
                    exact d4
                | _ => cases c4
              · refine iteF ?_
                refine ⟨_, rfl, av, _, 1, _, rfl, rfl, T3.seqT hA', at1 rfl, _, rfl, _, rfl, vp, pp, g.length, 1, (by rw [hgl]; rfl), hvp3, (by have := deep_size pp; omega), fun v6 H6 s6 r6 => ?_⟩
                have G6 := G3.same s6
                have T6 := T3.trans s6.tk
                refine ⟨_, rfl, (by show 2 ≤ sizeLine; decide), fun t1 h1 => ⟨(by show 3 ≤ sizeLine; decide), fun t2 h2 => ⟨(by show 3 ≤ sizeLine; decide), fun t3 h3 => ⟨_, rfl, (by show 2 ≤ sizeLine; decide), fun t4 h4 => ?_⟩⟩⟩⟩
                have d1 := Dt.mk1 h1 (.cons (Dt.str (K := K) "use") (.cons (.int (gx.length : Nat)) .nil))
                have d2 := Dt.mk1 h2 (.cons (.str "apply") (.cons (r6.at h1) (.cons d1 .nil)))
                have d3 := Dt.mk1 h3 (.cons (.str "make") (.cons ((Dt.mono T6 r1).at h1 |>.at h2) (.cons d2 .nil)))
                have d4 := Dt.mk1 h4 (.cons d3 (.cons (((Dt.mono T6 hva).at h1 |>.at h2).at h3) .nil))
                refine k _ _ (((((k3.trans (s6.kp _)).trans (Kp.new h1)).trans (Kp.new h2)).trans (Kp.new h3)).trans (Kp.new h4)) (((((G6.w.same (Same.new h1)).same (Same.new h2)).same (Same.new h3)).same (Same.new h4)).up (by omega)) ⟨.make a1 (.apply (moved pp g.length 1) (.use g.length)), .th a1 a2, _, ?_, .make (.apply (den_weak hd) (.use .here)), (by simp only [size, size_moved]; omega), ha⟩
                simp only [Pp.d]
                rw [hgl] at d4
                rw [hgl]
                exact d4
          | _ => exact absurd rfl c
theorem all_applied (D : Df K mg "_law_applied" sApplied ["_law_well_here", "_law_givens", "_law_p", "_law_a"]) (ml : mg "len" = none) (mr : mg "range" = none) (cD : Cal P w K mg base 1 "_law_draw" ["_law_well_here", "_law_many"] spDraw) (cO : Cal P w K mg base 2 "_law_one" ["_law_well_here", "_law_some"] spOne)
    (cM : Cal P w K mg base (200 + 1) "_law_moved" ["_law_paper", "_law_at", "_law_by"] (spMoved K 200)) : Cal P w K mg base 202 "_law_applied" ["_law_well_here", "_law_givens", "_law_p", "_law_a"] (spApplied K) := D.cal fun f fd F => ok_applied F ml mr cD cO cM
end
end Ob
namespace Ob
open PySem L2
section
variable {P : Program} {w : World} {K : PySem.W.Frag} {mg : Str → Option Value} {base : Heap} {f : Addr} {fd : FuncData}
theorem tupD {H : Hp} {t : Addr} {xs : List V} {ds : List PyData} (h : H t = none) (r : DtAll K H xs ds) : ∃ H', upd H t (.tup xs) = H' ∧ Same H H' ∧ Dt K H' (.ref t) (.tuple ds) := ⟨_, rfl, Same.new h, Dt.mk1 h r⟩
theorem lstD {H : Hp} {t : Addr} (h : H t = none) (xs : List V) : ∃ H', upd H t (.lst xs) = H' ∧ Same H H' ∧ H' t = some (.lst xs) := ⟨_, rfl, Same.new h, upd_same⟩
def spMade (K : PySem.W.Frag) (m : Nat) : Sp := fun vs H Q _ => ∃ (p abc gl : Addr) (n lv G : Nat) (ls g : List Sm), vs = [.ref p, .ref abc, .ref gl, .int (lv : Nat)] ∧ lv < m ∧ lv ≤ 3 ∧ Gv K p abc gl ls g G n H ∧ n + cM lv ≤ 800000 ∧ G + rD lv ≤ 60 ∧ g.length + lv ≤ 100 ∧
  ∀ x H', Kp [p] H H' → WAt H' p (n + cM lv) → Res K (G + rD lv) (sz lv) g x H' → Q x H'
def spGrown (K : PySem.W.Frag) (m : Nat) : Sp := fun vs H Q _ => ∃ (p abc gl : Addr) (n lv G G' z : Nat) (way : Int) (ls g : List Sm) (x0 : V) (pp : Pp) (a : Sm) (h : Env g → Ty a), vs = [.ref p, .ref abc, .ref gl, .int (lv : Nat), .int way, x0] ∧ Gv K p abc gl ls g G n H ∧ lv < m ∧ lv ≤ 3 ∧ n + cM lv + 12 ≤ 800000 ∧ g.length + lv + 1 ≤ 100 ∧
  Dt K H x0 (.tuple [pp.d, a.d]) ∧ Den g pp a h ∧ size pp ≤ z ∧ sz lv ≤ z ∧ z ≤ 200 ∧ sOk G' a ∧ G ≤ G' ∧ G' + rD lv + 1 ≤ 60 ∧ ∀ x H', Kp [p] H H' → WAt H' p (n + cM lv + 12) → Res K (G' + rD lv + 1) (3 * z + 6) g x H' → Q x H'
theorem scGr : FnScope ["_law_well_here", "_law_abc", "_law_givens", "_law_level", "_law_way", "_law_first", "_law_p", "_law_a", "_law_many", "_law_b", "_law_some", "_law_left", "_law_right", "_law_arms", "_law_q", "_law_c", "_law_arm"] ["_law_well_here", "_law_abc", "_law_givens", "_law_level", "_law_way", "_law_first"] (defScope sGrown) := ⟨rfl, rfl, rfl, by decide +kernel, rfl, by decide +kernel, by decide +kernel⟩
theorem ok_grown {m : Nat} (F : Fun K "_law_grown" "_law_grown" sGrown f fd) (ml : mg "len" = none) (cD : Cal P w K mg base 1 "_law_draw" ["_law_well_here", "_law_many"] spDraw) (cS : Cal P w K mg base (3 + 2) "_law_statement" ["_law_well_here", "_law_abc", "_law_most"] (spStat K 3))
    (cV : Cal P w K mg base (200 + 1) "_law_moved" ["_law_paper", "_law_at", "_law_by"] (spMoved K 200)) (cM : Cal P w K mg base (2 * m + 203) "_law_made" ["_law_well_here", "_law_abc", "_law_givens", "_law_level"] (spMade K m)) :
    FnOk P w K mg base CX0 (2 * m + 204) f fd ["_law_well_here", "_law_abc", "_law_givens", "_law_level", "_law_way", "_law_first"] (spGrown K m) := by
  refine F.ok scGr (fun vs H Q E h => ?_) (fun cdv A outer s H vs Q E hr h => ?_)
  · obtain ⟨p, abc, gl, n, lv, G, G', z, way, ls, g, x0, pp, a, h, rfl, _⟩ := h
    rfl
  · obtain ⟨p, abc, gl, n, lv, G, G', z, way, ls, g, x0, pp, a, h, rfl, hG, hlv, hlv2, hn, hgl, hx0, hd, hs, hsz, hz, ha, hGG, hG6, k⟩ := h
    have hr1 : Room 1 _ := hr.mono (by omega)
    have hrS : Room (3 + 2) _ := hr.mono (by omega)
    have hrV : Room (200 + 1) _ := hr.mono (by omega)
    have hr : Room (2 * m + 203) _ := hr
    refine ⟨_, (pss_cons (ps_asg (pv 5) (pg_tup rfl (pgs_cons (pg_name (i := 6) scGr.nd rfl (Or.inl rfl)) (pgs_cons (pg_name (i := 7) scGr.nd rfl (Or.inl rfl)) pgs_nil)))) (pss_cons (ps_set (i := 8) scGr.nd rfl (Or.inl rfl) (pe_callB call_len_seq (by rfl) ml PySem.boot_len (pa_cons (pv 2) pa_nil))) (pss_cons (ps_set (i := 9) scGr.nd rfl (Or.inl rfl) (pe_cal cS hrS rfl (pa_cons (pv 0) (pa_cons (pv 1) (pa_cons pe_int pa_nil))))) (pss_cons (ps_set (i := 10) scGr.nd rfl (Or.inl rfl) (pe_ix ix_list (pe_lst (pa_cons (pe_tup (pa_cons (pe_tup (pa_cons pe_str (pa_cons (pv 6) (pa_cons (pv 9) pa_nil)))) (pa_cons (pe_tup (pa_cons pe_str (pa_cons (pv 7) (pa_cons (pv 9) pa_nil)))) pa_nil))) (pa_cons (pe_tup (pa_cons (pe_tup (pa_cons pe_str (pa_cons (pv 9) (pa_cons (pv 6) pa_nil)))) (pa_cons (pe_tup (pa_cons pe_str (pa_cons (pv 9) (pa_cons (pv 7) pa_nil)))) pa_nil))) pa_nil))) (pe_cal cD hr1 rfl (pa_cons (pv 0) (pa_cons pe_int pa_nil))) (fun _ _ => rfl))) (pss_cons (ps_if (pt_cmpR op_eq (pv 4) pe_int (nomark _)) (pss_one (ps_ret (pv 10))) pss_nil) (pss_cons (ps_if (pt_cmpR op_eq (pv 4) pe_int (nomark _)) (pss_cons (ps_asg (pe_slice sl_tupA (pe_ix ix_tup (pv 10) pe_int (fun _ _ => rfl)) (po_some pe_int) po_none) (pg_tup rfl (pgs_cons (pg_name (i := 11) scGr.nd rfl (Or.inl rfl)) (pgs_cons (pg_name (i := 12) scGr.nd rfl (Or.inl rfl)) pgs_nil)))) (pss_cons (ps_set (i := 13) scGr.nd rfl (Or.inl rfl) (pe_lst (pa_cons (pe_tup (pa_cons pe_str (pa_cons (pv 12) (pa_cons (pe_tup (pa_cons pe_str (pa_cons (pv 8) pa_nil))) pa_nil)))) (pa_cons (pe_tup (pa_cons pe_str (pa_cons (pe_tup (pa_cons pe_str (pa_cons (pv 8) pa_nil))) (pa_cons (pv 11) pa_nil)))) pa_nil)))) (pss_one (ps_ret (pe_tup (pa_cons (pe_tup (pa_cons pe_str (pa_cons (pe_ix ix_tup (pv 10) pe_int (fun _ _ => rfl)) (pa_cons (pe_ix ix_list (pv 13) pe_int (fun _ _ => rfl)) (pa_cons (pe_ix ix_list (pv 13) pe_int (fun _ _ => rfl)) (pa_cons (pe_tup (pa_cons pe_str (pa_cons (pv 12) (pa_cons (pv 11) pa_nil)))) pa_nil)))))) (pa_cons (pe_tup (pa_cons pe_str (pa_cons (pv 12) (pa_cons (pv 11) pa_nil)))) pa_nil))))))) pss_nil) (pss_cons (ps_if (pt_cmpR op_eq (pv 4) pe_int (nomark _)) (pss_cons (ps_asg (pe_cal cM hr rfl (pa_cons (pv 0) (pa_cons (pv 1) (pa_cons (pe_op op_cat (pv 2) (pe_lst (pa_cons (pv 7) pa_nil))) (pa_cons (pv 3) pa_nil))))) (pg_tup rfl (pgs_cons (pg_name (i := 14) scGr.nd rfl (Or.inl rfl)) (pgs_cons (pg_name (i := 15) scGr.nd rfl (Or.inl rfl)) pgs_nil)))) (pss_one (ps_ret (pe_tup (pa_cons (pe_tup (pa_cons pe_str (pa_cons (pe_tup (pa_cons pe_str (pa_cons (pv 7) (pa_cons (pv 14) pa_nil)))) (pa_cons (pv 6) pa_nil)))) (pa_cons (pv 15) pa_nil)))))) pss_nil) (pss_cons (ps_asg (pe_cal cM hr rfl (pa_cons (pv 0) (pa_cons (pv 1) (pa_cons (pv 2) (pa_cons (pv 3) pa_nil))))) (pg_tup rfl (pgs_cons (pg_name (i := 14) scGr.nd rfl (Or.inl rfl)) (pgs_cons (pg_name (i := 15) scGr.nd rfl (Or.inl rfl)) pgs_nil)))) (pss_cons (ps_if (pt_cmpR op_eq (pv 4) pe_int (nomark _)) (pss_one (ps_ret (pe_tup (pa_cons (pe_tup (pa_cons pe_str (pa_cons (pv 6) (pa_cons (pv 14) pa_nil)))) (pa_cons (pe_tup (pa_cons pe_str (pa_cons (pv 7) (pa_cons (pv 15) pa_nil)))) pa_nil))))) pss_nil) (pss_cons (ps_if (pt_cmpR op_eq (pv 4) pe_int (nomark _)) (pss_one (ps_ret (pe_ix ix_list (pe_lst (pa_cons (pe_tup (pa_cons (pe_tup (pa_cons pe_str (pa_cons (pe_tup (pa_cons pe_str (pa_cons (pv 6) (pa_cons (pv 14) pa_nil)))) pa_nil))) (pa_cons (pv 7) pa_nil))) (pa_cons (pe_tup (pa_cons (pe_tup (pa_cons pe_str (pa_cons (pe_tup (pa_cons pe_str (pa_cons (pv 14) (pa_cons (pv 6) pa_nil)))) pa_nil))) (pa_cons (pv 7) pa_nil))) pa_nil))) (pe_cal cD hr1 rfl (pa_cons (pv 0) (pa_cons pe_int pa_nil))) (fun _ _ => rfl)))) pss_nil) (pss_cons (ps_set (i := 16) scGr.nd rfl (Or.inl rfl) (pe_cal cV hrV rfl (pa_cons (pv 14) (pa_cons (pv 8) (pa_cons pe_int pa_nil))))) (pss_one (ps_ret (pe_tup (pa_cons (pe_tup (pa_cons pe_str (pa_cons (pe_ix ix_tup (pv 10) pe_int (fun _ _ => rfl)) (pa_cons (pv 16) (pa_cons (pv 16) (pa_cons (pv 15) pa_nil)))))) (pa_cons (pv 15) pa_nil)))))))))))))))), ?_⟩
    have kk : Kp [p] H H := Kp.refl _ _
    obtain ⟨t0, xs0, rfl, hT0, dT0⟩ := hx0.inv
    obtain ⟨vp, va, rfl, hp, hva⟩ := dT0.c2
    obtain ⟨gx, eg, dg⟩ := hG.gg
    obtain ⟨lx, ea, da⟩ := hG.ga
    have hgx : gx.length = g.length := by rw [dg.len, List.length_map, List.length_reverse]
    refine ⟨_, rfl, t0, _, rfl, hT0, rfl, _, _, rfl, _, _, rfl, rfl, ?_⟩
    refine ⟨_, rfl, gl, gx, rfl, .inl (SqL.of eg), ?_⟩
    rw [hgx]
    clear dg da
    refine ⟨_, rfl, _, rfl, p, abc, n, 1, lx, ls, rfl, by omega, hG.w, by omega, ea, hG.na, (by obtain ⟨lx2, ea2, da2⟩ := hG.ga; rw [ea] at ea2; cases ea2; exact da2), hG.l1, hG.l2, fun vb b H0 k0 hb ob w0 => ?_⟩
    have T := hG.w.tk k0
    have kk := kk.trans k0
    have hG := hG.next k0 w0
    have hp := Dt.mono T hp
    have hva := Dt.mono T hva
    have ob : sOk G' b := ob.up (by have := hG.g4; omega)
    refine ⟨_, rfl, _, rfl, (by show 3 ≤ sizeLine; decide), fun t1 h1 => ?_⟩
    obtain ⟨H1, e1, s1, d1⟩ := tupD (K := K) h1 (.cons (Dt.str (K := K) "left") (.cons hp (.cons hb .nil)))
    rw [e1]
    clear e1
    have hG := hG.same s1
    have kk := kk.trans (s1.kp _)
    have hp := Dt.mono s1.tk hp
    have hva := Dt.mono s1.tk hva
    have hb := Dt.mono s1.tk hb
    refine ⟨_, rfl, _, rfl, (by show 3 ≤ sizeLine; decide), fun t2 h2 => ?_⟩
    obtain ⟨H2, e2, s2, d2⟩ := tupD (K := K) h2 (.cons (Dt.str (K := K) "or") (.cons hva (.cons hb .nil)))
    rw [e2]
    clear e2
    have hG := hG.same s2
    have kk := kk.trans (s2.kp _)
    have hp := Dt.mono s2.tk hp
    have hva := Dt.mono s2.tk hva
    have hb := Dt.mono s2.tk hb
    have d1 := Dt.mono s2.tk d1
    refine ⟨(by show 2 ≤ sizeLine; decide), fun t3 h3 => ?_⟩
    obtain ⟨H3, e3, s3, d3⟩ := tupD (K := K) h3 (.cons d1 (.cons d2 .nil))
    rw [e3]
    clear e3
    have hG := hG.same s3
    have kk := kk.trans (s3.kp _)
    have hp := Dt.mono s3.tk hp
    have hva := Dt.mono s3.tk hva
    have hb := Dt.mono s3.tk hb
    have d1 := Dt.mono s3.tk d1
    have d2 := Dt.mono s3.tk d2
    refine ⟨_, rfl, _, rfl, (by show 3 ≤ sizeLine; decide), fun t4 h4 => ?_⟩
    obtain ⟨H4, e4, s4, d4⟩ := tupD (K := K) h4 (.cons (Dt.str (K := K) "right") (.cons hb (.cons hp .nil)))
    rw [e4]
    clear e4
    have hG := hG.same s4
    have kk := kk.trans (s4.kp _)
    have hp := Dt.mono s4.tk hp
    have hva := Dt.mono s4.tk hva
    have hb := Dt.mono s4.tk hb
    have d1 := Dt.mono s4.tk d1
    have d2 := Dt.mono s4.tk d2
    have d3 := Dt.mono s4.tk d3
    refine ⟨_, rfl, _, rfl, (by show 3 ≤ sizeLine; decide), fun t5 h5 => ?_⟩
    obtain ⟨H5, e5, s5, d5⟩ := tupD (K := K) h5 (.cons (Dt.str (K := K) "or") (.cons hb (.cons hva .nil)))
    rw [e5]
    clear e5
    have hG := hG.same s5
    have kk := kk.trans (s5.kp _)
    have hp := Dt.mono s5.tk hp
    have hva := Dt.mono s5.tk hva
    have hb := Dt.mono s5.tk hb
    have d1 := Dt.mono s5.tk d1
    have d2 := Dt.mono s5.tk d2
    have d3 := Dt.mono s5.tk d3
    have d4 := Dt.mono s5.tk d4
    refine ⟨(by show 2 ≤ sizeLine; decide), fun t6 h6 => ?_⟩
    obtain ⟨H6, e6, s6, d6⟩ := tupD (K := K) h6 (.cons d4 (.cons d5 .nil))
    rw [e6]
    clear e6
    have hG := hG.same s6
    have kk := kk.trans (s6.kp _)
    have hp := Dt.mono s6.tk hp
    have hva := Dt.mono s6.tk hva
    have hb := Dt.mono s6.tk hb
    have d1 := Dt.mono s6.tk d1
    have d2 := Dt.mono s6.tk d2
    have d3 := Dt.mono s6.tk d3
    have d4 := Dt.mono s6.tk d4
    have d5 := Dt.mono s6.tk d5
    refine ⟨(by show 2 ≤ sizeLine; decide), fun t7 h7 => ?_⟩
    have np7 := (hG.w.ne h7).symm
    obtain ⟨H7, e7, s7, el⟩ := lstD h7 [.ref t3, .ref t6]
    rw [e7]
    clear e7
    have hG := hG.same s7
    have kk := kk.trans (s7.kp _)
    have hp := Dt.mono s7.tk hp
    have hva := Dt.mono s7.tk hva
    have hb := Dt.mono s7.tk hb
    have d1 := Dt.mono s7.tk d1
    have d2 := Dt.mono s7.tk d2
    have d3 := Dt.mono s7.tk d3
    have d4 := Dt.mono s7.tk d4
    have d5 := Dt.mono s7.tk d5
    have d6 := Dt.mono s7.tk d6
    refine ⟨_, rfl, p, _, 2, rfl, hG.w, by omega, by decide, by decide, fun r H8 hr8 k8 w8 => ?_⟩
    have el := k8.get1 el np7
    have T := hG.w.tk k8
    have kk := kk.trans k8
    have hG := hG.next k8 w8
    have hp := Dt.mono T hp
    have hva := Dt.mono T hva
    have hb := Dt.mono T hb
    have d1 := Dt.mono T d1
    have d2 := Dt.mono T d2
    have d3 := Dt.mono T d3
    have d4 := Dt.mono T d4
    have d5 := Dt.mono T d5
    have d6 := Dt.mono T d6
    obtain ⟨y, ey, sp, sl, sr, fs, hy, hsp, hsz2, ol, orr⟩ : ∃ y : V, ([.ref t3, .ref t6] : List V)[r]? = some y ∧ ∃ (sp : Pp) (sl sr : Sm) (fs : Env g → Ty (.or sl sr)), Dt K H8 y (.tuple [sp.d, (Sm.or sl sr).d]) ∧ Den g sp (.or sl sr) fs ∧ size sp = size pp + 1 ∧ sOk G' sl ∧ sOk G' sr := by
      rcases r with _ | _ | r
      · exact ⟨_, rfl, .left pp b, a, b, _, by simp only [Pp.d, Sm.d]; exact d3, .left hd, rfl, ha, ob⟩
      · exact ⟨_, rfl, .right b pp, b, a, _, by simp only [Pp.d, Sm.d]; exact d6, .right hd, rfl, ob, ha⟩
      · omega
    refine ⟨t7, _, _, _, rfl, rfl, SqL.of el, atI_nat ey, ?_⟩
    clear d1 d2 d3 d4 d5 d6 el
    have o2 : sOk (max G' G' + 1) (.or sl sr) := (ol.two orr).2.1
    have o3 : sOk (max G' G' + 1) (.or sr sl) := (orr.two ol).2.1
    refine ⟨_, rfl, rfl, _, rfl, ite2 (fun c => ?_) (fun c => ?_)⟩
    · exact ⟨_, rfl, k _ _ kk (hG.w.up (by omega)) ⟨sp, .or sl sr, fs, hy, hsp, by omega, o2.up (by omega)⟩⟩
    clear c
    obtain ⟨ty, ys, rfl, hTy, dTy⟩ := hy.inv
    obtain ⟨y0, y1, rfl, q0, q1⟩ := dTy.c2
    refine ⟨_, rfl, rfl, _, rfl, ite2 (fun c => ?_) (fun c => ?_)⟩
    · skip
      simp only [Sm.d] at q1
      obtain ⟨tor, _, rfl, hTo, dTo⟩ := q1.inv
      obtain ⟨o0, oo1, oo2, rfl, _, ql, qr⟩ := dTo.c3
      refine ⟨_, rfl, ty, _, 1, _, rfl, rfl, hTy, at1 rfl, 1, rfl, tor, _, rfl, hTo, (fun z => absurd (show HT.sIx 3 0 (some 1) = 0 from z.1) (by decide)), fun _ tq hq => ?_⟩
      rw [show cutV [o0, oo1, oo2] (some 1) none = [oo1, oo2] from rfl]
      obtain ⟨Hq, eq_, sq, dq⟩ := tupD (K := K) hq (.cons ql (.cons qr .nil))
      rw [eq_]
      clear eq_
      have hG := hG.same sq
      have kk := kk.trans (sq.kp _)
      have hy := Dt.mono sq.tk hy
      have q0 := Dt.mono sq.tk q0
      have ql := Dt.mono sq.tk ql
      have qr := Dt.mono sq.tk qr
      have hTy := sq.tk.seqT hTy
      obtain ⟨tq2, xq, e, hTq, dTq⟩ := dq.inv
      cases e
      obtain ⟨vl, vr, rfl, ql, qr⟩ := dTq.c2
      refine ⟨tq, _, rfl, hTq, rfl, _, _, rfl, _, _, rfl, rfl, ?_⟩
      refine ⟨_, rfl, _, rfl, (by show 2 ≤ sizeLine; decide), fun t11 h11 => ?_⟩
      obtain ⟨H11, e11, s11, d11⟩ := tupD (K := K) h11 (.cons (Dt.str (K := K) "use") (.cons (.int (g.length : Nat)) .nil))
      rw [e11]
      clear e11
      have hG := hG.same s11
      have kk := kk.trans (s11.kp _)
      have hy := Dt.mono s11.tk hy
      have q0 := Dt.mono s11.tk q0
      have ql := Dt.mono s11.tk ql
      have qr := Dt.mono s11.tk qr
      refine ⟨(by show 3 ≤ sizeLine; decide), fun t12 h12 => ?_⟩
      obtain ⟨H12, e12, s12, d12⟩ := tupD (K := K) h12 (.cons (Dt.str (K := K) "right") (.cons qr (.cons d11 .nil)))
      rw [e12]
      clear e12
      have hG := hG.same s12
      have kk := kk.trans (s12.kp _)
      have hy := Dt.mono s12.tk hy
      have q0 := Dt.mono s12.tk q0
      have ql := Dt.mono s12.tk ql
      have qr := Dt.mono s12.tk qr
      have d11 := Dt.mono s12.tk d11
      refine ⟨_, rfl, (by show 2 ≤ sizeLine; decide), fun t13 h13 => ?_⟩
      obtain ⟨H13, e13, s13, d13⟩ := tupD (K := K) h13 (.cons (Dt.str (K := K) "use") (.cons (.int (g.length : Nat)) .nil))
      rw [e13]
      clear e13
      have hG := hG.same s13
      have kk := kk.trans (s13.kp _)
      have hy := Dt.mono s13.tk hy
      have q0 := Dt.mono s13.tk q0
      have ql := Dt.mono s13.tk ql
      have qr := Dt.mono s13.tk qr
      have d11 := Dt.mono s13.tk d11
      have d12 := Dt.mono s13.tk d12
      refine ⟨_, rfl, (by show 3 ≤ sizeLine; decide), fun t14 h14 => ?_⟩
      obtain ⟨H14, e14, s14, d14⟩ := tupD (K := K) h14 (.cons (Dt.str (K := K) "left") (.cons d13 (.cons ql .nil)))
      rw [e14]
      clear e14
      have hG := hG.same s14
      have kk := kk.trans (s14.kp _)
      have hy := Dt.mono s14.tk hy
      have q0 := Dt.mono s14.tk q0
      have ql := Dt.mono s14.tk ql
      have qr := Dt.mono s14.tk qr
      have d11 := Dt.mono s14.tk d11
      have d12 := Dt.mono s14.tk d12
      have d13 := Dt.mono s14.tk d13
      refine ⟨(by show 2 ≤ sizeLine; decide), fun t15 h15 => ?_⟩
      have np15 := (hG.w.ne h15).symm
      obtain ⟨H15, e15, s15, el⟩ := lstD h15 [.ref t12, .ref t14]
      rw [e15]
      clear e15
      have hG := hG.same s15
      have kk := kk.trans (s15.kp _)
      have hy := Dt.mono s15.tk hy
      have q0 := Dt.mono s15.tk q0
      have ql := Dt.mono s15.tk ql
      have qr := Dt.mono s15.tk qr
      have d11 := Dt.mono s15.tk d11
      have d12 := Dt.mono s15.tk d12
      have d13 := Dt.mono s15.tk d13
      have d14 := Dt.mono s15.tk d14
      have hTy := ((((s11.tk.trans s12.tk).trans s13.tk).trans s14.tk).trans s15.tk).seqT hTy
      refine ⟨_, rfl, ty, _, 0, _, rfl, rfl, hTy, at0 rfl, _, rfl, t15, _, 0, _, rfl, rfl, SqL.of el, at0 rfl, _, rfl, t15, _, 1, _, rfl, rfl, SqL.of el, at1 rfl, _, rfl, _, rfl, (by show 3 ≤ sizeLine; decide), fun t16 h16 => ?_⟩
      obtain ⟨H16, e16, s16, d16⟩ := tupD (K := K) h16 (.cons (Dt.str (K := K) "or") (.cons qr (.cons ql .nil)))
      rw [e16]
      clear e16
      have hG := hG.same s16
      have kk := kk.trans (s16.kp _)
      have hy := Dt.mono s16.tk hy
      have q0 := Dt.mono s16.tk q0
      have ql := Dt.mono s16.tk ql
      have qr := Dt.mono s16.tk qr
      have d11 := Dt.mono s16.tk d11
      have d12 := Dt.mono s16.tk d12
      have d13 := Dt.mono s16.tk d13
      have d14 := Dt.mono s16.tk d14
      refine ⟨(by show 5 ≤ sizeLine; decide), fun t17 h17 => ?_⟩
      obtain ⟨H17, e17, s17, d17⟩ := tupD (K := K) h17 (.cons (Dt.str (K := K) "case") (.cons q0 (.cons d12 (.cons d14 (.cons d16 .nil)))))
      rw [e17]
      clear e17
      have hG := hG.same s17
      have kk := kk.trans (s17.kp _)
      have hy := Dt.mono s17.tk hy
      have q0 := Dt.mono s17.tk q0
      have ql := Dt.mono s17.tk ql
      have qr := Dt.mono s17.tk qr
      have d11 := Dt.mono s17.tk d11
      have d12 := Dt.mono s17.tk d12
      have d13 := Dt.mono s17.tk d13
      have d14 := Dt.mono s17.tk d14
      have d16 := Dt.mono s17.tk d16
      refine ⟨_, rfl, _, rfl, (by show 3 ≤ sizeLine; decide), fun t18 h18 => ?_⟩
      obtain ⟨H18, e18, s18, d18⟩ := tupD (K := K) h18 (.cons (Dt.str (K := K) "or") (.cons qr (.cons ql .nil)))
      rw [e18]
      clear e18
      have hG := hG.same s18
      have kk := kk.trans (s18.kp _)
      have hy := Dt.mono s18.tk hy
      have q0 := Dt.mono s18.tk q0
      have ql := Dt.mono s18.tk ql
      have qr := Dt.mono s18.tk qr
      have d11 := Dt.mono s18.tk d11
      have d12 := Dt.mono s18.tk d12
      have d13 := Dt.mono s18.tk d13
      have d14 := Dt.mono s18.tk d14
      have d16 := Dt.mono s18.tk d16
      have d17 := Dt.mono s18.tk d17
      refine ⟨(by show 2 ≤ sizeLine; decide), fun t19 h19 => ?_⟩
      obtain ⟨H19, e19, s19, d19⟩ := tupD (K := K) h19 (.cons d17 (.cons d18 .nil))
      rw [e19]
      clear e19
      have hG := hG.same s19
      have kk := kk.trans (s19.kp _)
      have hy := Dt.mono s19.tk hy
      have q0 := Dt.mono s19.tk q0
      have ql := Dt.mono s19.tk ql
      have qr := Dt.mono s19.tk qr
      have d11 := Dt.mono s19.tk d11
      have d12 := Dt.mono s19.tk d12
      have d13 := Dt.mono s19.tk d13
      have d14 := Dt.mono s19.tk d14
      have d16 := Dt.mono s19.tk d16
      have d17 := Dt.mono s19.tk d17
      have d18 := Dt.mono s19.tk d18
      refine k _ _ kk (hG.w.up (by omega)) ⟨.case sp (.right sr (.use g.length)) (.left (.use g.length) sl) (.or sr sl), .or sr sl, _, ?_, .case hsp (.right (.use .here)) (.left (.use .here)), (by simp only [size]; omega), o3.up (by omega)⟩
      simp only [Pp.d, Sm.d]
      exact d19
    clear c
    obtain ⟨gx, eg, dg⟩ := hG.gg
    have hgx : gx.length = g.length := by rw [dg.len, List.length_map, List.length_reverse]
    refine ⟨_, rfl, rfl, _, rfl, ite2 (fun c => ?_) (fun c => ?_)⟩
    · skip
      refine ⟨_, rfl, _, rfl, _, rfl, _, rfl, (by show 1 ≤ sizeLine; decide), fun t11 h11 => ?_⟩
      have np11 := (hG.w.ne h11).symm
      obtain ⟨H11, e11, s11, el⟩ := lstD h11 [va]
      rw [e11]
      clear e11
      have hG := hG.same s11
      have kk := kk.trans (s11.kp _)
      have hp := Dt.mono s11.tk hp
      have hva := Dt.mono s11.tk hva
      have eg := s11 _ _ eg
      have dg := DtAll.mono s11.tk dg
      refine ⟨gl, t11, gx, [va], rfl, rfl, eg, el, (by show gx.length + 1 ≤ _; exact Nat.le_of_lt (small100 (by omega))), fun q hq => ?_⟩
      have npq := (hG.w.ne hq).symm
      obtain ⟨H12, e12, s12, el12⟩ := lstD hq (gx ++ [va])
      rw [e12]
      clear e12
      have hG := hG.same s12
      have kk := kk.trans (s12.kp _)
      have hp := Dt.mono s12.tk hp
      have hva := Dt.mono s12.tk hva
      have dg := DtAll.mono s12.tk dg
      have hG2 := hG.grow hGG ha el12 (by rw [List.reverse_cons, List.map_append]; exact dg.app (.cons hva .nil)) npq
      refine ⟨_, rfl, p, abc, q, _, lv, G', ls, a :: g, rfl, hlv, hlv2, hG2, by omega, by omega, (by rw [List.length_cons]; omega), fun x H13 k13 w13 ⟨qq, c', fc, hxr, hdc, hsc, oc⟩ => ?_⟩
      have T := hG.w.tk k13
      have kk := kk.trans k13
      have hG := hG.next k13 w13
      have hp := Dt.mono T hp
      have hva := Dt.mono T hva
      obtain ⟨tr, xr, rfl, hTr, dTr⟩ := hxr.inv
      obtain ⟨vq, vc, rfl, hq2, hc2⟩ := dTr.c2
      refine ⟨tr, _, rfl, hTr, rfl, _, _, rfl, _, _, rfl, rfl, ?_⟩
      refine ⟨_, rfl, _, rfl, (by show 3 ≤ sizeLine; decide), fun t14 h14 => ?_⟩
      obtain ⟨H14, e14, s14, d14⟩ := tupD (K := K) h14 (.cons (Dt.str (K := K) "make") (.cons hva (.cons hq2 .nil)))
      rw [e14]
      clear e14
      have hG := hG.same s14
      have kk := kk.trans (s14.kp _)
      have hp := Dt.mono s14.tk hp
      have hva := Dt.mono s14.tk hva
      have hq2 := Dt.mono s14.tk hq2
      have hc2 := Dt.mono s14.tk hc2
      refine ⟨_, rfl, (by show 3 ≤ sizeLine; decide), fun t15 h15 => ?_⟩
      obtain ⟨H15, e15, s15, d15⟩ := tupD (K := K) h15 (.cons (Dt.str (K := K) "apply") (.cons d14 (.cons hp .nil)))
      rw [e15]
      clear e15
      have hG := hG.same s15
      have kk := kk.trans (s15.kp _)
      have hp := Dt.mono s15.tk hp
      have hva := Dt.mono s15.tk hva
      have hq2 := Dt.mono s15.tk hq2
      have hc2 := Dt.mono s15.tk hc2
      have d14 := Dt.mono s15.tk d14
      refine ⟨_, rfl, (by show 2 ≤ sizeLine; decide), fun t16 h16 => ?_⟩
      obtain ⟨H16, e16, s16, d16⟩ := tupD (K := K) h16 (.cons d15 (.cons hc2 .nil))
      rw [e16]
      clear e16
      have hG := hG.same s16
      have kk := kk.trans (s16.kp _)
      have hp := Dt.mono s16.tk hp
      have hva := Dt.mono s16.tk hva
      have hq2 := Dt.mono s16.tk hq2
      have hc2 := Dt.mono s16.tk hc2
      have d14 := Dt.mono s16.tk d14
      have d15 := Dt.mono s16.tk d15
      refine k _ _ kk (hG.w.up (by omega)) ⟨.apply (.make a qq) pp, c', _, ?_, .apply (.make hdc) hd, (by simp only [size]; omega), oc.up (by omega)⟩
      simp only [Pp.d]
      exact d16
    clear c dg eg hgx
    refine ⟨_, rfl, _, rfl, _, rfl, _, rfl, p, abc, gl, _, lv, G, ls, g, rfl, hlv, hlv2, hG, by omega, by omega, (by omega), fun x H21 k21 w21 ⟨qq, c', fc, hxr, hdc, hsc, oc⟩ => ?_⟩
    have T := hG.w.tk k21
    have kk := kk.trans k21
    have hG := hG.next k21 w21
    have hp := Dt.mono T hp
    have hva := Dt.mono T hva
    have hy := Dt.mono T hy
    have hTy := T.seqT hTy
    obtain ⟨tr, xr, rfl, hTr, dTr⟩ := hxr.inv
    obtain ⟨vq, vc, rfl, hq2, hc2⟩ := dTr.c2
    have q0 := Dt.mono T q0
    have oc : sOk (G' + rD lv) c' := oc.up (by omega)
    have ha2 : sOk (G' + rD lv) a := ha.up (by omega)
    refine ⟨tr, _, rfl, hTr, rfl, _, _, rfl, _, _, rfl, rfl, ?_⟩
    refine ⟨_, rfl, rfl, _, rfl, ite2 (fun c => ?_) (fun c => ?_)⟩
    · skip
      refine ⟨_, rfl, _, rfl, (by show 3 ≤ sizeLine; decide), fun t31 h31 => ?_⟩
      obtain ⟨H31, e31, s31, d31⟩ := tupD (K := K) h31 (.cons (Dt.str (K := K) "pair") (.cons hp (.cons hq2 .nil)))
      rw [e31]
      clear e31
      have hG := hG.same s31
      have kk := kk.trans (s31.kp _)
      have hp := Dt.mono s31.tk hp
      have hva := Dt.mono s31.tk hva
      have hq2 := Dt.mono s31.tk hq2
      have hc2 := Dt.mono s31.tk hc2
      refine ⟨_, rfl, _, rfl, (by show 3 ≤ sizeLine; decide), fun t32 h32 => ?_⟩
      obtain ⟨H32, e32, s32, d32⟩ := tupD (K := K) h32 (.cons (Dt.str (K := K) "and") (.cons hva (.cons hc2 .nil)))
      rw [e32]
      clear e32
      have hG := hG.same s32
      have kk := kk.trans (s32.kp _)
      have hp := Dt.mono s32.tk hp
      have hva := Dt.mono s32.tk hva
      have hq2 := Dt.mono s32.tk hq2
      have hc2 := Dt.mono s32.tk hc2
      have d31 := Dt.mono s32.tk d31
      refine ⟨(by show 2 ≤ sizeLine; decide), fun t33 h33 => ?_⟩
      obtain ⟨H33, e33, s33, d33⟩ := tupD (K := K) h33 (.cons d31 (.cons d32 .nil))
      rw [e33]
      clear e33
      have hG := hG.same s33
      have kk := kk.trans (s33.kp _)
      have hp := Dt.mono s33.tk hp
      have hva := Dt.mono s33.tk hva
      have hq2 := Dt.mono s33.tk hq2
      have hc2 := Dt.mono s33.tk hc2
      have d31 := Dt.mono s33.tk d31
      have d32 := Dt.mono s33.tk d32
      refine k _ _ kk (hG.w.up (by omega)) ⟨.pair pp qq, .an a c', _, ?_, .pair hd hdc, (by simp only [size]; omega), ((ha2.two oc).1).up (by omega)⟩
      simp only [Pp.d, Sm.d]
      exact d33
    clear c
    refine ⟨_, rfl, rfl, _, rfl, ite2 (fun c => ?_) (fun c => ?_)⟩
    · skip
      refine ⟨_, rfl, _, rfl, (by show 3 ≤ sizeLine; decide), fun t41 h41 => ?_⟩
      obtain ⟨H41, e41, s41, d41⟩ := tupD (K := K) h41 (.cons (Dt.str (K := K) "pair") (.cons hp (.cons hq2 .nil)))
      rw [e41]
      clear e41
      have hG := hG.same s41
      have kk := kk.trans (s41.kp _)
      have hp := Dt.mono s41.tk hp
      have hva := Dt.mono s41.tk hva
      have hq2 := Dt.mono s41.tk hq2
      have hc2 := Dt.mono s41.tk hc2
      refine ⟨(by show 2 ≤ sizeLine; decide), fun t42 h42 => ?_⟩
      obtain ⟨H42, e42, s42, d42⟩ := tupD (K := K) h42 (.cons (Dt.str (K := K) "first") (.cons d41 .nil))
      rw [e42]
      clear e42
      have hG := hG.same s42
      have kk := kk.trans (s42.kp _)
      have hp := Dt.mono s42.tk hp
      have hva := Dt.mono s42.tk hva
      have hq2 := Dt.mono s42.tk hq2
      have hc2 := Dt.mono s42.tk hc2
      have d41 := Dt.mono s42.tk d41
      refine ⟨_, rfl, (by show 2 ≤ sizeLine; decide), fun t43 h43 => ?_⟩
      obtain ⟨H43, e43, s43, d43⟩ := tupD (K := K) h43 (.cons d42 (.cons hva .nil))
      rw [e43]
      clear e43
      have hG := hG.same s43
      have kk := kk.trans (s43.kp _)
      have hp := Dt.mono s43.tk hp
      have hva := Dt.mono s43.tk hva
      have hq2 := Dt.mono s43.tk hq2
      have hc2 := Dt.mono s43.tk hc2
      have d41 := Dt.mono s43.tk d41
      have d42 := Dt.mono s43.tk d42
      refine ⟨_, rfl, _, rfl, (by show 3 ≤ sizeLine; decide), fun t44 h44 => ?_⟩
      obtain ⟨H44, e44, s44, d44⟩ := tupD (K := K) h44 (.cons (Dt.str (K := K) "pair") (.cons hq2 (.cons hp .nil)))
      rw [e44]
      clear e44
      have hG := hG.same s44
      have kk := kk.trans (s44.kp _)
      have hp := Dt.mono s44.tk hp
      have hva := Dt.mono s44.tk hva
      have hq2 := Dt.mono s44.tk hq2
      have hc2 := Dt.mono s44.tk hc2
      have d41 := Dt.mono s44.tk d41
      have d42 := Dt.mono s44.tk d42
      have d43 := Dt.mono s44.tk d43
      refine ⟨(by show 2 ≤ sizeLine; decide), fun t45 h45 => ?_⟩
      obtain ⟨H45, e45, s45, d45⟩ := tupD (K := K) h45 (.cons (Dt.str (K := K) "second") (.cons d44 .nil))
      rw [e45]
      clear e45
      have hG := hG.same s45
      have kk := kk.trans (s45.kp _)
      have hp := Dt.mono s45.tk hp
      have hva := Dt.mono s45.tk hva
      have hq2 := Dt.mono s45.tk hq2
      have hc2 := Dt.mono s45.tk hc2
      have d41 := Dt.mono s45.tk d41
      have d42 := Dt.mono s45.tk d42
      have d43 := Dt.mono s45.tk d43
      have d44 := Dt.mono s45.tk d44
      refine ⟨_, rfl, (by show 2 ≤ sizeLine; decide), fun t46 h46 => ?_⟩
      obtain ⟨H46, e46, s46, d46⟩ := tupD (K := K) h46 (.cons d45 (.cons hva .nil))
      rw [e46]
      clear e46
      have hG := hG.same s46
      have kk := kk.trans (s46.kp _)
      have hp := Dt.mono s46.tk hp
      have hva := Dt.mono s46.tk hva
      have hq2 := Dt.mono s46.tk hq2
      have hc2 := Dt.mono s46.tk hc2
      have d41 := Dt.mono s46.tk d41
      have d42 := Dt.mono s46.tk d42
      have d43 := Dt.mono s46.tk d43
      have d44 := Dt.mono s46.tk d44
      have d45 := Dt.mono s46.tk d45
      refine ⟨(by show 2 ≤ sizeLine; decide), fun t47 h47 => ?_⟩
      have np47 := (hG.w.ne h47).symm
      obtain ⟨H47, e47, s47, el⟩ := lstD h47 [.ref t43, .ref t46]
      rw [e47]
      clear e47
      have hG := hG.same s47
      have kk := kk.trans (s47.kp _)
      have hp := Dt.mono s47.tk hp
      have hva := Dt.mono s47.tk hva
      have hq2 := Dt.mono s47.tk hq2
      have hc2 := Dt.mono s47.tk hc2
      have d41 := Dt.mono s47.tk d41
      have d42 := Dt.mono s47.tk d42
      have d43 := Dt.mono s47.tk d43
      have d44 := Dt.mono s47.tk d44
      have d45 := Dt.mono s47.tk d45
      have d46 := Dt.mono s47.tk d46
      refine ⟨_, rfl, p, _, 2, rfl, hG.w, by omega, by decide, by decide, fun r H48 hr48 k48 w48 => ?_⟩
      have el := k48.get1 el np47
      have T := hG.w.tk k48
      have kk := kk.trans k48
      have hG := hG.next k48 w48
      have hp := Dt.mono T hp
      have hva := Dt.mono T hva
      have hq2 := Dt.mono T hq2
      have hc2 := Dt.mono T hc2
      have d41 := Dt.mono T d41
      have d42 := Dt.mono T d42
      have d43 := Dt.mono T d43
      have d44 := Dt.mono T d44
      have d45 := Dt.mono T d45
      have d46 := Dt.mono T d46
      rcases r with _ | _ | r
      · refine ⟨t47, _, _, _, rfl, rfl, SqL.of el, at0 rfl, k _ _ kk (hG.w.up (by omega)) ⟨.first (.pair pp qq), a, _, ?_, .first (.pair hd hdc), (by simp only [size]; omega), ha.up (by omega)⟩⟩
        simp only [Pp.d]
        exact d43
      · refine ⟨t47, _, _, _, rfl, rfl, SqL.of el, at1 rfl, k _ _ kk (hG.w.up (by omega)) ⟨.second (.pair qq pp), a, _, ?_, .second (.pair hdc hd), (by simp only [size]; omega), ha.up (by omega)⟩⟩
        simp only [Pp.d]
        exact d46
      · omega
    clear c
    refine ⟨_, rfl, _, rfl, vq, qq, g.length, 1, rfl, hq2, (by have := deep_size qq; omega), fun vm H51 s51 hm => ?_⟩
    have hG := hG.same s51
    have kk := kk.trans (s51.kp _)
    have hc2 := Dt.mono s51.tk hc2
    have q0 := Dt.mono s51.tk q0
    have hTy := s51.tk.seqT hTy
    refine ⟨_, rfl, ty, _, 0, _, rfl, rfl, hTy, at0 rfl, _, rfl, _, rfl, _, rfl, (by show 5 ≤ sizeLine; decide), fun t52 h52 => ?_⟩
    obtain ⟨H52, e52, s52, d52⟩ := tupD (K := K) h52 (.cons (Dt.str (K := K) "case") (.cons q0 (.cons hm (.cons hm (.cons hc2 .nil)))))
    rw [e52]
    clear e52
    have hG := hG.same s52
    have kk := kk.trans (s52.kp _)
    have hc2 := Dt.mono s52.tk hc2
    have q0 := Dt.mono s52.tk q0
    have hm := Dt.mono s52.tk hm
    refine ⟨_, rfl, (by show 2 ≤ sizeLine; decide), fun t53 h53 => ?_⟩
    obtain ⟨H53, e53, s53, d53⟩ := tupD (K := K) h53 (.cons d52 (.cons hc2 .nil))
    rw [e53]
    clear e53
    have hG := hG.same s53
    have kk := kk.trans (s53.kp _)
    have hc2 := Dt.mono s53.tk hc2
    have q0 := Dt.mono s53.tk q0
    have hm := Dt.mono s53.tk hm
    have d52 := Dt.mono s53.tk d52
    refine k _ _ kk (hG.w.up (by omega)) ⟨.case sp (moved qq g.length 1) (moved qq g.length 1) c', c', _, ?_, .case hsp (den_weak hdc) (den_weak hdc), (by simp only [size, size_moved]; omega), oc.up (by omega)⟩
    simp only [Pp.d]
    exact d53
end
end Ob
namespace Ob
open PySem L2
section
variable {P : Program} {w : World} {K : PySem.W.Frag} {mg : Str → Option Value} {base : Heap} {f : Addr} {fd : FuncData}
theorem cM_ge : ∀ l : Nat, 30 ≤ cM l
  | 0 => Nat.le_refl _
  | l + 1 => by have := cM_ge l; simp only [cM]; omega
theorem sz_ge : ∀ l : Nat, 3 ≤ sz l
  | 0 => Nat.le_refl _
  | l + 1 => by have := sz_ge l; simp only [sz]; omega
theorem sz_le : ∀ {l : Nat}, l ≤ 3 → sz l ≤ 200
  | 0, _ => by decide
  | 1, _ => by decide
  | 2, _ => by decide
  | 3, _ => by decide
  | l + 4, h => by omega
theorem scMd : FnScope ["_law_well_here", "_law_abc", "_law_givens", "_law_level", "_law_way", "_law_k", "_law_a", "_law_b", "_law_p"] ["_law_well_here", "_law_abc", "_law_givens", "_law_level"] (defScope sMade) := ⟨rfl, rfl, rfl, by decide +kernel, rfl, by decide +kernel, by decide +kernel⟩
theorem ok_made {m : Nat} (F : Fun K "_law_made" "_law_made" sMade f fd) (ml : mg "len" = none) (cD : Cal P w K mg base 1 "_law_draw" ["_law_well_here", "_law_many"] spDraw) (cS : Cal P w K mg base (3 + 2) "_law_statement" ["_law_well_here", "_law_abc", "_law_most"] (spStat K 3))
    (cA : Cal P w K mg base 202 "_law_applied" ["_law_well_here", "_law_givens", "_law_p", "_law_a"] (spApplied K)) (cMk : Cal P w K mg base (2 * m + 203) "_law_made" ["_law_well_here", "_law_abc", "_law_givens", "_law_level"] (spMade K m))
    (cG : Cal P w K mg base (2 * m + 204) "_law_grown" ["_law_well_here", "_law_abc", "_law_givens", "_law_level", "_law_way", "_law_first"] (spGrown K m)) :
    FnOk P w K mg base CX0 (2 * m + 205) f fd ["_law_well_here", "_law_abc", "_law_givens", "_law_level"] (spMade K (m + 1)) := by
  refine F.ok scMd (fun vs H Q E h => ?_) (fun cdv A outer s H vs Q E hr h => ?_)
  · obtain ⟨p, abc, gl, n, lv, G, ls, g, rfl, _⟩ := h
    rfl
  · obtain ⟨p, abc, gl, n, lv, G, ls, g, rfl, hlv, hlv2, hG, hn, hG6, hgl, k⟩ := h
    have hr1 : Room 1 _ := hr.mono (by omega)
    have hrS : Room (3 + 2) _ := hr.mono (by omega)
    have hrA : Room 202 _ := hr.mono (by omega)
    have hrM : Room (2 * m + 203) _ := hr.mono (by omega)
    have hr : Room (2 * m + 204) _ := hr
    refine ⟨_, (pss_cons (ps_set (i := 4) scMd.nd rfl (Or.inl rfl) (pe_cal cD hr1 rfl (pa_cons (pv 0) (pa_cons pe_int pa_nil)))) (pss_cons (ps_if (PW.pt (pw_or (pt_cmpR op_eq (pv 3) pe_int (nomark _)) (pw_or1 (pt_cmpR op_eq (pv 4) pe_int (nomark _))))) (pss_cons (ps_if (PW.pt (pw_and (pt_cmpR (op_neD hr.units) (pv 2) (pe_lst pa_nil) (nomark _)) (pw_and1 (pt_cmpR op_gt (pe_cal cD hr1 rfl (pa_cons (pv 0) (pa_cons pe_int pa_nil))) pe_int (nomark _))))) (pss_cons (ps_set (i := 5) scMd.nd rfl (Or.inl rfl) (pe_cal cD hr1 rfl (pa_cons (pv 0) (pa_cons (pe_callB call_len_seq (by rfl) ml PySem.boot_len (pa_cons (pv 2) pa_nil)) pa_nil)))) (pss_one (ps_ret (pe_tup (pa_cons (pe_tup (pa_cons pe_str (pa_cons (pv 5) pa_nil))) (pa_cons (pe_ix ix_list (pv 2) (pv 5) (fun _ _ => rfl)) pa_nil)))))) pss_nil) (pss_cons (ps_set (i := 6) scMd.nd rfl (Or.inl rfl) (pe_cal cS hrS rfl (pa_cons (pv 0) (pa_cons (pv 1) (pa_cons pe_int pa_nil))))) (pss_cons (ps_if (pt_cmpR op_eq (pe_cal cD hr1 rfl (pa_cons (pv 0) (pa_cons pe_int pa_nil))) pe_int (nomark _)) (pss_one (ps_ret (pe_tup (pa_cons (pe_tup (pa_cons pe_str (pa_cons (pe_tup (pa_cons pe_str pa_nil)) (pa_cons (pe_tup (pa_cons pe_str (pa_cons (pe_tup (pa_cons pe_str (pa_cons (pe_callB call_len_seq (by rfl) ml PySem.boot_len (pa_cons (pv 2) pa_nil)) pa_nil))) (pa_cons (pv 6) pa_nil)))) pa_nil)))) (pa_cons (pe_tup (pa_cons pe_str (pa_cons (pe_tup (pa_cons pe_str pa_nil)) (pa_cons (pv 6) pa_nil)))) pa_nil))))) pss_nil) (pss_one (ps_ret (pe_tup (pa_cons (pe_tup (pa_cons pe_str (pa_cons (pv 6) (pa_cons (pe_tup (pa_cons pe_str (pa_cons (pe_callB call_len_seq (by rfl) ml PySem.boot_len (pa_cons (pv 2) pa_nil)) pa_nil))) pa_nil)))) (pa_cons (pe_tup (pa_cons pe_str (pa_cons (pv 6) (pa_cons (pv 6) pa_nil)))) pa_nil)))))))) pss_nil) (pss_cons (ps_if (pt_cmpR op_eq (pv 4) pe_int (nomark _)) (pss_cons (ps_set (i := 7) scMd.nd rfl (Or.inl rfl) (pe_cal cS hrS rfl (pa_cons (pv 0) (pa_cons (pv 1) (pa_cons pe_int pa_nil))))) (pss_cons (ps_asg (pe_cal cMk hrM rfl (pa_cons (pv 0) (pa_cons (pv 1) (pa_cons (pe_op op_cat (pv 2) (pe_lst (pa_cons (pv 7) pa_nil))) (pa_cons (pe_op op_sub (pv 3) pe_int) pa_nil))))) (pg_tup rfl (pgs_cons (pg_name (i := 8) scMd.nd rfl (Or.inl rfl)) (pgs_cons (pg_name (i := 6) scMd.nd rfl (Or.inl rfl)) pgs_nil)))) (pss_one (ps_ret (pe_tup (pa_cons (pe_tup (pa_cons pe_str (pa_cons (pv 7) (pa_cons (pv 8) pa_nil)))) (pa_cons (pe_tup (pa_cons pe_str (pa_cons (pv 7) (pa_cons (pv 6) pa_nil)))) pa_nil))))))) pss_nil) (pss_cons (ps_asg (pe_cal cMk hrM rfl (pa_cons (pv 0) (pa_cons (pv 1) (pa_cons (pv 2) (pa_cons (pe_op op_sub (pv 3) pe_int) pa_nil))))) (pg_tup rfl (pgs_cons (pg_name (i := 8) scMd.nd rfl (Or.inl rfl)) (pgs_cons (pg_name (i := 6) scMd.nd rfl (Or.inl rfl)) pgs_nil)))) (pss_cons (ps_if (pt_cmpR op_gt (pv 4) pe_int (nomark _)) (pss_one (ps_ret (pe_cal cA hrA rfl (pa_cons (pv 0) (pa_cons (pv 2) (pa_cons (pv 8) (pa_cons (pv 6) pa_nil))))))) pss_nil) (pss_one (ps_ret (pe_cal cG hr rfl (pa_cons (pv 0) (pa_cons (pv 1) (pa_cons (pv 2) (pa_cons (pe_op op_sub (pv 3) pe_int) (pa_cons (pv 4) (pa_cons (pe_tup (pa_cons (pv 8) (pa_cons (pv 6) pa_nil))) pa_nil)))))))))))))), ?_⟩
    have h30 : 30 ≤ cM lv := cM_ge lv
    have h3 : 3 ≤ sz lv := sz_ge lv
    have kk : Kp [p] H H := Kp.refl _ _
    refine ⟨_, rfl, p, n, 10, rfl, hG.w, by omega, by decide, by decide, fun way H1 hway k1 w1 => ?_⟩
    have kk := kk.trans k1
    have hG := hG.next k1 w1
    refine ⟨_, rfl, rfl, _, rfl, ite2 (fun c => ?_) (fun c => ?_)⟩
    · refine iteT ?_
      refine ⟨_, rfl, (by show 0 ≤ sizeLine; decide), fun t51 h51 => ?_⟩
      have np51 := (hG.w.ne h51).symm
      obtain ⟨H51, e51, s51, el0⟩ := lstD h51 []
      rw [e51]
      clear e51
      have hG := hG.same s51
      have kk := kk.trans (s51.kp _)
      obtain ⟨gx, eg, dg⟩ := hG.gg
      refine ⟨_, _, Dp.lst (SqL.of eg) dg.dp, Dp.lst (SqL.of el0) .nil, shaped_sms hG.rev (by omega), shaped_nil, _, rfl, ?_⟩
      rw [eqv_nil]
      refine ite2 (fun c0 => ?_) (fun c0 => ?_)
      · have hg0 : 0 < g.length := Nat.pos_of_ne_zero fun z => by
          rw [List.length_eq_zero_iff.mp z] at c0
          exact Bool.noConfusion c0
        clear dg eg gx
        refine ⟨_, rfl, p, _, 4, rfl, hG.w, by omega, by decide, by decide, fun r2 H2 hr2 k2 w2 => ?_⟩
        have kk := kk.trans k2
        have hG := hG.next k2 w2
        refine ⟨_, _, rfl, rfl, _, rfl, ite2 (fun c1 => ?_) (fun c1 => ?_)⟩
        · obtain ⟨gx, eg, dg⟩ := hG.gg
          have hgx : gx.length = g.length := by rw [dg.len, List.length_map, List.length_reverse]
          refine ⟨_, rfl, _, rfl, gl, gx, rfl, .inl (SqL.of eg), p, _, gx.length, rfl, hG.w, by omega, by omega, by omega, fun kx H5 hk k5 w5 => ?_⟩
          have T := hG.w.tk k5
          have eg := k5.get1 eg hG.ng
          have dg := DtAll.mono T dg
          have kk := kk.trans k5
          have hG := hG.next k5 w5
          obtain ⟨vi, ei⟩ : ∃ vi, gx[kx]? = some vi := ⟨_, List.getElem?_eq_getElem hk⟩
          obtain ⟨di, edi, ri⟩ := dg.get' ei
          obtain ⟨a, eb, rfl⟩ : ∃ b, g.reverse[kx]? = some b ∧ b.d = di := by
            rw [List.getElem?_map] at edi
            exact Option.map_eq_some_iff.mp edi
          obtain ⟨fl, lk⟩ := lk_of eb
          have oa := hG.rev _ (List.mem_of_getElem? eb)
          refine ⟨_, rfl, (by show 2 ≤ sizeLine; decide), fun t55 h55 => ?_⟩
          obtain ⟨H55, e55, s55, d55⟩ := tupD (K := K) h55 (.cons (Dt.str (K := K) "use") (.cons (.int (kx : Nat)) .nil))
          rw [e55]
          clear e55
          have hG := hG.same s55
          have kk := kk.trans (s55.kp _)
          have ri := Dt.mono s55.tk ri
          have eg := s55 _ _ eg
          refine ⟨_, rfl, _, rfl, gl, gx, _, _, rfl, rfl, SqL.of eg, atI_nat ei, (by show 2 ≤ sizeLine; decide), fun t56 h56 => ?_⟩
          obtain ⟨H56, e56, s56, d56⟩ := tupD (K := K) h56 (.cons d55 (.cons ri .nil))
          rw [e56]
          clear e56
          have hG := hG.same s56
          have kk := kk.trans (s56.kp _)
          have ri := Dt.mono s56.tk ri
          have d55 := Dt.mono s56.tk d55
          refine k _ _ kk (hG.w.up (by omega)) ⟨.use kx, a, _, ?_, .use lk, (by simp only [size]; omega), oa.up (by omega)⟩
          simp only [Pp.d]
          exact d56
        · skip
          obtain ⟨lx, ea, da⟩ := hG.ga
          obtain ⟨gx, eg, dg⟩ := hG.gg
          have hgx : gx.length = g.length := by rw [dg.len, List.length_map, List.length_reverse]
          refine ⟨_, rfl, _, rfl, p, abc, _, 2, lx, ls, rfl, by omega, hG.w, by omega, ea, hG.na, da, hG.l1, hG.l2, fun va a H3 k3 hva oa w3 => ?_⟩
          have eg := k3.get1 eg hG.ng
          have T := hG.w.tk k3
          have kk := kk.trans k3
          have hG := hG.next k3 w3
          refine ⟨_, rfl, p, _, 5, rfl, hG.w, by omega, by decide, by decide, fun r4 H4 hr4 k4 w4 => ?_⟩
          have eg := k4.get1 eg hG.ng
          have T := hG.w.tk k4
          have kk := kk.trans k4
          have hG := hG.next k4 w4
          have hva := Dt.mono T hva
          refine ⟨rfl, _, rfl, ite2 (fun c => ?_) (fun c => ?_)⟩
          · skip
            refine ⟨(by show 1 ≤ sizeLine; decide), fun t61 h61 => ?_⟩
            obtain ⟨H61, e61, s61, dn⟩ := tupD (K := K) h61 (.cons (Dt.str (K := K) "never") .nil)
            rw [e61]
            clear e61
            have hG := hG.same s61
            have kk := kk.trans (s61.kp _)
            have hva := Dt.mono s61.tk hva
            have eg := s61 _ _ eg
            refine ⟨_, rfl, gl, gx, rfl, .inl (SqL.of eg), (by show 2 ≤ sizeLine; decide), fun t62 h62 => ?_⟩
            obtain ⟨H62, e62, s62, d62⟩ := tupD (K := K) h62 (.cons (Dt.str (K := K) "use") (.cons (.int (gx.length : Nat)) .nil))
            rw [e62]
            clear e62
            have hG := hG.same s62
            have kk := kk.trans (s62.kp _)
            have hva := Dt.mono s62.tk hva
            have dn := Dt.mono s62.tk dn
            refine ⟨_, rfl, (by show 3 ≤ sizeLine; decide), fun t63 h63 => ?_⟩
            obtain ⟨H63, e63, s63, d63⟩ := tupD (K := K) h63 (.cons (Dt.str (K := K) "escape") (.cons d62 (.cons hva .nil)))
            rw [e63]
            clear e63
            have hG := hG.same s63
            have kk := kk.trans (s63.kp _)
            have hva := Dt.mono s63.tk hva
            have dn := Dt.mono s63.tk dn
            have d62 := Dt.mono s63.tk d62
            refine ⟨(by show 3 ≤ sizeLine; decide), fun t64 h64 => ?_⟩
            obtain ⟨H64, e64, s64, d64⟩ := tupD (K := K) h64 (.cons (Dt.str (K := K) "make") (.cons dn (.cons d63 .nil)))
            rw [e64]
            clear e64
            have hG := hG.same s64
            have kk := kk.trans (s64.kp _)
            have hva := Dt.mono s64.tk hva
            have dn := Dt.mono s64.tk dn
            have d62 := Dt.mono s64.tk d62
            have d63 := Dt.mono s64.tk d63
            refine ⟨(by show 1 ≤ sizeLine; decide), fun t65 h65 => ?_⟩
            obtain ⟨H65, e65, s65, dn2⟩ := tupD (K := K) h65 (.cons (Dt.str (K := K) "never") .nil)
            rw [e65]
            clear e65
            have hG := hG.same s65
            have kk := kk.trans (s65.kp _)
            have hva := Dt.mono s65.tk hva
            have dn := Dt.mono s65.tk dn
            have d62 := Dt.mono s65.tk d62
            have d63 := Dt.mono s65.tk d63
            have d64 := Dt.mono s65.tk d64
            refine ⟨_, rfl, (by show 3 ≤ sizeLine; decide), fun t66 h66 => ?_⟩
            obtain ⟨H66, e66, s66, d66⟩ := tupD (K := K) h66 (.cons (Dt.str (K := K) "then") (.cons dn2 (.cons hva .nil)))
            rw [e66]
            clear e66
            have hG := hG.same s66
            have kk := kk.trans (s66.kp _)
            have hva := Dt.mono s66.tk hva
            have dn := Dt.mono s66.tk dn
            have d62 := Dt.mono s66.tk d62
            have d63 := Dt.mono s66.tk d63
            have d64 := Dt.mono s66.tk d64
            have dn2 := Dt.mono s66.tk dn2
            refine ⟨(by show 2 ≤ sizeLine; decide), fun t67 h67 => ?_⟩
            obtain ⟨H67, e67, s67, d67⟩ := tupD (K := K) h67 (.cons d64 (.cons d66 .nil))
            rw [e67]
            clear e67
            have hG := hG.same s67
            have kk := kk.trans (s67.kp _)
            have hva := Dt.mono s67.tk hva
            have dn := Dt.mono s67.tk dn
            have d62 := Dt.mono s67.tk d62
            have d63 := Dt.mono s67.tk d63
            have d64 := Dt.mono s67.tk d64
            have dn2 := Dt.mono s67.tk dn2
            have d66 := Dt.mono s67.tk d66
            have onv : sOk 3 .nv := ⟨by decide +kernel, by simp only [sdeep]; omega⟩
            refine k _ _ kk (hG.w.up (by omega)) ⟨.make .nv (.escape (.use g.length) a), .th .nv a, _, ?_, .make (.escape (.use .here)), (by simp only [size]; omega), ((onv.two oa).2.2).up (by have := hG.g4; omega)⟩
            simp only [Pp.d, Sm.d]
            rw [hgx] at d67
            exact d67
          · skip
            refine ⟨_, rfl, _, rfl, gl, gx, rfl, .inl (SqL.of eg), (by show 2 ≤ sizeLine; decide), fun t71 h71 => ?_⟩
            obtain ⟨H71, e71, s71, d71⟩ := tupD (K := K) h71 (.cons (Dt.str (K := K) "use") (.cons (.int (gx.length : Nat)) .nil))
            rw [e71]
            clear e71
            have hG := hG.same s71
            have kk := kk.trans (s71.kp _)
            have hva := Dt.mono s71.tk hva
            refine ⟨(by show 3 ≤ sizeLine; decide), fun t72 h72 => ?_⟩
            obtain ⟨H72, e72, s72, d72⟩ := tupD (K := K) h72 (.cons (Dt.str (K := K) "make") (.cons hva (.cons d71 .nil)))
            rw [e72]
            clear e72
            have hG := hG.same s72
            have kk := kk.trans (s72.kp _)
            have hva := Dt.mono s72.tk hva
            have d71 := Dt.mono s72.tk d71
            refine ⟨_, rfl, _, rfl, (by show 3 ≤ sizeLine; decide), fun t73 h73 => ?_⟩
            obtain ⟨H73, e73, s73, d73⟩ := tupD (K := K) h73 (.cons (Dt.str (K := K) "then") (.cons hva (.cons hva .nil)))
            rw [e73]
            clear e73
            have hG := hG.same s73
            have kk := kk.trans (s73.kp _)
            have hva := Dt.mono s73.tk hva
            have d71 := Dt.mono s73.tk d71
            have d72 := Dt.mono s73.tk d72
            refine ⟨(by show 2 ≤ sizeLine; decide), fun t74 h74 => ?_⟩
            obtain ⟨H74, e74, s74, d74⟩ := tupD (K := K) h74 (.cons d72 (.cons d73 .nil))
            rw [e74]
            clear e74
            have hG := hG.same s74
            have kk := kk.trans (s74.kp _)
            have hva := Dt.mono s74.tk hva
            have d71 := Dt.mono s74.tk d71
            have d72 := Dt.mono s74.tk d72
            have d73 := Dt.mono s74.tk d73
            refine k _ _ kk (hG.w.up (by omega)) ⟨.make a (.use g.length), .th a a, _, ?_, .make (.use .here), (by simp only [size]; omega), ((oa.two oa).2.2).up (by have := hG.g4; omega)⟩
            simp only [Pp.d, Sm.d]
            rw [hgx] at d74
            exact d74
      · refine iteF ?_
        clear dg eg gx
        obtain ⟨lx, ea, da⟩ := hG.ga
        obtain ⟨gx, eg, dg⟩ := hG.gg
        have hgx : gx.length = g.length := by rw [dg.len, List.length_map, List.length_reverse]
        refine ⟨_, rfl, _, rfl, p, abc, _, 2, lx, ls, rfl, by omega, hG.w, by omega, ea, hG.na, da, hG.l1, hG.l2, fun va a H3 k3 hva oa w3 => ?_⟩
        have eg := k3.get1 eg hG.ng
        have T := hG.w.tk k3
        have kk := kk.trans k3
        have hG := hG.next k3 w3
        refine ⟨_, rfl, p, _, 5, rfl, hG.w, by omega, by decide, by decide, fun r4 H4 hr4 k4 w4 => ?_⟩
        have eg := k4.get1 eg hG.ng
        have T := hG.w.tk k4
        have kk := kk.trans k4
        have hG := hG.next k4 w4
        have hva := Dt.mono T hva
        refine ⟨rfl, _, rfl, ite2 (fun c => ?_) (fun c => ?_)⟩
        · skip
          refine ⟨(by show 1 ≤ sizeLine; decide), fun t61 h61 => ?_⟩
          obtain ⟨H61, e61, s61, dn⟩ := tupD (K := K) h61 (.cons (Dt.str (K := K) "never") .nil)
          rw [e61]
          clear e61
          have hG := hG.same s61
          have kk := kk.trans (s61.kp _)
          have hva := Dt.mono s61.tk hva
          have eg := s61 _ _ eg
          refine ⟨_, rfl, gl, gx, rfl, .inl (SqL.of eg), (by show 2 ≤ sizeLine; decide), fun t62 h62 => ?_⟩
          obtain ⟨H62, e62, s62, d62⟩ := tupD (K := K) h62 (.cons (Dt.str (K := K) "use") (.cons (.int (gx.length : Nat)) .nil))
          rw [e62]
          clear e62
          have hG := hG.same s62
          have kk := kk.trans (s62.kp _)
          have hva := Dt.mono s62.tk hva
          have dn := Dt.mono s62.tk dn
          refine ⟨_, rfl, (by show 3 ≤ sizeLine; decide), fun t63 h63 => ?_⟩
          obtain ⟨H63, e63, s63, d63⟩ := tupD (K := K) h63 (.cons (Dt.str (K := K) "escape") (.cons d62 (.cons hva .nil)))
          rw [e63]
          clear e63
          have hG := hG.same s63
          have kk := kk.trans (s63.kp _)
          have hva := Dt.mono s63.tk hva
          have dn := Dt.mono s63.tk dn
          have d62 := Dt.mono s63.tk d62
          refine ⟨(by show 3 ≤ sizeLine; decide), fun t64 h64 => ?_⟩
          obtain ⟨H64, e64, s64, d64⟩ := tupD (K := K) h64 (.cons (Dt.str (K := K) "make") (.cons dn (.cons d63 .nil)))
          rw [e64]
          clear e64
          have hG := hG.same s64
          have kk := kk.trans (s64.kp _)
          have hva := Dt.mono s64.tk hva
          have dn := Dt.mono s64.tk dn
          have d62 := Dt.mono s64.tk d62
          have d63 := Dt.mono s64.tk d63
          refine ⟨(by show 1 ≤ sizeLine; decide), fun t65 h65 => ?_⟩
          obtain ⟨H65, e65, s65, dn2⟩ := tupD (K := K) h65 (.cons (Dt.str (K := K) "never") .nil)
          rw [e65]
          clear e65
          have hG := hG.same s65
          have kk := kk.trans (s65.kp _)
          have hva := Dt.mono s65.tk hva
          have dn := Dt.mono s65.tk dn
          have d62 := Dt.mono s65.tk d62
          have d63 := Dt.mono s65.tk d63
          have d64 := Dt.mono s65.tk d64
          refine ⟨_, rfl, (by show 3 ≤ sizeLine; decide), fun t66 h66 => ?_⟩
          obtain ⟨H66, e66, s66, d66⟩ := tupD (K := K) h66 (.cons (Dt.str (K := K) "then") (.cons dn2 (.cons hva .nil)))
          rw [e66]
          clear e66
          have hG := hG.same s66
          have kk := kk.trans (s66.kp _)
          have hva := Dt.mono s66.tk hva
          have dn := Dt.mono s66.tk dn
          have d62 := Dt.mono s66.tk d62
          have d63 := Dt.mono s66.tk d63
          have d64 := Dt.mono s66.tk d64
          have dn2 := Dt.mono s66.tk dn2
          refine ⟨(by show 2 ≤ sizeLine; decide), fun t67 h67 => ?_⟩
          obtain ⟨H67, e67, s67, d67⟩ := tupD (K := K) h67 (.cons d64 (.cons d66 .nil))
          rw [e67]
          clear e67
          have hG := hG.same s67
          have kk := kk.trans (s67.kp _)
          have hva := Dt.mono s67.tk hva
          have dn := Dt.mono s67.tk dn
          have d62 := Dt.mono s67.tk d62
          have d63 := Dt.mono s67.tk d63
          have d64 := Dt.mono s67.tk d64
          have dn2 := Dt.mono s67.tk dn2
          have d66 := Dt.mono s67.tk d66
          have onv : sOk 3 .nv := ⟨by decide +kernel, by simp only [sdeep]; omega⟩
          refine k _ _ kk (hG.w.up (by omega)) ⟨.make .nv (.escape (.use g.length) a), .th .nv a, _, ?_, .make (.escape (.use .here)), (by simp only [size]; omega), ((onv.two oa).2.2).up (by have := hG.g4; omega)⟩
          simp only [Pp.d, Sm.d]
          rw [hgx] at d67
          exact d67
        · skip
          refine ⟨_, rfl, _, rfl, gl, gx, rfl, .inl (SqL.of eg), (by show 2 ≤ sizeLine; decide), fun t71 h71 => ?_⟩
          obtain ⟨H71, e71, s71, d71⟩ := tupD (K := K) h71 (.cons (Dt.str (K := K) "use") (.cons (.int (gx.length : Nat)) .nil))
          rw [e71]
          clear e71
          have hG := hG.same s71
          have kk := kk.trans (s71.kp _)
          have hva := Dt.mono s71.tk hva
          refine ⟨(by show 3 ≤ sizeLine; decide), fun t72 h72 => ?_⟩
          obtain ⟨H72, e72, s72, d72⟩ := tupD (K := K) h72 (.cons (Dt.str (K := K) "make") (.cons hva (.cons d71 .nil)))
          rw [e72]
          clear e72
          have hG := hG.same s72
          have kk := kk.trans (s72.kp _)
          have hva := Dt.mono s72.tk hva
          have d71 := Dt.mono s72.tk d71
          refine ⟨_, rfl, _, rfl, (by show 3 ≤ sizeLine; decide), fun t73 h73 => ?_⟩
          obtain ⟨H73, e73, s73, d73⟩ := tupD (K := K) h73 (.cons (Dt.str (K := K) "then") (.cons hva (.cons hva .nil)))
          rw [e73]
          clear e73
          have hG := hG.same s73
          have kk := kk.trans (s73.kp _)
          have hva := Dt.mono s73.tk hva
          have d71 := Dt.mono s73.tk d71
          have d72 := Dt.mono s73.tk d72
          refine ⟨(by show 2 ≤ sizeLine; decide), fun t74 h74 => ?_⟩
          obtain ⟨H74, e74, s74, d74⟩ := tupD (K := K) h74 (.cons d72 (.cons d73 .nil))
          rw [e74]
          clear e74
          have hG := hG.same s74
          have kk := kk.trans (s74.kp _)
          have hva := Dt.mono s74.tk hva
          have d71 := Dt.mono s74.tk d71
          have d72 := Dt.mono s74.tk d72
          have d73 := Dt.mono s74.tk d73
          refine k _ _ kk (hG.w.up (by omega)) ⟨.make a (.use g.length), .th a a, _, ?_, .make (.use .here), (by simp only [size]; omega), ((oa.two oa).2.2).up (by have := hG.g4; omega)⟩
          simp only [Pp.d, Sm.d]
          rw [hgx] at d74
          exact d74
    refine ⟨_, rfl, rfl, _, rfl, ite2 (fun c2 => ?_) (fun c2 => ?_)⟩
    · skip
      refine ⟨_, rfl, (by show 0 ≤ sizeLine; decide), fun t51 h51 => ?_⟩
      have np51 := (hG.w.ne h51).symm
      obtain ⟨H51, e51, s51, el0⟩ := lstD h51 []
      rw [e51]
      clear e51
      have hG := hG.same s51
      have kk := kk.trans (s51.kp _)
      obtain ⟨gx, eg, dg⟩ := hG.gg
      refine ⟨_, _, Dp.lst (SqL.of eg) dg.dp, Dp.lst (SqL.of el0) .nil, shaped_sms hG.rev (by omega), shaped_nil, _, rfl, ?_⟩
      rw [eqv_nil]
      refine ite2 (fun c0 => ?_) (fun c0 => ?_)
      · have hg0 : 0 < g.length := Nat.pos_of_ne_zero fun z => by
          rw [List.length_eq_zero_iff.mp z] at c0
          exact Bool.noConfusion c0
        clear dg eg gx
        refine ⟨_, rfl, p, _, 4, rfl, hG.w, by omega, by decide, by decide, fun r2 H2 hr2 k2 w2 => ?_⟩
        have kk := kk.trans k2
        have hG := hG.next k2 w2
        refine ⟨_, _, rfl, rfl, _, rfl, ite2 (fun c1 => ?_) (fun c1 => ?_)⟩
        · obtain ⟨gx, eg, dg⟩ := hG.gg
          have hgx : gx.length = g.length := by rw [dg.len, List.length_map, List.length_reverse]
          refine ⟨_, rfl, _, rfl, gl, gx, rfl, .inl (SqL.of eg), p, _, gx.length, rfl, hG.w, by omega, by omega, by omega, fun kx H5 hk k5 w5 => ?_⟩
          have T := hG.w.tk k5
          have eg := k5.get1 eg hG.ng
          have dg := DtAll.mono T dg
          have kk := kk.trans k5
          have hG := hG.next k5 w5
          obtain ⟨vi, ei⟩ : ∃ vi, gx[kx]? = some vi := ⟨_, List.getElem?_eq_getElem hk⟩
          obtain ⟨di, edi, ri⟩ := dg.get' ei
          obtain ⟨a, eb, rfl⟩ : ∃ b, g.reverse[kx]? = some b ∧ b.d = di := by
            rw [List.getElem?_map] at edi
            exact Option.map_eq_some_iff.mp edi
          obtain ⟨fl, lk⟩ := lk_of eb
          have oa := hG.rev _ (List.mem_of_getElem? eb)
          refine ⟨_, rfl, (by show 2 ≤ sizeLine; decide), fun t55 h55 => ?_⟩
          obtain ⟨H55, e55, s55, d55⟩ := tupD (K := K) h55 (.cons (Dt.str (K := K) "use") (.cons (.int (kx : Nat)) .nil))
          rw [e55]
          clear e55
          have hG := hG.same s55
          have kk := kk.trans (s55.kp _)
          have ri := Dt.mono s55.tk ri
          have eg := s55 _ _ eg
          refine ⟨_, rfl, _, rfl, gl, gx, _, _, rfl, rfl, SqL.of eg, atI_nat ei, (by show 2 ≤ sizeLine; decide), fun t56 h56 => ?_⟩
          obtain ⟨H56, e56, s56, d56⟩ := tupD (K := K) h56 (.cons d55 (.cons ri .nil))
          rw [e56]
          clear e56
          have hG := hG.same s56
          have kk := kk.trans (s56.kp _)
          have ri := Dt.mono s56.tk ri
          have d55 := Dt.mono s56.tk d55
          refine k _ _ kk (hG.w.up (by omega)) ⟨.use kx, a, _, ?_, .use lk, (by simp only [size]; omega), oa.up (by omega)⟩
          simp only [Pp.d]
          exact d56
        · skip
          obtain ⟨lx, ea, da⟩ := hG.ga
          obtain ⟨gx, eg, dg⟩ := hG.gg
          have hgx : gx.length = g.length := by rw [dg.len, List.length_map, List.length_reverse]
          refine ⟨_, rfl, _, rfl, p, abc, _, 2, lx, ls, rfl, by omega, hG.w, by omega, ea, hG.na, da, hG.l1, hG.l2, fun va a H3 k3 hva oa w3 => ?_⟩
          have eg := k3.get1 eg hG.ng
          have T := hG.w.tk k3
          have kk := kk.trans k3
          have hG := hG.next k3 w3
          refine ⟨_, rfl, p, _, 5, rfl, hG.w, by omega, by decide, by decide, fun r4 H4 hr4 k4 w4 => ?_⟩
          have eg := k4.get1 eg hG.ng
          have T := hG.w.tk k4
          have kk := kk.trans k4
          have hG := hG.next k4 w4
          have hva := Dt.mono T hva
          refine ⟨rfl, _, rfl, ite2 (fun c => ?_) (fun c => ?_)⟩
          · skip
            refine ⟨(by show 1 ≤ sizeLine; decide), fun t61 h61 => ?_⟩
            obtain ⟨H61, e61, s61, dn⟩ := tupD (K := K) h61 (.cons (Dt.str (K := K) "never") .nil)
            rw [e61]
            clear e61
            have hG := hG.same s61
            have kk := kk.trans (s61.kp _)
            have hva := Dt.mono s61.tk hva
            have eg := s61 _ _ eg
            refine ⟨_, rfl, gl, gx, rfl, .inl (SqL.of eg), (by show 2 ≤ sizeLine; decide), fun t62 h62 => ?_⟩
            obtain ⟨H62, e62, s62, d62⟩ := tupD (K := K) h62 (.cons (Dt.str (K := K) "use") (.cons (.int (gx.length : Nat)) .nil))
            rw [e62]
            clear e62
            have hG := hG.same s62
            have kk := kk.trans (s62.kp _)
            have hva := Dt.mono s62.tk hva
            have dn := Dt.mono s62.tk dn
            refine ⟨_, rfl, (by show 3 ≤ sizeLine; decide), fun t63 h63 => ?_⟩
            obtain ⟨H63, e63, s63, d63⟩ := tupD (K := K) h63 (.cons (Dt.str (K := K) "escape") (.cons d62 (.cons hva .nil)))
            rw [e63]
            clear e63
            have hG := hG.same s63
            have kk := kk.trans (s63.kp _)
            have hva := Dt.mono s63.tk hva
            have dn := Dt.mono s63.tk dn
            have d62 := Dt.mono s63.tk d62
            refine ⟨(by show 3 ≤ sizeLine; decide), fun t64 h64 => ?_⟩
            obtain ⟨H64, e64, s64, d64⟩ := tupD (K := K) h64 (.cons (Dt.str (K := K) "make") (.cons dn (.cons d63 .nil)))
            rw [e64]
            clear e64
            have hG := hG.same s64
            have kk := kk.trans (s64.kp _)
            have hva := Dt.mono s64.tk hva
            have dn := Dt.mono s64.tk dn
            have d62 := Dt.mono s64.tk d62
            have d63 := Dt.mono s64.tk d63
            refine ⟨(by show 1 ≤ sizeLine; decide), fun t65 h65 => ?_⟩
            obtain ⟨H65, e65, s65, dn2⟩ := tupD (K := K) h65 (.cons (Dt.str (K := K) "never") .nil)
            rw [e65]
            clear e65
            have hG := hG.same s65
            have kk := kk.trans (s65.kp _)
            have hva := Dt.mono s65.tk hva
            have dn := Dt.mono s65.tk dn
            have d62 := Dt.mono s65.tk d62
            have d63 := Dt.mono s65.tk d63
            have d64 := Dt.mono s65.tk d64
            refine ⟨_, rfl, (by show 3 ≤ sizeLine; decide), fun t66 h66 => ?_⟩
            obtain ⟨H66, e66, s66, d66⟩ := tupD (K := K) h66 (.cons (Dt.str (K := K) "then") (.cons dn2 (.cons hva .nil)))
            rw [e66]
            clear e66
            have hG := hG.same s66
            have kk := kk.trans (s66.kp _)
            have hva := Dt.mono s66.tk hva
            have dn := Dt.mono s66.tk dn
            have d62 := Dt.mono s66.tk d62
            have d63 := Dt.mono s66.tk d63
            have d64 := Dt.mono s66.tk d64
            have dn2 := Dt.mono s66.tk dn2
            refine ⟨(by show 2 ≤ sizeLine; decide), fun t67 h67 => ?_⟩
            obtain ⟨H67, e67, s67, d67⟩ := tupD (K := K) h67 (.cons d64 (.cons d66 .nil))
            rw [e67]
            clear e67
            have hG := hG.same s67
            have kk := kk.trans (s67.kp _)
            have hva := Dt.mono s67.tk hva
            have dn := Dt.mono s67.tk dn
            have d62 := Dt.mono s67.tk d62
            have d63 := Dt.mono s67.tk d63
            have d64 := Dt.mono s67.tk d64
            have dn2 := Dt.mono s67.tk dn2
            have d66 := Dt.mono s67.tk d66
            have onv : sOk 3 .nv := ⟨by decide +kernel, by simp only [sdeep]; omega⟩
            refine k _ _ kk (hG.w.up (by omega)) ⟨.make .nv (.escape (.use g.length) a), .th .nv a, _, ?_, .make (.escape (.use .here)), (by simp only [size]; omega), ((onv.two oa).2.2).up (by have := hG.g4; omega)⟩
            simp only [Pp.d, Sm.d]
            rw [hgx] at d67
            exact d67
          · skip
            refine ⟨_, rfl, _, rfl, gl, gx, rfl, .inl (SqL.of eg), (by show 2 ≤ sizeLine; decide), fun t71 h71 => ?_⟩
            obtain ⟨H71, e71, s71, d71⟩ := tupD (K := K) h71 (.cons (Dt.str (K := K) "use") (.cons (.int (gx.length : Nat)) .nil))
            rw [e71]
            clear e71
            have hG := hG.same s71
            have kk := kk.trans (s71.kp _)
            have hva := Dt.mono s71.tk hva
            refine ⟨(by show 3 ≤ sizeLine; decide), fun t72 h72 => ?_⟩
            obtain ⟨H72, e72, s72, d72⟩ := tupD (K := K) h72 (.cons (Dt.str (K := K) "make") (.cons hva (.cons d71 .nil)))
            rw [e72]
            clear e72
            have hG := hG.same s72
            have kk := kk.trans (s72.kp _)
            have hva := Dt.mono s72.tk hva
            have d71 := Dt.mono s72.tk d71
            refine ⟨_, rfl, _, rfl, (by show 3 ≤ sizeLine; decide), fun t73 h73 => ?_⟩
            obtain ⟨H73, e73, s73, d73⟩ := tupD (K := K) h73 (.cons (Dt.str (K := K) "then") (.cons hva (.cons hva .nil)))
            rw [e73]
            clear e73
            have hG := hG.same s73
            have kk := kk.trans (s73.kp _)
            have hva := Dt.mono s73.tk hva
            have d71 := Dt.mono s73.tk d71
            have d72 := Dt.mono s73.tk d72
            refine ⟨(by show 2 ≤ sizeLine; decide), fun t74 h74 => ?_⟩
            obtain ⟨H74, e74, s74, d74⟩ := tupD (K := K) h74 (.cons d72 (.cons d73 .nil))
            rw [e74]
            clear e74
            have hG := hG.same s74
            have kk := kk.trans (s74.kp _)
            have hva := Dt.mono s74.tk hva
            have d71 := Dt.mono s74.tk d71
            have d72 := Dt.mono s74.tk d72
            have d73 := Dt.mono s74.tk d73
            refine k _ _ kk (hG.w.up (by omega)) ⟨.make a (.use g.length), .th a a, _, ?_, .make (.use .here), (by simp only [size]; omega), ((oa.two oa).2.2).up (by have := hG.g4; omega)⟩
            simp only [Pp.d, Sm.d]
            rw [hgx] at d74
            exact d74
      · refine iteF ?_
        clear dg eg gx
        obtain ⟨lx, ea, da⟩ := hG.ga
        obtain ⟨gx, eg, dg⟩ := hG.gg
        have hgx : gx.length = g.length := by rw [dg.len, List.length_map, List.length_reverse]
        refine ⟨_, rfl, _, rfl, p, abc, _, 2, lx, ls, rfl, by omega, hG.w, by omega, ea, hG.na, da, hG.l1, hG.l2, fun va a H3 k3 hva oa w3 => ?_⟩
        have eg := k3.get1 eg hG.ng
        have T := hG.w.tk k3
        have kk := kk.trans k3
        have hG := hG.next k3 w3
        refine ⟨_, rfl, p, _, 5, rfl, hG.w, by omega, by decide, by decide, fun r4 H4 hr4 k4 w4 => ?_⟩
        have eg := k4.get1 eg hG.ng
        have T := hG.w.tk k4
        have kk := kk.trans k4
        have hG := hG.next k4 w4
        have hva := Dt.mono T hva
        refine ⟨rfl, _, rfl, ite2 (fun c => ?_) (fun c => ?_)⟩
        · skip
          refine ⟨(by show 1 ≤ sizeLine; decide), fun t61 h61 => ?_⟩
          obtain ⟨H61, e61, s61, dn⟩ := tupD (K := K) h61 (.cons (Dt.str (K := K) "never") .nil)
          rw [e61]
          clear e61
          have hG := hG.same s61
          have kk := kk.trans (s61.kp _)
          have hva := Dt.mono s61.tk hva
          have eg := s61 _ _ eg
          refine ⟨_, rfl, gl, gx, rfl, .inl (SqL.of eg), (by show 2 ≤ sizeLine; decide), fun t62 h62 => ?_⟩
          obtain ⟨H62, e62, s62, d62⟩ := tupD (K := K) h62 (.cons (Dt.str (K := K) "use") (.cons (.int (gx.length : Nat)) .nil))
          rw [e62]
          clear e62
          have hG := hG.same s62
          have kk := kk.trans (s62.kp _)
          have hva := Dt.mono s62.tk hva
          have dn := Dt.mono s62.tk dn
          refine ⟨_, rfl, (by show 3 ≤ sizeLine; decide), fun t63 h63 => ?_⟩
          obtain ⟨H63, e63, s63, d63⟩ := tupD (K := K) h63 (.cons (Dt.str (K := K) "escape") (.cons d62 (.cons hva .nil)))
          rw [e63]
          clear e63
          have hG := hG.same s63
          have kk := kk.trans (s63.kp _)
          have hva := Dt.mono s63.tk hva
          have dn := Dt.mono s63.tk dn
          have d62 := Dt.mono s63.tk d62
          refine ⟨(by show 3 ≤ sizeLine; decide), fun t64 h64 => ?_⟩
          obtain ⟨H64, e64, s64, d64⟩ := tupD (K := K) h64 (.cons (Dt.str (K := K) "make") (.cons dn (.cons d63 .nil)))
          rw [e64]
          clear e64
          have hG := hG.same s64
          have kk := kk.trans (s64.kp _)
          have hva := Dt.mono s64.tk hva
          have dn := Dt.mono s64.tk dn
          have d62 := Dt.mono s64.tk d62
          have d63 := Dt.mono s64.tk d63
          refine ⟨(by show 1 ≤ sizeLine; decide), fun t65 h65 => ?_⟩
          obtain ⟨H65, e65, s65, dn2⟩ := tupD (K := K) h65 (.cons (Dt.str (K := K) "never") .nil)
          rw [e65]
          clear e65
          have hG := hG.same s65
          have kk := kk.trans (s65.kp _)
          have hva := Dt.mono s65.tk hva
          have dn := Dt.mono s65.tk dn
          have d62 := Dt.mono s65.tk d62
          have d63 := Dt.mono s65.tk d63
          have d64 := Dt.mono s65.tk d64
          refine ⟨_, rfl, (by show 3 ≤ sizeLine; decide), fun t66 h66 => ?_⟩
          obtain ⟨H66, e66, s66, d66⟩ := tupD (K := K) h66 (.cons (Dt.str (K := K) "then") (.cons dn2 (.cons hva .nil)))
          rw [e66]
          clear e66
          have hG := hG.same s66
          have kk := kk.trans (s66.kp _)
          have hva := Dt.mono s66.tk hva
          have dn := Dt.mono s66.tk dn
          have d62 := Dt.mono s66.tk d62
          have d63 := Dt.mono s66.tk d63
          have d64 := Dt.mono s66.tk d64
          have dn2 := Dt.mono s66.tk dn2
          refine ⟨(by show 2 ≤ sizeLine; decide), fun t67 h67 => ?_⟩
          obtain ⟨H67, e67, s67, d67⟩ := tupD (K := K) h67 (.cons d64 (.cons d66 .nil))
          rw [e67]
          clear e67
          have hG := hG.same s67
          have kk := kk.trans (s67.kp _)
          have hva := Dt.mono s67.tk hva
          have dn := Dt.mono s67.tk dn
          have d62 := Dt.mono s67.tk d62
          have d63 := Dt.mono s67.tk d63
          have d64 := Dt.mono s67.tk d64
          have dn2 := Dt.mono s67.tk dn2
          have d66 := Dt.mono s67.tk d66
          have onv : sOk 3 .nv := ⟨by decide +kernel, by simp only [sdeep]; omega⟩
          refine k _ _ kk (hG.w.up (by omega)) ⟨.make .nv (.escape (.use g.length) a), .th .nv a, _, ?_, .make (.escape (.use .here)), (by simp only [size]; omega), ((onv.two oa).2.2).up (by have := hG.g4; omega)⟩
          simp only [Pp.d, Sm.d]
          rw [hgx] at d67
          exact d67
        · skip
          refine ⟨_, rfl, _, rfl, gl, gx, rfl, .inl (SqL.of eg), (by show 2 ≤ sizeLine; decide), fun t71 h71 => ?_⟩
          obtain ⟨H71, e71, s71, d71⟩ := tupD (K := K) h71 (.cons (Dt.str (K := K) "use") (.cons (.int (gx.length : Nat)) .nil))
          rw [e71]
          clear e71
          have hG := hG.same s71
          have kk := kk.trans (s71.kp _)
          have hva := Dt.mono s71.tk hva
          refine ⟨(by show 3 ≤ sizeLine; decide), fun t72 h72 => ?_⟩
          obtain ⟨H72, e72, s72, d72⟩ := tupD (K := K) h72 (.cons (Dt.str (K := K) "make") (.cons hva (.cons d71 .nil)))
          rw [e72]
          clear e72
          have hG := hG.same s72
          have kk := kk.trans (s72.kp _)
          have hva := Dt.mono s72.tk hva
          have d71 := Dt.mono s72.tk d71
          refine ⟨_, rfl, _, rfl, (by show 3 ≤ sizeLine; decide), fun t73 h73 => ?_⟩
          obtain ⟨H73, e73, s73, d73⟩ := tupD (K := K) h73 (.cons (Dt.str (K := K) "then") (.cons hva (.cons hva .nil)))
          rw [e73]
          clear e73
          have hG := hG.same s73
          have kk := kk.trans (s73.kp _)
          have hva := Dt.mono s73.tk hva
          have d71 := Dt.mono s73.tk d71
          have d72 := Dt.mono s73.tk d72
          refine ⟨(by show 2 ≤ sizeLine; decide), fun t74 h74 => ?_⟩
          obtain ⟨H74, e74, s74, d74⟩ := tupD (K := K) h74 (.cons d72 (.cons d73 .nil))
          rw [e74]
          clear e74
          have hG := hG.same s74
          have kk := kk.trans (s74.kp _)
          have hva := Dt.mono s74.tk hva
          have d71 := Dt.mono s74.tk d71
          have d72 := Dt.mono s74.tk d72
          have d73 := Dt.mono s74.tk d73
          refine k _ _ kk (hG.w.up (by omega)) ⟨.make a (.use g.length), .th a a, _, ?_, .make (.use .here), (by simp only [size]; omega), ((oa.two oa).2.2).up (by have := hG.g4; omega)⟩
          simp only [Pp.d, Sm.d]
          rw [hgx] at d74
          exact d74
    clear c2
    have hl0 : lv ≠ 0 := fun z => by
      have c1 : ¬ V.int ((lv : Nat) : Int) = V.int 0 := of_decide_eq_false (Bool.eq_false_iff.mpr c)
      exact c1 (by rw [z]; rfl)
    clear c
    obtain ⟨l, rfl⟩ : ∃ l, lv = l + 1 := ⟨lv - 1, by omega⟩
    clear hl0 h30 h3
    have eR : rD (l + 1) = 2 * rD l + 1 := rfl
    have eC : cM (l + 1) = 2 * cM l + 30 := rfl
    have eS : sz (l + 1) = 3 * sz l + 6 := rfl
    have h3 : 3 ≤ sz l := sz_ge l
    have el1 : (((l + 1 : Nat) : Int) - 1) = (l : Nat) := by omega
    refine ⟨_, rfl, rfl, _, rfl, ite2 (fun c => ?_) (fun c => ?_)⟩
    · clear c
      obtain ⟨lx, ea, da⟩ := hG.ga
      obtain ⟨gx, eg, dg⟩ := hG.gg
      have hgx : gx.length = g.length := by rw [dg.len, List.length_map, List.length_reverse]
      refine ⟨_, rfl, _, rfl, p, abc, _, 2, lx, ls, rfl, by omega, hG.w, by omega, ea, hG.na, da, hG.l1, hG.l2, fun vb b H2 k2 hb ob w2 => ?_⟩
      have eg := k2.get1 eg hG.ng
      have dg := DtAll.mono (hG.w.tk k2) dg
      have T := hG.w.tk k2
      have kk := kk.trans k2
      have hG := hG.next k2 w2
      refine ⟨_, rfl, _, rfl, _, rfl, _, rfl, (by show 1 ≤ sizeLine; decide), fun t11 h11 => ?_⟩
      have np11 := (hG.w.ne h11).symm
      obtain ⟨H11, e11, s11, el⟩ := lstD h11 [vb]
      rw [e11]
      clear e11
      have hG := hG.same s11
      have kk := kk.trans (s11.kp _)
      have hb := Dt.mono s11.tk hb
      have eg := s11 _ _ eg
      have dg := DtAll.mono s11.tk dg
      refine ⟨gl, t11, gx, [vb], rfl, rfl, eg, el, (by show gx.length + 1 ≤ _; exact Nat.le_of_lt (small100 (by omega))), fun q hq => ?_⟩
      have npq := (hG.w.ne hq).symm
      obtain ⟨H12, e12, s12, el12⟩ := lstD hq (gx ++ [vb])
      rw [e12]
      clear e12
      have hG := hG.same s12
      have kk := kk.trans (s12.kp _)
      have hb := Dt.mono s12.tk hb
      have dg := DtAll.mono s12.tk dg
      have hG2 := hG.grow (Nat.le_refl G) (ob.up (by have := hG.g4; omega)) el12 (by rw [List.reverse_cons, List.map_append]; exact dg.app (.cons hb .nil)) npq
      refine ⟨_, rfl, _, _, rfl, rfl, p, abc, q, _, l, G, ls, b :: g, (by show [V.ref p, V.ref abc, V.ref q, V.int (((l + 1 : Nat) : Int) - 1)] = _; rw [el1]), by omega, by omega, hG2, by omega, by omega, (by rw [List.length_cons]; omega), fun x H13 k13 w13 ⟨qq, c', fc, hxr, hdc, hsc, oc⟩ => ?_⟩
      have T := hG.w.tk k13
      have kk := kk.trans k13
      have hG := hG.next k13 w13
      have hb := Dt.mono T hb
      obtain ⟨tr, xr, rfl, hTr, dTr⟩ := hxr.inv
      obtain ⟨vq, vc, rfl, hq2, hc2⟩ := dTr.c2
      refine ⟨tr, _, rfl, hTr, rfl, _, _, rfl, _, _, rfl, rfl, ?_⟩
      refine ⟨_, rfl, _, rfl, (by show 3 ≤ sizeLine; decide), fun t14 h14 => ?_⟩
      obtain ⟨H14, e14, s14, d14⟩ := tupD (K := K) h14 (.cons (Dt.str (K := K) "make") (.cons hb (.cons hq2 .nil)))
      rw [e14]
      clear e14
      have hG := hG.same s14
      have kk := kk.trans (s14.kp _)
      have hb := Dt.mono s14.tk hb
      have hq2 := Dt.mono s14.tk hq2
      have hc2 := Dt.mono s14.tk hc2
      refine ⟨_, rfl, _, rfl, (by show 3 ≤ sizeLine; decide), fun t15 h15 => ?_⟩
      obtain ⟨H15, e15, s15, d15⟩ := tupD (K := K) h15 (.cons (Dt.str (K := K) "then") (.cons hb (.cons hc2 .nil)))
      rw [e15]
      clear e15
      have hG := hG.same s15
      have kk := kk.trans (s15.kp _)
      have hb := Dt.mono s15.tk hb
      have hq2 := Dt.mono s15.tk hq2
      have hc2 := Dt.mono s15.tk hc2
      have d14 := Dt.mono s15.tk d14
      refine ⟨(by show 2 ≤ sizeLine; decide), fun t16 h16 => ?_⟩
      obtain ⟨H16, e16, s16, d16⟩ := tupD (K := K) h16 (.cons d14 (.cons d15 .nil))
      rw [e16]
      clear e16
      have hG := hG.same s16
      have kk := kk.trans (s16.kp _)
      have hb := Dt.mono s16.tk hb
      have hq2 := Dt.mono s16.tk hq2
      have hc2 := Dt.mono s16.tk hc2
      have d14 := Dt.mono s16.tk d14
      have d15 := Dt.mono s16.tk d15
      have ob2 : sOk (G + rD l) b := ob.up (by have := hG.g4; omega)
      refine k _ _ kk (hG.w.up (by omega)) ⟨.make b qq, .th b c', _, ?_, .make hdc, (by simp only [size]; omega), ((ob2.two oc).2.2).up (by omega)⟩
      simp only [Pp.d, Sm.d]
      exact d16
    clear c
    refine ⟨_, rfl, _, rfl, _, rfl, _, rfl, _, _, rfl, rfl, p, abc, gl, _, l, G, ls, g, (by show [V.ref p, V.ref abc, V.ref gl, V.int (((l + 1 : Nat) : Int) - 1)] = _; rw [el1]), by omega, by omega, hG, by omega, by omega, by omega, fun x H21 k21 w21 ⟨pp, a, fa, hxr, hd, hs, oa⟩ => ?_⟩
    have kk := kk.trans k21
    have hG := hG.next k21 w21
    obtain ⟨tr, xr, rfl, hTr, dTr⟩ := hxr.inv
    obtain ⟨vp, va, rfl, hp, hva⟩ := dTr.c2
    have hz : sz l ≤ 200 := sz_le (by omega)
    refine ⟨tr, _, rfl, hTr, rfl, _, _, rfl, _, _, rfl, rfl, ?_⟩
    refine ⟨_, rfl, _, _, rfl, rfl, _, rfl, ite2 (fun c => ?_) (fun c => ?_)⟩
    · exact ⟨_, rfl, _, rfl, _, rfl, _, rfl, p, abc, gl, _, G, G + rD l, sz l, ls, g, _, _, pp, a, fa, rfl, hG, by omega, by omega, hp, hva, hd, hs, hz, oa, by omega, by omega, fun x H' k' w' res => k _ _ (kk.trans k') (w'.up (by omega)) (res.up (by omega) (by omega))⟩
    clear c
    refine ⟨_, rfl, _, rfl, _, rfl, _, rfl, _, _, rfl, rfl, _, rfl, _, rfl, _, rfl, (by show 2 ≤ sizeLine; decide), fun t31 h31 => ?_⟩
    obtain ⟨H31, e31, s31, d31⟩ := tupD (K := K) h31 (.cons hp (.cons hva .nil))
    rw [e31]
    clear e31
    have hG := hG.same s31
    have kk := kk.trans (s31.kp _)
    have hp := Dt.mono s31.tk hp
    have hva := Dt.mono s31.tk hva
    exact ⟨p, abc, gl, _, l, G, G + rD l, sz l, ((way : Nat) : Int), ls, g, _, pp, a, fa, (by show [V.ref p, V.ref abc, V.ref gl, V.int (((l + 1 : Nat) : Int) - 1), V.int ((way : Nat) : Int), V.ref t31] = _; rw [el1]), hG, by omega, by omega, by omega, by omega, d31, hd, hs, Nat.le_refl _, hz, oa, by omega, by omega, fun x H' k' w' res => k _ _ (kk.trans k') (w'.up (by omega)) (res.up (by omega) (by omega))⟩
theorem all_made (Dm : Df K mg "_law_made" sMade ["_law_well_here", "_law_abc", "_law_givens", "_law_level"]) (Dg : Df K mg "_law_grown" sGrown ["_law_well_here", "_law_abc", "_law_givens", "_law_level", "_law_way", "_law_first"]) (ml : mg "len" = none) (cD : Cal P w K mg base 1 "_law_draw" ["_law_well_here", "_law_many"] spDraw) (cS : Cal P w K mg base (3 + 2) "_law_statement" ["_law_well_here", "_law_abc", "_law_most"] (spStat K 3))
    (cA : Cal P w K mg base 202 "_law_applied" ["_law_well_here", "_law_givens", "_law_p", "_law_a"] (spApplied K)) (cV : Cal P w K mg base (200 + 1) "_law_moved" ["_law_paper", "_law_at", "_law_by"] (spMoved K 200)) :
    ∀ m, Cal P w K mg base (2 * m + 203) "_law_made" ["_law_well_here", "_law_abc", "_law_givens", "_law_level"] (spMade K m)
  | 0 => Dm.cal fun f fd F => FnOk.void fun vs H Q E ⟨p, abc, gl, n, lv, G, ls, g, _, h, _⟩ => by omega
  | m + 1 => Dm.cal fun f fd F => ok_made F ml cD cS cA (all_made Dm Dg ml cD cS cA cV m) (Dg.cal fun f fd F => ok_grown F ml cD cS cV (all_made Dm Dg ml cD cS cA cV m))
end
end Ob
namespace Ob
open PySem L2
section
variable {P : Program} {w : World} {K : PySem.W.Frag} {mg : Str → Option Value} {base : Heap} {f : Addr} {fd : FuncData}
abbrev sLaw : Stmt := top 51
theorem cM_le : ∀ {l : Nat}, l ≤ 3 → cM l ≤ 450 ∧ rD l ≤ 7
  | 0, _ => by decide
  | 1, _ => by decide
  | 2, _ => by decide
  | 3, _ => by decide
  | l + 4, h => by omega
theorem refNon (b : Addr) : decide (V.ref b = V.non) = false := decide_eq_false fun z => by cases z
theorem sqL_same {H H' : Hp} {a : Addr} {xs : List V} (s : Same H H') (h : SqL K H a xs) : SqL K H' a xs := by
  rcases h with ((h | ⟨o, h⟩) | h)
  · exact .inl (.inl (s _ _ h))
  · exact .inl (.inr ⟨o, s _ _ h⟩)
  · exact .inr h
theorem sOk_lt {x : Str} (h : PyData.strOk x = true) : sOk 1 (.lt x) := by
  have e : PyData.strOk "letter" = true := by decide +kernel
  refine ⟨?_, ?_⟩
  · simp only [Sm.d, PyData.canLay0, PyData.canLayAll0, e, h, Bool.and_self]
  · simp only [sdeep]; omega
def spClosed (K : PySem.W.Frag) : Sp := fun vs H Q _ => ∃ (p : Addr), vs = [.ref p] ∧ WAt H p 0 ∧ ∀ x H', Kp [p] H H' → Res K 60 200 [] x H' → Q x H'
theorem scCl : FnScope ["_law_well_here", "_law_abc"] ["_law_well_here"] (defScope sClosed) := ⟨rfl, rfl, rfl, by decide +kernel, rfl, by decide +kernel, by decide +kernel⟩
theorem ok_closed (F : Fun K "_law_closed" "_law_closed" sClosed f fd) (cD : Cal P w K mg base 1 "_law_draw" ["_law_well_here", "_law_many"] spDraw) (cL : Cal P w K mg base 2 "_law_letters" ["_law_well_here"] (spLetters K))
    (cMk : Cal P w K mg base (2 * 4 + 203) "_law_made" ["_law_well_here", "_law_abc", "_law_givens", "_law_level"] (spMade K 4)) : FnOk P w K mg base CX0 212 f fd ["_law_well_here"] (spClosed K) := by
  refine F.ok scCl (fun vs H Q E h => ?_) (fun cdv A outer s H vs Q E hr h => ?_)
  · obtain ⟨p, rfl, _⟩ := h
    rfl
  · obtain ⟨p, rfl, hw, k⟩ := h
    have hr1 : Room 1 _ := hr.mono (by omega)
    have hr2 : Room 2 _ := hr.mono (by omega)
    have hr : Room (2 * 4 + 203) _ := hr
    refine ⟨_, (pss_cons (ps_set (i := 1) scCl.nd rfl (Or.inl rfl) (pe_slice sl_list (pe_cal cL hr2 rfl (pa_cons (pv 0) pa_nil)) po_none (po_some (pe_op op_add pe_int (pe_cal cD hr1 rfl (pa_cons (pv 0) (pa_cons pe_int pa_nil))))))) (pss_one (ps_ret (pe_cal cMk hr rfl (pa_cons (pv 0) (pa_cons (pv 1) (pa_cons (pe_lst pa_nil) (pa_cons (pe_cal cD hr1 rfl (pa_cons (pv 0) (pa_cons pe_int pa_nil))) pa_nil)))))))), ?_⟩
    refine ⟨_, rfl, p, 0, rfl, hw, by omega, fun l H1 xs ws k1 hl el dx hwl hok w1 => ?_⟩
    have nlp : l ≠ p := fun z => by
      obtain ⟨_, _, _, e, _⟩ := hw
      rw [← z, hl] at e
      cases e
    refine ⟨_, rfl, p, _, 3, rfl, w1, by omega, by decide, by decide, fun r H2 hr2 k2 w2 => ?_⟩
    have el2 := k2.get1 el nlp
    have dx2 := DtAll.mono (w1.tk k2) dx
    refine ⟨_, _, rfl, rfl, _, rfl, l, xs, rfl, SqL.of el2, fun q hq => ?_⟩
    have npq := (w2.ne hq).symm
    obtain ⟨ls, dls, hls1, hls2⟩ : ∃ ls : List Sm, DtAll K H2 (cutV xs none (some (1 + (r : Nat)))) (ls.map Sm.d) ∧ (∀ a ∈ ls, sOk 1 a) ∧ ls.length ≤ 10 := by
      match ws, hwl, hok, dx2 with
      | [w1, w2, w3, w4], _, hok, dx2 =>
        have q1 := sOk_lt (hok w1 (by simp))
        have q2 := sOk_lt (hok w2 (by simp))
        have q3 := sOk_lt (hok w3 (by simp))
        simp only [List.map_cons, List.map_nil] at dx2
        cases dx2 with
        | cons d1 dx2 =>
          cases dx2 with
          | cons d2 dx2 =>
            cases dx2 with
            | cons d3 dx2 =>
              obtain ⟨v4, rfl, d4⟩ := dx2.c1
              rcases r with _ | _ | _ | r
              · exact ⟨[.lt w1], .cons d1 .nil, by simp [q1], by simp⟩
              · exact ⟨[.lt w1, .lt w2], .cons d1 (.cons d2 .nil), by simp [q1, q2], by simp⟩
              · exact ⟨[.lt w1, .lt w2, .lt w3], .cons d1 (.cons d2 (.cons d3 .nil)), by simp [q1, q2, q3], by simp⟩
              · omega
    obtain ⟨H3, e3, s3, el3⟩ := lstD hq (cutV xs none (some (1 + (r : Nat))))
    rw [e3]
    clear e3
    refine ⟨_, rfl, _, rfl, (by show 0 ≤ sizeLine; decide), fun gl hgl => ?_⟩
    have w3 := w2.same s3
    have npg := (w3.ne hgl).symm
    obtain ⟨H4, e4, s4, el4⟩ := lstD hgl []
    rw [e4]
    clear e4
    have w4 := w3.same s4
    refine ⟨_, rfl, p, _, 4, rfl, w4, by omega, by decide, by decide, fun lv H5 hlv k5 w5 => ?_⟩
    obtain ⟨c1, c2⟩ := cM_le (show lv ≤ 3 by omega)
    have c3 := sz_le (show lv ≤ 3 by omega)
    refine ⟨p, q, gl, _, lv, 4, ls, [], rfl, hlv, by omega, ⟨w5, ⟨_, k5.get1 (s4 _ _ el3) npq, DtAll.mono ((s3.trans s4).tk.trans (w4.tk k5)) dls⟩, ⟨[], k5.get1 el4 npg, .nil⟩, npq, npg, hls1, hls2, (fun _ h => by cases h), Nat.le_refl _⟩, by omega, by omega, (by show 0 + lv ≤ 100; omega), fun x H6 k6 w6 res => ?_⟩
    exact k _ _ (((((k1.trans k2).trans (s3.kp _)).trans (s4.kp _)).trans k5).trans k6) (res.up (by omega) c3)
def spLaw (K : PySem.W.Frag) : Sp := fun vs H Q _ => ∃ (a : Addr) (ns : List Int), vs = [.ref a] ∧ ns.length ≤ 63 ∧ SqL K H a (ns.map V.int) ∧ ∀ H', Q (.bl true) H'
theorem scLw : FnScope ["_law_script", "_law_cell", "_law_paper", "_law_a", "_law_due", "_law_turn", "_law_then", "_law_answer"] ["_law_script"] (defScope sLaw) := ⟨rfl, rfl, rfl, by decide +kernel, rfl, by decide +kernel, by decide +kernel⟩
theorem ok_law (F : Fun K "law" "law" sLaw f fd) (mr : mg "range" = none) (cC : Cal P w K mg base 1 "_law_cell_at" ["_law_script", "_law_k"] (spCell K)) (cW : Cal P w K mg base 1 "_law_well" ["_law_cell"] spWell) (cCl : Cal P w K mg base 212 "_law_closed" ["_law_well_here"] (spClosed K))
    (cT : Cal P w K mg base 205 "_law_told" ["_law_paper"] (spTold K)) (cSt : Cal P w K mg base (200 + 6) "step" ["many", "paper"] (spStep K 200)) (cZ : Cal P w K mg base (200 + 1) "_law_size" ["_law_paper"] (spLSize K 200)) (cI : Cal P w K mg base (60 + 1) "_law_is_of" ["_law_shape_here", "_law_a"] (spIsOf K 60)) :
    FnOk P w K mg base CX0 220 f fd ["_law_script"] (spLaw K) := by
  refine F.ok scLw (fun vs H Q E h => ?_) (fun cdv A outer s H vs Q E hr h => ?_)
  · obtain ⟨a, ns, rfl, _⟩ := h
    rfl
  · skip
    obtain ⟨a, ns, rfl, hlen, hS, k⟩ := h
    have hr1 : Room 1 _ := hr.mono (by omega)
    have hrC : Room 212 _ := hr.mono (by omega)
    have hrT : Room 205 _ := hr.mono (by omega)
    have hrS : Room (200 + 6) _ := hr.mono (by omega)
    have hrZ : Room (200 + 1) _ := hr.mono (by omega)
    have hrI : Room (60 + 1) _ := hr.mono (by omega)
    refine ⟨_, (pss_cons (ps_for PassesOwn.never rfl (pi_list (pe_op op_cat (pe_lst (pa_cons (pe_cal cC hr1 rfl (pa_cons (pv 0) (pa_cons pe_int pa_nil))) pa_nil)) (pe_slice sl_list (pv 0) (po_some pe_int) (po_some pe_int)))) (pg_name (i := 1) scLw.nd rfl (Or.inl rfl)) (pss_cons (ps_asg (pe_cal cCl hrC rfl (pa_cons (pe_cal cW hr1 rfl (pa_cons (pv 1) pa_nil)) pa_nil)) (pg_tup rfl (pgs_cons (pg_name (i := 2) scLw.nd rfl (Or.inl rfl)) (pgs_cons (pg_name (i := 3) scLw.nd rfl (Or.inl rfl)) pgs_nil)))) (pss_cons (ps_set (i := 4) scLw.nd rfl (Or.inl rfl) (pe_cal cT hrT rfl (pa_cons (pv 2) pa_nil))) (pss_one (ps_for PassesOwn.never rfl (pi_range1 rfl mr (pa_cons pe_int pa_nil)) (pg_name (i := 5) scLw.nd rfl (Or.inl rfl)) (pss_cons (ps_set (i := 6) scLw.nd rfl (Or.inl rfl) (pe_cal cSt hrS rfl (pa_cons pe_int (pa_cons (pv 2) pa_nil)))) (pss_cons (ps_if (PW.pt (pw_or (pt_cmpR op_isN (pv 6) pe_non (nomark _)) (pw_or1 (pt_cmpR op_gt (pe_cal cZ hrZ rfl (pa_cons (pv 6) pa_nil)) pe_int (nomark _))))) (pss_one (ps_set (i := 6) scLw.nd rfl (Or.inl rfl) (pv 2))) pss_nil) (pss_cons (ps_set (i := 2) scLw.nd rfl (Or.inl rfl) (pv 6)) (pss_cons (ps_set (i := 7) scLw.nd rfl (Or.inl rfl) (pe_cal cT hrT rfl (pa_cons (pv 2) pa_nil))) (pss_cons (ps_if (pt_cmpR op_isN (pv 4) pe_non (nomark _)) (pss_one (ps_set (i := 4) scLw.nd rfl (Or.inl rfl) (pv 7))) pss_nil) (pss_one (ps_if (PW.pt (pw_and (pt_cmpR op_notN (pv 7) pe_non (nomark _)) (pw_and1 (PW.pt (pw_or (pt_cmpR (op_neD hr.units) (pv 7) (pv 4) (nomark _)) (pw_or1 (pt_not (pt_val (pe_cal cI hrI rfl (pa_cons (pv 7) (pa_cons (pv 3) pa_nil))))))))))) (pss_one (ps_ret pe_bl)) pss_nil)))))))))))) (pss_one (ps_ret pe_bl))), ?_⟩
    refine ⟨_, rfl, a, ns, 0, rfl, hS, fun z => ?_⟩
    refine ⟨(by show 1 ≤ sizeLine; decide), fun l1 h1 => ?_⟩
    obtain ⟨H1, e1, s1, el1⟩ := lstD h1 [.int z]
    rw [e1]
    clear e1
    refine ⟨_, rfl, 1, rfl, 10, rfl, a, _, rfl, sqL_same s1 hS, fun l2 h2 => ?_⟩
    obtain ⟨ms, em⟩ : ∃ ms : List Int, cutV (ns.map V.int) (some 1) (some 10) = ms.map V.int := ⟨_, by unfold cutV; rw [← List.map_drop, ← List.map_take]⟩
    have hml : ms.length ≤ 63 := by
      have h1 := cutV_length (ns.map V.int) (some 1) (some 10)
      rw [em, List.length_map, List.length_map] at h1
      omega
    rw [em]
    obtain ⟨H2, e2, s2, el2⟩ := lstD h2 (ms.map V.int)
    rw [e2]
    clear e2
    refine ⟨l1, l2, _, _, rfl, rfl, s2 _ _ el1, el2, (by rw [List.length_map]; show 1 + ms.length ≤ _; exact Nat.le_of_lt (small100 (by omega))), fun l h3 => ?_⟩
    have em2 : [V.int z] ++ ms.map V.int = (z :: ms).map V.int := rfl
    rw [em2]
    generalize z :: ms = zs
    obtain ⟨H3, e3, s3, el3⟩ := lstD h3 (zs.map V.int)
    rw [e3]
    clear e3
    refine ⟨l, rfl, ⟨_, SqL.of el3⟩, ?_⟩
    refine for_list (K := K) (a := l) (xs := zs.map V.int) (fun i σ H' => ∃ (x1 x2 x3 x4 x5 x6 x7 : Option V), σ = [some (.ref a), x1, x2, x3, x4, x5, x6, x7] ∧ H' l = some (.lst (zs.map V.int)))
      ⟨none, none, none, none, none, none, none, rfl, el3⟩ (fun i σ H' _ ⟨_, _, _, _, _, _, _, _, h⟩ => SqL.of h) ?_ ?_
    · rintro i y0 σ H' hi ⟨x1, x2, x3, x4, x5, x6, x7, rfl, el⟩
      obtain ⟨c, hc, rfl⟩ : ∃ c, zs[i]? = some c ∧ V.int c = y0 := by
        rw [List.getElem?_map] at hi
        exact Option.map_eq_some_iff.mp hi
      refine ⟨_, rfl, c, rfl, fun p H4 s4 hp w4 => ?_⟩
      have nlp : l ≠ p := fun z => by rw [← z, el] at hp; cases hp
      refine ⟨p, rfl, w4, fun x H5 k5 ⟨pp0, sa, fa, hx, hd0, hs0, oa⟩ => ?_⟩
      have el5 := k5.get1 (s4 _ _ el) nlp
      obtain ⟨tr, xr, rfl, hTr, dTr⟩ := hx.inv
      obtain ⟨vp0, va, rfl, hp0, hva0⟩ := dTr.c2
      have hda : sdeep sa ≤ 60 := oa.2
      have hio : isOf (shDen sa (fa ())) sa = true := isOf_den sa (fa ())
      have hhd : hdeep (shDen sa (fa ())) ≤ 60 := Nat.le_trans (hdeep_le hio) hda
      have shE : SeqAt.shaped (shDen sa (fa ())).d = true := shaped_sh (by omega)
      refine ⟨tr, _, rfl, hTr, rfl, _, _, rfl, _, _, rfl, rfl, ?_⟩
      refine ⟨_, rfl, vp0, pp0, sa, fa, rfl, hp0, hd0, hs0, hda, fun y H6 s6 hy => ?_⟩
      refine ⟨14, rfl, by decide, by decide, ?_⟩
      refine for_range (lo := 0) (n := (14 : Int).toNat) (fun j σ H' => ∃ (vp vd : V) (x5 x6 x7 : Option V) (pp : Pp), σ = [some (.ref a), some (.int c), some vp, some va, some vd, x5, x6, x7] ∧ H' l = some (.lst (zs.map V.int)) ∧ Dt K H' vp pp.d ∧ Den [] pp sa fa ∧ size pp ≤ 200 ∧ Dt K H' va sa.d ∧ (vd = .non ∨ Dt K H' vd (shDen sa (fa ())).d))
        ⟨_, _, _, _, _, pp0, rfl, s6 _ _ el5, Dt.mono s6.tk hp0, hd0, hs0, Dt.mono s6.tk hva0, hy⟩ ?_ ?_
      · rintro j σ H7 hj ⟨vp, vd, x5, x6, x7, pp, rfl, el, hp, hd, hs, hva, hE⟩
        refine ⟨_, rfl, vp, pp, 0, rfl, hp, ⟨_, _, _, hd⟩, hs, fun v6 H8 s8 h6 => ?_⟩
        have el8 := s8 _ _ el
        have hp8 := Dt.mono s8.tk hp
        have hva8 := Dt.mono s8.tk hva
        have hE8 : vd = .non ∨ Dt K H8 vd (shDen sa (fa ())).d := hE.imp id (Dt.mono s8.tk)
        cases hst : step 0 pp with
        | none =>
          rw [hst] at h6
          have h6 : v6 = .non := h6
          subst h6
          refine ⟨_, rfl, rfl, _, rfl, ifT (by decide) (iteT ?_)⟩
          refine ⟨_, rfl, ?_⟩
          obtain ⟨vq, q, H5, el5, hq, hdq, hsq, hva5, hE5, e1, e2⟩ : ∃ (vq : V) (q : Pp) (H5 : Hp), H5 l = some (.lst (zs.map V.int)) ∧ Dt K H5 vq q.d ∧ Den [] q sa fa ∧ size q ≤ 200 ∧ Dt K H5 va sa.d ∧ (vd = .non ∨ Dt K H5 vd (shDen sa (fa ())).d) ∧ vp = vq ∧ H8 = H5 := ⟨_, _, _, el8, hp8, hd, hs, hva8, hE8, rfl, rfl⟩
          subst e1 e2
          refine ⟨_, rfl, ?_⟩
          refine ⟨_, rfl, vp, q, sa, fa, rfl, hq, hdq, hsq, hda, fun y H6 s6 hy => ?_⟩
          have el6 := s6 _ _ el5
          have hq6 := Dt.mono s6.tk hq
          have hva6 := Dt.mono s6.tk hva5
          refine ⟨_, rfl, rfl, _, rfl, ite2 (fun c => ?_) (fun c => ?_)⟩
          · refine ⟨_, rfl, ?_⟩
            rcases hy with rfl | hy
            · refine ⟨_, rfl, rfl, _, rfl, ifF (by decide) (iteF ?_)⟩
              exact ⟨_, _, _, _, _, q, rfl, el6, hq6, hdq, hsq, hva6, .inl (rfl)⟩
            · obtain ⟨yb, ys, rfl, hyT, hyW⟩ := hy.shp
              refine ⟨_, rfl, rfl, _, rfl, ifT (by rw [refNon]; rfl) ?_⟩
              refine ⟨_, rfl, _, rfl, _, _, hy.dp, (hy).dp, shE, shE, _, rfl, ifF (by rw [eqv_refl _ (canLay_sh _)]; rfl) ?_⟩
              refine ⟨_, rfl, _, rfl, .ref yb, va, _, sa, rfl, hy, hva6, hio, hhd, fun H7 s7 => ⟨true, rfl, iteF ?_⟩⟩
              exact ⟨_, _, _, _, _, q, rfl, s7 _ _ el6, Dt.mono s7.tk hq6, hdq, hsq, Dt.mono s7.tk hva6, .inr (Dt.mono s7.tk (hy))⟩
          · have hE6 : Dt K H6 vd (shDen sa (fa ())).d := by
              rcases hE5 with z | z
              · exact absurd (decide_eq_true z) c
              · exact Dt.mono s6.tk z
            rcases hy with rfl | hy
            · refine ⟨_, rfl, rfl, _, rfl, ifF (by decide) (iteF ?_)⟩
              exact ⟨_, vd, _, _, _, q, rfl, el6, hq6, hdq, hsq, hva6, .inr hE6⟩
            · obtain ⟨yb, ys, rfl, hyT, hyW⟩ := hy.shp
              refine ⟨_, rfl, rfl, _, rfl, ifT (by rw [refNon]; rfl) ?_⟩
              refine ⟨_, rfl, _, rfl, _, _, hy.dp, hE6.dp, shE, shE, _, rfl, ifF (by rw [eqv_refl _ (canLay_sh _)]; rfl) ?_⟩
              refine ⟨_, rfl, _, rfl, .ref yb, va, _, sa, rfl, hy, hva6, hio, hhd, fun H7 s7 => ⟨true, rfl, iteF ?_⟩⟩
              exact ⟨_, vd, _, _, _, q, rfl, s7 _ _ el6, Dt.mono s7.tk hq6, hdq, hsq, Dt.mono s7.tk hva6, .inr (Dt.mono s7.tk hE6)⟩
        | some q =>
          rw [hst] at h6
          have h6 : Dt K H8 v6 q.d := h6
          have hdq : Den [] q sa fa := den_step hd hst
          have hdp : deep q ≤ 200 := Nat.le_trans (deep_step hst) hs
          obtain ⟨qb, qx, rfl, _, _⟩ := h6.paper
          refine ⟨_, rfl, rfl, _, rfl, ifF (refNon _) ?_⟩
          refine ⟨_, rfl, .ref qb, q, rfl, h6, hdp, fun H5 s5 => ⟨_, _, rfl, rfl, _, rfl, ite2 (fun c9 => ?_) (fun c9 => ?_)⟩⟩
          · clear hdq
            refine ⟨_, rfl, ?_⟩
            have el5 := s5 _ _ el8
            have hva5 := Dt.mono s5.tk hva8
            have hE5 : vd = .non ∨ Dt K H5 vd (shDen sa (fa ())).d := hE8.imp id (Dt.mono s5.tk)
            obtain ⟨vq, q, hq, hdq, hsq, e1⟩ : ∃ (vq : V) (q : Pp), Dt K H5 vq q.d ∧ Den [] q sa fa ∧ size q ≤ 200 ∧ vp = vq := ⟨_, _, Dt.mono s5.tk hp8, hd, hs, rfl⟩
            subst e1
            refine ⟨_, rfl, ?_⟩
            refine ⟨_, rfl, vp, q, sa, fa, rfl, hq, hdq, hsq, hda, fun y H6 s6 hy => ?_⟩
            have el6 := s6 _ _ el5
            have hq6 := Dt.mono s6.tk hq
            have hva6 := Dt.mono s6.tk hva5
            refine ⟨_, rfl, rfl, _, rfl, ite2 (fun c => ?_) (fun c => ?_)⟩
            · refine ⟨_, rfl, ?_⟩
              rcases hy with rfl | hy
              · refine ⟨_, rfl, rfl, _, rfl, ifF (by decide) (iteF ?_)⟩
                exact ⟨_, _, _, _, _, q, rfl, el6, hq6, hdq, hsq, hva6, .inl (rfl)⟩
              · obtain ⟨yb, ys, rfl, hyT, hyW⟩ := hy.shp
                refine ⟨_, rfl, rfl, _, rfl, ifT (by rw [refNon]; rfl) ?_⟩
                refine ⟨_, rfl, _, rfl, _, _, hy.dp, (hy).dp, shE, shE, _, rfl, ifF (by rw [eqv_refl _ (canLay_sh _)]; rfl) ?_⟩
                refine ⟨_, rfl, _, rfl, .ref yb, va, _, sa, rfl, hy, hva6, hio, hhd, fun H7 s7 => ⟨true, rfl, iteF ?_⟩⟩
                exact ⟨_, _, _, _, _, q, rfl, s7 _ _ el6, Dt.mono s7.tk hq6, hdq, hsq, Dt.mono s7.tk hva6, .inr (Dt.mono s7.tk (hy))⟩
            · have hE6 : Dt K H6 vd (shDen sa (fa ())).d := by
                rcases hE5 with z | z
                · exact absurd (decide_eq_true z) c
                · exact Dt.mono s6.tk z
              rcases hy with rfl | hy
              · refine ⟨_, rfl, rfl, _, rfl, ifF (by decide) (iteF ?_)⟩
                exact ⟨_, vd, _, _, _, q, rfl, el6, hq6, hdq, hsq, hva6, .inr hE6⟩
              · obtain ⟨yb, ys, rfl, hyT, hyW⟩ := hy.shp
                refine ⟨_, rfl, rfl, _, rfl, ifT (by rw [refNon]; rfl) ?_⟩
                refine ⟨_, rfl, _, rfl, _, _, hy.dp, hE6.dp, shE, shE, _, rfl, ifF (by rw [eqv_refl _ (canLay_sh _)]; rfl) ?_⟩
                refine ⟨_, rfl, _, rfl, .ref yb, va, _, sa, rfl, hy, hva6, hio, hhd, fun H7 s7 => ⟨true, rfl, iteF ?_⟩⟩
                exact ⟨_, vd, _, _, _, q, rfl, s7 _ _ el6, Dt.mono s7.tk hq6, hdq, hsq, Dt.mono s7.tk hva6, .inr (Dt.mono s7.tk hE6)⟩
          · have hsq : size q ≤ 200 := by
              have c1 : ¬ (200 : Int) < ((size q : Nat) : Int) := of_decide_eq_false (Bool.eq_false_iff.mpr c9)
              omega
            have el5 := s5 _ _ el8
            have hva5 := Dt.mono s5.tk hva8
            have hE5 : vd = .non ∨ Dt K H5 vd (shDen sa (fa ())).d := hE8.imp id (Dt.mono s5.tk)
            have hq := Dt.mono s5.tk h6
            refine ⟨_, rfl, ?_⟩
            refine ⟨_, rfl, _, q, sa, fa, rfl, hq, hdq, hsq, hda, fun y H6 s6 hy => ?_⟩
            have el6 := s6 _ _ el5
            have hq6 := Dt.mono s6.tk hq
            have hva6 := Dt.mono s6.tk hva5
            refine ⟨_, rfl, rfl, _, rfl, ite2 (fun c => ?_) (fun c => ?_)⟩
            · refine ⟨_, rfl, ?_⟩
              rcases hy with rfl | hy
              · refine ⟨_, rfl, rfl, _, rfl, ifF (by decide) (iteF ?_)⟩
                exact ⟨_, _, _, _, _, q, rfl, el6, hq6, hdq, hsq, hva6, .inl (rfl)⟩
              · obtain ⟨yb, ys, rfl, hyT, hyW⟩ := hy.shp
                refine ⟨_, rfl, rfl, _, rfl, ifT (by rw [refNon]; rfl) ?_⟩
                refine ⟨_, rfl, _, rfl, _, _, hy.dp, (hy).dp, shE, shE, _, rfl, ifF (by rw [eqv_refl _ (canLay_sh _)]; rfl) ?_⟩
                refine ⟨_, rfl, _, rfl, .ref yb, va, _, sa, rfl, hy, hva6, hio, hhd, fun H7 s7 => ⟨true, rfl, iteF ?_⟩⟩
                exact ⟨_, _, _, _, _, q, rfl, s7 _ _ el6, Dt.mono s7.tk hq6, hdq, hsq, Dt.mono s7.tk hva6, .inr (Dt.mono s7.tk (hy))⟩
            · have hE6 : Dt K H6 vd (shDen sa (fa ())).d := by
                rcases hE5 with z | z
                · exact absurd (decide_eq_true z) c
                · exact Dt.mono s6.tk z
              rcases hy with rfl | hy
              · refine ⟨_, rfl, rfl, _, rfl, ifF (by decide) (iteF ?_)⟩
                exact ⟨_, vd, _, _, _, q, rfl, el6, hq6, hdq, hsq, hva6, .inr hE6⟩
              · obtain ⟨yb, ys, rfl, hyT, hyW⟩ := hy.shp
                refine ⟨_, rfl, rfl, _, rfl, ifT (by rw [refNon]; rfl) ?_⟩
                refine ⟨_, rfl, _, rfl, _, _, hy.dp, hE6.dp, shE, shE, _, rfl, ifF (by rw [eqv_refl _ (canLay_sh _)]; rfl) ?_⟩
                refine ⟨_, rfl, _, rfl, .ref yb, va, _, sa, rfl, hy, hva6, hio, hhd, fun H7 s7 => ⟨true, rfl, iteF ?_⟩⟩
                exact ⟨_, vd, _, _, _, q, rfl, s7 _ _ el6, Dt.mono s7.tk hq6, hdq, hsq, Dt.mono s7.tk hva6, .inr (Dt.mono s7.tk hE6)⟩
      · rintro σ H7 ⟨vp, vd, x5, x6, x7, pp, rfl, el, _⟩
        exact ⟨_, _, _, _, _, _, _, rfl, el⟩
    · rintro σ H' _
      exact k _
end
end Ob
namespace Ob
open PySem L2
/-! ### the parts put together -/
structure ClsIn (K : PySem.W.Frag) (C : Addr) : Prop where
  fpg : PySem.W.plainGet K C Str.empty = true
  fhd : PySem.W.hasDictIn K C = true
  fpo : PySem.W.plainOver K C = true
  fsa : PySem.W.findIn K (.ref C) "__setattr__" = some (some (.builtin "object.__setattr__"))
  mks : PySem.W.makesIn K C = true
  kc : PySem.W.keepIn K (.ref C) = true
  n1 : PySem.W.findIn K (.ref C) "place" = some none
  n2 : PySem.W.findIn K (.ref C) "given" = some none
  n3 : PySem.W.findIn K (.ref C) "pile" = some none
  n4 : PySem.W.findIn K (.ref C) "ways" = some none
  n5 : PySem.W.findIn K (.ref C) "rests" = some none
theorem ClsIn.mcls {K : PySem.W.Frag} {C : Addr} (h : ClsIn K C) : MCls K C := ⟨⟨h.fpg, h.fhd, h.fpo, h.fsa⟩, h.n1, h.n2, h.n3, h.n4, h.n5⟩
/-- an entry of a written dict that is a def -/
def DeedIn (K : PySem.W.Frag) (d : Addr) (k x : Str) (st : Stmt) : Prop := ∃ (f : Addr) (oc kV dc pm cd ct : Value) (od an : Option Addr) (sl : Array (Option Value)), PySem.W.nsIn K d k = some (some (.ref f)) ∧
  K.lookup f = some ⟨oc, od, .func (PySem.W.fnOf x x (defArgs st) (defBody st) (defScope st) .none kV dc pm an cd ct), sl⟩ ∧ PySem.W.codeIn K cd x = true ∧ PySem.W.keepIn K (.ref f) = true
theorem DeedIn.mk {K : PySem.W.Frag} {d : Addr} {k x : Str} {st : Stmt} {f : Addr} {oc kV dc pm cd ct : Value} {od an : Option Addr} {sl : Array (Option Value)} (a : PySem.W.nsIn K d k = some (some (.ref f)))
    (l : K.lookup f = some ⟨oc, od, .func (PySem.W.fnOf x x (defArgs st) (defBody st) (defScope st) .none kV dc pm an cd ct), sl⟩) (c : PySem.W.codeIn K cd x = true) (kp : PySem.W.keepIn K (.ref f) = true) : DeedIn K d k x st :=
  ⟨f, oc, kV, dc, pm, cd, ct, od, an, sl, a, l, c, kp⟩
section
variable {P : Program} {w : World} {K : PySem.W.Frag} {mg : Str → Option Value} {base h : Heap} {f : Addr} {fd : FuncData}
theorem df_of {x : Str} {st : Stmt} {ps : List Str} (X : K.In h) (G : h.Ns mainGlobals mg) (d : DefIn K x st) (b : ∀ f fd, Fun K x x st f fd → Binds K fd ps []) : Df K mg x st ps := by
  obtain ⟨f, oc, kV, dc, pm, cd, ct, od, an, sl, a, l, c, k⟩ := d
  exact ⟨f, _, fun_mk l c k, b _ _ (fun_mk l c k), PySem.W.mg_of X G a⟩
theorem held_of {x k : Str} {st : Stmt} {ps : List Str} {d : Addr} {n : Nat} {sp : Sp} (e : DctIn K w "DEEDS" d) (D : DeedIn K d k x st) (b : ∀ f fd, Fun K x x st f fd → Binds K fd ps []) (F : ∀ f fd, Fun K x x st f fd → FnOk P w K mg base CX0 n f fd ps sp) (l : n ≤ 2) :
    ∃ f, KDct K w d k (.ref f) ∧ Held P w K mg base 2 f sp := by
  obtain ⟨f, oc, kV, dc, pm, cd, ct, od, an, sl, a, lk, c, kp⟩ := D
  obtain ⟨_, es, n, e1, e2⟩ := e
  exact ⟨f, ⟨es, n, _, e1, e2, a, rfl⟩, ⟨_, ps, (F _ _ (fun_mk lk c kp)).mono l, kp, b _ _ (fun_mk lk c kp)⟩⟩
theorem tab_of {x : Str} {l : List (Str × List Nat)} (X : K.In h) (G : h.Ns mainGlobals mg) {d : Addr} (e : DctIn K w x d) (r : ∀ k ns, l.lookup k = some ns → EntIn K d k ns) : Tab K mg w x l := by
  obtain ⟨a, es, n, e1, e2⟩ := e
  refine ⟨d, PySem.W.mg_of X G a, fun k ns h => ?_⟩
  obtain ⟨t, a2, q⟩ := r k ns h
  exact ⟨t, ⟨es, n, _, e1, e2, a2, rfl⟩, q⟩
theorem ents_of {K : PySem.W.Frag} {d : Addr} : ∀ {l : List (Str × List Nat)}, (∀ z ∈ l, EntIn K d z.1 z.2) → ∀ k ns, l.lookup k = some ns → EntIn K d k ns
  | [], _, k, ns, e => by cases e
  | (k0, n0) :: r, h, k, ns, e => by
    rw [List.lookup_cons] at e
    split at e
    · next q =>
      cases e
      rw [eq_of_beq q]
      exact h (k0, n0) (by simp)
    · exact ents_of (fun z hz => h z (List.mem_cons_of_mem _ hz)) k ns e
/-- what the top has written -/
structure Facts (K : PySem.W.Frag) (w : World) : Prop where
  d_shape_of : DefIn K "shape_of" sShape
  d_run_code : DefIn K "run_code" sRun
  d_lay_rows : DefIn K "lay_rows" sLay
  d_settled_row : DefIn K "settled_row" sSettled
  d_code : DefIn K "code" sCode
  d_places_of : DefIn K "places_of" sPlaces
  d_assumed : DefIn K "assumed" sAssumed
  d_with_part : DefIn K "with_part" sWith
  d_moved : DefIn K "moved" sMoved
  d_put_under : DefIn K "put_under" sPut
  d_put_in : DefIn K "put_in" sPutIn
  d_joined : DefIn K "joined" sJoined
  d_shown_of : DefIn K "shown_of" sShown
  d_round_arm : DefIn K "round_arm" sRound
  d_lifted : DefIn K "lifted" sLifted
  d_step_here : DefIn K "step_here" sHere
  d_step : DefIn K "step" sStep
  d_law_cell_at : DefIn K "_law_cell_at" sCell
  d_law_well : DefIn K "_law_well" sWell
  d_law_draw : DefIn K "_law_draw" sDraw
  d_law_one : DefIn K "_law_one" sOne
  d_law_letters : DefIn K "_law_letters" sLetters
  d_law_statement : DefIn K "_law_statement" sStat
  d_law_places : DefIn K "_law_places" sLPlaces
  d_law_moved : DefIn K "_law_moved" sLMoved
  d_law_made : DefIn K "_law_made" sMade
  d_law_applied : DefIn K "_law_applied" sApplied
  d_law_grown : DefIn K "_law_grown" sGrown
  d_law_closed : DefIn K "_law_closed" sClosed
  d_law_is_of : DefIn K "_law_is_of" sIsOf
  d_law_size : DefIn K "_law_size" sLSize
  d_law_told : DefIn K "_law_told" sTold
  d_law : DefIn K "law" sLaw
  mach : ∃ C, PySem.W.nsIn K mainGlobals "Machine" = some (some (.ref C)) ∧ ClsIn K C ∧ MethIn K C "__init__" "Machine.__init__" sInit ∧ MethIn K C "go_in" "Machine.go_in" sGoIn
  deeds : ∃ d, DctIn K w "DEEDS" d ∧ DeedIn K d "take" "do_take" sTake ∧ DeedIn K d "pair" "do_pair" sPair ∧ DeedIn K d "first" "do_part" sPart ∧ DeedIn K d "second" "do_part" sPart ∧ DeedIn K d "left" "do_side" sSide ∧ DeedIn K d "right" "do_side" sSide ∧ DeedIn K d "make" "do_make" sMake ∧ DeedIn K d "apply" "do_apply" sApply ∧ DeedIn K d "case" "do_case" sCase ∧ DeedIn K d "back" "do_back" sBack
  plain : ∃ d, DctIn K w "PLAIN" d ∧ EntIn K d "pair" [1, 2] ∧ EntIn K d "first" [1] ∧ EntIn K d "second" [1] ∧ EntIn K d "left" [1] ∧ EntIn K d "right" [2] ∧ EntIn K d "apply" [1, 2] ∧ EntIn K d "escape" [1]
  places : ∃ d, DctIn K w "PLACES" d ∧ EntIn K d "use" [] ∧ EntIn K d "pair" [1, 2] ∧ EntIn K d "first" [1] ∧ EntIn K d "second" [1] ∧ EntIn K d "left" [1] ∧ EntIn K d "right" [2] ∧ EntIn K d "case" [1, 2, 3] ∧ EntIn K d "make" [2] ∧ EntIn K d "apply" [1, 2] ∧ EntIn K d "escape" [1]
  chiefs : ∃ c, PySem.W.nsIn K mainGlobals "CHIEFS" = some (some (.ref c)) ∧ KTup K c chs
  z_int : PySem.W.nsIn K mainGlobals "int" = some none
  z_list : PySem.W.nsIn K mainGlobals "list" = some none
  z_tuple : PySem.W.nsIn K mainGlobals "tuple" = some none
  z_len : PySem.W.nsIn K mainGlobals "len" = some none
  z_range : PySem.W.nsIn K mainGlobals "range" = some none
  z_sum : PySem.W.nsIn K mainGlobals "sum" = some none
theorem bd_shape_of (f : Addr) (fd : FuncData) (F : Fun K "shape_of" "shape_of" sShape f fd) : Binds K fd ["value"] [] := F.binds (ps := ["value"]) fun _ _ _ _ _ _ us hl => match us, hl with | [_], _ => rfl
theorem bd_run_code (f : Addr) (fd : FuncData) (F : Fun K "run_code" "run_code" sRun f fd) : Binds K fd ["rows", "most"] [] := F.binds (ps := ["rows", "most"]) fun _ _ _ _ _ _ us hl => match us, hl with | [_, _], _ => rfl
theorem bd_lay_rows (f : Addr) (fd : FuncData) (F : Fun K "lay_rows" "lay_rows" sLay f fd) : Binds K fd ["paper", "rows", "todo"] [] := F.binds (ps := ["paper", "rows", "todo"]) fun _ _ _ _ _ _ us hl => match us, hl with | [_, _, _], _ => rfl
theorem bd_settled_row (f : Addr) (fd : FuncData) (F : Fun K "settled_row" "settled_row" sSettled f fd) : Binds K fd ["row", "begins"] [] := F.binds (ps := ["row", "begins"]) fun _ _ _ _ _ _ us hl => match us, hl with | [_, _], _ => rfl
theorem bd_code (f : Addr) (fd : FuncData) (F : Fun K "code" "code" sCode f fd) : Binds K fd ["paper"] [] := F.binds (ps := ["paper"]) fun _ _ _ _ _ _ us hl => match us, hl with | [_], _ => rfl
theorem bd_places_of (f : Addr) (fd : FuncData) (F : Fun K "places_of" "places_of" sPlaces f fd) : Binds K fd ["paper"] [] := F.binds (ps := ["paper"]) fun _ _ _ _ _ _ us hl => match us, hl with | [_], _ => rfl
theorem bd_assumed (f : Addr) (fd : FuncData) (F : Fun K "assumed" "assumed" sAssumed f fd) : Binds K fd ["paper", "place"] [] := F.binds (ps := ["paper", "place"]) fun _ _ _ _ _ _ us hl => match us, hl with | [_, _], _ => rfl
theorem bd_with_part (f : Addr) (fd : FuncData) (F : Fun K "with_part" "with_part" sWith f fd) : Binds K fd ["paper", "place", "part"] [] := F.binds (ps := ["paper", "place", "part"]) fun _ _ _ _ _ _ us hl => match us, hl with | [_, _, _], _ => rfl
theorem bd_moved (f : Addr) (fd : FuncData) (F : Fun K "moved" "moved" sMoved f fd) : Binds K fd ["paper", "at", "by"] [] := F.binds (ps := ["paper", "at", "by"]) fun _ _ _ _ _ _ us hl => match us, hl with | [_, _, _], _ => rfl
theorem bd_put_under (f : Addr) (fd : FuncData) (F : Fun K "put_under" "put_under" sPut f fd) : Binds K fd ["paper", "at", "other", "between"] [] := F.binds (ps := ["paper", "at", "other", "between"]) fun _ _ _ _ _ _ us hl => match us, hl with | [_, _, _, _], _ => rfl
theorem bd_put_in (f : Addr) (fd : FuncData) (F : Fun K "put_in" "put_in" sPutIn f fd) : Binds K fd ["paper", "at", "other"] [] := F.binds (ps := ["paper", "at", "other"]) fun _ _ _ _ _ _ us hl => match us, hl with | [_, _, _], _ => rfl
theorem bd_joined (f : Addr) (fd : FuncData) (F : Fun K "joined" "joined" sJoined f fd) : Binds K fd ["many", "paper"] [] := F.binds (ps := ["many", "paper"]) fun _ _ _ _ _ _ us hl => match us, hl with | [_, _], _ => rfl
theorem bd_shown_of (f : Addr) (fd : FuncData) (F : Fun K "shown_of" "shown_of" sShown f fd) : Binds K fd ["paper", "borne"] [] := F.binds (ps := ["paper", "borne"]) fun _ _ _ _ _ _ us hl => match us, hl with | [_, _], _ => rfl
theorem bd_round_arm (f : Addr) (fd : FuncData) (F : Fun K "round_arm" "round_arm" sRound f fd) : Binds K fd ["many", "paper", "arm"] [] := F.binds (ps := ["many", "paper", "arm"]) fun _ _ _ _ _ _ us hl => match us, hl with | [_, _, _], _ => rfl
theorem bd_lifted (f : Addr) (fd : FuncData) (F : Fun K "lifted" "lifted" sLifted f fd) : Binds K fd ["many", "paper"] [] := F.binds (ps := ["many", "paper"]) fun _ _ _ _ _ _ us hl => match us, hl with | [_, _], _ => rfl
theorem bd_step_here (f : Addr) (fd : FuncData) (F : Fun K "step_here" "step_here" sHere f fd) : Binds K fd ["many", "paper"] [] := F.binds (ps := ["many", "paper"]) fun _ _ _ _ _ _ us hl => match us, hl with | [_, _], _ => rfl
theorem bd_step (f : Addr) (fd : FuncData) (F : Fun K "step" "step" sStep f fd) : Binds K fd ["many", "paper"] [] := F.binds (ps := ["many", "paper"]) fun _ _ _ _ _ _ us hl => match us, hl with | [_, _], _ => rfl
theorem bd_law_cell_at (f : Addr) (fd : FuncData) (F : Fun K "_law_cell_at" "_law_cell_at" sCell f fd) : Binds K fd ["_law_script", "_law_k"] [] := F.binds (ps := ["_law_script", "_law_k"]) fun _ _ _ _ _ _ us hl => match us, hl with | [_, _], _ => rfl
theorem bd_law_well (f : Addr) (fd : FuncData) (F : Fun K "_law_well" "_law_well" sWell f fd) : Binds K fd ["_law_cell"] [] := F.binds (ps := ["_law_cell"]) fun _ _ _ _ _ _ us hl => match us, hl with | [_], _ => rfl
theorem bd_law_draw (f : Addr) (fd : FuncData) (F : Fun K "_law_draw" "_law_draw" sDraw f fd) : Binds K fd ["_law_well_here", "_law_many"] [] := F.binds (ps := ["_law_well_here", "_law_many"]) fun _ _ _ _ _ _ us hl => match us, hl with | [_, _], _ => rfl
theorem bd_law_one (f : Addr) (fd : FuncData) (F : Fun K "_law_one" "_law_one" sOne f fd) : Binds K fd ["_law_well_here", "_law_some"] [] := F.binds (ps := ["_law_well_here", "_law_some"]) fun _ _ _ _ _ _ us hl => match us, hl with | [_, _], _ => rfl
theorem bd_law_letters (f : Addr) (fd : FuncData) (F : Fun K "_law_letters" "_law_letters" sLetters f fd) : Binds K fd ["_law_well_here"] [] := F.binds (ps := ["_law_well_here"]) fun _ _ _ _ _ _ us hl => match us, hl with | [_], _ => rfl
theorem bd_law_statement (f : Addr) (fd : FuncData) (F : Fun K "_law_statement" "_law_statement" sStat f fd) : Binds K fd ["_law_well_here", "_law_abc", "_law_most"] [] := F.binds (ps := ["_law_well_here", "_law_abc", "_law_most"]) fun _ _ _ _ _ _ us hl => match us, hl with | [_, _, _], _ => rfl
theorem bd_law_places (f : Addr) (fd : FuncData) (F : Fun K "_law_places" "_law_places" sLPlaces f fd) : Binds K fd ["_law_paper"] [] := F.binds (ps := ["_law_paper"]) fun _ _ _ _ _ _ us hl => match us, hl with | [_], _ => rfl
theorem bd_law_moved (f : Addr) (fd : FuncData) (F : Fun K "_law_moved" "_law_moved" sLMoved f fd) : Binds K fd ["_law_paper", "_law_at", "_law_by"] [] := F.binds (ps := ["_law_paper", "_law_at", "_law_by"]) fun _ _ _ _ _ _ us hl => match us, hl with | [_, _, _], _ => rfl
theorem bd_law_made (f : Addr) (fd : FuncData) (F : Fun K "_law_made" "_law_made" sMade f fd) : Binds K fd ["_law_well_here", "_law_abc", "_law_givens", "_law_level"] [] := F.binds (ps := ["_law_well_here", "_law_abc", "_law_givens", "_law_level"]) fun _ _ _ _ _ _ us hl => match us, hl with | [_, _, _, _], _ => rfl
theorem bd_law_applied (f : Addr) (fd : FuncData) (F : Fun K "_law_applied" "_law_applied" sApplied f fd) : Binds K fd ["_law_well_here", "_law_givens", "_law_p", "_law_a"] [] := F.binds (ps := ["_law_well_here", "_law_givens", "_law_p", "_law_a"]) fun _ _ _ _ _ _ us hl => match us, hl with | [_, _, _, _], _ => rfl
theorem bd_law_grown (f : Addr) (fd : FuncData) (F : Fun K "_law_grown" "_law_grown" sGrown f fd) : Binds K fd ["_law_well_here", "_law_abc", "_law_givens", "_law_level", "_law_way", "_law_first"] [] := F.binds (ps := ["_law_well_here", "_law_abc", "_law_givens", "_law_level", "_law_way", "_law_first"]) fun _ _ _ _ _ _ us hl => match us, hl with | [_, _, _, _, _, _], _ => rfl
theorem bd_law_closed (f : Addr) (fd : FuncData) (F : Fun K "_law_closed" "_law_closed" sClosed f fd) : Binds K fd ["_law_well_here"] [] := F.binds (ps := ["_law_well_here"]) fun _ _ _ _ _ _ us hl => match us, hl with | [_], _ => rfl
theorem bd_law_is_of (f : Addr) (fd : FuncData) (F : Fun K "_law_is_of" "_law_is_of" sIsOf f fd) : Binds K fd ["_law_shape_here", "_law_a"] [] := F.binds (ps := ["_law_shape_here", "_law_a"]) fun _ _ _ _ _ _ us hl => match us, hl with | [_, _], _ => rfl
theorem bd_law_size (f : Addr) (fd : FuncData) (F : Fun K "_law_size" "_law_size" sLSize f fd) : Binds K fd ["_law_paper"] [] := F.binds (ps := ["_law_paper"]) fun _ _ _ _ _ _ us hl => match us, hl with | [_], _ => rfl
theorem bd_law_told (f : Addr) (fd : FuncData) (F : Fun K "_law_told" "_law_told" sTold f fd) : Binds K fd ["_law_paper"] [] := F.binds (ps := ["_law_paper"]) fun _ _ _ _ _ _ us hl => match us, hl with | [_], _ => rfl
theorem bd_law (f : Addr) (fd : FuncData) (F : Fun K "law" "law" sLaw f fd) : Binds K fd ["_law_script"] [] := F.binds (ps := ["_law_script"]) fun _ _ _ _ _ _ us hl => match us, hl with | [_], _ => rfl
theorem bd_do_take (f : Addr) (fd : FuncData) (F : Fun K "do_take" "do_take" sTake f fd) : Binds K fd ["machine", "row"] [] := F.binds (ps := ["machine", "row"]) fun _ _ _ _ _ _ us hl => match us, hl with | [_, _], _ => rfl
theorem bd_do_pair (f : Addr) (fd : FuncData) (F : Fun K "do_pair" "do_pair" sPair f fd) : Binds K fd ["machine", "row"] [] := F.binds (ps := ["machine", "row"]) fun _ _ _ _ _ _ us hl => match us, hl with | [_, _], _ => rfl
theorem bd_do_part (f : Addr) (fd : FuncData) (F : Fun K "do_part" "do_part" sPart f fd) : Binds K fd ["machine", "row"] [] := F.binds (ps := ["machine", "row"]) fun _ _ _ _ _ _ us hl => match us, hl with | [_, _], _ => rfl
theorem bd_do_side (f : Addr) (fd : FuncData) (F : Fun K "do_side" "do_side" sSide f fd) : Binds K fd ["machine", "row"] [] := F.binds (ps := ["machine", "row"]) fun _ _ _ _ _ _ us hl => match us, hl with | [_, _], _ => rfl
theorem bd_do_make (f : Addr) (fd : FuncData) (F : Fun K "do_make" "do_make" sMake f fd) : Binds K fd ["machine", "row"] [] := F.binds (ps := ["machine", "row"]) fun _ _ _ _ _ _ us hl => match us, hl with | [_, _], _ => rfl
theorem bd_do_apply (f : Addr) (fd : FuncData) (F : Fun K "do_apply" "do_apply" sApply f fd) : Binds K fd ["machine", "row"] [] := F.binds (ps := ["machine", "row"]) fun _ _ _ _ _ _ us hl => match us, hl with | [_, _], _ => rfl
theorem bd_do_case (f : Addr) (fd : FuncData) (F : Fun K "do_case" "do_case" sCase f fd) : Binds K fd ["machine", "row"] [] := F.binds (ps := ["machine", "row"]) fun _ _ _ _ _ _ us hl => match us, hl with | [_, _], _ => rfl
theorem bd_do_back (f : Addr) (fd : FuncData) (F : Fun K "do_back" "do_back" sBack f fd) : Binds K fd ["machine", "row"] [] := F.binds (ps := ["machine", "row"]) fun _ _ _ _ _ _ us hl => match us, hl with | [_, _], _ => rfl
theorem bm_init (f : Addr) (fd : FuncData) (F : Fun K "__init__" "Machine.__init__" sInit f fd) : Binds K fd ["self"] [] := F.binds (ps := ["self"]) fun _ _ _ _ _ _ us hl => match us, hl with | [_], _ => rfl
theorem bm_go_in (f : Addr) (fd : FuncData) (F : Fun K "go_in" "Machine.go_in" sGoIn f fd) : Binds K fd ["self", "place", "given"] [] := F.binds (ps := ["self", "place", "given"]) fun _ _ _ _ _ _ us hl => match us, hl with | [_, _, _], _ => rfl
theorem laws_ok {fa : Addr} (X : K.In h) (G : h.Ns mainGlobals mg) (hfa : mg "law" = some (.ref fa)) (R : Facts K w) :
    ∃ fd : FuncData, (∀ (s : Shared) (v : Value), BindsTo s fd ⟨[v], []⟩ [("_law_script", v)]) ∧ ∀ base : Heap, K.In base → base.Ns mainGlobals mg → FnOk P w K mg base CX0 220 fa fd ["_law_script"] (spLaw K) := by
  obtain ⟨fL, oc, kV, dc, pm, cd, ct, od, an, sl, a, l, c, k⟩ := R.d_law
  have e := PySem.W.mg_of X G a
  rw [hfa] at e
  cases e
  have FL := fun_mk l c k
  refine ⟨PySem.W.fnOf "law" "law" (defArgs sLaw) (defBody sLaw) (defScope sLaw) .none kV dc pm an cd ct, fun s v => .of_eq rfl, fun base KB GB => ?_⟩
  have zint : mg "int" = none := PySem.W.mg_none_of X G R.z_int
  have zlist : mg "list" = none := PySem.W.mg_none_of X G R.z_list
  have ztuple : mg "tuple" = none := PySem.W.mg_none_of X G R.z_tuple
  have zlen : mg "len" = none := PySem.W.mg_none_of X G R.z_len
  have zrange : mg "range" = none := PySem.W.mg_none_of X G R.z_range
  have zsum : mg "sum" = none := PySem.W.mg_none_of X G R.z_sum
  obtain ⟨C, aC, hC, hI, hG⟩ := R.mach
  have T := hC.mcls
  have mgC := PySem.W.mg_of X G aC
  obtain ⟨fI, ocI, kVI, dcI, pmI, cdI, ctI, odI, anI, slI, aI, iI, lI, cI, kI⟩ := hI
  obtain ⟨fG, ocG, kVG, dcG, pmG, cdG, ctG, odG, anG, slG, aG, iG, lG, cG, kG⟩ := hG
  have FI := fun_mk lI cI kI
  have FG := fun_mk lG cG kG
  have okI := ok_init (P := P) (w := w) (mg := mg) (base := base) FI T
  have okG := ok_goin (P := P) (w := w) (mg := mg) (base := base) FG T
  have MK : Mk K C fI := ⟨hC.mks, aI, iI, hC.kc⟩
  have mG : Meth K C "go_in" fG := ⟨aG, iG, kG⟩
  have bI := bm_init _ _ FI
  have bG := bm_go_in _ _ FG
  have DT : DTab P w K mg base C := by
    obtain ⟨d, e, h1, h2, h3, h4, h5, h6, h7, h8, h9, h10⟩ := R.deeds
    have q1 := held_of (P := P) (mg := mg) (base := base) e h1 bd_do_take (fun f fd F => ok_take F T) (by decide)
    have q2 := held_of (P := P) (mg := mg) (base := base) e h2 bd_do_pair (fun f fd F => ok_pair F T) (by decide)
    have q3 := held_of (P := P) (mg := mg) (base := base) e h3 bd_do_part (fun f fd F => ok_part F T zint) (by decide)
    have q4 := held_of (P := P) (mg := mg) (base := base) e h4 bd_do_part (fun f fd F => ok_part F T zint) (by decide)
    have q5 := held_of (P := P) (mg := mg) (base := base) e h5 bd_do_side (fun f fd F => ok_side F T) (by decide)
    have q6 := held_of (P := P) (mg := mg) (base := base) e h6 bd_do_side (fun f fd F => ok_side F T) (by decide)
    have q7 := held_of (P := P) (mg := mg) (base := base) e h7 bd_do_make (fun f fd F => ok_make F T) (by decide)
    have q8 := held_of (P := P) (mg := mg) (base := base) e h8 bd_do_apply (fun f fd F => ok_apply F T mG okG bG) (by decide)
    have q9 := held_of (P := P) (mg := mg) (base := base) e h9 bd_do_case (fun f fd F => ok_case F T zint mG okG bG) (by decide)
    have q10 := held_of (P := P) (mg := mg) (base := base) e h10 bd_do_back (fun f fd F => ok_back F T) (by decide)
    refine ⟨d, PySem.W.mg_of X G e.1, fun r hr => ?_⟩
    cases r with
    | take _ => obtain ⟨f, a1, a2⟩ := q1; exact ⟨f, _, a1, a2, rfl⟩
    | pair => obtain ⟨f, a1, a2⟩ := q2; exact ⟨f, _, a1, a2, rfl⟩
    | first => obtain ⟨f, a1, a2⟩ := q3; exact ⟨f, _, a1, a2, rfl⟩
    | second => obtain ⟨f, a1, a2⟩ := q4; exact ⟨f, _, a1, a2, rfl⟩
    | left => obtain ⟨f, a1, a2⟩ := q5; exact ⟨f, _, a1, a2, rfl⟩
    | right => obtain ⟨f, a1, a2⟩ := q6; exact ⟨f, _, a1, a2, rfl⟩
    | make _ => obtain ⟨f, a1, a2⟩ := q7; exact ⟨f, _, a1, a2, rfl⟩
    | apply => obtain ⟨f, a1, a2⟩ := q8; exact ⟨f, _, a1, a2, rfl⟩
    | case _ _ => obtain ⟨f, a1, a2⟩ := q9; exact ⟨f, _, a1, a2, rfl⟩
    | escape => exact absurd rfl hr
    | back => obtain ⟨f, a1, a2⟩ := q10; exact ⟨f, _, a1, a2, rfl⟩
  have TP : Tab K mg w "PLAIN" plnTab := by
    obtain ⟨d, e, h1, h2, h3, h4, h5, h6, h7⟩ := R.plain
    refine tab_of X G e (ents_of fun z hz => ?_)
    simp only [plnTab, List.mem_cons, List.not_mem_nil, or_false] at hz
    rcases hz with rfl | rfl | rfl | rfl | rfl | rfl | rfl <;> assumption
  have TL : Tab K mg w "PLACES" plTab := by
    obtain ⟨d, e, h1, h2, h3, h4, h5, h6, h7, h8, h9, h10⟩ := R.places
    refine tab_of X G e (ents_of fun z hz => ?_)
    simp only [plTab, List.mem_cons, List.not_mem_nil, or_false] at hz
    rcases hz with rfl | rfl | rfl | rfl | rfl | rfl | rfl | rfl | rfl | rfl <;> assumption
  have hch : ∃ c, mg "CHIEFS" = some (.ref c) ∧ KTup K c chs := by
    obtain ⟨c, a, b⟩ := R.chiefs
    exact ⟨c, PySem.W.mg_of X G a, b⟩
  have cShape := all_shape (P := P) (w := w) (base := base) (df_of X G R.d_shape_of bd_shape_of)
  have cRun := (df_of X G R.d_run_code bd_run_code).cal (P := P) (w := w) (base := base) fun f fd F => ok_run (dp := 60) F T MK okI bI mgC zrange DT (cShape 60)
  have cLay := all_lay (P := P) (w := w) (base := base) (df_of X G R.d_lay_rows bd_lay_rows) TP zlen
  have cSet := (df_of X G R.d_settled_row bd_settled_row).cal (P := P) (w := w) (base := base) fun f fd F => ok_settled F
  have cCode := (df_of X G R.d_code bd_code).cal (P := P) (w := w) (base := base) fun f fd F => ok_code (n := 200) F zlen cLay cSet
  have cPlaces := (df_of X G R.d_places_of bd_places_of).cal (P := P) (w := w) (base := base) fun f fd F => ok_places F TL
  have cAss := (df_of X G R.d_assumed bd_assumed).cal (P := P) (w := w) (base := base) fun f fd F => ok_assumed F zint
  have cWith := (df_of X G R.d_with_part bd_with_part).cal (P := P) (w := w) (base := base) fun f fd F => ok_with F zlist ztuple
  have cMoved := all_moved (P := P) (w := w) (base := base) (df_of X G R.d_moved bd_moved) cPlaces cWith
  have cPut := all_put (P := P) (w := w) (base := base) (df_of X G R.d_put_under bd_put_under) zint cPlaces cWith cAss cMoved
  have cPutIn := fun n => (df_of X G R.d_put_in bd_put_in).cal (P := P) (w := w) (base := base) fun f fd F => ok_putin (n := n) F (cPut n)
  have cJoined := fun n => (df_of X G R.d_joined bd_joined).cal (P := P) (w := w) (base := base) fun f fd F => ok_joined (n := n) F (cPutIn n)
  have cShown := (df_of X G R.d_shown_of bd_shown_of).cal (P := P) (w := w) (base := base) fun f fd F => ok_shown F
  have cRound := fun n => (df_of X G R.d_round_arm bd_round_arm).cal (P := P) (w := w) (base := base) fun f fd F => ok_round (n := n) F cPlaces cWith (cMoved n)
  have cLifted := fun n => (df_of X G R.d_lifted bd_lifted).cal (P := P) (w := w) (base := base) fun f fd F => ok_lifted (n := n) F cShown (cRound n)
  have cHere := fun n => (df_of X G R.d_step_here bd_step_here).cal (P := P) (w := w) (base := base) fun f fd F => ok_here (n := n) F hch (cJoined n) (cLifted n)
  have cStep := all_step (P := P) (w := w) (base := base) (df_of X G R.d_step bd_step) cHere cPlaces cWith cAss
  have cCell := (df_of X G R.d_law_cell_at bd_law_cell_at).cal (P := P) (w := w) (base := base) fun f fd F => ok_cell F zlen
  have cWell := (df_of X G R.d_law_well bd_law_well).cal (P := P) (w := w) (base := base) fun f fd F => ok_well F zint
  have cDraw := (df_of X G R.d_law_draw bd_law_draw).cal (P := P) (w := w) (base := base) fun f fd F => ok_draw F
  have cOne := (df_of X G R.d_law_one bd_law_one).cal (P := P) (w := w) (base := base) fun f fd F => ok_one F zlen cDraw
  have cLetters := (df_of X G R.d_law_letters bd_law_letters).cal (P := P) (w := w) (base := base) fun f fd F => ok_letters F zrange zint cDraw
  have cStat := all_stat (P := P) (w := w) (base := base) (df_of X G R.d_law_statement bd_law_statement) cDraw cOne
  have cLPl := (df_of X G R.d_law_places bd_law_places).cal (P := P) (w := w) (base := base) fun f fd F => ok_lplaces F
  have cLMv := all_lmoved (P := P) (w := w) (base := base) (df_of X G R.d_law_moved bd_law_moved) zint zlist ztuple cLPl
  have cLSz := all_lsize (P := P) (w := w) (base := base) (df_of X G R.d_law_size bd_law_size) zsum cLPl
  have cIsOf := all_isof (P := P) (w := w) (base := base) (df_of X G R.d_law_is_of bd_law_is_of) zint
  have cTold := (df_of X G R.d_law_told bd_law_told).cal (P := P) (w := w) (base := base) fun f fd F => ok_told F cCode cRun
  have cAppl := all_applied (P := P) (w := w) (base := base) (df_of X G R.d_law_applied bd_law_applied) zlen zrange cDraw cOne (cLMv 200)
  have cMade := all_made (P := P) (w := w) (base := base) (df_of X G R.d_law_made bd_law_made) (df_of X G R.d_law_grown bd_law_grown) zlen cDraw (cStat 3) cAppl (cLMv 200)
  have cClosed := (df_of X G R.d_law_closed bd_law_closed).cal (P := P) (w := w) (base := base) fun f fd F => ok_closed F cDraw cLetters (cMade 4)
  exact ok_law FL zrange cCell cWell cClosed cTold (cStep 200) (cLSz 200) (cIsOf 60)
end
end Ob
open PySem PyProof.Rows PySem.W
set_option maxHeartbeats 0
open_top head for PySem.Challenge.rw_onlybuilt_k79_whole_steps_keep_the_shape
open PySem PyProof.Rows PySem.W
theorem Ob.walk {l : PySem.W.OpenLaw} {q : Program} {loose : List Str} {XP : (Str → Option Value) → Heap → Prop} {YP : World → Heap → Prop} {d : DefRec} {K : Params → PySem.W.Frag} (hn : l.most = some 63) (hdf : d.params.defaults = []) (hY : ∀ (w : World) (h : Heap), YP w h → (K w.params).In h) (F : ∀ (w : World) (mg : Str → Option Value) (fa : Addr) (h : Heap), (K w.params).In h → h.Ns mainGlobals mg → mg d.name = some (.ref fa) →
      ∃ fd : FuncData, (∀ (s : Shared) (u : Value), BindsTo s fd ⟨[u], []⟩ [("_law_script", u)]) ∧ ∀ base : Heap, (K w.params).In base → base.Ns mainGlobals mg → L2.FnOk l.prog w (K w.params) mg base L2.CX0 220 fa fd ["_law_script"] (Ob.spLaw (K w.params))) : PySem.W.WalkO q loose XP YP l.row.toRowW d [] (fun f vs => PySem.call f vs) :=
  L2.walk_of (n := 63) (k := 220) (x := "_law_script") (CX := fun _ => L2.CX0) (sp := fun w => Ob.spLaw (K w.params)) hn (by decide) hdf ⟨rfl, by decide, by decide⟩ hY F (fun _ _ a ns hl _ hS => ⟨a, ns, rfl, hl, hS, fun _ => rfl⟩) fun _ _ _ _ _ z => z
set_option maxHeartbeats 0 in
theorem PySem.Challenge.cw_onlybuilt_k79_whole_steps_keep_the_shape_holds : PySem.Challenge.rw_onlybuilt_k79_whole_steps_keep_the_shape.Holds := by
  refine head ?_
  k_fill
  refine Ob.walk (l := PySem.Challenge.rw_onlybuilt_k79_whole_steps_keep_the_shape) rfl rfl (fun w h Y => PySem.W.kIn_of Y) ?F
  case F =>
    intro w mg fa h KX G hmg
    refine' Ob.laws_ok KX G hmg ⟨?d_shape_of, ?d_run_code, ?d_lay_rows, ?d_settled_row, ?d_code, ?d_places_of, ?d_assumed, ?d_with_part, ?d_moved, ?d_put_under, ?d_put_in, ?d_joined, ?d_shown_of, ?d_round_arm, ?d_lifted, ?d_step_here, ?d_step, ?d_law_cell_at, ?d_law_well, ?d_law_draw, ?d_law_one, ?d_law_letters, ?d_law_statement, ?d_law_places, ?d_law_moved, ?d_law_made, ?d_law_applied, ?d_law_grown, ?d_law_closed, ?d_law_is_of, ?d_law_size, ?d_law_told, ?d_law, ?mach, ?deeds, ?plain, ?places, ?chiefs, ?z_int, ?z_list, ?z_tuple, ?z_len, ?z_range, ?z_sum⟩
    case d_shape_of =>
      refine' Ob.DefIn.mk ?a ?l ?c ?k
      (case a => k_is)
      (case l => k_is)
      (case c => k_is)
      (case k => k_is)
    case d_run_code =>
      refine' Ob.DefIn.mk ?a ?l ?c ?k
      (case a => k_is)
      (case l => k_is)
      (case c => k_is)
      (case k => k_is)
    case d_lay_rows =>
      refine' Ob.DefIn.mk ?a ?l ?c ?k
      (case a => k_is)
      (case l => k_is)
      (case c => k_is)
      (case k => k_is)
    case d_settled_row =>
      refine' Ob.DefIn.mk ?a ?l ?c ?k
      (case a => k_is)
      (case l => k_is)
      (case c => k_is)
      (case k => k_is)
    case d_code =>
      refine' Ob.DefIn.mk ?a ?l ?c ?k
      (case a => k_is)
      (case l => k_is)
      (case c => k_is)
      (case k => k_is)
    case d_places_of =>
      refine' Ob.DefIn.mk ?a ?l ?c ?k
      (case a => k_is)
      (case l => k_is)
      (case c => k_is)
      (case k => k_is)
    case d_assumed =>
      refine' Ob.DefIn.mk ?a ?l ?c ?k
      (case a => k_is)
      (case l => k_is)
      (case c => k_is)
      (case k => k_is)
    case d_with_part =>
      refine' Ob.DefIn.mk ?a ?l ?c ?k
      (case a => k_is)
      (case l => k_is)
      (case c => k_is)
      (case k => k_is)
    case d_moved =>
      refine' Ob.DefIn.mk ?a ?l ?c ?k
      (case a => k_is)
      (case l => k_is)
      (case c => k_is)
      (case k => k_is)
    case d_put_under =>
      refine' Ob.DefIn.mk ?a ?l ?c ?k
      (case a => k_is)
      (case l => k_is)
      (case c => k_is)
      (case k => k_is)
    case d_put_in =>
      refine' Ob.DefIn.mk ?a ?l ?c ?k
      (case a => k_is)
      (case l => k_is)
      (case c => k_is)
      (case k => k_is)
    case d_joined =>
      refine' Ob.DefIn.mk ?a ?l ?c ?k
      (case a => k_is)
      (case l => k_is)
      (case c => k_is)
      (case k => k_is)
    case d_shown_of =>
      refine' Ob.DefIn.mk ?a ?l ?c ?k
      (case a => k_is)
      (case l => k_is)
      (case c => k_is)
      (case k => k_is)
    case d_round_arm =>
      refine' Ob.DefIn.mk ?a ?l ?c ?k
      (case a => k_is)
      (case l => k_is)
      (case c => k_is)
      (case k => k_is)
    case d_lifted =>
      refine' Ob.DefIn.mk ?a ?l ?c ?k
      (case a => k_is)
      (case l => k_is)
      (case c => k_is)
      (case k => k_is)
    case d_step_here =>
      refine' Ob.DefIn.mk ?a ?l ?c ?k
      (case a => k_is)
      (case l => k_is)
      (case c => k_is)
      (case k => k_is)
    case d_step =>
      refine' Ob.DefIn.mk ?a ?l ?c ?k
      (case a => k_is)
      (case l => k_is)
      (case c => k_is)
      (case k => k_is)
    case d_law_cell_at =>
      refine' Ob.DefIn.mk ?a ?l ?c ?k
      (case a => k_is)
      (case l => k_is)
      (case c => k_is)
      (case k => k_is)
    case d_law_well =>
      refine' Ob.DefIn.mk ?a ?l ?c ?k
      (case a => k_is)
      (case l => k_is)
      (case c => k_is)
      (case k => k_is)
    case d_law_draw =>
      refine' Ob.DefIn.mk ?a ?l ?c ?k
      (case a => k_is)
      (case l => k_is)
      (case c => k_is)
      (case k => k_is)
    case d_law_one =>
      refine' Ob.DefIn.mk ?a ?l ?c ?k
      (case a => k_is)
      (case l => k_is)
      (case c => k_is)
      (case k => k_is)
    case d_law_letters =>
      refine' Ob.DefIn.mk ?a ?l ?c ?k
      (case a => k_is)
      (case l => k_is)
      (case c => k_is)
      (case k => k_is)
    case d_law_statement =>
      refine' Ob.DefIn.mk ?a ?l ?c ?k
      (case a => k_is)
      (case l => k_is)
      (case c => k_is)
      (case k => k_is)
    case d_law_places =>
      refine' Ob.DefIn.mk ?a ?l ?c ?k
      (case a => k_is)
      (case l => k_is)
      (case c => k_is)
      (case k => k_is)
    case d_law_moved =>
      refine' Ob.DefIn.mk ?a ?l ?c ?k
      (case a => k_is)
      (case l => k_is)
      (case c => k_is)
      (case k => k_is)
    case d_law_made =>
      refine' Ob.DefIn.mk ?a ?l ?c ?k
      (case a => k_is)
      (case l => k_is)
      (case c => k_is)
      (case k => k_is)
    case d_law_applied =>
      refine' Ob.DefIn.mk ?a ?l ?c ?k
      (case a => k_is)
      (case l => k_is)
      (case c => k_is)
      (case k => k_is)
    case d_law_grown =>
      refine' Ob.DefIn.mk ?a ?l ?c ?k
      (case a => k_is)
      (case l => k_is)
      (case c => k_is)
      (case k => k_is)
    case d_law_closed =>
      refine' Ob.DefIn.mk ?a ?l ?c ?k
      (case a => k_is)
      (case l => k_is)
      (case c => k_is)
      (case k => k_is)
    case d_law_is_of =>
      refine' Ob.DefIn.mk ?a ?l ?c ?k
      (case a => k_is)
      (case l => k_is)
      (case c => k_is)
      (case k => k_is)
    case d_law_size =>
      refine' Ob.DefIn.mk ?a ?l ?c ?k
      (case a => k_is)
      (case l => k_is)
      (case c => k_is)
      (case k => k_is)
    case d_law_told =>
      refine' Ob.DefIn.mk ?a ?l ?c ?k
      (case a => k_is)
      (case l => k_is)
      (case c => k_is)
      (case k => k_is)
    case d_law =>
      refine' Ob.DefIn.mk ?a ?l ?c ?k
      (case a => k_is)
      (case l => k_is)
      (case c => k_is)
      (case k => k_is)
    case mach =>
      refine' ⟨_, ?m0, ⟨?c1, ?c2, ?c3, ?c4, ?c5, ?c6, ?n1, ?n2, ?n3, ?n4, ?n5⟩, Ob.MethIn.mk ?a ?i ?l ?c ?k, Ob.MethIn.mk ?a2 ?i2 ?l2 ?k1 ?k2⟩
      (case m0 => k_is)
      (case c1 => k_is)
      (case c2 => k_is)
      (case c3 => k_is)
      (case c4 => k_is)
      (case c5 => k_is)
      (case c6 => k_is)
      (case n1 => k_is)
      (case n2 => k_is)
      (case n3 => k_is)
      (case n4 => k_is)
      (case n5 => k_is)
      (case a => k_is)
      (case i => k_is)
      (case l => k_is)
      (case c => k_is)
      (case k => k_is)
      (case a2 => k_is)
      (case i2 => k_is)
      (case l2 => k_is)
      (case k1 => k_is)
      (case k2 => k_is)
    case deeds =>
      refine' ⟨_, Ob.DctIn.mk ?a ?l ?k, ?e0, ?e1, ?e2, ?e3, ?e4, ?e5, ?e6, ?e7, ?e8, ?e9⟩
      (case a => k_is)
      (case l => k_is)
      case k => exact ⟨⟨_, _, rfl, rfl⟩, ⟨_, _, rfl, rfl⟩, ⟨_, _, rfl, rfl⟩, ⟨_, _, rfl, rfl⟩, ⟨_, _, rfl, rfl⟩, ⟨_, _, rfl, rfl⟩, ⟨_, _, rfl, rfl⟩, ⟨_, _, rfl, rfl⟩, ⟨_, _, rfl, rfl⟩, ⟨_, _, rfl, rfl⟩, trivial⟩
      case e0 =>
        refine' Ob.DeedIn.mk ?a ?l ?c ?k
        (case a => k_is)
        (case l => k_is)
        (case c => k_is)
        (case k => k_is)
      case e1 =>
        refine' Ob.DeedIn.mk ?a ?l ?c ?k
        (case a => k_is)
        (case l => k_is)
        (case c => k_is)
        (case k => k_is)
      case e2 =>
        refine' Ob.DeedIn.mk ?a ?l ?c ?k
        (case a => k_is)
        (case l => k_is)
        (case c => k_is)
        (case k => k_is)
      case e3 =>
        refine' Ob.DeedIn.mk ?a ?l ?c ?k
        (case a => k_is)
        (case l => k_is)
        (case c => k_is)
        (case k => k_is)
      case e4 =>
        refine' Ob.DeedIn.mk ?a ?l ?c ?k
        (case a => k_is)
        (case l => k_is)
        (case c => k_is)
        (case k => k_is)
      case e5 =>
        refine' Ob.DeedIn.mk ?a ?l ?c ?k
        (case a => k_is)
        (case l => k_is)
        (case c => k_is)
        (case k => k_is)
      case e6 =>
        refine' Ob.DeedIn.mk ?a ?l ?c ?k
        (case a => k_is)
        (case l => k_is)
        (case c => k_is)
        (case k => k_is)
      case e7 =>
        refine' Ob.DeedIn.mk ?a ?l ?c ?k
        (case a => k_is)
        (case l => k_is)
        (case c => k_is)
        (case k => k_is)
      case e8 =>
        refine' Ob.DeedIn.mk ?a ?l ?c ?k
        (case a => k_is)
        (case l => k_is)
        (case c => k_is)
        (case k => k_is)
      case e9 =>
        refine' Ob.DeedIn.mk ?a ?l ?c ?k
        (case a => k_is)
        (case l => k_is)
        (case c => k_is)
        (case k => k_is)
    case plain =>
      refine' ⟨_, Ob.DctIn.mk ?a ?l ?k, ?e0, ?e1, ?e2, ?e3, ?e4, ?e5, ?e6⟩
      (case a => k_is)
      (case l => k_is)
      case k => exact ⟨⟨_, _, rfl, rfl⟩, ⟨_, _, rfl, rfl⟩, ⟨_, _, rfl, rfl⟩, ⟨_, _, rfl, rfl⟩, ⟨_, _, rfl, rfl⟩, ⟨_, _, rfl, rfl⟩, ⟨_, _, rfl, rfl⟩, trivial⟩
      case e0 =>
        refine' Ob.EntIn.mk ?a ?l ?z ?r
        (case a => k_is)
        (case l => k_is)
        (case z => decide)
        (case r => exact (.cons ⟨_, rfl⟩ (.cons ⟨_, rfl⟩ .nil)))
      case e1 =>
        refine' Ob.EntIn.mk ?a ?l ?z ?r
        (case a => k_is)
        (case l => k_is)
        (case z => decide)
        (case r => exact (.cons ⟨_, rfl⟩ .nil))
      case e2 =>
        refine' Ob.EntIn.mk ?a ?l ?z ?r
        (case a => k_is)
        (case l => k_is)
        (case z => decide)
        (case r => exact (.cons ⟨_, rfl⟩ .nil))
      case e3 =>
        refine' Ob.EntIn.mk ?a ?l ?z ?r
        (case a => k_is)
        (case l => k_is)
        (case z => decide)
        (case r => exact (.cons ⟨_, rfl⟩ .nil))
      case e4 =>
        refine' Ob.EntIn.mk ?a ?l ?z ?r
        (case a => k_is)
        (case l => k_is)
        (case z => decide)
        (case r => exact (.cons ⟨_, rfl⟩ .nil))
      case e5 =>
        refine' Ob.EntIn.mk ?a ?l ?z ?r
        (case a => k_is)
        (case l => k_is)
        (case z => decide)
        (case r => exact (.cons ⟨_, rfl⟩ (.cons ⟨_, rfl⟩ .nil)))
      case e6 =>
        refine' Ob.EntIn.mk ?a ?l ?z ?r
        (case a => k_is)
        (case l => k_is)
        (case z => decide)
        (case r => exact (.cons ⟨_, rfl⟩ .nil))
    case places =>
      refine' ⟨_, Ob.DctIn.mk ?a ?l ?k, ?e0, ?e1, ?e2, ?e3, ?e4, ?e5, ?e6, ?e7, ?e8, ?e9⟩
      (case a => k_is)
      (case l => k_is)
      case k => exact ⟨⟨_, _, rfl, rfl⟩, ⟨_, _, rfl, rfl⟩, ⟨_, _, rfl, rfl⟩, ⟨_, _, rfl, rfl⟩, ⟨_, _, rfl, rfl⟩, ⟨_, _, rfl, rfl⟩, ⟨_, _, rfl, rfl⟩, ⟨_, _, rfl, rfl⟩, ⟨_, _, rfl, rfl⟩, ⟨_, _, rfl, rfl⟩, ⟨_, _, rfl, rfl⟩, trivial⟩
      case e0 =>
        refine' Ob.EntIn.mk ?a ?l ?z ?r
        (case a => k_is)
        (case l => k_is)
        (case z => decide)
        (case r => exact .nil)
      case e1 =>
        refine' Ob.EntIn.mk ?a ?l ?z ?r
        (case a => k_is)
        (case l => k_is)
        (case z => decide)
        (case r => exact (.cons ⟨_, rfl⟩ (.cons ⟨_, rfl⟩ .nil)))
      case e2 =>
        refine' Ob.EntIn.mk ?a ?l ?z ?r
        (case a => k_is)
        (case l => k_is)
        (case z => decide)
        (case r => exact (.cons ⟨_, rfl⟩ .nil))
      case e3 =>
        refine' Ob.EntIn.mk ?a ?l ?z ?r
        (case a => k_is)
        (case l => k_is)
        (case z => decide)
        (case r => exact (.cons ⟨_, rfl⟩ .nil))
      case e4 =>
        refine' Ob.EntIn.mk ?a ?l ?z ?r
        (case a => k_is)
        (case l => k_is)
        (case z => decide)
        (case r => exact (.cons ⟨_, rfl⟩ .nil))
      case e5 =>
        refine' Ob.EntIn.mk ?a ?l ?z ?r
        (case a => k_is)
        (case l => k_is)
        (case z => decide)
        (case r => exact (.cons ⟨_, rfl⟩ .nil))
      case e6 =>
        refine' Ob.EntIn.mk ?a ?l ?z ?r
        (case a => k_is)
        (case l => k_is)
        (case z => decide)
        (case r => exact (.cons ⟨_, rfl⟩ (.cons ⟨_, rfl⟩ (.cons ⟨_, rfl⟩ .nil))))
      case e7 =>
        refine' Ob.EntIn.mk ?a ?l ?z ?r
        (case a => k_is)
        (case l => k_is)
        (case z => decide)
        (case r => exact (.cons ⟨_, rfl⟩ .nil))
      case e8 =>
        refine' Ob.EntIn.mk ?a ?l ?z ?r
        (case a => k_is)
        (case l => k_is)
        (case z => decide)
        (case r => exact (.cons ⟨_, rfl⟩ (.cons ⟨_, rfl⟩ .nil)))
      case e9 =>
        refine' Ob.EntIn.mk ?a ?l ?z ?r
        (case a => k_is)
        (case l => k_is)
        (case z => decide)
        (case r => exact (.cons ⟨_, rfl⟩ .nil))
    case chiefs =>
      refine' ⟨_, ?a, Ob.ktup_mk ?l ?z ?r⟩
      (case a => k_is)
      (case l => k_is)
      (case z => decide)
      (case r => exact .cons ⟨_, rfl⟩ (.cons ⟨_, rfl⟩ (.cons ⟨_, rfl⟩ (.cons ⟨_, rfl⟩ (.cons ⟨_, rfl⟩ .nil)))))
    (case z_int => k_is)
    (case z_list => k_is)
    (case z_tuple => k_is)
    (case z_len => k_is)
    (case z_range => k_is)
    (case z_sum => k_is)
