import PyProof.Rows.All
import Wide.All
import OpenK.AllK
import Wide.FinOn
import KE.KStateDown
import KE.KExcSuper
import Lean
import HandS.ForMost
import HandS.ForExc
import HandS.Flow
import HandS.Style
import HandS.IsInst
import HandS.TupAny
import HandS.TupMul
import HandS.TryMany
import HandS.ExcInit
import HandS.ExcField
import HandS.ExcIs
import HandS.ExcOwn
import HandS.Lambda
import HandS.EndTab
import HandS.EndBits
import HandS.Head0
import HandS.Head1
import HandS.Head2
import HandS.HeadEnd
import HandS.HeadHook1
import HandS.HeadHook2
import HandS.HeadHook3
import HandS.HeadHook4
import HandS.HeadWalk
import HandS.Replace
import HandS.Walk
import HandS.CallRecv
import HandS.Star
import HandS.Defaults
import HandS.Wide
import HandS.WideMore
import HandS.HeadNt
import HandS.Small
import HandS.RaiseMore
import PySem.Challenge.RW_dartwebs_k02_whole_row_texts
import KE.GoesMore
import HandS.ReplaceLit
import HandS.ReplaceList
import KE.KRevSl
import KE.KExcIs
import KE.KSuper
import HandS.ExcSuper
set_option Elab.async false
set_option linter.all false
/-! The words of a text, as a machine that reads sign by sign. -/
namespace KM
def letter (c : Nat) : Bool := decide (97 ≤ c) && decide (c ≤ 122)
def fig (c : Nat) : Bool := decide (48 ≤ c) && decide (c ≤ 57)
def sgs : List Nat := [40, 41, 91, 93, 44, 59, 61, 94, 126]
def single (c : Nat) : Bool := sgs.contains c
def blank (c : Nat) : Bool := c == 32 || c == 10
/-- 1: a letter, 2: a figure, 3: a sign that stands alone, 0: a blank, 4: none of these -/
def cl (c : Nat) : Nat := if letter c then 1 else if fig c then 2 else if single c then 3 else if blank c then 0 else 4
def clw : List Nat → Nat
  | [] => 0
  | c :: _ => cl c
abbrev LS : Type := List (List Nat) × List Nat
def flush (s : LS) : LS := match s.2 with
  | [] => (s.1, [])
  | _ :: _ => (s.1 ++ [s.2], [])
def step (s : LS) (c : Nat) : LS :=
  if cl c = 1 ∨ cl c = 2 then (if clw s.2 = cl c then (s.1, s.2 ++ [c]) else ((flush s).1, [c]))
  else if cl c = 3 then ((flush s).1 ++ [[c]], [])
  else flush s
def runW (s : LS) (cs : List Nat) : LS := cs.foldl step s
/-- the words of cs, those ahead being ws -/
def lexF (ws : List (List Nat)) (cs : List Nat) : List (List Nat) := (flush (runW (ws, []) cs)).1
theorem flush_nil (ws : List (List Nat)) : flush (ws, []) = (ws, []) := rfl
theorem flush_flush (s : LS) : flush (flush s) = flush s := by
  obtain ⟨ws, cur⟩ := s
  cases cur <;> rfl
theorem flush_snd (s : LS) : (flush s).2 = [] := by
  obtain ⟨ws, cur⟩ := s
  cases cur <;> rfl
theorem flush_eq (s : LS) : flush s = ((flush s).1, []) := by
  obtain ⟨ws, cur⟩ := s
  cases cur <;> rfl
theorem runW_nil (s : LS) : runW s [] = s := rfl
theorem runW_cons (s : LS) (c : Nat) (r : List Nat) : runW s (c :: r) = runW (step s c) r := rfl
theorem runW_app (s : LS) (a b : List Nat) : runW s (a ++ b) = runW (runW s a) b := List.foldl_append
theorem step_single {s : LS} {c : Nat} (h : cl c = 3) : step s c = ((flush s).1 ++ [[c]], []) := by
  unfold step
  rw [if_neg (by omega), if_pos h]
theorem step_blank {s : LS} {c : Nat} (h : cl c = 0) : step s c = flush s := by
  unfold step
  rw [if_neg (by omega), if_neg (by omega)]
theorem step_word {s : LS} {c : Nat} (h : cl c = 1 ∨ cl c = 2) : step s c = if clw s.2 = cl c then (s.1, s.2 ++ [c]) else ((flush s).1, [c]) := by
  unfold step
  rw [if_pos h]
/-- a sign that stands alone sees no difference between a pending word and a flushed one -/
theorem step_single_flush {s : LS} {c : Nat} (h : cl c = 3) : step (flush s) c = step s c := by
  rw [step_single h, step_single h, flush_flush]
theorem step_blank_flush {s : LS} {c : Nat} (h : cl c = 0) : step (flush s) c = step s c := by
  rw [step_blank h, step_blank h, flush_flush]
theorem lexF_nil (ws : List (List Nat)) : lexF ws [] = ws := rfl
theorem lexF_single {ws : List (List Nat)} {c : Nat} {r : List Nat} (h : cl c = 3) : lexF ws (c :: r) = lexF (ws ++ [[c]]) r := by
  unfold lexF
  rw [runW_cons, step_single h, flush_nil]
theorem lexF_blank {ws : List (List Nat)} {c : Nat} {r : List Nat} (h : cl c = 0) : lexF ws (c :: r) = lexF ws r := by
  unfold lexF
  rw [runW_cons, step_blank h, flush_nil]
/-- a run of one class -/
theorem run_word {k : Nat} (hk : k = 1 ∨ k = 2) : ∀ (m : List Nat) (ws : List (List Nat)) (cur : List Nat), (∀ c ∈ m, cl c = k) → cur ≠ [] → clw cur = k → runW (ws, cur) m = (ws, cur ++ m)
  | [], ws, cur, _, _, _ => by rw [runW_nil, List.append_nil]
  | c :: m, ws, cur, h, hc, hw => by
    have h1 : cl c = k := h c List.mem_cons_self
    rw [runW_cons, step_word (by omega), if_pos (by rw [hw, h1])]
    have hw2 : clw (cur ++ [c]) = k := by
      cases cur with
      | nil => exact absurd rfl hc
      | cons x y => exact hw
    rw [run_word hk m ws (cur ++ [c]) (fun x hx => h x (List.mem_cons_of_mem _ hx)) (by simp) hw2, List.append_assoc]
    rfl
/-- behind a whole run -/
theorem lexF_run {k : Nat} (hk : k = 1 ∨ k = 2) {ws : List (List Nat)} {m r : List Nat} (hm : m ≠ []) (h : ∀ c ∈ m, cl c = k) (hr : ∀ c r', r = c :: r' → cl c ≠ k) : lexF ws (m ++ r) = lexF (ws ++ [m]) r := by
  cases m with
  | nil => exact absurd rfl hm
  | cons c m =>
    have h1 : cl c = k := h c List.mem_cons_self
    unfold lexF
    have e1 : step (ws, []) c = (ws, [c]) := by
      rw [step_word (by omega)]
      rw [if_neg (by show ¬ (0 : Nat) = cl c; omega)]
      rfl
    rw [List.cons_append, runW_cons, e1, runW_app, run_word hk m ws [c] (fun x hx => h x (List.mem_cons_of_mem _ hx)) (by simp) h1]
    have e2 : [c] ++ m = c :: m := rfl
    rw [e2]
    cases r with
    | nil => rfl
    | cons d r' =>
      have hd := hr d r' rfl
      rw [runW_cons, runW_cons]
      have e3 : step (ws, c :: m) d = step (ws ++ [c :: m], []) d := by
        have f1 : flush (ws, c :: m) = (ws ++ [c :: m], []) := rfl
        by_cases w : cl d = 1 ∨ cl d = 2
        · rw [step_word w, step_word w, if_neg (by show ¬ cl c = cl d; omega), if_neg (by show ¬ (0 : Nat) = cl d; omega), f1, flush_nil]
        · by_cases q : cl d = 3
          · rw [step_single q, step_single q, f1, flush_nil]
          · have z : ∀ s, step s d = flush s := fun s => by
              unfold step
              rw [if_neg w, if_neg q]
            rw [z, z, f1, flush_nil]
      rw [e3]
/-! ### loose writing -/
/-- a text that is written loosely: at a blank any blanks, none only beside a sign that stands alone; signs otherwise the same; p: the sign ahead (0: none) -/
inductive Loose : Nat → List Nat → List Nat → Prop
  | nil {p} : Loose p [] []
  | same {p c r r'} : c ≠ 32 → Loose c r r' → Loose p (c :: r) (c :: r')
  | blanks {p r r'} (bs : List Nat) : bs ≠ [] → bs.length ≤ 2 → (∀ b ∈ bs, cl b = 0) → Loose 32 r r' → Loose p (32 :: r) (bs ++ r')
  | none_l {p r r'} : cl p = 3 → Loose 32 r r' → Loose p (32 :: r) r'
  | none_r {p c r r'} : cl c = 3 → Loose 32 (c :: r) (c :: r') → Loose p (32 :: c :: r) (c :: r')
theorem run_blanks : ∀ (bs : List Nat) (s : LS), bs ≠ [] → (∀ b ∈ bs, cl b = 0) → runW s bs = flush s
  | [], _, h, _ => absurd rfl h
  | [b], s, _, h => by rw [runW_cons, runW_nil, step_blank (h b List.mem_cons_self)]
  | b :: b2 :: bs, s, _, h => by
    rw [runW_cons, step_blank (h b List.mem_cons_self), run_blanks (b2 :: bs) (flush s) (by simp) (fun x hx => h x (List.mem_cons_of_mem _ hx)), flush_flush]
theorem cl32 : cl 32 = 0 := by decide
theorem snd_of_single {s : LS} {c : Nat} (h : cl c = 3) : flush (step s c) = step s c := by
  rw [step_single h]
  rfl
theorem loose_run {p : Nat} {a b : List Nat} (L : Loose p a b) : ∀ s : LS, (cl p = 3 → flush s = s) → flush (runW s a) = flush (runW s b) := by
  induction L with
  | nil => intro s _; rfl
  | @same p c r r' hc L ih =>
    intro s _
    rw [runW_cons, runW_cons]
    exact ih _ fun h => snd_of_single h
  | blanks bs hb _ hbs L ih =>
    intro s _
    rw [runW_cons, step_blank cl32, runW_app, run_blanks bs s hb hbs]
    exact ih _ fun h => by rw [cl32] at h; cases h
  | none_l hp L ih =>
    intro s hs
    rw [runW_cons, step_blank cl32, hs hp]
    exact ih _ fun h => by rw [cl32] at h; cases h
  | @none_r p c r r' hc L ih =>
    intro s _
    have q := ih (flush s) fun h => by rw [cl32] at h; cases h
    rw [runW_cons, step_blank cl32, q, runW_cons, runW_cons, step_single_flush hc]
theorem loose_lex {p : Nat} {a b : List Nat} (L : Loose p a b) (ws : List (List Nat)) : lexF ws a = lexF ws b := congrArg (·.1) (loose_run L (ws, []) fun _ => rfl)
/-- a blank ahead of each c that stands alone -/
def spaced (c : Nat) : List Nat → List Nat
  | [] => []
  | d :: r => if d = c then 32 :: d :: spaced c r else d :: spaced c r
theorem spaced_run {c : Nat} (hc : cl c = 3) : ∀ (a : List Nat) (s : LS), runW s (spaced c a) = runW s a
  | [], _ => rfl
  | d :: r, s => by
    by_cases h : d = c
    · subst h
      have e : spaced d (d :: r) = 32 :: d :: spaced d r := by
        show (if d = d then _ else _) = _
        rw [if_pos rfl]
      rw [e, runW_cons, runW_cons, runW_cons, step_blank cl32, step_single_flush hc, spaced_run hc r]
    · have e : spaced c (d :: r) = d :: spaced c r := by
        show (if d = c then _ else _) = _
        rw [if_neg h]
      rw [e, runW_cons, runW_cons, spaced_run hc r]
theorem lexF_spaced {c : Nat} (hc : cl c = 3) (ws : List (List Nat)) (a : List Nat) : lexF ws (spaced c a) = lexF ws a := by
  unfold lexF
  rw [spaced_run hc]
theorem lexF_ends (ws : List (List Nat)) (x y a : List Nat) (hx : ∀ b ∈ x, cl b = 0) (hy : ∀ b ∈ y, cl b = 0) : lexF ws (x ++ a ++ y) = lexF ws a := by
  unfold lexF
  rw [runW_app, runW_app]
  have e1 : runW (ws, []) x = (ws, []) := by
    cases x with
    | nil => rfl
    | cons b r => rw [run_blanks _ _ (by simp) hx, flush_nil]
  rw [e1]
  cases y with
  | nil => rfl
  | cons b r => rw [run_blanks _ _ (by simp) hy, flush_flush]
theorem spaced_app (c : Nat) : ∀ a b : List Nat, spaced c (a ++ b) = spaced c a ++ spaced c b
  | [], _ => rfl
  | d :: r, b => by
    show (if d = c then 32 :: d :: spaced c (r ++ b) else d :: spaced c (r ++ b)) = (if d = c then 32 :: d :: spaced c r else d :: spaced c r) ++ spaced c b
    rw [spaced_app c r b]
    by_cases h : d = c
    · rw [if_pos h, if_pos h]; rfl
    · rw [if_neg h, if_neg h]; rfl
theorem spaced_le (c : Nat) : ∀ a : List Nat, (spaced c a).length ≤ 2 * a.length
  | [] => Nat.le_refl _
  | d :: r => by
    have ih := spaced_le c r
    show (if d = c then 32 :: d :: spaced c r else d :: spaced c r).length ≤ 2 * (r.length + 1)
    by_cases h : d = c
    · rw [if_pos h]; simp only [List.length_cons]; omega
    · rw [if_neg h]; simp only [List.length_cons]; omega
theorem spaced_none {c : Nat} : ∀ {a : List Nat}, (∀ x ∈ a, x ≠ c) → spaced c a = a
  | [], _ => rfl
  | d :: r, h => by
    show (if d = c then _ else d :: spaced c r) = _
    rw [if_neg (h d List.mem_cons_self), spaced_none fun x hx => h x (List.mem_cons_of_mem _ hx)]
theorem cl_ne {b c : Nat} (h : cl b = 0) (hc : cl c = 3) : b ≠ c := fun e => by
  rw [e, hc] at h
  cases h
theorem loose_len {p : Nat} {a b : List Nat} (L : Loose p a b) : (spaced 126 b).length ≤ 2 * a.length := by
  have h126 : cl 126 = 3 := by decide
  induction L with
  | nil => exact Nat.le_refl _
  | @same p c r r' hc L ih =>
    show (if c = 126 then 32 :: c :: spaced 126 r' else c :: spaced 126 r').length ≤ 2 * (r.length + 1)
    by_cases h : c = 126
    · rw [if_pos h]; simp only [List.length_cons]; omega
    · rw [if_neg h]; simp only [List.length_cons]; omega
  | @blanks p r r' bs hb hl hbs L ih =>
    rw [spaced_app, spaced_none fun x hx => cl_ne (hbs x hx) h126, List.length_append, List.length_cons]
    omega
  | none_l hp L ih =>
    rw [List.length_cons]
    omega
  | none_r hc L ih =>
    rw [List.length_cons]
    omega
end KM
set_option Elab.async false
set_option linter.all false
/-! The trees of things: their words, their text in one form, their rows. -/
namespace KM
mutual
inductive T where
  | name (s : List Nat)
  | node (i : Nat)
  | back (t : T)
  | times (t : T) (k : Nat)
  | row (ts : Ts)
  | round (a b : Ts)
inductive Ts where
  | nil
  | cons (t : T) (ts : Ts)
end
def Ts.len : Ts → Nat
  | .nil => 0
  | .cons _ ts => ts.len + 1
def Ts.list : Ts → List T
  | .nil => []
  | .cons t ts => t :: ts.list
def Ts.of : List T → Ts
  | [] => .nil
  | t :: r => .cons t (Ts.of r)
theorem Ts.list_of : ∀ l : List T, (Ts.of l).list = l
  | [] => rfl
  | t :: r => by
    show t :: (Ts.of r).list = t :: r
    rw [Ts.list_of r]
theorem Ts.of_list : ∀ l : Ts, Ts.of l.list = l
  | .nil => rfl
  | .cons t r => by
    show Ts.cons t (Ts.of r.list) = .cons t r
    rw [Ts.of_list r]
theorem Ts.len_list : ∀ l : Ts, l.list.length = l.len
  | .nil => rfl
  | .cons t r => by
    show r.list.length + 1 = r.len + 1
    rw [Ts.len_list r]
def numC (n : Nat) : List Nat := if n < 10 then [48 + n] else [48 + n / 10, 48 + n % 10]
mutual
/-- the words -/
def tok : T → List (List Nat)
  | .name s => [s]
  | .node i => [numC i]
  | .back t => tok t ++ [[126]]
  | .times t k => tok t ++ [[94], numC k]
  | .row ts => [[40]] ++ toks ts ++ [[41]]
  | .round a b => [[91]] ++ toks a ++ [[44]] ++ toks b ++ [[93]]
def toks : Ts → List (List Nat)
  | .nil => []
  | .cons t ts => tok t ++ toks ts
end
mutual
/-- the text in one form -/
def text : T → List Nat
  | .name s => s
  | .node i => numC i
  | .back t => text t ++ [126]
  | .times t k => text t ++ [94] ++ numC k
  | .row ts => if ts.len = 1 then texts ts else [40] ++ texts ts ++ [41]
  | .round a b => [91] ++ texts a ++ [44, 32] ++ texts b ++ [93]
def texts : Ts → List Nat
  | .nil => []
  | .cons t ts => text t ++ (if ts.len = 0 then [] else 32 :: texts ts)
end
mutual
/-- no brackets around one thing -/
def norm : T → T
  | .name s => .name s
  | .node i => .node i
  | .back t => .back (norm t)
  | .times t k => .times (norm t) k
  | .row ts => match norms ts with
    | .cons t .nil => t
    | u => .row u
  | .round a b => .round (norms a) (norms b)
def norms : Ts → Ts
  | .nil => .nil
  | .cons t ts => .cons (norm t) (norms ts)
end
mutual
def NF : T → Prop
  | .name _ => True
  | .node _ => True
  | .back t => NF t
  | .times t _ => NF t
  | .row ts => ts.len ≠ 1 ∧ NFs ts
  | .round a b => NFs a ∧ NFs b
def NFs : Ts → Prop
  | .nil => True
  | .cons t ts => NF t ∧ NFs ts
end
def nameOk (s : List Nat) : Prop := s ≠ [] ∧ s.length ≤ 8 ∧ ∀ c ∈ s, cl c = 1
mutual
/-- what can stand in a row text -/
def pOk : T → Prop
  | .name s => nameOk s
  | .node i => i < 100
  | .back t => pOk t
  | .times t k => pOk t ∧ k < 100
  | .row ts => ts.len ≠ 0 ∧ pOks ts
  | .round a b => a.len ≠ 0 ∧ b.len ≠ 0 ∧ pOks a ∧ pOks b
def pOks : Ts → Prop
  | .nil => True
  | .cons t ts => pOk t ∧ pOks ts
end
mutual
/-- names among N, nodes below n -/
def vOk (N : List (List Nat)) (n : Nat) : T → Prop
  | .name s => s ∈ N
  | .node i => i < n
  | .back t => vOk N n t
  | .times t _ => vOk N n t
  | .row ts => vOks N n ts
  | .round a b => vOks N n a ∧ vOks N n b
def vOks (N : List (List Nat)) (n : Nat) : Ts → Prop
  | .nil => True
  | .cons t ts => vOk N n t ∧ vOks N n ts
end
mutual
/-- how deep the brackets stand -/
def dep : T → Nat
  | .name _ => 0
  | .node _ => 0
  | .back t => dep t
  | .times t _ => dep t
  | .row ts => deps ts + 1
  | .round a b => max (deps a) (deps b) + 1
def deps : Ts → Nat
  | .nil => 0
  | .cons t ts => max (dep t) (deps ts)
end
mutual
/-- how many calls stand one in another -/
def hgt : T → Nat
  | .name _ => 1
  | .node _ => 1
  | .back t => hgt t + 1
  | .times t _ => hgt t + 1
  | .row ts => hgts ts + 1
  | .round a b => max (hgts a) (hgts b) + 1
def hgts : Ts → Nat
  | .nil => 2
  | .cons t ts => max (hgt t + 1) (hgts ts)
end
mutual
/-- the greatest number of things one behind another -/
def wid : T → Nat
  | .name _ => 0
  | .node _ => 0
  | .back t => wid t
  | .times t _ => wid t
  | .row ts => max ts.len (wids ts)
  | .round a b => max (max a.len (wids a)) (max b.len (wids b))
def wids : Ts → Nat
  | .nil => 0
  | .cons t ts => max (wid t) (wids ts)
end
/-! ### the form -/
theorem norms_len : ∀ ts : Ts, (norms ts).len = ts.len
  | .nil => by simp only [norms]
  | .cons t ts => by
    simp only [norms, Ts.len]
    rw [norms_len ts]
theorem norm_row (ts : Ts) : (∃ t, norms ts = .cons t .nil ∧ norm (.row ts) = t) ∨ ((norms ts).len ≠ 1 ∧ norm (.row ts) = .row (norms ts)) := by
  have e : norm (.row ts) = (match norms ts with
    | .cons t .nil => t
    | u => .row u) := by simp only [norm]
  cases h : norms ts with
  | nil => exact .inr ⟨by simp only [Ts.len]; omega, by rw [e, h]⟩
  | cons t u =>
    cases u with
    | nil => exact .inl ⟨t, rfl, by rw [e, h]⟩
    | cons t2 u2 => exact .inr ⟨by simp only [Ts.len]; omega, by rw [e, h]⟩
mutual
theorem norm_nf : ∀ t : T, NF (norm t)
  | .name s => by simp only [norm, NF]
  | .node s => by simp only [norm, NF]
  | .back t => by simp only [norm, NF]; exact norm_nf t
  | .times t k => by simp only [norm, NF]; exact norm_nf t
  | .row ts => by
    have h := norms_nf ts
    rcases norm_row ts with ⟨t, e1, e2⟩ | ⟨e1, e2⟩
    · rw [e2]
      rw [e1] at h
      simp only [NFs] at h
      exact h.1
    · rw [e2]
      simp only [NF]
      exact ⟨e1, h⟩
  | .round a b => by simp only [norm, NF]; exact ⟨norms_nf a, norms_nf b⟩
theorem norms_nf : ∀ ts : Ts, NFs (norms ts)
  | .nil => by simp only [norms, NFs]
  | .cons t ts => by simp only [norms, NFs]; exact ⟨norm_nf t, norms_nf ts⟩
end
mutual
theorem norm_text : ∀ t : T, text (norm t) = text t
  | .name s => by simp only [norm]
  | .node s => by simp only [norm]
  | .back t => by simp only [norm, text]; rw [norm_text t]
  | .times t k => by simp only [norm, text]; rw [norm_text t]
  | .row ts => by
    have h := norms_text ts
    have hl := norms_len ts
    rcases norm_row ts with ⟨t, e1, e2⟩ | ⟨e1, e2⟩
    · rw [e2, ← show texts (.cons t .nil) = text t by simp [texts, Ts.len], ← e1, h]
      simp only [text]
      rw [if_pos]
      rw [← hl, e1]
      simp only [Ts.len]
    · rw [e2]
      simp only [text]
      rw [hl] at e1
      rw [hl, if_neg e1, if_neg e1, h]
  | .round a b => by simp only [norm, text]; rw [norms_text a, norms_text b]
theorem norms_text : ∀ ts : Ts, texts (norms ts) = texts ts
  | .nil => by simp only [norms]
  | .cons t ts => by
    simp only [norms, texts]
    rw [norm_text t, norms_text ts, norms_len ts]
end
mutual
theorem norm_pOk : ∀ t : T, pOk t → pOk (norm t)
  | .name s, h => by simp only [norm]; exact h
  | .node s, h => by simp only [norm]; exact h
  | .back t, h => by simp only [norm, pOk] at h ⊢; exact norm_pOk t h
  | .times t k, h => by simp only [norm, pOk] at h ⊢; exact ⟨norm_pOk t h.1, h.2⟩
  | .row ts, h => by
    simp only [pOk] at h
    have q := norms_pOk ts h.2
    rcases norm_row ts with ⟨t, e1, e2⟩ | ⟨e1, e2⟩
    · rw [e2]
      rw [e1] at q
      simp only [pOks] at q
      exact q.1
    · rw [e2]
      simp only [pOk]
      exact ⟨by rw [norms_len]; exact h.1, q⟩
  | .round a b, h => by
    simp only [norm, pOk] at h ⊢
    exact ⟨by rw [norms_len]; exact h.1, by rw [norms_len]; exact h.2.1, norms_pOk a h.2.2.1, norms_pOk b h.2.2.2⟩
theorem norms_pOk : ∀ ts : Ts, pOks ts → pOks (norms ts)
  | .nil, h => by simp only [norms, pOks]
  | .cons t ts, h => by simp only [norms, pOks] at h ⊢; exact ⟨norm_pOk t h.1, norms_pOk ts h.2⟩
end
mutual
theorem norm_vOk {N : List (List Nat)} {n : Nat} : ∀ t : T, vOk N n t → vOk N n (norm t)
  | .name s, h => by simp only [norm]; exact h
  | .node s, h => by simp only [norm]; exact h
  | .back t, h => by simp only [norm, vOk] at h ⊢; exact norm_vOk t h
  | .times t k, h => by simp only [norm, vOk] at h ⊢; exact norm_vOk t h
  | .row ts, h => by
    simp only [vOk] at h
    have q := norms_vOk ts h
    rcases norm_row ts with ⟨t, e1, e2⟩ | ⟨e1, e2⟩
    · rw [e2]
      rw [e1] at q
      simp only [vOks] at q
      exact q.1
    · rw [e2]
      simp only [vOk]
      exact q
  | .round a b, h => by
    simp only [norm, vOk] at h ⊢
    exact ⟨norms_vOk a h.1, norms_vOk b h.2⟩
theorem norms_vOk {N : List (List Nat)} {n : Nat} : ∀ ts : Ts, vOks N n ts → vOks N n (norms ts)
  | .nil, h => by simp only [norms, vOks]
  | .cons t ts, h => by simp only [norms, vOks] at h ⊢; exact ⟨norm_vOk t h.1, norms_vOk ts h.2⟩
end
mutual
theorem norm_dep : ∀ t : T, dep (norm t) ≤ dep t
  | .name s => by simp only [norm]; exact Nat.le_refl _
  | .node s => by simp only [norm]; exact Nat.le_refl _
  | .back t => by simp only [norm, dep]; exact norm_dep t
  | .times t k => by simp only [norm, dep]; exact norm_dep t
  | .row ts => by
    have q := norms_dep ts
    simp only [dep]
    rcases norm_row ts with ⟨t, e1, e2⟩ | ⟨e1, e2⟩
    · rw [e2]
      rw [e1] at q
      simp only [deps] at q
      omega
    · rw [e2]
      simp only [dep]
      omega
  | .round a b => by
    have q := norms_dep a
    have r := norms_dep b
    simp only [norm, dep]
    omega
theorem norms_dep : ∀ ts : Ts, deps (norms ts) ≤ deps ts
  | .nil => by simp only [norms]; exact Nat.le_refl _
  | .cons t ts => by
    have q := norm_dep t
    have r := norms_dep ts
    simp only [norms, deps]
    omega
end
mutual
theorem norm_hgt : ∀ t : T, hgt (norm t) ≤ hgt t
  | .name s => by simp only [norm]; exact Nat.le_refl _
  | .node s => by simp only [norm]; exact Nat.le_refl _
  | .back t => by
    have := norm_hgt t
    simp only [norm, hgt]; omega
  | .times t k => by
    have := norm_hgt t
    simp only [norm, hgt]; omega
  | .row ts => by
    have q := norms_hgt ts
    simp only [hgt]
    rcases norm_row ts with ⟨t, e1, e2⟩ | ⟨e1, e2⟩
    · rw [e2]
      rw [e1] at q
      simp only [hgts] at q
      omega
    · rw [e2]
      simp only [hgt]
      omega
  | .round a b => by
    have q := norms_hgt a
    have r := norms_hgt b
    simp only [norm, hgt]
    omega
theorem norms_hgt : ∀ ts : Ts, hgts (norms ts) ≤ hgts ts
  | .nil => by simp only [norms]; exact Nat.le_refl _
  | .cons t ts => by
    have q := norm_hgt t
    have r := norms_hgt ts
    simp only [norms, hgts]
    omega
end
mutual
theorem norm_wid : ∀ t : T, wid (norm t) ≤ wid t
  | .name s => by simp only [norm]; exact Nat.le_refl _
  | .node s => by simp only [norm]; exact Nat.le_refl _
  | .back t => by
    have := norm_wid t
    simp only [norm, wid]; omega
  | .times t k => by
    have := norm_wid t
    simp only [norm, wid]; omega
  | .row ts => by
    have q := norms_wid ts
    have l := norms_len ts
    simp only [wid]
    rcases norm_row ts with ⟨t, e1, e2⟩ | ⟨e1, e2⟩
    · rw [e2]
      rw [e1] at q
      simp only [wids] at q
      omega
    · rw [e2]
      simp only [wid]
      omega
  | .round a b => by
    have q := norms_wid a
    have r := norms_wid b
    have l := norms_len a
    have m := norms_len b
    simp only [norm, wid]
    omega
theorem norms_wid : ∀ ts : Ts, wids (norms ts) ≤ wids ts
  | .nil => by simp only [norms]; exact Nat.le_refl _
  | .cons t ts => by
    have q := norm_wid t
    have r := norms_wid ts
    simp only [norms, wids]
    omega
end
/-! ### the words of the text -/
theorem numC_ne (n : Nat) : numC n ≠ [] := by
  unfold numC
  split <;> simp
theorem numC_fig {n : Nat} (h : n < 100) : ∀ c ∈ numC n, cl c = 2 := by
  have key : ∀ d, d < 10 → cl (48 + d) = 2 := by decide
  intro c hc
  unfold numC at hc
  split at hc
  · rw [List.mem_singleton] at hc
    rw [hc]
    exact key n (by omega)
  · simp only [List.mem_cons, List.not_mem_nil, or_false] at hc
    rcases hc with hc | hc
    · rw [hc]; exact key _ (by omega)
    · rw [hc]; exact key _ (by omega)
theorem J_single {s : LS} {ws : List (List Nat)} {c : Nat} {r : List Nat} (j : flush s = (ws, [])) (h : cl c = 3) : runW s (c :: r) = runW (ws ++ [[c]], []) r := by
  rw [runW_cons, step_single h, j]
theorem J_blank {s : LS} {ws : List (List Nat)} {c : Nat} {r : List Nat} (j : flush s = (ws, [])) (h : cl c = 0) : runW s (c :: r) = runW (ws, []) r := by
  rw [runW_cons, step_blank h, j]
theorem J_word {k : Nat} (hk : k = 1 ∨ k = 2) {ws : List (List Nat)} {m : List Nat} (hm : m ≠ []) (h : ∀ c ∈ m, cl c = k) : flush (runW (ws, []) m) = (ws ++ [m], []) := by
  cases m with
  | nil => exact absurd rfl hm
  | cons c m =>
    have h1 : cl c = k := h c List.mem_cons_self
    have e1 : step (ws, []) c = (ws, [c]) := by
      rw [step_word (by omega), if_neg (by show ¬ (0 : Nat) = cl c; omega)]
      rfl
    rw [runW_cons, e1, run_word hk m ws [c] (fun x hx => h x (List.mem_cons_of_mem _ hx)) (by simp) h1]
    rfl
theorem cl_s : cl 40 = 3 ∧ cl 41 = 3 ∧ cl 91 = 3 ∧ cl 93 = 3 ∧ cl 44 = 3 ∧ cl 59 = 3 ∧ cl 61 = 3 ∧ cl 94 = 3 ∧ cl 126 = 3 := by decide
mutual
theorem text_tok : ∀ (t : T) (ws : List (List Nat)), NF t → pOk t → flush (runW (ws, []) (text t)) = (ws ++ tok t, [])
  | .name s, ws, _, h => by
    simp only [pOk] at h
    simp only [text, tok]
    exact J_word (.inl rfl) h.1 h.2.2
  | .node i, ws, _, h => by
    simp only [pOk] at h
    simp only [text, tok]
    exact J_word (.inr rfl) (numC_ne i) (numC_fig h)
  | .back t, ws, hn, h => by
    simp only [pOk] at h
    simp only [NF] at hn
    simp only [text, tok]
    rw [runW_app, J_single (text_tok t ws hn h) cl_s.2.2.2.2.2.2.2.2, runW_nil, flush_nil, List.append_assoc]
  | .times t k, ws, hn, h => by
    simp only [pOk] at h
    simp only [NF] at hn
    simp only [text, tok]
    rw [List.append_assoc, runW_app, List.singleton_append, J_single (text_tok t ws hn h.1) cl_s.2.2.2.2.2.2.2.1, J_word (.inr rfl) (numC_ne k) (numC_fig h.2)]
    simp
  | .row ts, ws, hn, h => by
    simp only [pOk] at h
    simp only [NF] at hn
    simp only [text, tok]
    rw [if_neg hn.1, List.append_assoc, List.singleton_append, J_single (flush_nil ws) cl_s.1, runW_app, J_single (texts_toks ts _ hn.2 h.2) cl_s.2.1, runW_nil, flush_nil]
    simp
  | .round a b, ws, hn, h => by
    simp only [pOk] at h
    simp only [NF] at hn
    simp only [text, tok]
    rw [show [91] ++ texts a ++ [44, 32] ++ texts b ++ [93] = 91 :: (texts a ++ (44 :: 32 :: (texts b ++ [93]))) by simp]
    rw [J_single (flush_nil ws) cl_s.2.2.1, runW_app, J_single (texts_toks a _ hn.1 h.2.2.1) cl_s.2.2.2.2.1, J_blank (flush_nil _) cl32, runW_app, J_single (texts_toks b _ hn.2 h.2.2.2) cl_s.2.2.2.1, runW_nil, flush_nil]
    simp
theorem texts_toks : ∀ (ts : Ts) (ws : List (List Nat)), NFs ts → pOks ts → flush (runW (ws, []) (texts ts)) = (ws ++ toks ts, [])
  | .nil, ws, _, _ => by simp [texts, toks, runW_nil, flush_nil]
  | .cons t ts, ws, hn, h => by
    simp only [pOks] at h
    simp only [NFs] at hn
    simp only [texts, toks]
    have q := text_tok t ws hn.1 h.1
    cases ts with
    | nil =>
      simp only [Ts.len, toks]
      rw [if_pos trivial, List.append_nil, q, List.append_nil]
    | cons t2 ts2 =>
      have r := texts_toks (.cons t2 ts2) (ws ++ tok t) hn.2 h.2
      rw [if_neg (by simp only [Ts.len]; omega), runW_app, J_blank q cl32, r, List.append_assoc]
end
end KM
set_option Elab.async false
set_option linter.all false
/-! Whole row texts; rows. -/
namespace KM
abbrev Told : Type := List (List Nat × Ts)
def tokD (p : List Nat × Ts) : List (List Nat) := p.1 :: [61] :: (toks p.2 ++ [[59]])
def tokW (told : Told) (last : Ts) : List (List Nat) := told.flatMap tokD ++ toks last
def textD (p : List Nat × Ts) : List Nat := p.1 ++ [32, 61, 32] ++ texts p.2 ++ [59, 32]
def textW (told : Told) (last : Ts) : List Nat := told.flatMap textD ++ texts last
def normD (p : List Nat × Ts) : List Nat × Ts := (p.1, norms p.2)
theorem textD_norm (p : List Nat × Ts) : textD (normD p) = textD p := by
  unfold textD normD
  simp only
  rw [norms_text]
theorem textW_norm (told : Told) (last : Ts) : textW (told.map normD) (norms last) = textW told last := by
  unfold textW
  rw [norms_text]
  congr 1
  induction told with
  | nil => rfl
  | cons p r ih =>
    rw [List.map_cons, List.flatMap_cons, List.flatMap_cons, ih, textD_norm]
theorem textD_tok (p : List Nat × Ts) (ws : List (List Nat)) (hn : nameOk p.1) (h : pOks p.2) (nf : NFs p.2) : runW (ws, []) (textD p) = (ws ++ tokD p, []) := by
  unfold textD tokD
  rw [show p.1 ++ [32, 61, 32] ++ texts p.2 ++ [59, 32] = p.1 ++ (32 :: 61 :: 32 :: (texts p.2 ++ [59, 32])) by simp]
  rw [runW_app, J_blank (J_word (.inl rfl) hn.1 hn.2.2) cl32, J_single (flush_nil _) cl_s.2.2.2.2.2.2.1, J_blank (flush_nil _) cl32, runW_app, J_single (texts_toks p.2 _ nf h) cl_s.2.2.2.2.2.1, runW_cons, step_blank cl32, runW_nil, flush_nil]
  simp
theorem textW_tok : ∀ (told : Told) (last : Ts) (ws : List (List Nat)), (∀ p ∈ told, nameOk p.1 ∧ pOks p.2 ∧ NFs p.2) → pOks last → NFs last → lexF ws (textW told last) = ws ++ tokW told last
  | [], last, ws, _, hl, nl => by
    unfold lexF textW tokW
    simp only [List.flatMap_nil, List.nil_append]
    rw [texts_toks last ws nl hl]
  | p :: r, last, ws, h, hl, nl => by
    obtain ⟨h1, h2, h3⟩ := h p List.mem_cons_self
    have ih := textW_tok r last (ws ++ tokD p) (fun q hq => h q (List.mem_cons_of_mem _ hq)) hl nl
    unfold lexF textW tokW at ih ⊢
    rw [List.flatMap_cons, List.append_assoc, runW_app, textD_tok p ws h1 h2 h3, ih, List.flatMap_cons]
    simp
/-! ### rows -/
abbrev Row : Type := List Int
def shortO (r : Row) : Option Row := if r.length ≤ 200 then some r else none
def repR (k : Nat) (r : Row) : Row := (List.replicate k r).flatten
mutual
def rowT (env : List Nat → Option Row) : T → Option Row
  | .name s => env s
  | .node i => some [(i : Int)]
  | .back t => (rowT env t).map List.reverse
  | .times t k => (rowT env t).bind fun r => shortO (repR k r)
  | .row ts => (catTs env ts).bind shortO
  | .round a b => ((catTs env a).bind shortO).bind fun x => ((catTs env b).bind shortO).bind fun y => shortO (x ++ y ++ x.reverse ++ y.reverse)
def catTs (env : List Nat → Option Row) : Ts → Option Row
  | .nil => some []
  | .cons t ts => (rowT env t).bind fun r => (catTs env ts).map fun q => r ++ q
end
def rowTs (env : List Nat → Option Row) (ts : Ts) : Option Row := (catTs env ts).bind shortO
theorem shortO_le {r q : Row} (h : shortO r = some q) : q = r ∧ r.length ≤ 200 := by
  unfold shortO at h
  split at h
  · rename_i hl
    exact ⟨(Option.some.inj h).symm, hl⟩
  · cases h
theorem rowT_le {env : List Nat → Option Row} (he : ∀ s r, env s = some r → r.length ≤ 200) : ∀ (t : T) (r : Row), rowT env t = some r → r.length ≤ 200
  | .name s, r, h => by simp only [rowT] at h; exact he s r h
  | .node i, r, h => by
    simp only [rowT] at h
    rw [← Option.some.inj h]
    show 1 ≤ 200
    omega
  | .back t, r, h => by
    simp only [rowT] at h
    cases q : rowT env t with
    | none => rw [q] at h; cases h
    | some z =>
      rw [q] at h
      rw [← Option.some.inj h, List.length_reverse]
      exact rowT_le he t z q
  | .times t k, r, h => by
    simp only [rowT] at h
    cases q : rowT env t with
    | none => rw [q] at h; cases h
    | some z =>
      rw [q] at h
      have := shortO_le (show shortO (repR k z) = some r from h)
      rw [this.1]
      exact this.2
  | .row ts, r, h => by
    simp only [rowT] at h
    cases q : catTs env ts with
    | none => rw [q] at h; cases h
    | some z =>
      rw [q] at h
      have := shortO_le (show shortO z = some r from h)
      rw [this.1]
      exact this.2
  | .round a b, r, h => by
    simp only [rowT] at h
    cases q : (catTs env a).bind shortO with
    | none => rw [q] at h; cases h
    | some z =>
      rw [q] at h
      cases q2 : (catTs env b).bind shortO with
      | none => rw [q2] at h; cases h
      | some z2 =>
        rw [q2] at h
        have := shortO_le (show shortO (z ++ z2 ++ z.reverse ++ z2.reverse) = some r from h)
        rw [this.1]
        exact this.2
theorem rowTs_le {env : List Nat → Option Row} {ts : Ts} {r : Row} (h : rowTs env ts = some r) : r.length ≤ 200 := by
  unfold rowTs at h
  cases q : catTs env ts with
  | none => rw [q] at h; cases h
  | some z =>
    rw [q] at h
    have := shortO_le (show shortO z = some r from h)
    rw [this.1]
    exact this.2
mutual
theorem norm_rowT {env : List Nat → Option Row} (he : ∀ s r, env s = some r → r.length ≤ 200) : ∀ t : T, rowT env (norm t) = rowT env t
  | .name s => by simp only [norm]
  | .node s => by simp only [norm]
  | .back t => by simp only [norm, rowT]; rw [norm_rowT he t]
  | .times t k => by simp only [norm, rowT]; rw [norm_rowT he t]
  | .row ts => by
    have h := norms_catTs he ts
    rcases norm_row ts with ⟨t, e1, e2⟩ | ⟨e1, e2⟩
    · rw [e2]
      simp only [rowT]
      rw [← h, e1]
      simp only [catTs, Option.map_some, List.append_nil]
      cases q : rowT env t with
      | none => rfl
      | some z =>
        have hz := rowT_le he t z q
        show some z = shortO z
        unfold shortO
        rw [if_pos hz]
    · rw [e2]
      simp only [rowT]
      rw [h]
  | .round a b => by simp only [norm, rowT]; rw [norms_catTs he a, norms_catTs he b]
theorem norms_catTs {env : List Nat → Option Row} (he : ∀ s r, env s = some r → r.length ≤ 200) : ∀ ts : Ts, catTs env (norms ts) = catTs env ts
  | .nil => by simp only [norms]
  | .cons t ts => by simp only [norms, catTs]; rw [norm_rowT he t, norms_catTs he ts]
end
theorem norms_rowTs {env : List Nat → Option Row} (he : ∀ s r, env s = some r → r.length ≤ 200) (ts : Ts) : rowTs env (norms ts) = rowTs env ts := by
  unfold rowTs
  rw [norms_catTs he]
/-- a name's row told -/
def setE (env : List Nat → Option Row) (s : List Nat) (r : Row) : List Nat → Option Row := fun z => if z = s then some r else env z
def env0 : List Nat → Option Row := fun _ => none
/-- the rows of the told names, then that of the last things -/
def rowW (env : List Nat → Option Row) : Told → Ts → Option Row
  | [], last => rowTs env last
  | p :: r, last => (rowTs env p.2).bind fun q => rowW (setE env p.1 q) r last
theorem setE_le {env : List Nat → Option Row} (he : ∀ s r, env s = some r → r.length ≤ 200) {s : List Nat} {q : Row} (hq : q.length ≤ 200) : ∀ z r, setE env s q z = some r → r.length ≤ 200 := by
  intro z r h
  unfold setE at h
  split at h
  · rw [← Option.some.inj h]; exact hq
  · exact he z r h
theorem norm_rowW : ∀ (told : Told) (last : Ts) (env : List Nat → Option Row), (∀ s r, env s = some r → r.length ≤ 200) → rowW env (told.map normD) (norms last) = rowW env told last
  | [], last, env, he => norms_rowTs he last
  | p :: r, last, env, he => by
    show (rowTs env (norms p.2)).bind (fun q => rowW (setE env p.1 q) (r.map normD) (norms last)) = (rowTs env p.2).bind fun q => rowW (setE env p.1 q) r last
    rw [norms_rowTs he]
    cases h : rowTs env p.2 with
    | none => rfl
    | some q => exact norm_rowW r last _ (setE_le he (rowTs_le h))
/-! ### sizes -/
mutual
theorem text_le_back : ∀ t : T, 0 ≤ (text t).length
  | _ => Nat.zero_le _
end
theorem numC_len (n : Nat) : (numC n).length ≤ 2 := by
  unfold numC
  split <;> simp
theorem texts_cons_len (t : T) (ts : Ts) : (text t).length ≤ (texts (.cons t ts)).length := by
  simp only [texts]
  rw [List.length_append]
  omega
theorem texts_tail_len (t : T) (ts : Ts) : (texts ts).length ≤ (texts (.cons t ts)).length := by
  simp only [texts]
  rw [List.length_append]
  cases ts with
  | nil => simp [texts]
  | cons a b =>
    rw [if_neg (by simp only [Ts.len]; omega), List.length_cons]
    omega
theorem texts_mem_len : ∀ (ts : Ts) (t : T), t ∈ ts.list → (text t).length ≤ (texts ts).length
  | .nil, t, h => by cases h
  | .cons a b, t, h => by
    rcases List.mem_cons.mp h with e | e
    · rw [e]; exact texts_cons_len a b
    · exact Nat.le_trans (texts_mem_len b t e) (texts_tail_len a b)
/-- the length of things one behind another -/
theorem texts_bound {B : Nat} : ∀ ts : Ts, (∀ t ∈ ts.list, (text t).length ≤ B) → (texts ts).length ≤ ts.len * (B + 1)
  | .nil, _ => by simp [texts]
  | .cons t ts, h => by
    have h1 := h t List.mem_cons_self
    have h2 := texts_bound ts fun x hx => h x (List.mem_cons_of_mem _ hx)
    have e : (ts.len + 1) * (B + 1) = ts.len * (B + 1) + (B + 1) := Nat.succ_mul _ _
    simp only [texts, Ts.len]
    rw [List.length_append, e]
    cases ts with
    | nil => simp [Ts.len]; omega
    | cons a b =>
      rw [if_neg (by simp only [Ts.len]; omega), List.length_cons]
      omega
end KM
set_option Elab.async false
set_option linter.all false
set_option maxRecDepth 100000
set_option maxHeartbeats 2000000
namespace KW
open PySem PySem.Spec PyProof.Rows L2
def top (i : Nat) : Stmt := PySem.Challenge.pw_dartwebs_k02_whole_row_texts.main.body.getD i (.Pass ⟨0, 0, 0, 0⟩)
abbrev sis_integer : Stmt := top 12
abbrev sis_from : Stmt := top 13
abbrev sneed_count : Stmt := top 14
abbrev swords_of : Stmt := top 21
abbrev sis_name : Stmt := top 22
abbrev sis_number : Stmt := top 23
abbrev sneed_things : Stmt := top 25
abbrev sneed_thing : Stmt := top 26
abbrev stree_of : Stmt := top 27
abbrev sshort : Stmt := top 28
abbrev srow_of_thing : Stmt := top 29
abbrev srow_of_things : Stmt := top 30
abbrev srow_of : Stmt := top 31
abbrev sthing_text : Stmt := top 32
abbrev sthings_text : Stmt := top 33
abbrev sprinted : Stmt := top 34
abbrev s_law_taken : Stmt := top 36
abbrev s_law_pick : Stmt := top 37
abbrev s_law_alike : Stmt := top 38
abbrev s_law_thing : Stmt := top 39
abbrev s_law_things : Stmt := top 40
abbrev s_law_thing_text : Stmt := top 41
abbrev s_law_things_text : Stmt := top 42
abbrev s_law_thing_row : Stmt := top 43
abbrev s_law_things_row : Stmt := top 44
abbrev s_law_error : Stmt := top 45
abbrev s_law_loose : Stmt := top 46
abbrev slaw : Stmt := top 47
abbrev minit : Stmt := inClass (top 24) 0
abbrev mword : Stmt := inClass (top 24) 1
abbrev mwrong : Stmt := inClass (top 24) 2
abbrev mtake : Stmt := inClass (top 24) 3
abbrev mneed : Stmt := inClass (top 24) 4
abbrev menter : Stmt := inClass (top 24) 5
abbrev mleave : Stmt := inClass (top 24) 6
abbrev mthings : Stmt := inClass (top 24) 7
abbrev mthing : Stmt := inClass (top 24) 8
abbrev mplain : Stmt := inClass (top 24) 9
abbrev mwhole : Stmt := inClass (top 24) 10
def dfs : List He.DefD := [
  ⟨("is_integer", none), "is_integer", "is_integer", defArgs sis_integer, defBody sis_integer, defScope sis_integer, [], []⟩,
  ⟨("is_from", none), "is_from", "is_from", defArgs sis_from, defBody sis_from, defScope sis_from, [], []⟩,
  ⟨("need_count", none), "need_count", "need_count", defArgs sneed_count, defBody sneed_count, defScope sneed_count, [], []⟩,
  ⟨("words_of", none), "words_of", "words_of", defArgs swords_of, defBody swords_of, defScope swords_of, [], []⟩,
  ⟨("is_name", none), "is_name", "is_name", defArgs sis_name, defBody sis_name, defScope sis_name, [], []⟩,
  ⟨("is_number", none), "is_number", "is_number", defArgs sis_number, defBody sis_number, defScope sis_number, [], []⟩,
  ⟨("need_things", none), "need_things", "need_things", defArgs sneed_things, defBody sneed_things, defScope sneed_things, [], []⟩,
  ⟨("need_thing", none), "need_thing", "need_thing", defArgs sneed_thing, defBody sneed_thing, defScope sneed_thing, [], []⟩,
  ⟨("tree_of", none), "tree_of", "tree_of", defArgs stree_of, defBody stree_of, defScope stree_of, [], []⟩,
  ⟨("short", none), "short", "short", defArgs sshort, defBody sshort, defScope sshort, [], []⟩,
  ⟨("row_of_thing", none), "row_of_thing", "row_of_thing", defArgs srow_of_thing, defBody srow_of_thing, defScope srow_of_thing, [], []⟩,
  ⟨("row_of_things", none), "row_of_things", "row_of_things", defArgs srow_of_things, defBody srow_of_things, defScope srow_of_things, [], []⟩,
  ⟨("row_of", none), "row_of", "row_of", defArgs srow_of, defBody srow_of, defScope srow_of, [], []⟩,
  ⟨("thing_text", none), "thing_text", "thing_text", defArgs sthing_text, defBody sthing_text, defScope sthing_text, [], []⟩,
  ⟨("things_text", none), "things_text", "things_text", defArgs sthings_text, defBody sthings_text, defScope sthings_text, [], []⟩,
  ⟨("printed", none), "printed", "printed", defArgs sprinted, defBody sprinted, defScope sprinted, [], []⟩,
  ⟨("_law_taken", none), "_law_taken", "_law_taken", defArgs s_law_taken, defBody s_law_taken, defScope s_law_taken, [], []⟩,
  ⟨("_law_pick", none), "_law_pick", "_law_pick", defArgs s_law_pick, defBody s_law_pick, defScope s_law_pick, [], []⟩,
  ⟨("_law_alike", none), "_law_alike", "_law_alike", defArgs s_law_alike, defBody s_law_alike, defScope s_law_alike, [], []⟩,
  ⟨("_law_thing", none), "_law_thing", "_law_thing", defArgs s_law_thing, defBody s_law_thing, defScope s_law_thing, [], []⟩,
  ⟨("_law_things", none), "_law_things", "_law_things", defArgs s_law_things, defBody s_law_things, defScope s_law_things, [], []⟩,
  ⟨("_law_thing_text", none), "_law_thing_text", "_law_thing_text", defArgs s_law_thing_text, defBody s_law_thing_text, defScope s_law_thing_text, [], []⟩,
  ⟨("_law_things_text", none), "_law_things_text", "_law_things_text", defArgs s_law_things_text, defBody s_law_things_text, defScope s_law_things_text, [], []⟩,
  ⟨("_law_thing_row", none), "_law_thing_row", "_law_thing_row", defArgs s_law_thing_row, defBody s_law_thing_row, defScope s_law_thing_row, [], []⟩,
  ⟨("_law_things_row", none), "_law_things_row", "_law_things_row", defArgs s_law_things_row, defBody s_law_things_row, defScope s_law_things_row, [], []⟩,
  ⟨("_law_error", none), "_law_error", "_law_error", defArgs s_law_error, defBody s_law_error, defScope s_law_error, [], []⟩,
  ⟨("_law_loose", none), "_law_loose", "_law_loose", defArgs s_law_loose, defBody s_law_loose, defScope s_law_loose, [], []⟩,
  ⟨("law", none), "law", "law", defArgs slaw, defBody slaw, defScope slaw, [], []⟩,
  ⟨("Reading", some "__init__"), "__init__", "Reading.__init__", defArgs minit, defBody minit, defScope minit, [], []⟩,
  ⟨("Reading", some "word"), "word", "Reading.word", defArgs mword, defBody mword, defScope mword, [], []⟩,
  ⟨("Reading", some "wrong"), "wrong", "Reading.wrong", defArgs mwrong, defBody mwrong, defScope mwrong, [], []⟩,
  ⟨("Reading", some "take"), "take", "Reading.take", defArgs mtake, defBody mtake, defScope mtake, [], []⟩,
  ⟨("Reading", some "need"), "need", "Reading.need", defArgs mneed, defBody mneed, defScope mneed, [], []⟩,
  ⟨("Reading", some "enter"), "enter", "Reading.enter", defArgs menter, defBody menter, defScope menter, [], []⟩,
  ⟨("Reading", some "leave"), "leave", "Reading.leave", defArgs mleave, defBody mleave, defScope mleave, [], []⟩,
  ⟨("Reading", some "things"), "things", "Reading.things", defArgs mthings, defBody mthings, defScope mthings, [], []⟩,
  ⟨("Reading", some "thing"), "thing", "Reading.thing", defArgs mthing, defBody mthing, defScope mthing, [], []⟩,
  ⟨("Reading", some "plain"), "plain", "Reading.plain", defArgs mplain, defBody mplain, defScope mplain, [], []⟩,
  ⟨("Reading", some "whole"), "whole", "Reading.whole", defArgs mwhole, defBody mwhole, defScope mwhole, [], []⟩]
end KW
namespace KW
open PySem PySem.Spec PyProof.Rows L2
/-- a text of codes -/
def mk (l : List Nat) : Str := ⟨l.toArray⟩
theorem mk_cps (l : List Nat) : (mk l).cps.toList = l := rfl
theorem mk_len (l : List Nat) : (mk l).length = l.length := rfl
theorem mk_app (a b : List Nat) : mk a ++ mk b = mk (a ++ b) := TL.ext_tl (by rw [TL.tl_append]; rfl)
theorem mk_inj {a b : List Nat} (h : mk a = mk b) : a = b := congrArg (fun z : Str => z.cps.toList) h
theorem mk_of (z : Str) : mk z.cps.toList = z := TL.ext_tl rfl
theorem line_ge {n : Nat} (h : n ≤ 16777216) : n ≤ sizeLine := by rw [sizeLine_eq]; exact h
section
variable {P : Program} {w : World} {K : PySem.W.Frag} {mg : Str → Option Value} {base : Heap}
/-- a def that may be called by its name -/
def Cal (P : Program) (w : World) (K : PySem.W.Frag) (mg : Str → Option Value) (base : Heap) (CX : CXT) (x : Str) (k : Nat) (ps : List Str) (sp : Sp) : Prop :=
  ∃ (f : Addr) (fd : FuncData), FnOk P w K mg base CX k f fd ps sp ∧ mg x = some (.ref f) ∧ PySem.W.keepIn K (.ref f) = true ∧ Binds K fd ps []
/-- a method of the class at C -/
def Calm (P : Program) (w : World) (K : PySem.W.Frag) (mg : Str → Option Value) (base : Heap) (CX : CXT) (C : Addr) (m : Str) (k : Nat) (ps : List Str) (sp : Sp) : Prop :=
  ∃ (f : Addr) (fd : FuncData), FnOk P w K mg base CX k f fd ps sp ∧ Meth K C m f ∧ Binds K fd ps []
theorem Cal.mono {CX : CXT} {x : Str} {j k : Nat} {ps : List Str} {sp : Sp} (c : Cal P w K mg base CX x j ps sp) (h : j ≤ k) : Cal P w K mg base CX x k ps sp := by
  obtain ⟨f, fd, G, r⟩ := c
  exact ⟨f, fd, G.mono h, r⟩
theorem Calm.mono {CX : CXT} {C : Addr} {x : Str} {j k : Nat} {ps : List Str} {sp : Sp} (c : Calm P w K mg base CX C x j ps sp) (h : j ≤ k) : Calm P w K mg base CX C x k ps sp := by
  obtain ⟨f, fd, G, r⟩ := c
  exact ⟨f, fd, G.mono h, r⟩
end
section
variable {X : Cx}
theorem pe_cal {CX : CXT} {x : Str} {k : Nat} {ps : List Str} {sp : Sp} {E : XK} {e : Expr} {es : List Expr} {t : TA} {p pos : Pos} (c : Cal X.prog X.w X.K X.mg X.base CX x k ps sp) (hr : Room k X.A) (hx : Passes CX X E) (ha : PA X (e :: es) t) (hg : Gl X x := by rfl)
    (hd : (x == ("__debug__" : Str)) = false := by decide) (he : starEach (e :: es) X.env = (false, eval e X.env) :: starEach es X.env := by rfl) (hpl : (backTo pos (starEach es X.env)).any (·.1) = false := by rfl) :
    PE X (.Call (.Name x p) (e :: es) [] pos) (tCall sp [] E t) := by
  obtain ⟨f, fd, G, m, kp, b⟩ := c
  exact pe_call G hr hg m kp b .nil hx ha hd he hpl
end
end KW
set_option Elab.async false
set_option linter.all false
set_option maxRecDepth 100000
/-! How the data lie in the heap. -/
namespace KW
open PySem PySem.Spec PyProof.Rows L2 KM
section
variable {X : Cx} {a b c : Expr}
theorem pe_calm {CX : CXT} {C : Addr} {m : Str} {k : Nat} {ps : List Str} {sp : Sp} {E : XK} {o e : Expr} {es : List Expr} {t : TA} {ta : TE} {apos pos : Pos} {pl : Sem Bool} (c : Calm X.prog X.w X.K X.mg X.base CX C m k ps sp) (he : PE X o ta) (cl : Cls X.K C) (hr : Room k X.A) (hx : Passes CX X E) (ha : PA X (e :: es) t)
    (hst : starEach (e :: es) X.env = (false, eval e X.env) :: starEach es X.env := by rfl) (hpl : (backTo pos (starEach es X.env)).any (·.1) = false := by rfl)
    (ht : eval (.Call (.Attribute o m apos) (e :: es) [] pos) X.env = (do
      let ov ← eval o X.env
      standAt apos.atName
      let (f, first) ← holding [ov] (getMethod ov m pl)
      callWith pos f first (backTo pos (starEach (e :: es) X.env)) (backToKw pos (keywordEach [] X.env))) := by rfl) :
    PE X (.Call (.Attribute o m apos) (e :: es) [] pos) (tMeth C m sp [] E ta t) := by
  obtain ⟨f, fd, G, mm, b⟩ := c
  exact pe_meth he cl mm G hr b .nil hx ha hst hpl ht
theorem pe_calm0 {CX : CXT} {C : Addr} {m : Str} {k : Nat} {ps : List Str} {sp : Sp} {E : XK} {o : Expr} {ta : TE} {apos pos : Pos} {pl : Sem Bool} (c : Calm X.prog X.w X.K X.mg X.base CX C m k ps sp) (he : PE X o ta) (cl : Cls X.K C) (hr : Room k X.A) (hx : Passes CX X E)
    (ht : eval (.Call (.Attribute o m apos) [] [] pos) X.env = (do
      let ov ← eval o X.env
      standAt apos.atName
      let (f, first) ← holding [ov] (getMethod ov m pl)
      callWith pos f first (backTo pos (starEach [] X.env)) (backToKw pos (keywordEach [] X.env))) := by rfl) :
    PE X (.Call (.Attribute o m apos) [] [] pos) (tMeth C m sp [] E ta tNil) := by
  obtain ⟨f, fd, G, mm, b⟩ := c
  exact pe_meth0 he cl mm G hr b .nil hx ht
end
/-! ### heaps -/
/-- tuples stay -/
def TK (H H' : Hp) : Prop := ∀ a xs, H a = some (.tup xs) → H' a = some (.tup xs)
theorem TK.refl (H : Hp) : TK H H := fun _ _ h => h
theorem TK.trans {H H1 H2 : Hp} (a : TK H H1) (b : TK H1 H2) : TK H H2 := fun c o h => b c o (a c o h)
theorem Same.tk {H H' : Hp} (s : Same H H') : TK H H' := fun a xs h => s a _ h
/-- all but what stands at p stays -/
def But (p : Addr) (H H' : Hp) : Prop := ∀ b o, H b = some o → b ≠ p → H' b = some o
theorem But.refl (p : Addr) (H : Hp) : But p H H := fun _ _ h _ => h
theorem But.trans {p : Addr} {H H1 H2 : Hp} (a : But p H H1) (b : But p H1 H2) : But p H H2 := fun c o h n => b c o (a c o h n) n
theorem Same.but {p : Addr} {H H' : Hp} (s : Same H H') : But p H H' := fun b o h _ => s b o h
theorem Same.new {H : Hp} {p : Addr} (h : H p = none) (o : HO) : Same H (upd H p o) := fun b u q => by rw [upd_ne (ne_of_none q h)]; exact q
theorem But.upd {p : Addr} {H : Hp} (o : HO) : But p H (upd H p o) := fun b u q n => by rw [upd_ne n]; exact q
theorem But.tk {p : Addr} {H H' : Hp} (s : But p H H') (h : ∀ xs, H p ≠ some (.tup xs)) : TK H H' := fun a xs e => s a _ e fun z => h xs (by rw [← z]; exact e)
/-- what is new for the first is new for the second -/
theorem But.free {p q : Addr} {H H' : Hp} {o : HO} (s : But p H H') (hp : H p = some o) (h : H' q = none) (n : q ≠ p) : H q = none := by
  cases e : H q with
  | none => rfl
  | some u => rw [s q u e n] at h; cases h
theorem TK.upd {H : Hp} {p : Addr} (o : HO) (h : ∀ xs, H p ≠ some (.tup xs)) : TK H (upd H p o) := fun a xs e => by
  have n : a ≠ p := fun z => h xs (by rw [← z]; exact e)
  rw [upd_ne n]
  exact e
/-! ### trees -/
mutual
/-- v is the thing t -/
def TAt (H : Hp) (v : V) : T → Prop
  | .name s => ∃ a, v = .ref a ∧ H a = some (.tup [.str "name", .str (mk s)])
  | .node i => ∃ a, v = .ref a ∧ H a = some (.tup [.str "node", .int (i : Int)])
  | .back t => ∃ a u, v = .ref a ∧ H a = some (.tup [.str "back", u]) ∧ TAt H u t
  | .times t k => ∃ a u, v = .ref a ∧ H a = some (.tup [.str "times", u, .int (k : Int)]) ∧ TAt H u t
  | .row ts => ∃ a b us, v = .ref a ∧ H a = some (.tup [.str "row", .ref b]) ∧ H b = some (.tup us) ∧ TsAt H us ts
  | .round x y => ∃ a b c us ws, v = .ref a ∧ H a = some (.tup [.str "round", .ref b, .ref c]) ∧ (H b = some (.tup us) ∧ TsAt H us x) ∧ H c = some (.tup ws) ∧ TsAt H ws y
def TsAt (H : Hp) (us : List V) : Ts → Prop
  | .nil => us = []
  | .cons t ts => ∃ u r, us = u :: r ∧ TAt H u t ∧ TsAt H r ts
end
mutual
theorem TAt.keep {H H' : Hp} (k : TK H H') : ∀ (t : T) (v : V), TAt H v t → TAt H' v t
  | .name s, v, h => by
    simp only [TAt] at h ⊢
    obtain ⟨a, e, h1⟩ := h
    exact ⟨a, e, k _ _ h1⟩
  | .node s, v, h => by
    simp only [TAt] at h ⊢
    obtain ⟨a, e, h1⟩ := h
    exact ⟨a, e, k _ _ h1⟩
  | .back t, v, h => by
    simp only [TAt] at h ⊢
    obtain ⟨a, u, e, h1, h2⟩ := h
    exact ⟨a, u, e, k _ _ h1, TAt.keep k t u h2⟩
  | .times t n, v, h => by
    simp only [TAt] at h ⊢
    obtain ⟨a, u, e, h1, h2⟩ := h
    exact ⟨a, u, e, k _ _ h1, TAt.keep k t u h2⟩
  | .row ts, v, h => by
    simp only [TAt] at h ⊢
    obtain ⟨a, b, us, e, h1, h2, h3⟩ := h
    exact ⟨a, b, us, e, k _ _ h1, k _ _ h2, TsAt.keep k ts us h3⟩
  | .round x y, v, h => by
    simp only [TAt] at h ⊢
    obtain ⟨a, b, c, us, ws, e, h1, ⟨h2, h3⟩, h4, h5⟩ := h
    exact ⟨a, b, c, us, ws, e, k _ _ h1, ⟨k _ _ h2, TsAt.keep k x us h3⟩, k _ _ h4, TsAt.keep k y ws h5⟩
theorem TsAt.keep {H H' : Hp} (k : TK H H') : ∀ (ts : Ts) (us : List V), TsAt H us ts → TsAt H' us ts
  | .nil, us, h => by simp only [TsAt] at h ⊢; exact h
  | .cons t ts, us, h => by
    simp only [TsAt] at h ⊢
    obtain ⟨u, r, e, h1, h2⟩ := h
    exact ⟨u, r, e, TAt.keep k t u h1, TsAt.keep k ts r h2⟩
end
theorem TsAt.len {H : Hp} : ∀ (ts : Ts) (us : List V), TsAt H us ts → us.length = ts.len
  | .nil, us, h => by simp only [TsAt] at h; rw [h]; rfl
  | .cons t ts, us, h => by
    simp only [TsAt] at h
    obtain ⟨u, r, e, h1, h2⟩ := h
    rw [e, List.length_cons, TsAt.len ts r h2]
    rfl
theorem TsAt.get {H : Hp} : ∀ (ts : Ts) (us : List V), TsAt H us ts → ∀ (i : Nat) (u : V), us[i]? = some u → ∃ t, ts.list[i]? = some t ∧ TAt H u t
  | .nil, us, h, i, u, e => by
    simp only [TsAt] at h
    rw [h] at e
    simp at e
  | .cons t ts, us, h, i, u, e => by
    simp only [TsAt] at h
    obtain ⟨w, r, e1, h1, h2⟩ := h
    subst e1
    cases i with
    | zero =>
      rw [List.getElem?_cons_zero] at e
      rw [← Option.some.inj e]
      exact ⟨t, rfl, h1⟩
    | succ i =>
      rw [List.getElem?_cons_succ] at e
      exact TsAt.get ts r h2 i u e
def Ts.snoc : Ts → T → Ts
  | .nil, t => .cons t .nil
  | .cons x ts, t => .cons x (Ts.snoc ts t)
theorem TsAt.snoc {H : Hp} {t : T} {u : V} (h : TAt H u t) : ∀ (ts : Ts) (us : List V), TsAt H us ts → TsAt H (us ++ [u]) (Ts.snoc ts t)
  | .nil, us, k => by
    simp only [TsAt] at k
    rw [k]
    simp only [Ts.snoc, TsAt]
    exact ⟨u, [], rfl, h, rfl⟩
  | .cons x ts, us, k => by
    simp only [TsAt] at k
    obtain ⟨w, r, e1, h1, h2⟩ := k
    simp only [Ts.snoc, TsAt]
    exact ⟨w, r ++ [u], by rw [e1]; rfl, h1, TsAt.snoc h ts r h2⟩
theorem Ts.snoc_list (t : T) : ∀ ts : Ts, (Ts.snoc ts t).list = ts.list ++ [t]
  | .nil => rfl
  | .cons x ts => by
    show x :: (Ts.snoc ts t).list = x :: (ts.list ++ [t])
    rw [Ts.snoc_list t ts]
/-- things at an address -/
def TsA (H : Hp) (v : V) (ts : Ts) : Prop := ∃ a us, v = .ref a ∧ H a = some (.tup us) ∧ TsAt H us ts
theorem TsA.keep {H H' : Hp} (k : TK H H') {v : V} {ts : Ts} (h : TsA H v ts) : TsA H' v ts := by
  obtain ⟨a, us, e, h1, h2⟩ := h
  exact ⟨a, us, e, k _ _ h1, TsAt.keep k ts us h2⟩
/-- every thing is a tuple whose first item tells its kind -/
def kindS : T → Str
  | .name _ => "name"
  | .node _ => "node"
  | .back _ => "back"
  | .times _ _ => "times"
  | .row _ => "row"
  | .round _ _ => "round"
theorem TAt.head {H : Hp} {t : T} {v : V} (h : TAt H v t) : ∃ a r, v = .ref a ∧ H a = some (.tup (.str (kindS t) :: r)) := by
  cases t with
  | name s => simp only [TAt] at h; obtain ⟨a, e, h1⟩ := h; exact ⟨a, _, e, h1⟩
  | node s => simp only [TAt] at h; obtain ⟨a, e, h1⟩ := h; exact ⟨a, _, e, h1⟩
  | back s => simp only [TAt] at h; obtain ⟨a, u, e, h1, _⟩ := h; exact ⟨a, _, e, h1⟩
  | times s k => simp only [TAt] at h; obtain ⟨a, u, e, h1, _⟩ := h; exact ⟨a, _, e, h1⟩
  | row s => simp only [TAt] at h; obtain ⟨a, b, u, e, h1, _⟩ := h; exact ⟨a, _, e, h1⟩
  | round x y => simp only [TAt] at h; obtain ⟨a, b, c, u, ww, e, h1, _⟩ := h; exact ⟨a, _, e, h1⟩
/-! ### the told names -/
def DAt (H : Hp) (v : V) (p : List Nat × Ts) : Prop := ∃ a u, v = .ref a ∧ H a = some (.tup [.str (mk p.1), u]) ∧ TsA H u p.2
def DsAt (H : Hp) (us : List V) : Told → Prop
  | [] => us = []
  | p :: r => ∃ u q, us = u :: q ∧ DAt H u p ∧ DsAt H q r
theorem DAt.keep {H H' : Hp} (k : TK H H') {v : V} {p : List Nat × Ts} (h : DAt H v p) : DAt H' v p := by
  obtain ⟨a, u, e, h1, h2⟩ := h
  exact ⟨a, u, e, k _ _ h1, h2.keep k⟩
theorem DsAt.keep {H H' : Hp} (k : TK H H') : ∀ (t : Told) (us : List V), DsAt H us t → DsAt H' us t
  | [], us, h => h
  | p :: r, us, ⟨u, q, e, h1, h2⟩ => ⟨u, q, e, h1.keep k, DsAt.keep k r q h2⟩
theorem DsAt.len {H : Hp} : ∀ (t : Told) (us : List V), DsAt H us t → us.length = t.length
  | [], us, h => by rw [show us = [] from h]; rfl
  | p :: r, us, ⟨u, q, e, h1, h2⟩ => by rw [e, List.length_cons, DsAt.len r q h2]; rfl
theorem DsAt.get {H : Hp} : ∀ (t : Told) (us : List V), DsAt H us t → ∀ (i : Nat) (u : V), us[i]? = some u → ∃ p, t[i]? = some p ∧ DAt H u p
  | [], us, h, i, u, e => by
    rw [show us = [] from h] at e
    simp at e
  | p :: r, us, ⟨w, q, e1, h1, h2⟩, i, u, e => by
    subst e1
    cases i with
    | zero =>
      rw [List.getElem?_cons_zero] at e
      rw [← Option.some.inj e]
      exact ⟨p, rfl, h1⟩
    | succ i =>
      rw [List.getElem?_cons_succ] at e
      exact DsAt.get r q h2 i u e
theorem DsAt.snoc {H : Hp} {p : List Nat × Ts} {u : V} (h : DAt H u p) : ∀ (t : Told) (us : List V), DsAt H us t → DsAt H (us ++ [u]) (t ++ [p])
  | [], us, k => by
    rw [show us = [] from k]
    exact ⟨u, [], rfl, h, rfl⟩
  | x :: r, us, ⟨w, q, e1, h1, h2⟩ => ⟨w, q ++ [u], by rw [e1]; rfl, h1, DsAt.snoc h r q h2⟩
/-! ### words with their places -/
def WAt (H : Hp) (us : List V) : List (List Nat) → Prop
  | [] => us = []
  | z :: r => ∃ (a : Addr) (p : Int) (q : List V), us = .ref a :: q ∧ H a = some (.tup [.str (mk z), .int p]) ∧ WAt H q r
theorem WAt.keep {H H' : Hp} (k : TK H H') : ∀ (t : List (List Nat)) (us : List V), WAt H us t → WAt H' us t
  | [], us, h => h
  | p :: r, us, ⟨a, u, q, e, h1, h2⟩ => ⟨a, u, q, e, k _ _ h1, WAt.keep k r q h2⟩
theorem WAt.len {H : Hp} : ∀ (t : List (List Nat)) (us : List V), WAt H us t → us.length = t.length
  | [], us, h => by rw [show us = [] from h]; rfl
  | p :: r, us, ⟨a, u, q, e, h1, h2⟩ => by rw [e, List.length_cons, WAt.len r q h2]; rfl
theorem WAt.get {H : Hp} : ∀ (t : List (List Nat)) (us : List V), WAt H us t → ∀ (i : Nat) (z : List Nat), t[i]? = some z → ∃ (a : Addr) (p : Int), us[i]? = some (.ref a) ∧ H a = some (.tup [.str (mk z), .int p])
  | [], us, h, i, z, e => by simp at e
  | x :: r, us, ⟨a, p, q, e1, h1, h2⟩, i, z, e => by
    subst e1
    cases i with
    | zero =>
      rw [List.getElem?_cons_zero] at e
      rw [← Option.some.inj e]
      exact ⟨a, p, rfl, h1⟩
    | succ i =>
      rw [List.getElem?_cons_succ] at e
      exact WAt.get r q h2 i z e
theorem WAt.snoc {H : Hp} {z : List Nat} {a : Addr} {p : Int} (h : H a = some (.tup [.str (mk z), .int p])) : ∀ (t : List (List Nat)) (us : List V), WAt H us t → WAt H (us ++ [.ref a]) (t ++ [z])
  | [], us, k => by
    rw [show us = [] from k]
    exact ⟨a, p, [], rfl, h, rfl⟩
  | x :: r, us, ⟨b, u, q, e1, h1, h2⟩ => ⟨b, u, q ++ [.ref a], by rw [e1]; rfl, h1, WAt.snoc h r q h2⟩
end KW
set_option Elab.async false
set_option linter.all false
set_option maxRecDepth 100000
set_option maxHeartbeats 2000000
/-! is_name, is_number. -/
namespace KW
open PySem PySem.Spec PyProof.Rows L2 KM
abbrev LETS : Str := "abcdefghijklmnopqrstuvwxyz"
abbrev FIGS : Str := "0123456789"
abbrev SINS : Str := "()[],;=^~"
/-- what the module's names hold -/
structure TX (K : PySem.W.Frag) (mg : Str → Option Value) (C : Addr) : Prop where
  len : mg "len" = none
  int : mg "int" = none
  str : mg "str" = none
  bool : mg "bool" = none
  list : mg "list" = none
  tuple : mg "tuple" = none
  dict : mg "dict" = none
  range : mg "range" = none
  sorted : mg "sorted" = none
  enum : mg "enumerate" = none
  isi : mg "isinstance" = none
  VE : mg "ValueError" = none
  LET : ∃ t, mg "LETTERS" = some (.str LETS t)
  FIG : ∃ t, mg "FIGURES" = some (.str FIGS t)
  SIN : ∃ t, mg "SINGLE" = some (.str SINS t)
  nodes : ∃ t, mg "MOST_NODES" = some (.int 6 t)
  turns : ∃ t, mg "MOST_TURNS" = some (.int 200 t)
  signs : ∃ t, mg "MOST_SIGNS" = some (.int 2000 t)
  deep : ∃ t, mg "MOST_DEEP" = some (.int 30 t)
  cl : Cls K C
  nW : NoAttr K C "words"
  nA : NoAttr K C "at"
  nD : NoAttr K C "deep"
  mgC : mg "Reading" = some (.ref C)
section
variable {X : Cx}
theorem pe_gS {x z : Str} {pos : Pos} (hm : ∃ t, X.mg x = some (.str z t)) (hg : Gl X x := by rfl) (hd : (x == ("__debug__" : Str)) = false := by decide) : PE X (.Name x pos) (tC (.str z)) := by
  obtain ⟨t, e⟩ := hm
  exact pe_glob hg e ⟨t, rfl⟩ hd
theorem pe_gI {x : Str} {i : Int} {pos : Pos} (hm : ∃ t, X.mg x = some (.int i t)) (hg : Gl X x := by rfl) (hd : (x == ("__debug__" : Str)) = false := by decide) : PE X (.Name x pos) (tC (.int i)) := by
  obtain ⟨t, e⟩ := hm
  exact pe_glob hg e ⟨t, rfl⟩ hd
end
/-! ### classes of signs -/
theorem lets_mem (c : Nat) : (c ∈ LETS.cps.toList) ↔ letter c = true := by
  have e : LETS.cps.toList = [97, 98, 99, 100, 101, 102, 103, 104, 105, 106, 107, 108, 109, 110, 111, 112, 113, 114, 115, 116, 117, 118, 119, 120, 121, 122] := by decide +kernel
  rw [e]
  unfold letter
  simp only [List.mem_cons, List.not_mem_nil, or_false, Bool.and_eq_true, decide_eq_true_eq]
  omega
theorem figs_mem (c : Nat) : (c ∈ FIGS.cps.toList) ↔ fig c = true := by
  have e : FIGS.cps.toList = [48, 49, 50, 51, 52, 53, 54, 55, 56, 57] := by decide +kernel
  rw [e]
  unfold fig
  simp only [List.mem_cons, List.not_mem_nil, or_false, Bool.and_eq_true, decide_eq_true_eq]
  omega
theorem sins_eq : SINS.cps.toList = sgs := by decide +kernel
theorem sins_mem (c : Nat) : (c ∈ SINS.cps.toList) ↔ single c = true := by
  rw [sins_eq]
  unfold single
  simp
theorem lets_dec (c : Nat) : decide (c ∈ LETS.cps.toList) = letter c := by
  cases h : letter c with
  | true => exact decide_eq_true ((lets_mem c).mpr h)
  | false => exact decide_eq_false fun z => by rw [(lets_mem c).mp z] at h; cases h
theorem figs_dec (c : Nat) : decide (c ∈ FIGS.cps.toList) = fig c := by
  cases h : fig c with
  | true => exact decide_eq_true ((figs_mem c).mpr h)
  | false => exact decide_eq_false fun z => by rw [(figs_mem c).mp z] at h; cases h
theorem sins_dec (c : Nat) : decide (c ∈ SINS.cps.toList) = single c := by
  cases h : single c with
  | true => exact decide_eq_true ((sins_mem c).mpr h)
  | false => exact decide_eq_false fun z => by rw [(sins_mem c).mp z] at h; cases h
/-! ### is_name -/
def isName (z : List Nat) : Bool := decide (1 ≤ z.length) && (decide (z.length ≤ 8) && letter (z.headD 0))
def spIsName : Sp := fun vs H Q _ => ∃ z : List Nat, vs = [.str (mk z)] ∧ z.length ≤ 16000000 ∧ Q (.bl (isName z)) H
section
variable {P : Program} {w : World} {K : PySem.W.Frag} {mg : Str → Option Value} {base : Heap} {C : Addr}
theorem sc_is_name : FnScope ["word"] ["word"] (defScope sis_name) := ⟨rfl, rfl, rfl, by decide +kernel, rfl, by decide +kernel, by decide +kernel⟩
theorem ok_is_name {f : Addr} {fd : FuncData} (F : Fun K "is_name" "is_name" sis_name f fd) (T : TX K mg C) : FnOk P w K mg base CX0 1 f fd ["word"] spIsName := by
  refine F.ok sc_is_name (fun vs H Q E h => ?_) (fun cdv A outer s H vs Q E hr h => ?_)
  · obtain ⟨z, rfl, _⟩ := h
    rfl
  obtain ⟨z, rfl, hz, k⟩ := h
  refine ⟨_, pss_one (ps_ret (pe_and (pe_chain op_le op_le pe_int (pe_callB call_len_str (by rfl) T.len PySem.boot_len (pa_cons (pv 0) pa_nil)) pe_int)
    (pe_one (pe_cmpR op_in_sign (pe_item_str (pv 0) pe_int (fun _ _ => rfl)) (pe_gS T.LET) rfl)))), ?_⟩
  have hzl : (mk z).length ≤ sizeLine := line_ge (by rw [mk_len]; omega)
  refine ⟨_, rfl, mk z, rfl, hzl, _, _, rfl, rfl, _, rfl, ?_⟩
  unfold isName at k
  rw [← mk_len] at k
  by_cases h1 : 1 ≤ (mk z).length
  · rw [decide_eq_true h1] at k
    rw [decide_eq_true (by omega : (1 : Int) ≤ ((mk z).length : Nat))]
    refine iteT ⟨_, _, rfl, rfl, _, rfl, ?_⟩
    by_cases h8 : (mk z).length ≤ 8
    · rw [decide_eq_true h8] at k
      rw [decide_eq_true (by omega : (((mk z).length : Nat) : Int) ≤ 8)]
      refine iteT ⟨_, rfl, mk z, 0, z.headD 0, rfl, rfl, Int.le_refl 0, by decide, by omega, ?_, _, LETS, rfl, rfl, ?_⟩
      · cases z with
        | nil => exact absurd h1 (by decide)
        | cons c r => rfl
      · rw [lets_dec]
        exact k
    · rw [decide_eq_false h8] at k
      rw [decide_eq_false (by omega : ¬ (((mk z).length : Nat) : Int) ≤ 8)]
      exact iteF k
  · rw [decide_eq_false h1] at k
    rw [decide_eq_false (by omega : ¬ (1 : Int) ≤ ((mk z).length : Nat))]
    exact iteF ⟨_, rfl, iteF k⟩
end
end KW
set_option Elab.async false
set_option linter.all false
set_option maxRecDepth 100000
set_option maxHeartbeats 2000000
/-! is_number. -/
namespace KW
open PySem PySem.Spec PyProof.Rows L2 KM
theorem num_facts : ∀ n : Nat, n < 100 → PySem.intText? (mk (numC n)) = some (n : Int) ∧ Str.ofString (toString (n : Int)) = mk (numC n) := by decide +kernel
theorem num_log : ∀ n : Nat, n < 100 → (n : Int).natAbs.log2 < 1920 := by decide +kernel
theorem numC_head {n : Nat} (h : n < 100) : fig ((numC n).headD 0) = true := by
  have e : ∀ n : Nat, n < 100 → fig ((numC n).headD 0) = true := by decide +kernel
  exact e n h
theorem numC_len1 (n : Nat) : 1 ≤ (numC n).length := by
  unfold numC
  split <;> simp
def NumB (z : List Nat) (b : Bool) : Prop := (b = false ∧ (z = [] ∨ 2 < z.length ∨ fig (z.headD 0) = false)) ∨ (b = true ∧ ∃ n, n < 100 ∧ z = numC n)
def spIsNum : Sp := fun vs H Q _ => ∃ (z : List Nat) (b : Bool), vs = [.str (mk z)] ∧ z.length ≤ 16000000 ∧ NumB z b ∧ Q (.bl b) H
section
variable {P : Program} {w : World} {K : PySem.W.Frag} {mg : Str → Option Value} {base : Heap} {C : Addr}
theorem sc_is_number : FnScope ["word"] ["word"] (defScope sis_number) := ⟨rfl, rfl, rfl, by decide +kernel, rfl, by decide +kernel, by decide +kernel⟩
theorem ok_is_number {f : Addr} {fd : FuncData} (F : Fun K "is_number" "is_number" sis_number f fd) (T : TX K mg C) : FnOk P w K mg base CX0 1 f fd ["word"] spIsNum := by
  refine F.ok sc_is_number (fun vs H Q E h => ?_) (fun cdv A outer s H vs Q E hr h => ?_)
  · obtain ⟨z, b, rfl, _⟩ := h
    rfl
  obtain ⟨z, b, rfl, hz, hb, k⟩ := h
  refine ⟨_, pss_one (ps_ret (pe_and (pe_chain op_le op_le pe_int (pe_callB call_len_str (by rfl) T.len PySem.boot_len (pa_cons (pv 0) pa_nil)) pe_int)
    (pe_and (pe_cmpR op_in_sign (pe_item_str (pv 0) pe_int (fun _ _ => rfl)) (pe_gS T.FIG) rfl)
    (pe_one (pe_cmpR op_eq (pe_callTy call_str_int (by rfl) T.str (by decide +kernel) (pa_cons (pe_callTy call_int_str (by rfl) T.int (by decide +kernel) (pa_cons (pv 0) pa_nil)) pa_nil)) (pv 0) (nomark _)))))), ?_⟩
  have hzl : (mk z).length ≤ sizeLine := line_ge (by rw [mk_len]; omega)
  refine ⟨_, rfl, mk z, rfl, hzl, _, _, rfl, rfl, _, rfl, ?_⟩
  have el := mk_len z
  have fin : b = false → Q (.bl false) H := fun e => by rw [← e]; exact k
  by_cases h1 : 1 ≤ (mk z).length
  · rw [decide_eq_true (by omega : (1 : Int) ≤ ((mk z).length : Nat))]
    refine iteT ⟨_, _, rfl, rfl, _, rfl, ?_⟩
    by_cases h8 : (mk z).length ≤ 2
    · rw [decide_eq_true (by omega : (((mk z).length : Nat) : Int) ≤ 2)]
      refine iteT ⟨_, rfl, mk z, 0, z.headD 0, rfl, rfl, Int.le_refl 0, by decide, by omega, ?_, _, FIGS, rfl, rfl, _, rfl, ?_⟩
      · cases z with
        | nil => exact absurd h1 (by decide)
        | cons c r => rfl
      rw [figs_dec]
      rcases hb with ⟨eb, hb⟩ | ⟨eb, n, hn, rfl⟩
      · have hf : fig (z.headD 0) = false := by
          rcases hb with e | e | e
          · subst e
            exact absurd h1 (by decide)
          · omega
          · exact e
        rw [hf]
        exact iteF (fin eb)
      · rw [numC_head hn]
        obtain ⟨e1, e2⟩ := num_facts n hn
        refine iteT ⟨_, rfl, mk (numC n), (n : Int), rfl, e1, by omega, n, rfl, num_log n hn, _, rfl, rfl, ?_⟩
        rw [eb] at k
        have e3 : decide (V.str (Str.ofString (toString (n : Int))) = V.str (mk (numC n))) = true := decide_eq_true (by rw [e2])
        rw [e3]
        exact k
    · rw [decide_eq_false (by omega : ¬ (((mk z).length : Nat) : Int) ≤ 2)]
      refine iteF (fin ?_)
      rcases hb with ⟨eb, hb⟩ | ⟨eb, n, hn, rfl⟩
      · exact eb
      · have := numC_len n
        omega
  · rw [decide_eq_false (by omega : ¬ (1 : Int) ≤ ((mk z).length : Nat))]
    refine iteF ⟨_, rfl, iteF (fin ?_)⟩
    rcases hb with ⟨eb, hb⟩ | ⟨eb, n, hn, rfl⟩
    · exact eb
    · have := numC_len1 n
      omega
end
end KW
set_option Elab.async false
set_option linter.all false
set_option maxRecDepth 100000
set_option maxHeartbeats 4000000
/-! words_of. -/
namespace KW
open PySem PySem.Spec PyProof.Rows L2 KM
/-- a while whose ways out meet -/
theorem wh {c : TT} {tb : TS} {D : Ends} {σ : L2.St} {H : Hp} (Ex : L2.St → Hp → Prop) (hd : ∀ σ H, Ex σ H → D.nx σ H) (k : (∀ σ H, Ex σ H → D.nx σ H) → tWhile c tb D σ H) : tWhile c tb D σ H := k hd
/-- an if whose ways out meet -/
theorem wif {c : TT} {t u : TS} {D : Ends} {σ : L2.St} {H : Hp} (Ex : L2.St → Hp → Prop) (hd : ∀ σ H, Ex σ H → D.nx σ H) (k : (∀ σ H, Ex σ H → D.nx σ H) → tIfS c t u D σ H) : tIfS c t u D σ H := k hd
/-- what stands ahead of u meets there -/
theorem jnA {te : TE} {g : TG} {u : TS} {D : Ends} {σ : L2.St} {H : Hp} (Ex : L2.St → Hp → Prop) (hd : ∀ σ H, Ex σ H → u D σ H) (k : (∀ σ H, Ex σ H → u D σ H) → tSeq (tAsg te g) u D σ H) : tSeq (tAsg te g) u D σ H := k hd
theorem jnW {c : TT} {t : TS} {u : TS} {D : Ends} {σ : L2.St} {H : Hp} (Ex : L2.St → Hp → Prop) (hd : ∀ σ H, Ex σ H → u D σ H) (k : (∀ σ H, Ex σ H → u D σ H) → tSeq (tWhile c t) u D σ H) : tSeq (tWhile c t) u D σ H := k hd
theorem jnI {c : TT} {t1 t2 : TS} {u : TS} {D : Ends} {σ : L2.St} {H : Hp} (Ex : L2.St → Hp → Prop) (hd : ∀ σ H, Ex σ H → u D σ H) (k : (∀ σ H, Ex σ H → u D σ H) → tSeq (tIfS c t1 t2) u D σ H) : tSeq (tIfS c t1 t2) u D σ H := k hd
theorem mk_at {z : List Nat} {i c : Nat} (h : z[i]? = some c) : (mk z).cps[((i : Nat) : Int).toNat]? = some c := by
  rw [Int.toNat_natCast]
  simpa [mk] using h
theorem cutS_mk {z : List Nat} {i j : Nat} (hi : i ≤ j) (hj : j ≤ z.length) : cutS (mk z) (some (i : Int)) (some (j : Int)) = mk ((z.drop i).take (j - i)) := by
  unfold cutS
  have e1 : HT.sIx (mk z).length 0 (some (i : Int)) = min i (mk z).length := HT.sIx_nat _ 0 i
  have e2 : HT.sIx (mk z).length (mk z).length (some (j : Int)) = min j (mk z).length := HT.sIx_nat _ _ j
  rw [e1, e2, mk_len, Nat.min_eq_left (show i ≤ z.length by omega), Nat.min_eq_left hj]
  rfl
theorem cl_letter {c : Nat} (h : letter c = true) : cl c = 1 := by
  unfold cl
  rw [h]
  rfl
theorem cl_fig {c : Nat} (h0 : letter c = false) (h : fig c = true) : cl c = 2 := by
  unfold cl
  rw [h0, h]
  rfl
theorem cl_single {c : Nat} (h0 : letter c = false) (h1 : fig c = false) (h : single c = true) : cl c = 3 := by
  unfold cl
  rw [h0, h1, h]
  rfl
theorem cl_other {c : Nat} (h0 : letter c = false) (h1 : fig c = false) (h2 : single c = false) : cl c = 0 ∨ cl c = 4 := by
  unfold cl
  rw [h0, h1, h2]
  cases h : blank c with
  | true => exact .inl rfl
  | false => exact .inr rfl
theorem cl1 {d : Nat} (h : letter d = false) : cl d ≠ 1 := by
  unfold cl
  rw [h, if_neg Bool.false_ne_true]
  split
  · decide
  · split
    · decide
    · split <;> decide
theorem cl2 {d : Nat} (h : fig d = false) : cl d ≠ 2 := by
  unfold cl
  rw [h]
  split
  · decide
  · rw [if_neg Bool.false_ne_true]
    split
    · decide
    · split <;> decide
theorem cl_blank_mem {c : Nat} (h : cl c = 0) : c = 32 ∨ c = 10 := by
  unfold cl at h
  cases h0 : letter c <;> rw [h0] at h
  · cases h1 : fig c <;> rw [h1] at h
    · cases h2 : single c <;> rw [h2] at h
      · cases h3 : blank c <;> rw [h3] at h
        · cases h
        · unfold blank at h3
          simp only [Bool.or_eq_true, beq_iff_eq] at h3
          exact h3
      · cases h
    · cases h
  · cases h
theorem not_letter {c : Nat} (h : cl c ≠ 1) : letter c = false := by
  cases e : letter c with
  | false => rfl
  | true => exact absurd (cl_letter e) h
theorem drop_split {z : List Nat} {i j : Nat} (hi : i ≤ j) (hj : j ≤ z.length) : z.drop i = (z.drop i).take (j - i) ++ z.drop j := by
  have e := List.take_append_drop (j - i) (z.drop i)
  rw [List.drop_drop, show i + (j - i) = j by omega] at e
  exact e.symm
theorem take_mem {z : List Nat} {i j : Nat} {c : Nat} (hj : j ≤ z.length) (h : c ∈ (z.drop i).take (j - i)) : ∃ n, i ≤ n ∧ n < j ∧ z[n]? = some c := by
  obtain ⟨n, hn, e⟩ := List.mem_iff_getElem.mp h
  rw [List.length_take, List.length_drop] at hn
  refine ⟨i + n, by omega, by omega, ?_⟩
  rw [List.getElem_take, List.getElem_drop] at e
  rw [List.getElem?_eq_getElem (by omega), e]
def spWords : Sp := fun vs H Q _ => ∃ z : List Nat, vs = [.str (mk z)] ∧ z.length ≤ 100000 ∧ (∀ c ∈ z, cl c ≠ 4) ∧
  ∀ (l : Addr) (us : List V) (H' : Hp), Same H H' → H l = none → H' l = some (.lst us) → WAt H' us (lexF [] z ++ [[]]) → us.length ≤ 100001 → Q (.ref l) H'
theorem empty_is : (Str.ofString "" : Str) = mk [] := by decide +kernel
section
variable {P : Program} {w : World} {K : PySem.W.Frag} {mg : Str → Option Value} {base : Heap} {C : Addr}
theorem sc_words_of : FnScope ["text", "found", "at", "sign", "last", "signs"] ["text"] (defScope swords_of) := ⟨rfl, rfl, rfl, by decide +kernel, rfl, by decide +kernel, by decide +kernel⟩
theorem ok_words_of {f : Addr} {fd : FuncData} (F : Fun K "words_of" "words_of" swords_of f fd) (T : TX K mg C) : FnOk P w K mg base CX0 1 f fd ["text"] spWords := by
  refine F.ok sc_words_of (fun vs H Q E h => ?_) (fun cdv A outer s H vs Q E hr h => ?_)
  · obtain ⟨z, rfl, _⟩ := h
    rfl
  obtain ⟨z, rfl, hz, hcl, k⟩ := h
  refine ⟨_, pss_cons (ps_par (i := 1) (j := 2) (by rfl) sc_words_of.nd rfl rfl (by decide) rfl rfl (pa_cons (pe_lst pa_nil) (pa_cons pe_int pa_nil)) (by rfl))
    (pss_cons (ps_while PassesOwn.never (pt_cmpR op_lt (pv 2) (pe_callB call_len_str (by rfl) T.len PySem.boot_len (pa_cons (pv 0) pa_nil)) (nomark _))
      (pss_cons (ps_par (i := 3) (j := 4) (by rfl) sc_words_of.nd rfl rfl (by decide) rfl rfl (pa_cons (pe_item_str (pv 0) (pv 2) (fun _ _ => rfl)) (pa_cons (pe_op op_add (pv 2) pe_int) pa_nil)) (by rfl))
      (pss_cons (ps_set (i := 5) sc_words_of.nd rfl (Or.inl rfl) (pe_ifExp (pt_cmpR op_in_sign (pv 3) (pe_gS T.LET) rfl) (pe_gS T.LET) (pe_ifExp (pt_cmpR op_in_sign (pv 3) (pe_gS T.FIG) rfl) (pe_gS T.FIG) pe_str)))
      (pss_cons (ps_while PassesOwn.never (PW.pt (pw_and (pt_cmpR op_lt (pv 4) (pe_callB call_len_str (by rfl) T.len PySem.boot_len (pa_cons (pv 0) pa_nil)) (nomark _))
          (pw_and (pt_cmpR op_ne (pv 5) pe_str (nomark _)) (pw_and1 (pt_cmpR op_in_sign (pe_item_str (pv 0) (pv 4) (fun _ _ => rfl)) (pv 5) rfl)))))
        (pss_one (ps_aug (i := 4) sc_words_of.nd rfl (Or.inl rfl) pe_int ip_add)))
      (pss_cons (ps_if (PW.pt (pw_or (pt_cmpR op_ne (pv 5) pe_str (nomark _)) (pw_or1 (pt_cmpR op_in_sign (pv 3) (pe_gS T.SIN) rfl))))
        (pss_one (ps_expr (pe_bm PySem.F.plainAttrs_list PySem.F.slot_list_append PySem.F.type_list_append mt_append (pv 1) (pa_cons (pe_tup (pa_cons (pe_slice sl_str (pv 0) (po_some (pv 2)) (po_some (pv 4))) (pa_cons (pv 2) pa_nil))) pa_nil))))
        (pss_one (ps_if (pt_cmpR op_notIn_sign (pv 3) pe_str rfl) pss_never pss_nil)))
      (pss_one (ps_set (i := 2) sc_words_of.nd rfl (Or.inl rfl) (pv 4))))))))
    (pss_one (ps_ret (pe_lst (StX.pa_star (pv 1) (pa_cons (pe_tup (pa_cons pe_str (pa_cons (pe_callB call_len_str (by rfl) T.len PySem.boot_len (pa_cons (pv 0) pa_nil)) pa_nil))) pa_nil)))))), ?_⟩
  refine ⟨Nat.zero_le _, fun l hl => ⟨_, _, rfl, ?_⟩⟩
  have sl : Same H (upd H l (.lst [])) := Same.new hl _
  have elen : (mk z).length = z.length := mk_len z
  have hzl : (mk z).length ≤ sizeLine := line_ge (by omega)
  refine ⟨fun m σ H1 => ∃ (at_ : Nat) (ws : List (List Nat)) (us : List V) (v3 v4 v5 : Option V), σ = [some (.str (mk z)), some (.ref l), some (.int (at_ : Int)), v3, v4, v5] ∧ at_ ≤ z.length ∧ m = z.length - at_ ∧ Same H H1 ∧ H1 l = some (.lst us) ∧ WAt H1 us ws ∧ lexF ws (z.drop at_) = lexF [] z ∧ us.length ≤ at_,
    ⟨_, 0, [], [], none, none, none, rfl, Nat.zero_le _, rfl, sl, upd_same, rfl, rfl, Nat.le_refl _⟩, fun m σ H1 hW => ?_⟩
  obtain ⟨at_, ws, us, v3, v4, v5, rfl, hat, rfl, s1, hL, hWs, hlex, hus⟩ := hW
  refine ⟨_, rfl, _, rfl, mk z, rfl, hzl, _, _, rfl, rfl, _, rfl, ?_⟩
  by_cases hlt : at_ < z.length
  · rw [decide_eq_true (by omega : (at_ : Int) < ((mk z).length : Nat))]
    have gc : z[at_]? = some z[at_] := List.getElem?_eq_getElem hlt
    generalize z[at_] = c at gc
    have hc4 : cl c ≠ 4 := hcl c (List.mem_of_getElem? gc)
    have dc : z.drop at_ = c :: z.drop (at_ + 1) := by
      obtain ⟨h1, h2⟩ := List.getElem?_eq_some_iff.mp gc
      rw [List.drop_eq_getElem_cons h1, h2]
    refine iteT ⟨fun σ' H' => ∃ (at2 : Nat) (ws : List (List Nat)) (us : List V) (v3 v4 v5 : Option V), at_ < at2 ∧ σ' = [some (.str (mk z)), some (.ref l), some (.int (at2 : Int)), v3, v4, v5] ∧ at2 ≤ z.length ∧ Same H H' ∧ H' l = some (.lst us) ∧ WAt H' us ws ∧ lexF ws (z.drop at2) = lexF [] z ∧ us.length ≤ at2,
      fun σ' H' ⟨at2, ws, us, v3, v4, v5, a1, a2, a3, a4, a5, a6, a7, a8⟩ => ⟨z.length - at2, by omega, at2, ws, us, v3, v4, v5, a2, a3, rfl, a4, a5, a6, a7, a8⟩, ?_⟩
    -- sign, last = text[at], at + 1
    refine ⟨_, rfl, _, rfl, mk z, (at_ : Int), c, rfl, rfl, by omega, by omega, by omega, mk_at gc, _, rfl, _, _, rfl, rfl, _, _, rfl, ?_⟩
    -- the signs of its class
    dsimp only
    refine jnA (fun σ' H' => ∃ S : Str, ((S = LETS ∧ letter c = true) ∨ (S = FIGS ∧ letter c = false ∧ fig c = true) ∨ (S = mk [] ∧ letter c = false ∧ fig c = false)) ∧ σ' = [some (.str (mk z)), some (.ref l), some (.int (at_ : Int)), some (.str (mk [c])), some (.int ((at_ : Int) + 1)), some (.str S)] ∧ H1 = H') ?_ fun fin => ?_
    rotate_left
    · refine ⟨_, rfl, c, LETS, rfl, rfl, _, rfl, ?_⟩
      rw [lets_dec]
      cases hl : letter c with
      | true => exact iteT (fin _ _ ⟨LETS, .inl ⟨rfl, hl⟩, rfl, rfl⟩)
      | false =>
        refine iteF ⟨_, rfl, c, FIGS, rfl, rfl, _, rfl, ?_⟩
        rw [figs_dec]
        cases hf : fig c with
        | true => exact iteT (fin _ _ ⟨FIGS, .inr (.inl ⟨rfl, hl, hf⟩), rfl, rfl⟩)
        | false =>
          refine iteF ?_
          exact fin _ _ ⟨Str.ofString "", .inr (.inr ⟨empty_is, hl, hf⟩), rfl, rfl⟩
    rintro σ' H' ⟨S, hS, rfl, rfl⟩
    -- the run
    refine jnW (fun σ' H' => ∃ last : Nat, at_ < last ∧ last ≤ z.length ∧ (∀ n d, at_ ≤ n → n < last → z[n]? = some d → cl d = cl c) ∧ (cl c = 1 ∨ cl c = 2 → ∀ d, z[last]? = some d → cl d ≠ cl c) ∧ ((cl c ≠ 1 ∧ cl c ≠ 2) → last = at_ + 1) ∧
      σ' = [some (.str (mk z)), some (.ref l), some (.int (at_ : Int)), some (.str (mk [c])), some (.int (last : Int)), some (.str S)] ∧ H1 = H') ?_ fun fin => ?_
    rotate_left
    · have hcls : (S ≠ mk [] ∧ (cl c = 1 ∨ cl c = 2) ∧ ∀ d, decide (d ∈ S.cps.toList) = decide (cl d = cl c)) ∨ (S = mk [] ∧ cl c ≠ 1 ∧ cl c ≠ 2) := by
        rcases hS with ⟨e, q1⟩ | ⟨e, q1, q2⟩ | ⟨e, q1, q2⟩
        · refine .inl ⟨by rw [e]; decide +kernel, .inl (cl_letter q1), fun d => ?_⟩
          rw [e, lets_dec, cl_letter q1]
          cases hd : letter d with
          | true => rw [cl_letter hd]; rfl
          | false => exact (decide_eq_false (cl1 hd)).symm
        · refine .inl ⟨by rw [e]; decide +kernel, .inr (cl_fig q1 q2), fun d => ?_⟩
          rw [e, figs_dec, cl_fig q1 q2]
          cases hd : fig d with
          | true =>
            have hl : letter d = false := by
              unfold letter
              unfold fig at hd
              simp only [Bool.and_eq_true, decide_eq_true_eq] at hd
              rw [decide_eq_false (by omega), Bool.false_and]
            rw [cl_fig hl hd]
            rfl
          | false => exact (decide_eq_false (cl2 hd)).symm
        · refine .inr ⟨e, ?_, ?_⟩
          · rcases Bool.eq_false_or_eq_true (single c) with h | h
            · rw [cl_single q1 q2 h]; decide
            · rcases cl_other q1 q2 h with h | h <;> rw [h] <;> decide
          · rcases Bool.eq_false_or_eq_true (single c) with h | h
            · rw [cl_single q1 q2 h]; decide
            · rcases cl_other q1 q2 h with h | h <;> rw [h] <;> decide
      refine ⟨fun m σ' H' => ∃ last : Nat, at_ < last ∧ last ≤ z.length ∧ m = z.length - last ∧ (∀ n d, at_ ≤ n → n < last → z[n]? = some d → cl d = cl c) ∧ ((cl c ≠ 1 ∧ cl c ≠ 2) → last = at_ + 1) ∧
        σ' = [some (.str (mk z)), some (.ref l), some (.int (at_ : Int)), some (.str (mk [c])), some (.int (last : Int)), some (.str S)] ∧ H1 = H',
        ⟨_, at_ + 1, by omega, by omega, rfl, fun n d g1 g2 g3 => ?_, fun _ => rfl, rfl, rfl⟩, fun m σ' H' hW => ?_⟩
      · have e : n = at_ := by omega
        rw [e, gc] at g3
        rw [← Option.some.inj g3]
      obtain ⟨last, h1, h2, rfl, h3, h4, rfl, rfl⟩ := hW
      refine ⟨_, rfl, _, rfl, mk z, rfl, hzl, _, _, rfl, rfl, _, rfl, ?_⟩
      by_cases hll : last < z.length
      · rw [decide_eq_true (by omega : (last : Int) < ((mk z).length : Nat))]
        refine iteT ⟨_, rfl, rfl, _, rfl, ?_⟩
        rcases hcls with ⟨e1, e2, e3⟩ | ⟨e1, e2⟩
        · have en : decide (V.str S = V.str (Str.ofString "")) = false := decide_eq_false fun q => e1 (by rw [← empty_is]; exact V.str.inj q)
          rw [en]
          have gd : z[last]? = some z[last] := List.getElem?_eq_getElem hll
          generalize z[last] = d at gd
          refine iteT ⟨_, rfl, _, rfl, mk z, (last : Int), d, rfl, rfl, by omega, by omega, by omega, mk_at gd, _, rfl, d, S, rfl, rfl, _, rfl, ?_⟩
          rw [e3]
          by_cases hd : cl d = cl c
          · rw [decide_eq_true hd]
            refine iteT ⟨fun σ' H' => ∃ last2 : Nat, at_ < last2 ∧ last2 ≤ z.length ∧ last < last2 ∧ (∀ n d, at_ ≤ n → n < last2 → z[n]? = some d → cl d = cl c) ∧ ((cl c ≠ 1 ∧ cl c ≠ 2) → last2 = at_ + 1) ∧
              σ' = [some (.str (mk z)), some (.ref l), some (.int (at_ : Int)), some (.str (mk [c])), some (.int (last2 : Int)), some (.str S)] ∧ H1 = H', fun σ' H' ⟨last2, a1, a2, a3, a4, a5, a6, a7⟩ => ⟨z.length - last2, by omega, last2, a1, a2, rfl, a4, a5, a6, a7⟩, ?_⟩
            refine ⟨_, rfl, _, _, rfl, rfl, last + 1, by omega, by omega, by omega, fun n x g1 g2 g3 => ?_, fun q => by omega, rfl, rfl⟩
            by_cases hn : n = last
            · rw [hn, gd] at g3
              rw [← Option.some.inj g3]
              exact hd
            · exact h3 n x g1 (by omega) g3
          · rw [decide_eq_false hd]
            exact iteF (fin _ _ ⟨last, h1, h2, h3, fun _ x gx => by rw [gd] at gx; rw [← Option.some.inj gx]; exact hd, h4, rfl, rfl⟩)
        · have en : decide (V.str S = V.str (Str.ofString "")) = true := decide_eq_true (by rw [e1, empty_is])
          rw [en]
          exact iteF (iteF (fin _ _ ⟨last, h1, h2, h3, fun q => by omega, h4, rfl, rfl⟩))
      · rw [decide_eq_false (by omega : ¬ (last : Int) < ((mk z).length : Nat))]
        refine iteF (iteF (fin _ _ ⟨last, h1, h2, h3, fun _ x gx => ?_, h4, rfl, rfl⟩))
        rw [List.getElem?_eq_none (by omega)] at gx
        cases gx
    rintro σ' H' ⟨last, h1, h2, h3, h4, h5, rfl, rfl⟩
    -- the word or sign
    refine jnI (fun σ' H' => ∃ (ws2 : List (List Nat)) (us2 : List V), σ' = [some (.str (mk z)), some (.ref l), some (.int (at_ : Int)), some (.str (mk [c])), some (.int (last : Int)), some (.str S)] ∧ Same H H' ∧ H' l = some (.lst us2) ∧ WAt H' us2 ws2 ∧ lexF ws2 (z.drop last) = lexF [] z ∧ us2.length ≤ last) ?_ fun fin => ?_
    · rintro σ' H' ⟨ws2, us2, rfl, a1, a2, a3, a4, a5⟩
      exact ⟨_, rfl, last, ws2, us2, _, _, _, h1, rfl, h2, a1, a2, a3, a4, a5⟩
    have put : ∀ D : Ends, (∀ σ' H', (∃ (ws2 : List (List Nat)) (us2 : List V), σ' = [some (.str (mk z)), some (.ref l), some (.int (at_ : Int)), some (.str (mk [c])), some (.int (last : Int)), some (.str S)] ∧ Same H H' ∧ H' l = some (.lst us2) ∧ WAt H' us2 ws2 ∧ lexF ws2 (z.drop last) = lexF [] z ∧ us2.length ≤ last) → D.nx σ' H') →
        lexF (ws ++ [(z.drop at_).take (last - at_)]) (z.drop last) = lexF [] z →
        tDrop (tBM K "list" rAppend (tVar 1) (tCons (tTup (tCons (tSl rSlS (tVar 0) (tPart (tVar 2)) (tPart (tVar 4))) (tCons (tVar 2) tNil))) tNil)) D
          [some (.str (mk z)), some (.ref l), some (.int (at_ : Int)), some (.str (mk [c])), some (.int (last : Int)), some (.str S)] H1 := fun D hD e => by
      refine ⟨_, rfl, .inl ⟨rfl, _, SqL.of hL⟩, ?_⟩
      refine ⟨_, rfl, _, rfl, (at_ : Int), rfl, _, rfl, (last : Int), rfl, mk z, rfl, hzl, _, rfl, (by show 2 ≤ sizeLine; exact line_ge (by decide)), fun p hp => ?_⟩
      rw [cutS_mk (by omega) h2]
      have nlp : l ≠ p := ne_of_none hL hp
      have s2 := Same.new hp (.tup [.str (mk ((z.drop at_).take (last - at_))), .int (at_ : Int)])
      refine ⟨l, _, _, rfl, rfl, s2 _ _ hL, Nat.lt_of_le_of_lt (show us.length ≤ 100000 by omega) (by rw [sizeLine_eq]; decide), ?_⟩
      refine hD _ _ ⟨_, _, rfl, fun b o q => ?_, upd_same, WAt.snoc (p := (at_ : Int)) ?_ ws us (WAt.keep ?_ ws us hWs), e, ?_⟩
      · rw [upd_ne (ne_of_none q hl)]
        exact s2 _ _ (s1 _ _ q)
      · rw [upd_ne nlp.symm, upd_same]
      · exact (Same.tk s2).trans (TK.upd _ fun xs q => by rw [s2 _ _ hL] at q; cases q)
      · rw [List.length_append, List.length_singleton]
        omega
    have hcls : cl c = 1 ∨ cl c = 2 ∨ cl c = 3 ∨ cl c = 0 := by
      have : cl c ≤ 4 := by
        unfold cl
        split
        · decide
        · split
          · decide
          · split
            · decide
            · split <;> decide
      omega
    have dsp := drop_split (z := z) (i := at_) (j := last) (by omega) h2
    refine ⟨_, rfl, rfl, _, rfl, ?_⟩
    rcases hS with ⟨e, q1⟩ | ⟨e, q1, q2⟩ | ⟨e, q1, q2⟩
    · have en : decide (V.str S = V.str (Str.ofString "")) = false := decide_eq_false fun q => by
        rw [e] at q
        exact absurd (V.str.inj q) (by decide +kernel)
      rw [en]
      have h1' := cl_letter q1
      refine iteT (iteT (put _ fin ?_))
      refine Eq.trans ?_ (Eq.trans (congrArg (lexF ws) dsp.symm) hlex)
      refine (lexF_run (k := 1) (.inl rfl) ?_ (fun d hd => ?_) (fun d r' er => ?_)).symm
      · intro q
        have q2 := congrArg List.length q
        rw [List.length_take, List.length_drop] at q2
        simp only [List.length_nil] at q2
        omega
      · obtain ⟨n, b1, b2, b3⟩ := take_mem h2 hd
        rw [h3 n d b1 b2 b3, h1']
      · have gd : z[last]? = some d := by
          have := congrArg (fun l => l[0]?) er
          simpa [List.getElem?_drop] using this
        have := h4 (.inl h1') d gd
        rw [h1'] at this
        exact this
    · have en : decide (V.str S = V.str (Str.ofString "")) = false := decide_eq_false fun q => by
        rw [e] at q
        exact absurd (V.str.inj q) (by decide +kernel)
      rw [en]
      have h1' := cl_fig q1 q2
      refine iteT (iteT (put _ fin ?_))
      refine Eq.trans ?_ (Eq.trans (congrArg (lexF ws) dsp.symm) hlex)
      refine (lexF_run (k := 2) (.inr rfl) ?_ (fun d hd => ?_) (fun d r' er => ?_)).symm
      · intro q
        have q2 := congrArg List.length q
        rw [List.length_take, List.length_drop] at q2
        simp only [List.length_nil] at q2
        omega
      · obtain ⟨n, b1, b2, b3⟩ := take_mem h2 hd
        rw [h3 n d b1 b2 b3, h1']
      · have gd : z[last]? = some d := by
          have := congrArg (fun l => l[0]?) er
          simpa [List.getElem?_drop] using this
        have := h4 (.inr h1') d gd
        rw [h1'] at this
        exact this
    · have en : decide (V.str S = V.str (Str.ofString "")) = true := decide_eq_true (by rw [e, empty_is])
      rw [en]
      have hn12 : cl c ≠ 1 ∧ cl c ≠ 2 := ⟨cl1 q1, cl2 q2⟩
      have el := h5 hn12
      subst el
      refine iteF ⟨_, rfl, c, SINS, rfl, rfl, _, rfl, ?_⟩
      rw [sins_dec]
      cases q3 : single c with
      | true =>
        refine iteT (put _ fin ?_)
        rw [← hlex, dc]
        rw [show (c :: List.drop (at_ + 1) z).take (at_ + 1 - at_) = [c] by rw [show at_ + 1 - at_ = 1 by omega]; rfl]
        exact (lexF_single (cl_single q1 q2 q3)).symm
      | false =>
        have hb : cl c = 0 := by
          rcases cl_other q1 q2 q3 with h | h
          · exact h
          · exact absurd h hc4
        refine iteF ⟨_, rfl, _, _, rfl, rfl, _, rfl, ?_⟩
        have e5 : decide (c ∈ (Str.ofString " \n").cps.toList) = true := decide_eq_true (by
          have e6 : (Str.ofString " \n").cps.toList = [32, 10] := by decide +kernel
          rw [e6]
          rcases cl_blank_mem hb with h | h <;> rw [h] <;> simp)
        rw [e5]
        refine iteF (fin _ _ ⟨ws, us, rfl, s1, hL, hWs, ?_, by omega⟩)
        rw [← hlex, dc]
        exact (lexF_blank hb).symm
  · -- the end
    rw [decide_eq_false (by omega : ¬ (at_ : Int) < ((mk z).length : Nat))]
    have eat : at_ = z.length := by omega
    rw [eat, List.drop_length, lexF_nil] at hlex
    refine iteF ⟨_, rfl, l, us, rfl, .inr (SqL.of hL), ?_⟩
    refine ⟨_, rfl, mk z, rfl, hzl, (by show 2 ≤ sizeLine; exact line_ge (by decide)), fun p hp => ?_⟩
    have nlp : l ≠ p := ne_of_none hL hp
    refine ⟨line_ge (by rw [List.length_append]; show us.length + 1 ≤ 16777216; omega), fun q hq => ?_⟩
    have s2 := Same.new hp (.tup [.str (Str.ofString ""), .int ((mk z).length : Nat)])
    have s3 := Same.new hq (.lst (us ++ [.ref p]))
    have s4 := (s1.trans s2).trans s3
    refine k q _ _ s4 ((s1.trans s2).free hq) upd_same ?_ ?_
    · rw [← hlex]
      refine WAt.snoc (p := ((mk z).length : Nat)) ?_ ws us (WAt.keep ((Same.tk s2).trans (Same.tk s3)) ws us hWs)
      refine s3 _ _ ?_
      rw [upd_same, empty_is]
    · rw [List.length_append, List.length_singleton]
      omega
end
end KW
set_option Elab.async false
set_option linter.all false
set_option maxRecDepth 100000
set_option maxHeartbeats 4000000
/-! The reader: its fields, its small methods. -/
namespace KW
open PySem PySem.Spec PyProof.Rows L2 KM
theorem n_wa : ¬ (("words" : Str) = "at") := by decide +kernel
theorem n_wd : ¬ (("words" : Str) = "deep") := by decide +kernel
theorem n_ad : ¬ (("at" : Str) = "deep") := by decide +kernel
def rdF (l : Addr) (a d : Int) : List (Str × V) := [("words", .ref l), ("at", .int a), ("deep", .int d)]
def rdF' (l : Addr) (a d : Int) : List (Str × V) := putF "deep" (.int d) (putF "at" (.int a) (putF "words" (.ref l) []))
theorem rdF_eq (l : Addr) (a d : Int) : rdF' l a d = rdF l a d := by
  have e1 : putF "at" (.int a) (putF "words" (.ref l) []) = [(("words" : Str), V.ref l), (("at" : Str), V.int a)] := by
    show (if ("words" : Str) = "at" then [(("words" : Str), V.int a)] else (("words" : Str), V.ref l) :: putF "at" (V.int a) []) = _
    rw [if_neg n_wa]
    rfl
  unfold rdF'
  rw [e1]
  show (if ("words" : Str) = "deep" then [(("words" : Str), V.int d), (("at" : Str), V.int a)] else (("words" : Str), V.ref l) :: (if ("at" : Str) = "deep" then [(("at" : Str), V.int d)] else (("at" : Str), V.int a) :: putF "deep" (.int d) [])) = _
  rw [if_neg n_wd, if_neg n_ad]
  rfl
theorem rd_words (l : Addr) (a d : Int) : (rdF l a d).lookup ("words" : Str) = some (.ref l) := by
  rw [← rdF_eq]
  unfold rdF'
  rw [lookup_putF, if_neg n_wd, lookup_putF, if_neg n_wa, lookup_putF, if_pos rfl]
theorem rd_at (l : Addr) (a d : Int) : (rdF l a d).lookup ("at" : Str) = some (.int a) := by
  rw [← rdF_eq]
  unfold rdF'
  rw [lookup_putF, if_neg n_ad, lookup_putF, if_pos rfl]
theorem rd_deep (l : Addr) (a d : Int) : (rdF l a d).lookup ("deep" : Str) = some (.int d) := by
  rw [← rdF_eq]
  unfold rdF'
  rw [lookup_putF, if_pos rfl]
theorem rd_no (l : Addr) (a d : Int) {m : Str} (h1 : ¬ m = "words") (h2 : ¬ m = "at") (h3 : ¬ m = "deep") : (rdF l a d).lookup m = none := by
  rw [← rdF_eq]
  unfold rdF'
  rw [lookup_putF, if_neg h3, lookup_putF, if_neg h2, lookup_putF, if_neg h1]
  all_goals rfl
theorem rd_put_at (l : Addr) (a d b : Int) : putF "at" (.int b) (rdF l a d) = rdF l b d := by
  show (if ("words" : Str) = "at" then [(("words" : Str), V.int b), (("at" : Str), V.int a), (("deep" : Str), V.int d)] else (("words" : Str), V.ref l) :: (if ("at" : Str) = "at" then [(("at" : Str), V.int b), (("deep" : Str), V.int d)] else (("at" : Str), V.int a) :: putF "at" (.int b) [(("deep" : Str), V.int d)])) = _
  rw [if_neg n_wa, if_pos rfl]
  all_goals rfl
theorem rd_put_deep (l : Addr) (a d b : Int) : putF "deep" (.int b) (rdF l a d) = rdF l a b := by
  show (if ("words" : Str) = "deep" then [(("words" : Str), V.int b), (("at" : Str), V.int a), (("deep" : Str), V.int d)] else (("words" : Str), V.ref l) :: (if ("at" : Str) = "deep" then [(("at" : Str), V.int b), (("deep" : Str), V.int d)] else (("at" : Str), V.int a) :: (if ("deep" : Str) = "deep" then [(("deep" : Str), V.int b)] else (("deep" : Str), V.int d) :: putF "deep" (.int b) []))) = _
  rw [if_neg n_wd, if_neg n_ad, if_pos rfl]
  all_goals rfl
/-- a reader at p: its words at l, it stands ahead of the a-th, within d brackets -/
structure RS (C : Addr) (H : Hp) (p l : Addr) (us : List V) (ws : List (List Nat)) (a d : Nat) : Prop where
  ob : ∃ dx, H p = some (.ins C dx (rdF l a d))
  ls : H l = some (.lst us)
  wd : WAt H us ws
theorem RS.ne {C : Addr} {H : Hp} {p l : Addr} {us : List V} {ws : List (List Nat)} {a d : Nat} (R : RS C H p l us ws a d) : l ≠ p := by
  obtain ⟨dx, h⟩ := R.ob
  exact ne_of R.ls h (by intro q; cases q)
theorem RS.tk {C : Addr} {H H' : Hp} {p l : Addr} {us : List V} {ws : List (List Nat)} {a d : Nat} (R : RS C H p l us ws a d) (b : But p H H') : TK H H' := by
  obtain ⟨dx, h⟩ := R.ob
  exact b.tk fun xs q => by rw [h] at q; cases q
/-- a store to the reader -/
theorem RS.put {C : Addr} {H : Hp} {p l : Addr} {us : List V} {ws : List (List Nat)} {a d : Nat} (R : RS C H p l us ws a d) {dx : Addr} {fs : List (Str × V)} {a2 d2 : Nat} (e : fs = rdF l a2 d2) : RS C (upd H p (.ins C dx fs)) p l us ws a2 d2 :=
  ⟨⟨dx, by rw [upd_same, e]⟩, by rw [upd_ne R.ne]; exact R.ls, WAt.keep (R.tk (But.upd _)) ws us R.wd⟩
/-- new objects beside it -/
theorem RS.same {C : Addr} {H H' : Hp} {p l : Addr} {us : List V} {ws : List (List Nat)} {a d : Nat} (R : RS C H p l us ws a d) (s : Same H H') : RS C H' p l us ws a d := by
  obtain ⟨dx, h⟩ := R.ob
  exact ⟨⟨dx, s _ _ h⟩, s _ _ R.ls, WAt.keep (Same.tk s) ws us R.wd⟩
def spWord (C : Addr) : Sp := fun vs H Q _ => ∃ (p l : Addr) (us : List V) (ws : List (List Nat)) (a d : Nat) (z : List Nat), vs = [.ref p] ∧ RS C H p l us ws a d ∧ ws[a]? = some z ∧ Q (.str (mk z)) H
def spTake (C : Addr) : Sp := fun vs H Q _ => ∃ (p l : Addr) (us : List V) (ws : List (List Nat)) (a d : Nat) (z : List Nat), vs = [.ref p] ∧ RS C H p l us ws a d ∧ ws[a]? = some z ∧ ∀ H', RS C H' p l us ws (a + 1) d → But p H H' → Q (.str (mk z)) H'
def spNeed (C : Addr) : Sp := fun vs H Q _ => ∃ (p l : Addr) (us : List V) (ws : List (List Nat)) (a d : Nat) (z : List Nat), vs = [.ref p, .str (mk z)] ∧ RS C H p l us ws a d ∧ ws[a]? = some z ∧ ∀ H', RS C H' p l us ws (a + 1) d → But p H H' → Q .non H'
def spEnter (C : Addr) : Sp := fun vs H Q _ => ∃ (p l : Addr) (us : List V) (ws : List (List Nat)) (a d : Nat), vs = [.ref p] ∧ RS C H p l us ws a d ∧ d < 30 ∧ ∀ H', RS C H' p l us ws (a + 1) (d + 1) → But p H H' → Q .non H'
def spLeave (C : Addr) : Sp := fun vs H Q _ => ∃ (p l : Addr) (us : List V) (ws : List (List Nat)) (a d : Nat) (z : List Nat), vs = [.ref p, .str (mk z)] ∧ RS C H p l us ws a (d + 1) ∧ ws[a]? = some z ∧ ∀ H', RS C H' p l us ws (a + 1) d → But p H H' → Q .non H'
def spInit (C : Addr) : Sp := fun vs H Q _ => ∃ (p dx : Addr) (z : List Nat), vs = [.ref p, .str (mk z)] ∧ H p = some (.ins C dx []) ∧ z.length ≤ 100000 ∧ (∀ c ∈ z, cl c ≠ 4) ∧
  ∀ (l : Addr) (us : List V) (H' : Hp), RS C H' p l us (lexF [] z ++ [[]]) 0 0 → But p H H' → Q .non H'
theorem at_get {us : List V} {a : Nat} {v : V} (h : us[a]? = some v) : atI us (a : Int) = some v := atI_nat h
section
variable {P : Program} {w : World} {K : PySem.W.Frag} {mg : Str → Option Value} {base : Heap} {C : Addr}
theorem sc_word : FnScope ["self"] ["self"] (defScope mword) := ⟨rfl, rfl, rfl, by decide +kernel, rfl, by decide +kernel, by decide +kernel⟩
theorem ok_word {f : Addr} {fd : FuncData} (F : Fun K "word" "Reading.word" mword f fd) (T : TX K mg C) : FnOk P w K mg base CX0 1 f fd ["self"] (spWord C) := by
  refine F.ok sc_word (fun vs H Q E h => ?_) (fun cdv A outer s H vs Q E hr h => ?_)
  · obtain ⟨p, l, us, ws, a, d, z, rfl, _⟩ := h
    rfl
  obtain ⟨p, l, us, ws, a, d, z, rfl, R, hz, k⟩ := h
  obtain ⟨dx, ho⟩ := R.ob
  obtain ⟨b, q, hu, hb⟩ := WAt.get ws us R.wd a z hz
  refine ⟨_, pss_one (ps_ret (pe_ix ix_tup (pe_ix ix_list (pe_fld (pv 0) rfl) (pe_fld (pv 0) rfl) (fun _ _ => rfl)) pe_int (fun _ _ => rfl))), ?_⟩
  exact ⟨_, rfl, p, C, dx, _, _, rfl, ho, T.cl, T.nW, rd_words _ _ _, _, rfl, p, C, dx, _, _, rfl, ho, T.cl, T.nA, rd_at _ _ _, l, us, _, _, rfl, rfl, SqL.of R.ls, at_get hu, b, _, _, _, rfl, rfl, SqT.of hb, at_get (a := 0) rfl, k⟩
theorem sc_take : FnScope ["self"] ["self"] (defScope mtake) := ⟨rfl, rfl, rfl, by decide +kernel, rfl, by decide +kernel, by decide +kernel⟩
theorem ok_take {f : Addr} {fd : FuncData} (F : Fun K "take" "Reading.take" mtake f fd) (T : TX K mg C) : FnOk P w K mg base CX0 1 f fd ["self"] (spTake C) := by
  refine F.ok sc_take (fun vs H Q E h => ?_) (fun cdv A outer s H vs Q E hr h => ?_)
  · obtain ⟨p, l, us, ws, a, d, z, rfl, _⟩ := h
    rfl
  obtain ⟨p, l, us, ws, a, d, z, rfl, R, hz, k⟩ := h
  obtain ⟨dx, ho⟩ := R.ob
  refine ⟨_, pss_cons (ps_fldaug (pv 0) pe_int in_add) (pss_one (ps_ret (pe_ix ix_tup (pe_ix ix_list (pe_fld (pv 0) rfl) (pe_op op_sub (pe_fld (pv 0) rfl) pe_int) (fun _ _ => rfl)) pe_int (fun _ _ => rfl)))), ?_⟩
  refine ⟨_, rfl, p, C, dx, _, _, rfl, ho, T.cl, T.nA, rd_at _ _ _, _, _, rfl, rfl, _, _, ho, (by show 3 < 1000; decide), ?_⟩
  have R2 : RS C (upd H p (.ins C dx (putF "at" (.int ((a : Int) + 1)) (rdF l a d)))) p l us ws (a + 1) d := R.put (rd_put_at l a d ((a : Int) + 1))
  obtain ⟨b, q, hu, hb⟩ := WAt.get ws us R2.wd a z hz
  obtain ⟨dx2, ho2⟩ := R2.ob
  refine ⟨_, rfl, p, C, dx2, _, _, rfl, ho2, T.cl, T.nW, rd_words _ _ _, _, rfl, p, C, dx2, _, _, rfl, ho2, T.cl, T.nA, rd_at _ _ _, _, _, rfl, rfl, l, us, _, _, rfl, rfl, SqL.of R2.ls, at_of (j := a) (by omega) hu, b, _, _, _, rfl, rfl, SqT.of hb, at_get (a := 0) rfl, ?_⟩
  exact k _ R2 (But.upd _)
theorem sc_need : FnScope ["self", "word"] ["self", "word"] (defScope mneed) := ⟨rfl, rfl, rfl, by decide +kernel, rfl, by decide +kernel, by decide +kernel⟩
theorem ok_need {f : Addr} {fd : FuncData} (F : Fun K "need" "Reading.need" mneed f fd) (T : TX K mg C) (GW : Calm P w K mg base CX0 C "word" 1 ["self"] (spWord C)) : FnOk P w K mg base CX0 2 f fd ["self", "word"] (spNeed C) := by
  refine F.ok sc_need (fun vs H Q E h => ?_) (fun cdv A outer s H vs Q E hr h => ?_)
  · obtain ⟨p, l, us, ws, a, d, z, rfl, _⟩ := h
    rfl
  obtain ⟨p, l, us, ws, a, d, z, rfl, R, hz, k⟩ := h
  obtain ⟨dx, ho⟩ := R.ob
  refine ⟨_, pss_cons (ps_if (pt_cmpR op_ne (pe_calm0 GW (pv 0) T.cl hr pass0) (pv 1) (nomark _)) pss_never pss_nil) (pss_one (ps_fldaug (pv 0) pe_int in_add)), ?_⟩
  refine ⟨_, rfl, p, dx, _, rfl, ho, rd_no _ _ _ (by decide +kernel) (by decide +kernel) (by decide +kernel), p, l, us, ws, a, d, z, rfl, R, hz, _, rfl, rfl, _, rfl, ?_⟩
  rw [decide_eq_true rfl]
  refine iteF ⟨_, rfl, p, C, dx, _, _, rfl, ho, T.cl, T.nA, rd_at _ _ _, _, _, rfl, rfl, _, _, ho, (by show 3 < 1000; decide), ?_⟩
  exact k _ (R.put (rd_put_at l a d ((a : Int) + 1))) (But.upd _)
theorem sc_enter : FnScope ["self"] ["self"] (defScope menter) := ⟨rfl, rfl, rfl, by decide +kernel, rfl, by decide +kernel, by decide +kernel⟩
theorem ok_enter {f : Addr} {fd : FuncData} (F : Fun K "enter" "Reading.enter" menter f fd) (T : TX K mg C) : FnOk P w K mg base CX0 1 f fd ["self"] (spEnter C) := by
  refine F.ok sc_enter (fun vs H Q E h => ?_) (fun cdv A outer s H vs Q E hr h => ?_)
  · obtain ⟨p, l, us, ws, a, d, rfl, _⟩ := h
    rfl
  obtain ⟨p, l, us, ws, a, d, rfl, R, hd, k⟩ := h
  obtain ⟨dx, ho⟩ := R.ob
  refine ⟨_, pss_cons (ps_if (pt_cmpR op_ge (pe_fld (pv 0) rfl) (pe_gI T.deep) (nomark _)) pss_never pss_nil) (pss_cons (ps_fldaug (pv 0) pe_int in_add) (pss_one (ps_fldaug (pv 0) pe_int in_add))), ?_⟩
  refine ⟨_, rfl, p, C, dx, _, _, rfl, ho, T.cl, T.nD, rd_deep _ _ _, _, _, rfl, rfl, _, rfl, ?_⟩
  rw [decide_eq_false (by omega : ¬ (30 : Int) ≤ (d : Int))]
  refine iteF ⟨_, rfl, p, C, dx, _, _, rfl, ho, T.cl, T.nD, rd_deep _ _ _, _, _, rfl, rfl, _, _, ho, (by show 3 < 1000; decide), ?_⟩
  have R2 : RS C (upd H p (.ins C dx (putF "deep" (.int ((d : Int) + 1)) (rdF l a d)))) p l us ws a (d + 1) := R.put (rd_put_deep l a d ((d : Int) + 1))
  obtain ⟨dx2, ho2⟩ := R2.ob
  refine ⟨_, rfl, p, C, dx2, _, _, rfl, ho2, T.cl, T.nA, rd_at _ _ _, _, _, rfl, rfl, _, _, ho2, (by show 3 < 1000; decide), ?_⟩
  exact k _ (R2.put (rd_put_at l a _ ((a : Int) + 1))) ((But.upd _).trans (But.upd _))
theorem sc_leave : FnScope ["self", "word"] ["self", "word"] (defScope mleave) := ⟨rfl, rfl, rfl, by decide +kernel, rfl, by decide +kernel, by decide +kernel⟩
theorem ok_leave {f : Addr} {fd : FuncData} (F : Fun K "leave" "Reading.leave" mleave f fd) (T : TX K mg C) (GN : Calm P w K mg base CX0 C "need" 2 ["self", "word"] (spNeed C)) : FnOk P w K mg base CX0 3 f fd ["self", "word"] (spLeave C) := by
  refine F.ok sc_leave (fun vs H Q E h => ?_) (fun cdv A outer s H vs Q E hr h => ?_)
  · obtain ⟨p, l, us, ws, a, d, z, rfl, _⟩ := h
    rfl
  obtain ⟨p, l, us, ws, a, d, z, rfl, R, hz, k⟩ := h
  obtain ⟨dx, ho⟩ := R.ob
  refine ⟨_, pss_cons (ps_expr (pe_calm GN (pv 0) T.cl hr pass0 (pa_cons (pv 1) pa_nil))) (pss_one (ps_fldaug (pv 0) pe_int in_sub)), ?_⟩
  refine ⟨_, rfl, p, dx, _, rfl, ho, rd_no _ _ _ (by decide +kernel) (by decide +kernel) (by decide +kernel), _, rfl, p, l, us, ws, a, d + 1, z, rfl, R, hz, fun H2 R2 b2 => ?_⟩
  obtain ⟨dx2, ho2⟩ := R2.ob
  refine ⟨_, rfl, p, C, dx2, _, _, rfl, ho2, T.cl, T.nD, rd_deep _ _ _, _, _, rfl, rfl, _, _, ho2, (by show 3 < 1000; decide), ?_⟩
  exact k _ (R2.put ((rd_put_deep l _ _ _).trans (by rw [show (((d + 1 : Nat) : Int) - 1) = (d : Int) by omega]))) (b2.trans (But.upd _))
theorem sc_init : FnScope ["self", "text"] ["self", "text"] (defScope minit) := ⟨rfl, rfl, rfl, by decide +kernel, rfl, by decide +kernel, by decide +kernel⟩
theorem ok_init {f : Addr} {fd : FuncData} (F : Fun K "__init__" "Reading.__init__" minit f fd) (T : TX K mg C) (GW : Cal P w K mg base CX0 "words_of" 1 ["text"] spWords) : FnOk P w K mg base CX0 2 f fd ["self", "text"] (spInit C) := by
  refine F.ok sc_init (fun vs H Q E h => ?_) (fun cdv A outer s H vs Q E hr h => ?_)
  · obtain ⟨p, dx, z, rfl, _⟩ := h
    rfl
  obtain ⟨p, dx, z, rfl, ho, hz, hc, k⟩ := h
  refine ⟨_, pss_cons (ps_fld (pv 0) (pe_cal GW hr pass0 (pa_cons (pv 1) pa_nil)) rfl) (pss_cons (ps_fld (pv 0) pe_int rfl) (pss_one (ps_fld (pv 0) pe_int rfl))), ?_⟩
  refine ⟨_, rfl, z, rfl, hz, hc, fun l us H1 s1 hl hL hW _ => ?_⟩
  have ho1 := s1 _ _ ho
  have nlp : l ≠ p := ne_of hL ho1 (by intro q; cases q)
  refine ⟨_, rfl, p, C, dx, [], rfl, ho1, T.cl, T.nW, (by show 0 < 1000; decide), ?_⟩
  refine ⟨_, rfl, p, C, dx, _, rfl, upd_same, T.cl, T.nA, (by show 1 < 1000; decide), ?_⟩
  refine ⟨_, rfl, p, C, dx, _, rfl, upd_same, T.cl, T.nD, (by show 2 < 1000; decide), ?_⟩
  have tk : TK H1 (upd (upd (upd H1 p (.ins C dx (putF "words" (.ref l) []))) p (.ins C dx (putF "at" (.int 0) (putF "words" (.ref l) [])))) p (.ins C dx (putF "deep" (.int 0) (putF "at" (.int 0) (putF "words" (.ref l) []))))) := fun b xs e => by
    have n : b ≠ p := ne_of e ho1 (by intro q; cases q)
    rw [upd_ne n, upd_ne n, upd_ne n]
    exact e
  refine k l us _ ⟨⟨dx, ?_⟩, ?_, WAt.keep tk _ _ hW⟩ fun b o e n => ?_
  · rw [upd_same]
    exact congrArg (fun q => some (HO.ins C dx q)) (rdF_eq l 0 0)
  · rw [upd_ne nlp, upd_ne nlp, upd_ne nlp]
    exact hL
  · rw [upd_ne n, upd_ne n, upd_ne n]
    exact s1 _ _ e
end
end KW
set_option Elab.async false
set_option linter.all false
set_option maxRecDepth 100000
set_option maxHeartbeats 4000000
/-! The reader: things, a thing, what stands ahead of its signs. -/
namespace KW
open PySem PySem.Spec PyProof.Rows L2 KM
/-! ### a rule for x in (s1, s2) -/
def tMono (t : TE) : TE := fun σ H Q => ∃ R : VK, t σ H R ∧ ∀ v H', R v H' → Q v H'
section
variable {X : Cx}
theorem pe_mono {e : Expr} {t : TE} (h : PE X e t) : PE X e (tMono t) := ⟨fun pins s σ H Q I ⟨R, hR, k⟩ => thn (h.run pins s σ H R I hR) fun u s' ⟨v, H', I', r, q⟩ => ⟨v, H', I', r, k v H' q⟩⟩
def tIn2 (s1 s2 : Str) (ta : TE) : TT := fun σ H Q => ta σ H fun x H1 => ∃ z : Str, x = .str z ∧ ∀ H2, Same H1 H2 → Q (decide (z = s1) || decide (z = s2)) H2
theorem inV2 (z s1 s2 : Str) : inV (.str z) [.str s1, .str s2] = (decide (z = s1) || decide (z = s2)) := by
  show ((s1 == z) || ((s2 == z) || false)) = _
  rw [Bool.or_false]
  congr 1
  · by_cases h : z = s1
    · rw [h, decide_eq_true rfl]; simp
    · rw [decide_eq_false h]; simpa using fun q => h q.symm
  · by_cases h : z = s2
    · rw [h, decide_eq_true rfl]; simp
    · rw [decide_eq_false h]; simpa using fun q => h q.symm
theorem pt_in2 {a : Expr} {ta : TE} {s1 s2 : Str} {j1 j2 k : Nat} {p1 p2 pt pos : Pos} (ha : PE X a ta) : PT X (.Compare a [.In] [.Tuple [.Constant (.str s1) j1 p1, .Constant (.str s2) j2 p2] k pt] pos) (tIn2 s1 s2 ta) :=
  ⟨fun pins s σ H Q I h => (pt_cmpR op_in_seq (pe_mono ha) (pe_tup (pa_cons pe_str (pa_cons pe_str pa_nil))) rfl).run pins s σ H Q I ⟨_, h, fun x H1 ⟨z, ex, q⟩ => ⟨(by show 2 ≤ sizeLine; exact line_ge (by decide)), fun p hp => ⟨p, _, rfl, .inr (SqT.of upd_same), by rw [ex]; rfl, rfl, _, rfl, by
    rw [ex, if_neg Bool.false_ne_true, inV2]
    exact q _ (Same.new hp _)⟩⟩⟩⟩
end
/-! ### readings of calls -/
section
variable {C : Addr} {H : Hp} {p l : Addr} {us : List V} {ws : List (List Nat)} {a d : Nat} {z : List Nat} {σ : L2.St} {Q : VK}
theorem rd_meth (R : RS C H p l us ws a d) {m : Str} (h1 : ¬ m = "words") (h2 : ¬ m = "at") (h3 : ¬ m = "deep") (h0 : σ[0]? = some (some (.ref p))) {sp : Sp} {E : XK} (h : sp [.ref p] H Q E) : tMeth C m sp [] E (tVar 0) tNil σ H Q := by
  obtain ⟨dx, ho⟩ := R.ob
  exact ⟨_, h0, p, dx, _, rfl, ho, rd_no _ _ _ h1 h2 h3, h⟩
theorem rd_meth1 (R : RS C H p l us ws a d) {m : Str} {x : Str} (h1 : ¬ m = "words") (h2 : ¬ m = "at") (h3 : ¬ m = "deep") (h0 : σ[0]? = some (some (.ref p))) {sp : Sp} {E : XK} (h : sp [.ref p, .str x] H Q E) : tMeth C m sp [] E (tVar 0) (tCons (tC (.str x)) tNil) σ H Q := by
  obtain ⟨dx, ho⟩ := R.ob
  exact ⟨_, h0, p, dx, _, rfl, ho, rd_no _ _ _ h1 h2 h3, h⟩
theorem r_word (R : RS C H p l us ws a d) (hz : ws[a]? = some z) (h0 : σ[0]? = some (some (.ref p))) (q : Q (.str (mk z)) H) : tMeth C "word" (spWord C) [] E0 (tVar 0) tNil σ H Q :=
  rd_meth R (by decide +kernel) (by decide +kernel) (by decide +kernel) h0 ⟨p, l, us, ws, a, d, z, rfl, R, hz, q⟩
theorem r_take (R : RS C H p l us ws a d) (hz : ws[a]? = some z) (h0 : σ[0]? = some (some (.ref p))) (q : ∀ H', RS C H' p l us ws (a + 1) d → But p H H' → Q (.str (mk z)) H') : tMeth C "take" (spTake C) [] E0 (tVar 0) tNil σ H Q :=
  rd_meth R (by decide +kernel) (by decide +kernel) (by decide +kernel) h0 ⟨p, l, us, ws, a, d, z, rfl, R, hz, q⟩
theorem r_enter (R : RS C H p l us ws a d) (hd : d < 30) (h0 : σ[0]? = some (some (.ref p))) (q : ∀ H', RS C H' p l us ws (a + 1) (d + 1) → But p H H' → Q .non H') : tMeth C "enter" (spEnter C) [] E0 (tVar 0) tNil σ H Q :=
  rd_meth R (by decide +kernel) (by decide +kernel) (by decide +kernel) h0 ⟨p, l, us, ws, a, d, rfl, R, hd, q⟩
theorem r_need (R : RS C H p l us ws a d) {x : Str} (ex : x = mk z) (hz : ws[a]? = some z) (h0 : σ[0]? = some (some (.ref p))) (q : ∀ H', RS C H' p l us ws (a + 1) d → But p H H' → Q .non H') : tMeth C "need" (spNeed C) [] E0 (tVar 0) (tCons (tC (.str x)) tNil) σ H Q :=
  rd_meth1 R (by decide +kernel) (by decide +kernel) (by decide +kernel) h0 ⟨p, l, us, ws, a, d, z, by rw [ex], R, hz, q⟩
theorem r_leave (R : RS C H p l us ws a (d + 1)) {x : Str} (ex : x = mk z) (hz : ws[a]? = some z) (h0 : σ[0]? = some (some (.ref p))) (q : ∀ H', RS C H' p l us ws (a + 1) d → But p H H' → Q .non H') : tMeth C "leave" (spLeave C) [] E0 (tVar 0) (tCons (tC (.str x)) tNil) σ H Q :=
  rd_meth1 R (by decide +kernel) (by decide +kernel) (by decide +kernel) h0 ⟨p, l, us, ws, a, d, z, by rw [ex], R, hz, q⟩
end
/-! ### the signs behind a thing -/
abbrev Post : Type := Option Nat
def coreT : T → T
  | .back t => coreT t
  | .times t _ => coreT t
  | t => t
def posts : T → List Post
  | .back t => posts t ++ [none]
  | .times t k => posts t ++ [some k]
  | _ => []
def wrap : T → List Post → T
  | t, [] => t
  | t, none :: r => wrap (.back t) r
  | t, some k :: r => wrap (.times t k) r
def tokP : Post → List (List Nat)
  | none => [[126]]
  | some k => [[94], numC k]
theorem wrap_app : ∀ (t : T) (a b : List Post), wrap t (a ++ b) = wrap (wrap t a) b
  | t, [], b => rfl
  | t, none :: r, b => wrap_app (.back t) r b
  | t, some k :: r, b => wrap_app (.times t k) r b
theorem wrap_core : ∀ t : T, wrap (coreT t) (posts t) = t
  | .name _ => rfl
  | .node _ => rfl
  | .row _ => rfl
  | .round _ _ => rfl
  | .back t => by
    show wrap (coreT t) (posts t ++ [none]) = _
    rw [wrap_app, wrap_core t]
    rfl
  | .times t k => by
    show wrap (coreT t) (posts t ++ [some k]) = _
    rw [wrap_app, wrap_core t]
    rfl
theorem tok_core : ∀ t : T, tok t = tok (coreT t) ++ (posts t).flatMap tokP
  | .name _ => by simp [coreT, posts]
  | .node _ => by simp [coreT, posts]
  | .row _ => by simp [coreT, posts]
  | .round _ _ => by simp [coreT, posts]
  | .back t => by
    simp only [tok, coreT, posts]
    rw [tok_core t, List.flatMap_append, List.append_assoc]
    rfl
  | .times t k => by
    simp only [tok, coreT, posts]
    rw [tok_core t, List.flatMap_append, List.append_assoc]
    rfl
theorem pOk_core : ∀ t : T, pOk t → pOk (coreT t) ∧ ∀ k, some k ∈ posts t → k < 100
  | .name _, h => ⟨h, fun k hk => by cases hk⟩
  | .node _, h => ⟨h, fun k hk => by cases hk⟩
  | .row _, h => ⟨h, fun k hk => by cases hk⟩
  | .round _ _, h => ⟨h, fun k hk => by cases hk⟩
  | .back t, h => by
    simp only [pOk] at h
    obtain ⟨h1, h2⟩ := pOk_core t h
    refine ⟨h1, fun k hk => ?_⟩
    simp only [posts, List.mem_append, List.mem_singleton] at hk
    rcases hk with hk | hk
    · exact h2 k hk
    · cases hk
  | .times t n, h => by
    simp only [pOk] at h
    obtain ⟨h1, h2⟩ := pOk_core t h.1
    refine ⟨h1, fun k hk => ?_⟩
    simp only [posts, List.mem_append, List.mem_singleton] at hk
    rcases hk with hk | hk
    · exact h2 k hk
    · rw [Option.some.inj hk]; exact h.2
theorem dep_core : ∀ t : T, dep (coreT t) = dep t
  | .name _ => rfl
  | .node _ => rfl
  | .row _ => rfl
  | .round _ _ => rfl
  | .back t => by simp only [coreT, dep]; exact dep_core t
  | .times t _ => by simp only [coreT, dep]; exact dep_core t
def isCore : T → Prop
  | .back _ => False
  | .times _ _ => False
  | _ => True
theorem core_is : ∀ t : T, isCore (coreT t)
  | .name _ => trivial
  | .node _ => trivial
  | .row _ => trivial
  | .round _ _ => trivial
  | .back t => core_is t
  | .times t _ => core_is t
/-- the first word of a thing -/
def startW (z : List Nat) : Prop := nameOk z ∨ (∃ n, n < 100 ∧ z = numC n) ∨ z = [40] ∨ z = [91]
theorem core_start : ∀ t : T, isCore t → pOk t → ∃ z r, tok t = z :: r ∧ startW z
  | .name s, _, h => ⟨s, [], by simp only [tok], .inl (by simp only [pOk] at h; exact h)⟩
  | .node i, _, h => ⟨numC i, [], by simp only [tok], .inr (.inl ⟨i, by simp only [pOk] at h; exact h, rfl⟩)⟩
  | .row ts, _, h => ⟨[40], toks ts ++ [[41]], by simp only [tok]; rfl, .inr (.inr (.inl rfl))⟩
  | .round a b, _, h => ⟨[91], toks a ++ [[44]] ++ toks b ++ [[93]], by simp only [tok]; simp, .inr (.inr (.inr rfl))⟩
  | .back t, h, _ => h.elim
  | .times t _, h, _ => h.elim
theorem tok_start (t : T) (h : pOk t) : ∃ z r, tok t = z :: r ∧ startW z := by
  obtain ⟨z, r, e, s⟩ := core_start _ (core_is t) (pOk_core t h).1
  exact ⟨z, r ++ (posts t).flatMap tokP, by rw [tok_core, e]; rfl, s⟩
/-- a word that ends things -/
def endW (z : List Nat) : Prop := z = [41] ∨ z = [44] ∨ z = [93] ∨ z = [59] ∨ z = []
theorem name_head {z : List Nat} (h : nameOk z) : letter (z.headD 0) = true := by
  cases z with
  | nil => exact absurd rfl h.1
  | cons c r =>
    have e := h.2.2 c List.mem_cons_self
    cases q : letter c with
    | true => exact q
    | false => exact absurd e (cl1 q)
theorem letter_not_fig {c : Nat} (h : letter c = true) : fig c = false := by
  cases q : fig c with
  | false => rfl
  | true =>
    unfold letter at h
    unfold fig at q
    simp only [Bool.and_eq_true, decide_eq_true_eq] at h q
    omega
theorem isName_ok {z : List Nat} (h : nameOk z) : isName z = true := by
  unfold isName
  have h1 : 1 ≤ z.length := by
    cases z with
    | nil => exact absurd rfl h.1
    | cons c r => simp
  rw [decide_eq_true h1, decide_eq_true h.2.1, name_head h]
  rfl
theorem isName_no {z : List Nat} (h : letter (z.headD 0) = false) : isName z = false := by
  unfold isName
  rw [h, Bool.and_false, Bool.and_false]
theorem fig_not_letter {c : Nat} (h : fig c = true) : letter c = false := by
  cases q : letter c with
  | false => rfl
  | true => rw [letter_not_fig q] at h; cases h
end KW
set_option Elab.async false
set_option linter.all false
set_option maxRecDepth 100000
set_option maxHeartbeats 4000000
/-! plain, thing, things. -/
namespace KW
open PySem PySem.Spec PyProof.Rows L2 KM
theorem dec_mk (z y : List Nat) : decide (V.str (mk z) = V.str (mk y)) = decide (z = y) := by
  by_cases h : z = y
  · rw [h, decide_eq_true rfl, decide_eq_true rfl]
  · rw [decide_eq_false h, decide_eq_false fun q => h (mk_inj (V.str.inj q))]
theorem dec_mkS (z y : List Nat) : decide (mk z = mk y) = decide (z = y) := by
  by_cases h : z = y
  · rw [h, decide_eq_true rfl, decide_eq_true rfl]
  · rw [decide_eq_false h, decide_eq_false fun q => h (mk_inj q)]
theorem k40 : Str.ofString "(" = mk [40] := by decide +kernel
theorem k41 : Str.ofString ")" = mk [41] := by decide +kernel
theorem k91 : Str.ofString "[" = mk [91] := by decide +kernel
theorem k93 : Str.ofString "]" = mk [93] := by decide +kernel
theorem k44 : Str.ofString "," = mk [44] := by decide +kernel
theorem k94 : Str.ofString "^" = mk [94] := by decide +kernel
theorem k126 : Str.ofString "~" = mk [126] := by decide +kernel
theorem drop_get {α : Type} {ws : List α} {a : Nat} {z : α} {r : List α} (h : ws.drop a = z :: r) : ws[a]? = some z := by
  have := congrArg (fun l => l[0]?) h
  simpa [List.getElem?_drop] using this
theorem drop_succ {α : Type} {ws : List α} {a : Nat} {z : α} {r : List α} (h : ws.drop a = z :: r) : ws.drop (a + 1) = r := by
  rw [← List.drop_drop, h]
  rfl
theorem drop_app {α : Type} {ws x r : List α} {a : Nat} (h : ws.drop a = x ++ r) : ws.drop (a + x.length) = r := by
  rw [← List.drop_drop, h, List.drop_left]
theorem name_not {s : List Nat} (h : nameOk s) {c : Nat} (hc : cl c ≠ 1) : s ≠ [c] := fun e => by
  rw [e] at h
  exact hc (h.2.2 c List.mem_cons_self)
theorem num_not {n : Nat} (h : n < 100) {c : Nat} (hc : cl c ≠ 2) : numC n ≠ [c] := fun e => by
  have q := numC_fig h
  rw [e] at q
  exact hc (q c List.mem_cons_self)
theorem RS.other {C : Addr} {H : Hp} {p l q : Addr} {us : List V} {ws : List (List Nat)} {a d : Nat} (R : RS C H p l us ws a d) (o : HO) (h1 : q ≠ p) (h2 : q ≠ l) (h3 : ∀ xs, H q ≠ some (.tup xs)) : RS C (upd H q o) p l us ws a d := by
  obtain ⟨dx, ho⟩ := R.ob
  exact ⟨⟨dx, by rw [upd_ne h1.symm]; exact ho⟩, by rw [upd_ne h2.symm]; exact R.ls, WAt.keep (TK.upd o h3) ws us R.wd⟩
def spPlain (C : Addr) (n : Nat) : Sp := fun vs H Q _ => ∃ (p l : Addr) (us : List V) (ws : List (List Nat)) (a d : Nat) (t : T) (rest : List (List Nat)), vs = [.ref p] ∧ RS C H p l us ws a d ∧ ws.drop a = tok t ++ rest ∧ isCore t ∧ pOk t ∧ dep t ≤ n ∧ dep t + d ≤ 30 ∧ wid t ≤ 1000000 ∧
  ∀ H' v, RS C H' p l us ws (a + (tok t).length) d → But p H H' → TAt H' v t → Q v H'
def spThing (C : Addr) (n : Nat) : Sp := fun vs H Q _ => ∃ (p l : Addr) (us : List V) (ws : List (List Nat)) (a d : Nat) (t : T) (z : List Nat) (rest : List (List Nat)), vs = [.ref p] ∧ RS C H p l us ws a d ∧ ws.drop a = tok t ++ z :: rest ∧ (z ≠ [94] ∧ z ≠ [126]) ∧ pOk t ∧ dep t < n ∧ dep t + d ≤ 30 ∧ wid t ≤ 1000000 ∧
  ∀ H' v, RS C H' p l us ws (a + (tok t).length) d → But p H H' → TAt H' v t → Q v H'
def spThings (C : Addr) (n : Nat) : Sp := fun vs H Q _ => ∃ (p l : Addr) (us : List V) (ws : List (List Nat)) (a d : Nat) (ts : Ts) (z : List Nat) (rest : List (List Nat)), vs = [.ref p] ∧ RS C H p l us ws a d ∧ ws.drop a = toks ts ++ z :: rest ∧ endW z ∧ ts.len ≠ 0 ∧ pOks ts ∧ deps ts < n ∧ deps ts + d ≤ 30 ∧ ts.len ≤ 1000000 ∧ wids ts ≤ 1000000 ∧
  ∀ H' v, RS C H' p l us ws (a + (toks ts).length) d → But p H H' → TsA H' v ts → Q v H'
section
variable {P : Program} {w : World} {K : PySem.W.Frag} {mg : Str → Option Value} {base : Heap} {C : Addr}
/-- the reader's small methods -/
structure Small (P : Program) (w : World) (K : PySem.W.Frag) (mg : Str → Option Value) (base : Heap) (C : Addr) : Prop where
  word : Calm P w K mg base CX0 C "word" 1 ["self"] (spWord C)
  take : Calm P w K mg base CX0 C "take" 1 ["self"] (spTake C)
  need : Calm P w K mg base CX0 C "need" 2 ["self", "word"] (spNeed C)
  enter : Calm P w K mg base CX0 C "enter" 1 ["self"] (spEnter C)
  leave : Calm P w K mg base CX0 C "leave" 3 ["self", "word"] (spLeave C)
  isName : Cal P w K mg base CX0 "is_name" 1 ["word"] spIsName
  isNum : Cal P w K mg base CX0 "is_number" 1 ["word"] spIsNum
theorem sc_plain : FnScope ["self", "found", "one", "other"] ["self"] (defScope mplain) := ⟨rfl, rfl, rfl, by decide +kernel, rfl, by decide +kernel, by decide +kernel⟩
theorem ok_plain {f : Addr} {fd : FuncData} {n : Nat} (F : Fun K "plain" "Reading.plain" mplain f fd) (T : TX K mg C) (S : Small P w K mg base C) (GT : Calm P w K mg base CX0 C "things" (3 * n + 3) ["self"] (spThings C n)) : FnOk P w K mg base CX0 (3 * n + 4) f fd ["self"] (spPlain C n) := by
  refine F.ok sc_plain (fun vs H Q E h => ?_) (fun cdv A outer s H vs Q E hr h => ?_)
  · obtain ⟨p, l, us, ws, a, d, t, rest, rfl, _⟩ := h
    rfl
  obtain ⟨p, l, us, ws, a, d, t, rest, rfl, R, hw, hc, hp, hn, hd, hwd, k⟩ := h
  have hr1 : Room 1 (A.deeper (envOfC "Reading.plain" (defScope mplain) s.heap.objs.size f cdv)) := hr.mono (by omega)
  have hr2 : Room 2 (A.deeper (envOfC "Reading.plain" (defScope mplain) s.heap.objs.size f cdv)) := hr.mono (by omega)
  have hr3 : Room 3 (A.deeper (envOfC "Reading.plain" (defScope mplain) s.heap.objs.size f cdv)) := hr.mono (by omega)
  refine ⟨_, pss_cons (ps_if (pt_cmpR op_eq (pe_calm0 S.word (pv 0) T.cl hr1 pass0) pe_str (nomark _))
      (pss_cons (ps_expr (pe_calm0 S.enter (pv 0) T.cl hr1 pass0)) (pss_cons (ps_set (i := 1) sc_plain.nd rfl (Or.inl rfl) (pe_calm0 GT (pv 0) T.cl hr pass0)) (pss_cons (ps_expr (pe_calm S.leave (pv 0) T.cl hr3 pass0 (pa_cons pe_str pa_nil))) (pss_one (ps_ret (pe_tup (pa_cons pe_str (pa_cons (pv 1) pa_nil)))))))) pss_nil)
    (pss_cons (ps_if (pt_cmpR op_eq (pe_calm0 S.word (pv 0) T.cl hr1 pass0) pe_str (nomark _))
      (pss_cons (ps_expr (pe_calm0 S.enter (pv 0) T.cl hr1 pass0)) (pss_cons (ps_set (i := 2) sc_plain.nd rfl (Or.inl rfl) (pe_calm0 GT (pv 0) T.cl hr pass0)) (pss_cons (ps_expr (pe_calm S.need (pv 0) T.cl hr2 pass0 (pa_cons pe_str pa_nil)))
        (pss_cons (ps_set (i := 3) sc_plain.nd rfl (Or.inl rfl) (pe_calm0 GT (pv 0) T.cl hr pass0)) (pss_cons (ps_expr (pe_calm S.leave (pv 0) T.cl hr3 pass0 (pa_cons pe_str pa_nil))) (pss_one (ps_ret (pe_tup (pa_cons pe_str (pa_cons (pv 2) (pa_cons (pv 3) pa_nil))))))))))) pss_nil)
    (pss_cons (ps_if (pt_val (pe_cal S.isName hr1 pass0 (pa_cons (pe_calm0 S.word (pv 0) T.cl hr1 pass0) pa_nil))) (pss_one (ps_ret (pe_tup (pa_cons pe_str (pa_cons (pe_calm0 S.take (pv 0) T.cl hr1 pass0) pa_nil))))) pss_nil)
    (pss_cons (ps_if (pt_not (pt_val (pe_cal S.isNum hr1 pass0 (pa_cons (pe_calm0 S.word (pv 0) T.cl hr1 pass0) pa_nil)))) pss_never pss_nil)
    (pss_one (ps_ret (pe_tup (pa_cons pe_str (pa_cons (pe_callTy call_int_str (by rfl) T.int (by decide +kernel) (pa_cons (pe_calm0 S.take (pv 0) T.cl hr1 pass0) pa_nil)) pa_nil)))))))), ?_⟩
  have two : ([V.str (Str.ofString ""), V.non] : List V).length ≤ sizeLine := line_ge (by decide)
  cases t with
  | back t => exact hc.elim
  | times t n => exact hc.elim
  | name s =>
    simp only [pOk] at hp
    simp only [tok, List.length_singleton] at hw k
    have g := drop_get (show ws.drop a = s :: rest from hw)
    refine r_word R g rfl ⟨rfl, _, rfl, ?_⟩
    rw [k40, dec_mk, decide_eq_false (name_not hp (by decide))]
    refine iteF (r_word R g rfl ⟨rfl, _, rfl, ?_⟩)
    rw [k91, dec_mk, decide_eq_false (name_not hp (by decide))]
    refine iteF (r_word R g rfl ⟨s, rfl, by have := hp.2.1; omega, _, rfl, ?_⟩)
    rw [isName_ok hp]
    refine iteT (r_take R g rfl fun H2 R2 b2 => ⟨two, fun q hq => ?_⟩)
    have s2 := Same.new hq (.tup [.str (Str.ofString "name"), .str (mk s)])
    refine k _ _ (R2.same s2) (b2.trans (Same.but s2)) ?_
    simp only [TAt]
    exact ⟨q, rfl, upd_same⟩
  | node i =>
    simp only [pOk] at hp
    simp only [tok, List.length_singleton] at hw k
    have g := drop_get (show ws.drop a = numC i :: rest from hw)
    have hl := numC_len i
    refine r_word R g rfl ⟨rfl, _, rfl, ?_⟩
    rw [k40, dec_mk, decide_eq_false (num_not hp (by decide))]
    refine iteF (r_word R g rfl ⟨rfl, _, rfl, ?_⟩)
    rw [k91, dec_mk, decide_eq_false (num_not hp (by decide))]
    refine iteF (r_word R g rfl ⟨numC i, rfl, by omega, _, rfl, ?_⟩)
    rw [isName_no (fig_not_letter (numC_head hp))]
    refine iteF (r_word R g rfl ⟨numC i, true, rfl, by omega, .inr ⟨rfl, i, hp, rfl⟩, _, rfl, ?_⟩)
    refine iteF (r_take R g rfl fun H2 R2 b2 => ⟨mk (numC i), i, rfl, (num_facts i hp).1, by rw [mk_len]; omega, two, fun q hq => ?_⟩)
    have s2 := Same.new hq (.tup [.str (Str.ofString "node"), .int (i : Int)])
    refine k _ _ (R2.same s2) (b2.trans (Same.but s2)) ?_
    simp only [TAt]
    exact ⟨q, rfl, upd_same⟩
  | row ts =>
    simp only [pOk] at hp
    simp only [wid] at hwd
    simp only [dep] at hn hd
    simp only [tok] at hw k
    have w0 : ws.drop a = [40] :: (toks ts ++ [41] :: rest) := by rw [hw]; simp
    have g := drop_get w0
    refine r_word R g rfl ⟨rfl, _, rfl, ?_⟩
    rw [k40, dec_mk, decide_eq_true rfl]
    refine iteT (r_enter R (by omega) rfl fun H2 R2 b2 => ?_)
    refine rd_meth R2 (by decide +kernel) (by decide +kernel) (by decide +kernel) rfl ⟨p, l, us, ws, a + 1, d + 1, ts, [41], rest, rfl, R2, drop_succ w0, .inl rfl, hp.1, hp.2, by omega, by omega, by omega, by omega, fun H3 v R3 b3 hv => ?_⟩
    refine r_leave R3 k41 (drop_get (drop_app (drop_succ w0))) rfl fun H4 R4 b4 => ?_
    refine ⟨_, rfl, two, fun q hq => ?_⟩
    have s2 := Same.new hq (.tup [.str (Str.ofString "row"), v])
    have len : ([[40]] ++ toks ts ++ [[41]]).length = 1 + (toks ts).length + 1 := by simp; omega
    have ha : a + 1 + (toks ts).length + 1 = a + ([[40]] ++ toks ts ++ [[41]]).length := by omega
    rw [ha] at R4
    refine k _ _ (R4.same s2) ((((b2.trans b3).trans b4)).trans (Same.but s2)) ?_
    obtain ⟨b, uu, e1, e2, e3⟩ := (hv.keep (R3.tk b4)).keep (Same.tk s2)
    simp only [TAt]
    exact ⟨q, b, uu, rfl, by rw [upd_same, e1], e2, e3⟩
  | round x y =>
    simp only [pOk] at hp
    simp only [wid] at hwd
    simp only [dep] at hn hd
    simp only [tok] at hw k
    have w0 : ws.drop a = [91] :: (toks x ++ [44] :: (toks y ++ [93] :: rest)) := by rw [hw]; simp
    have g := drop_get w0
    refine r_word R g rfl ⟨rfl, _, rfl, ?_⟩
    rw [k40, dec_mk, decide_eq_false (by decide)]
    refine iteF (r_word R g rfl ⟨rfl, _, rfl, ?_⟩)
    rw [k91, dec_mk, decide_eq_true rfl]
    refine iteT (r_enter R (by omega) rfl fun H2 R2 b2 => ?_)
    refine rd_meth R2 (by decide +kernel) (by decide +kernel) (by decide +kernel) rfl ⟨p, l, us, ws, a + 1, d + 1, x, [44], _, rfl, R2, drop_succ w0, .inr (.inl rfl), hp.1, hp.2.2.1, by omega, by omega, by omega, by omega, fun H3 v R3 b3 hv => ?_⟩
    have w1 := drop_app (drop_succ w0)
    refine r_need R3 k44 (drop_get w1) rfl fun H4 R4 b4 => ?_
    refine rd_meth R4 (by decide +kernel) (by decide +kernel) (by decide +kernel) rfl ⟨p, l, us, ws, a + 1 + (toks x).length + 1, d + 1, y, [93], rest, rfl, R4, drop_succ w1, .inr (.inr (.inl rfl)), hp.2.1, hp.2.2.2, by omega, by omega, by omega, by omega, fun H5 v5 R5 b5 hv5 => ?_⟩
    refine r_leave R5 k93 (drop_get (drop_app (drop_succ w1))) rfl fun H6 R6 b6 => ?_
    have three : ([V.str (Str.ofString ""), V.non, V.non] : List V).length ≤ sizeLine := line_ge (by decide)
    refine ⟨_, rfl, _, rfl, three, fun q hq => ?_⟩
    have s2 := Same.new hq (.tup [.str (Str.ofString "round"), v, v5])
    have ha : a + 1 + (toks x).length + 1 + (toks y).length + 1 = a + ([[91]] ++ toks x ++ [[44]] ++ toks y ++ [[93]]).length := by
      simp only [List.length_append, List.length_singleton]
      omega
    rw [ha] at R6
    refine k _ _ (R6.same s2) ((((((b2.trans b3).trans b4)).trans b5).trans b6).trans (Same.but s2)) ?_
    obtain ⟨b, uu, e1, e2, e3⟩ := ((((hv.keep (R3.tk b4)).keep (R4.tk b5)).keep (R5.tk b6))).keep (Same.tk s2)
    obtain ⟨c, ww, f1, f2, f3⟩ := (hv5.keep (R5.tk b6)).keep (Same.tk s2)
    simp only [TAt]
    exact ⟨q, b, c, uu, ww, rfl, by rw [upd_same, e1, f1], ⟨e2, e3⟩, f2, f3⟩
end
end KW
set_option Elab.async false
set_option linter.all false
set_option maxRecDepth 100000
set_option maxHeartbeats 4000000
/-! thing, things; both with plain by induction. -/
namespace KW
open PySem PySem.Spec PyProof.Rows L2 KM
theorem line1 {a : V} : [a].length ≤ sizeLine := line_ge (show 1 ≤ 16777216 by decide)
theorem line2 {a b : V} : [a, b].length ≤ sizeLine := line_ge (show 2 ≤ 16777216 by decide)
theorem line3 {a b c : V} : [a, b, c].length ≤ sizeLine := line_ge (show 3 ≤ 16777216 by decide)
theorem line4 {a b c d : V} : [a, b, c, d].length ≤ sizeLine := line_ge (show 4 ≤ 16777216 by decide)
theorem tok_posts (p : Post) : ∃ z r, tokP p = z :: r ∧ (z = [126] ∨ z = [94]) := by
  cases p with
  | none => exact ⟨_, _, rfl, .inl rfl⟩
  | some k => exact ⟨_, _, rfl, .inr rfl⟩
theorem kback : Str.ofString "back" = Str.ofString "back" := rfl
theorem toks_flat : ∀ ts : Ts, toks ts = ts.list.flatMap tok
  | .nil => by simp [toks, Ts.list]
  | .cons t ts => by
    simp only [toks, Ts.list]
    rw [toks_flat ts, List.flatMap_cons]
theorem of_snoc (t : T) : ∀ l : List T, Ts.snoc (Ts.of l) t = Ts.of (l ++ [t])
  | [] => rfl
  | x :: r => by
    show Ts.cons x (Ts.snoc (Ts.of r) t) = Ts.cons x (Ts.of (r ++ [t]))
    rw [of_snoc t r]
theorem pOks_mem : ∀ (ts : Ts), pOks ts → ∀ t ∈ ts.list, pOk t
  | .nil, _, t, h => by cases h
  | .cons x r, hp, t, h => by
    simp only [pOks] at hp
    rcases List.mem_cons.mp h with e | e
    · rw [e]; exact hp.1
    · exact pOks_mem r hp.2 t e
theorem deps_mem : ∀ (ts : Ts), ∀ t ∈ ts.list, dep t ≤ deps ts
  | .nil, t, h => by cases h
  | .cons x r, t, h => by
    simp only [deps]
    rcases List.mem_cons.mp h with e | e
    · rw [e]; omega
    · have := deps_mem r t e; omega
theorem wids_mem : ∀ (ts : Ts), ∀ t ∈ ts.list, wid t ≤ wids ts
  | .nil, t, h => by cases h
  | .cons x r, t, h => by
    simp only [wids]
    rcases List.mem_cons.mp h with e | e
    · rw [e]; omega
    · have := wids_mem r t e; omega
theorem wid_core : ∀ t : T, wid (coreT t) = wid t
  | .name _ => rfl
  | .node _ => rfl
  | .row _ => rfl
  | .round _ _ => rfl
  | .back t => by simp only [coreT, wid]; exact wid_core t
  | .times t _ => by simp only [coreT, wid]; exact wid_core t
theorem start_not_post {z : List Nat} (h : startW z) : z ≠ [94] ∧ z ≠ [126] := by
  rcases h with h | ⟨n, hn, h⟩ | h | h
  · exact ⟨name_not h (by decide), name_not h (by decide)⟩
  · rw [h]; exact ⟨num_not hn (by decide), num_not hn (by decide)⟩
  · rw [h]; exact ⟨by decide, by decide⟩
  · rw [h]; exact ⟨by decide, by decide⟩
theorem end_not_post {z : List Nat} (h : endW z) : z ≠ [94] ∧ z ≠ [126] := by
  rcases h with h | h | h | h | h <;> rw [h] <;> exact ⟨by decide, by decide⟩
theorem end_facts {z : List Nat} (h : endW z) : z ≠ [40] ∧ z ≠ [91] ∧ isName z = false ∧ NumB z false ∧ z.length ≤ 1 := by
  rcases h with h | h | h | h | h <;> rw [h] <;> exact ⟨by decide, by decide, by decide, .inl ⟨rfl, by first | exact .inl rfl | exact .inr (.inr (by decide))⟩, by decide⟩
section
variable {P : Program} {w : World} {K : PySem.W.Frag} {mg : Str → Option Value} {base : Heap} {C : Addr}
theorem sc_thing : FnScope ["self", "found"] ["self"] (defScope mthing) := ⟨rfl, rfl, rfl, by decide +kernel, rfl, by decide +kernel, by decide +kernel⟩
theorem ok_thing {f : Addr} {fd : FuncData} {n : Nat} (F : Fun K "thing" "Reading.thing" mthing f fd) (T : TX K mg C) (S : Small P w K mg base C) (GP : Calm P w K mg base CX0 C "plain" (3 * n + 4) ["self"] (spPlain C n)) : FnOk P w K mg base CX0 (3 * n + 5) f fd ["self"] (spThing C (n + 1)) := by
  refine F.ok sc_thing (fun vs H Q E h => ?_) (fun cdv A outer s H vs Q E hr h => ?_)
  · obtain ⟨p, l, us, ws, a, d, t, z, rest, rfl, _⟩ := h
    rfl
  obtain ⟨p, l, us, ws, a, d, t, z, rest, rfl, R, hw, hz, hp, hn, hd, hwd, k⟩ := h
  have hr1 : Room 1 (A.deeper (envOfC "Reading.thing" (defScope mthing) s.heap.objs.size f cdv)) := hr.mono (by omega)
  refine ⟨_, pss_cons (ps_set (i := 1) sc_thing.nd rfl (Or.inl rfl) (pe_calm0 GP (pv 0) T.cl hr pass0))
    (pss_cons (ps_while PassesOwn.never (pt_in2 (pe_calm0 S.word (pv 0) T.cl hr1 pass0))
      (pss_one (ps_if (pt_cmpR op_eq (pe_calm0 S.take (pv 0) T.cl hr1 pass0) pe_str (nomark _))
        (pss_one (ps_set (i := 1) sc_thing.nd rfl (Or.inl rfl) (pe_tup (pa_cons pe_str (pa_cons (pv 1) pa_nil)))))
        (pss_cons (ps_if (pt_not (pt_val (pe_cal S.isNum hr1 pass0 (pa_cons (pe_calm0 S.word (pv 0) T.cl hr1 pass0) pa_nil)))) pss_never pss_nil)
        (pss_one (ps_set (i := 1) sc_thing.nd rfl (Or.inl rfl) (pe_tup (pa_cons pe_str (pa_cons (pv 1) (pa_cons (pe_callTy call_int_str (by rfl) T.int (by decide +kernel) (pa_cons (pe_calm0 S.take (pv 0) T.cl hr1 pass0) pa_nil)) pa_nil))))))))))
    (pss_one (ps_ret (pv 1)))), ?_⟩
  obtain ⟨hpc, hpk⟩ := pOk_core t hp
  have e1 := tok_core t
  rw [e1, List.append_assoc] at hw
  refine rd_meth R (by decide +kernel) (by decide +kernel) (by decide +kernel) rfl ⟨p, l, us, ws, a, d, coreT t, _, rfl, R, hw, core_is t, hpc, by rw [dep_core]; omega, by rw [dep_core]; exact hd, by rw [wid_core]; exact hwd, fun H1 v R1 b1 hv => ?_⟩
  have hw1 := drop_app hw
  refine ⟨fun m σ H' => ∃ (cur : KM.T) (todo : List Post) (u : V) (a' : Nat), m = todo.length ∧ σ = [some (.ref p), some u] ∧ wrap cur todo = t ∧ (∀ k, some k ∈ todo → k < 100) ∧ RS C H' p l us ws a' d ∧ But p H H' ∧ TAt H' u cur ∧ ws.drop a' = todo.flatMap tokP ++ z :: rest ∧ a' + (todo.flatMap tokP).length = a + (tok t).length,
    ⟨_, coreT t, posts t, v, _, rfl, rfl, wrap_core t, hpk, R1, b1, hv, hw1, by rw [e1, List.length_append]; omega⟩, fun m σ H' hW => ?_⟩
  obtain ⟨cur, todo, u, a', rfl, rfl, hcur, hk, R2, b2, hu, hw2, hlen⟩ := hW
  cases todo with
  | nil =>
    have g := drop_get (show ws.drop a' = z :: rest from hw2)
    refine r_word R2 g rfl ⟨mk z, rfl, fun H3 s3 => ?_⟩
    rw [k94, k126, dec_mkS, dec_mkS, decide_eq_false hz.1, decide_eq_false hz.2]
    refine iteF ⟨_, rfl, ?_⟩
    have ea : a' = a + (tok t).length := by
      simp only [List.flatMap_nil, List.length_nil] at hlen
      omega
    rw [← ea] at k
    rw [← hcur] at k
    exact k _ _ (R2.same s3) (b2.trans (Same.but s3)) (TAt.keep (Same.tk s3) _ _ hu)
  | cons q r =>
    have low : ∀ σ' H', (∃ (cur : KM.T) (u : V) (a' : Nat), σ' = [some (.ref p), some u] ∧ wrap cur r = t ∧ RS C H' p l us ws a' d ∧ But p H H' ∧ TAt H' u cur ∧ ws.drop a' = r.flatMap tokP ++ z :: rest ∧ a' + (r.flatMap tokP).length = a + (tok t).length) →
        ∃ m', m' < (q :: r).length ∧ ∃ (cur : KM.T) (todo : List Post) (u : V) (a' : Nat), m' = todo.length ∧ σ' = [some (.ref p), some u] ∧ wrap cur todo = t ∧ (∀ k, some k ∈ todo → k < 100) ∧ RS C H' p l us ws a' d ∧ But p H H' ∧ TAt H' u cur ∧ ws.drop a' = todo.flatMap tokP ++ z :: rest ∧ a' + (todo.flatMap tokP).length = a + (tok t).length := by
      rintro σ' H' ⟨cur, u, a', c1, c2, c3, c4, c5, c6, c7⟩
      exact ⟨r.length, by simp, cur, r, u, a', rfl, c1, c2, fun k hk' => hk k (List.mem_cons_of_mem _ hk'), c3, c4, c5, c6, c7⟩
    rw [List.flatMap_cons, List.append_assoc] at hw2
    rw [List.flatMap_cons, List.length_append] at hlen
    cases q with
    | none =>
      have g := drop_get (show ws.drop a' = [126] :: (r.flatMap tokP ++ z :: rest) from hw2)
      refine r_word R2 g rfl ⟨mk [126], rfl, fun H3 s3 => ?_⟩
      rw [k94, k126, dec_mkS, dec_mkS, decide_eq_true (show ([126] : List Nat) = [126] from rfl), Bool.or_true]
      have R3 := R2.same s3
      refine iteT ⟨_, low, ?_⟩
      refine r_take R3 g rfl fun H4 R4 b4 => ⟨rfl, _, rfl, ?_⟩
      rw [decide_eq_true rfl]
      refine iteT ⟨_, rfl, line2, fun o ho => ?_⟩
      have s4 := Same.new ho (.tup [.str (Str.ofString "back"), u])
      refine ⟨.back cur, .ref o, a' + 1, rfl, hcur, R4.same s4, ((b2.trans (Same.but s3)).trans b4).trans (Same.but s4), ?_, drop_succ (show ws.drop a' = [126] :: (r.flatMap tokP ++ z :: rest) from hw2), ?_⟩
      · simp only [TAt]
        exact ⟨o, u, rfl, upd_same, TAt.keep (Same.tk s4) _ _ (TAt.keep (R3.tk b4) _ _ (TAt.keep (Same.tk s3) _ _ hu))⟩
      · have : (tokP none).length = 1 := rfl
        omega
    | some n2 =>
      have hn2 := hk n2 List.mem_cons_self
      have w0 : ws.drop a' = [94] :: (numC n2 :: (r.flatMap tokP ++ z :: rest)) := hw2
      have g := drop_get w0
      refine r_word R2 g rfl ⟨mk [94], rfl, fun H3 s3 => ?_⟩
      rw [k94, k126, dec_mkS, dec_mkS, decide_eq_true (show ([94] : List Nat) = [94] from rfl), Bool.true_or]
      have R3 := R2.same s3
      refine iteT ⟨_, low, ?_⟩
      refine r_take R3 g rfl fun H4 R4 b4 => ⟨rfl, _, rfl, ?_⟩
      rw [dec_mk, decide_eq_false (show ([94] : List Nat) ≠ [126] by decide)]
      have g2 := drop_get (drop_succ w0)
      have hl := numC_len n2
      refine iteF (r_word R4 g2 rfl ⟨numC n2, true, rfl, by omega, .inr ⟨rfl, n2, hn2, rfl⟩, _, rfl, ?_⟩)
      refine iteF ⟨_, rfl, r_take R4 g2 rfl fun H5 R5 b5 => ⟨mk (numC n2), n2, rfl, (num_facts n2 hn2).1, by rw [mk_len]; omega, line3, fun o ho => ?_⟩⟩
      have s4 := Same.new ho (.tup [.str (Str.ofString "times"), u, .int (n2 : Int)])
      refine ⟨.times cur n2, .ref o, a' + 1 + 1, rfl, hcur, R5.same s4, (((b2.trans (Same.but s3)).trans b4).trans b5).trans (Same.but s4), ?_, drop_succ (drop_succ w0), ?_⟩
      · simp only [TAt]
        exact ⟨o, u, rfl, upd_same, TAt.keep (Same.tk s4) _ _ (TAt.keep (R4.tk b5) _ _ (TAt.keep (R3.tk b4) _ _ (TAt.keep (Same.tk s3) _ _ hu)))⟩
      · have : (tokP (some n2)).length = 2 := rfl
        omega
theorem sc_things : FnScope ["self", "found"] ["self"] (defScope mthings) := ⟨rfl, rfl, rfl, by decide +kernel, rfl, by decide +kernel, by decide +kernel⟩
theorem ok_things {f : Addr} {fd : FuncData} {n : Nat} (F : Fun K "things" "Reading.things" mthings f fd) (T : TX K mg C) (S : Small P w K mg base C) (GT : Calm P w K mg base CX0 C "thing" (3 * n + 5) ["self"] (spThing C (n + 1))) : FnOk P w K mg base CX0 (3 * n + 6) f fd ["self"] (spThings C (n + 1)) := by
  refine F.ok sc_things (fun vs H Q E h => ?_) (fun cdv A outer s H vs Q E hr h => ?_)
  · obtain ⟨p, l, us, ws, a, d, ts, z, rest, rfl, _⟩ := h
    rfl
  obtain ⟨p, l, us, ws, a, d, ts, z, rest, rfl, R, hw, hz, hne, hp, hn, hd, hlen, hwd, k⟩ := h
  have hr1 : Room 1 (A.deeper (envOfC "Reading.things" (defScope mthings) s.heap.objs.size f cdv)) := hr.mono (by omega)
  refine ⟨_, pss_cons (ps_set (i := 1) sc_things.nd rfl (Or.inl rfl) (pe_lst (pa_cons (pe_calm0 GT (pv 0) T.cl hr pass0) pa_nil)))
    (pss_cons (ps_while PassesOwn.never (PW.pt (pw_or (pt_in2 (pe_calm0 S.word (pv 0) T.cl hr1 pass0)) (pw_or (pt_val (pe_cal S.isName hr1 pass0 (pa_cons (pe_calm0 S.word (pv 0) T.cl hr1 pass0) pa_nil))) (pw_or1 (pt_val (pe_cal S.isNum hr1 pass0 (pa_cons (pe_calm0 S.word (pv 0) T.cl hr1 pass0) pa_nil)))))))
      (pss_one (ps_expr (pe_bm PySem.F.plainAttrs_list PySem.F.slot_list_append PySem.F.type_list_append mt_append (pv 1) (pa_cons (pe_calm0 GT (pv 0) T.cl hr pass0) pa_nil)))))
    (pss_one (ps_ret (pe_callTy call_tuple_of (by rfl) T.tuple (by decide +kernel) (pa_cons (pv 1) pa_nil))))), ?_⟩
  -- the next word behind a thing that is followed by others
  have nxt : ∀ todo : List KM.T, (∀ t ∈ todo, pOk t) → ∃ z2 r2, todo.flatMap tok ++ z :: rest = z2 :: r2 ∧ z2 ≠ [94] ∧ z2 ≠ [126] := fun todo ht => by
    cases todo with
    | nil => exact ⟨z, rest, rfl, end_not_post hz⟩
    | cons t r =>
      obtain ⟨z2, r2, e, hs⟩ := tok_start t (ht t List.mem_cons_self)
      exact ⟨z2, r2 ++ (r.flatMap tok ++ z :: rest), by rw [List.flatMap_cons, e]; simp, start_not_post hs⟩
  have hpm := pOks_mem ts hp
  have hdm := deps_mem ts
  have hwm := wids_mem ts
  have hll := Ts.len_list ts
  have etoks := toks_flat ts
  cases hts : ts.list with
  | nil =>
    rw [hts] at hll
    exact absurd hll.symm hne
  | cons t0 r0 =>
    rw [etoks, hts, List.flatMap_cons, List.append_assoc] at hw
    have hm0 : t0 ∈ ts.list := by rw [hts]; exact List.mem_cons_self
    have hmr : ∀ t ∈ r0, t ∈ ts.list := fun t ht => by rw [hts]; exact List.mem_cons_of_mem _ ht
    obtain ⟨z2, r2, e2, n1, n2⟩ := nxt r0 fun t ht => hpm t (hmr t ht)
    rw [e2] at hw
    have hd0 := hdm t0 hm0
    refine rd_meth R (by decide +kernel) (by decide +kernel) (by decide +kernel) rfl ⟨p, l, us, ws, a, d, t0, z2, r2, rfl, R, hw, ⟨n1, n2⟩, hpm t0 hm0, by omega, by omega, by have := hwm t0 hm0; omega, fun H1 v R1 b1 hv => ?_⟩
    refine ⟨line1, fun fl hfl => ?_⟩
    have s1 := Same.new hfl (.lst [v])
    have hfl0 : H fl = none := by
      cases e : H fl with
      | none => rfl
      | some u =>
        by_cases hb : fl = p
        · obtain ⟨dx, ho⟩ := R1.ob
          rw [hb, ho] at hfl
          cases hfl
        · rw [b1 fl u e hb] at hfl
          cases hfl
    have nfp : fl ≠ p := fun e => by
      obtain ⟨dx, ho⟩ := R.ob
      rw [e, ho] at hfl0
      cases hfl0
    have nfl : fl ≠ l := fun e => by
      rw [e, R.ls] at hfl0
      cases hfl0
    have hw1 := drop_app hw
    rw [← e2] at hw1
    refine ⟨fun m σ H' => ∃ (done todo : List KM.T) (uu : List V) (a' : Nat), m = todo.length ∧ ts.list = done ++ todo ∧ σ = [some (.ref p), some (.ref fl)] ∧ RS C H' p l us ws a' d ∧ But p H H' ∧ H' fl = some (.lst uu) ∧ TsAt H' uu (Ts.of done) ∧ ws.drop a' = todo.flatMap tok ++ z :: rest ∧ a' + (todo.flatMap tok).length = a + (toks ts).length,
      ⟨_, [t0], r0, [v], _, rfl, hts, rfl, R1.same s1, b1.trans (Same.but s1), upd_same, ?_, hw1, ?_⟩, fun m σ H' hW => ?_⟩
    · show TsAt _ [v] (.cons t0 .nil)
      simp only [TsAt]
      exact ⟨v, [], rfl, TAt.keep (Same.tk s1) _ _ hv, rfl⟩
    · rw [etoks, hts, List.flatMap_cons, List.length_append]
      omega
    obtain ⟨done, todo, uu, a', rfl, hsp, rfl, R2, b2, hF, hu, hw2, hlen2⟩ := hW
    have hmt : ∀ t ∈ todo, t ∈ ts.list := fun t ht => by rw [hsp]; exact List.mem_append_right _ ht
    cases todo with
    | nil =>
      have g := drop_get (show ws.drop a' = z :: rest from hw2)
      obtain ⟨f1, f2, f3, f4, f5⟩ := end_facts hz
      refine r_word R2 g rfl ⟨mk z, rfl, fun H3 s3 => ?_⟩
      rw [k40, k91, dec_mkS, dec_mkS, decide_eq_false f1, decide_eq_false f2]
      have R3 := R2.same s3
      refine iteF (r_word R3 g rfl ⟨z, rfl, by omega, _, rfl, ?_⟩)
      rw [f3]
      refine iteF (r_word R3 g rfl ⟨z, false, rfl, by omega, f4, _, rfl, ?_⟩)
      refine iteF ⟨_, rfl, fl, uu, rfl, .inl ⟨SqL.of (s3 _ _ hF), fun o ho => ?_⟩⟩
      have s4 := Same.new ho (.tup uu)
      have ea : a' = a + (toks ts).length := by
        simp only [List.flatMap_nil, List.length_nil] at hlen2
        omega
      rw [← ea] at k
      have ed : Ts.of done = ts := by
        rw [List.append_nil] at hsp
        rw [← hsp, Ts.of_list]
      refine k _ _ (R3.same s4) ((b2.trans (Same.but s3)).trans (Same.but s4)) ⟨o, uu, rfl, upd_same, ?_⟩
      rw [← ed]
      exact TsAt.keep (Same.tk s4) _ _ (TsAt.keep (Same.tk s3) _ _ hu)
    | cons t r =>
      have hmt0 := hmt t List.mem_cons_self
      obtain ⟨z3, r3, e3, hs3⟩ := tok_start t (hpm t hmt0)
      rw [List.flatMap_cons, List.append_assoc] at hw2
      rw [List.flatMap_cons, List.length_append] at hlen2
      have g := drop_get (show ws.drop a' = z3 :: (r3 ++ (r.flatMap tok ++ z :: rest)) by rw [hw2, e3]; rfl)
      obtain ⟨z4, r4, e4, m1, m2⟩ := nxt r fun x hx => hpm x (hmt x (List.mem_cons_of_mem _ hx))
      -- the body
      have body : ∀ (H3 : Hp) (D : Ends), Same H' H3 → (∀ σ2 H2, (∃ (uu2 : List V) (a2 : Nat), σ2 = [some (.ref p), some (.ref fl)] ∧ RS C H2 p l us ws a2 d ∧ But p H H2 ∧ H2 fl = some (.lst uu2) ∧ TsAt H2 uu2 (Ts.of (done ++ [t])) ∧ ws.drop a2 = r.flatMap tok ++ z :: rest ∧ a2 + (r.flatMap tok).length = a + (toks ts).length) → D.nx σ2 H2) →
          tDrop (tBM K "list" rAppend (tVar 1) (tCons (tMeth C "thing" (spThing C (n + 1)) [] E0 (tVar 0) tNil) tNil)) D [some (.ref p), some (.ref fl)] H3 := fun H3 D s3 hD => by
        have R3 := R2.same s3
        have hF3 := s3 _ _ hF
        rw [e4] at hw2
        have hdt := hdm t hmt0
        refine ⟨_, rfl, .inl ⟨rfl, _, SqL.of hF3⟩, ?_⟩
        refine rd_meth R3 (by decide +kernel) (by decide +kernel) (by decide +kernel) rfl ⟨p, l, us, ws, a', d, t, z4, r4, rfl, R3, hw2, ⟨m1, m2⟩, hpm t hmt0, by omega, by omega, by have := hwm t hmt0; omega, fun H4 v4 R4 b4 hv4 => ?_⟩
        have hF4 := b4 _ _ hF3 nfp
        have hsz : uu.length + 1 ≤ 1000000 := by
          have l1 := TsAt.len _ _ hu
          rw [← Ts.len_list, Ts.list_of] at l1
          have l2 := congrArg List.length hsp
          rw [hll, List.length_append, List.length_cons] at l2
          omega
        refine ⟨fl, _, _, rfl, rfl, hF4, Nat.lt_of_lt_of_le (show uu.length < 1000000 by omega) (line_ge (by decide)), ?_⟩
        have tk4 : TK H4 (upd H4 fl (.lst (uu ++ [v4]))) := TK.upd _ fun xs q => by rw [hF4] at q; cases q
        refine hD _ _ ⟨uu ++ [v4], _, rfl, R4.other _ nfp nfl (fun xs q => by rw [hF4] at q; cases q), fun b o e nb => ?_, upd_same, ?_, by rw [e4]; exact drop_app hw2, ?_⟩
        · have nbf : b ≠ fl := fun q => by rw [q, hfl0] at e; cases e
          rw [upd_ne nbf]
          exact b4 _ _ (s3 _ _ (b2 _ _ e nb)) nb
        · rw [← of_snoc]
          exact TsAt.snoc (TAt.keep tk4 _ _ hv4) _ _ (TsAt.keep tk4 _ _ (TsAt.keep (R3.tk b4) _ _ (TsAt.keep (Same.tk s3) _ _ hu)))
        · omega
      have low : ∀ (σ2 : L2.St) (H2 : Hp), (∃ (uu2 : List V) (a2 : Nat), σ2 = [some (.ref p), some (.ref fl)] ∧ RS C H2 p l us ws a2 d ∧ But p H H2 ∧ H2 fl = some (.lst uu2) ∧ TsAt H2 uu2 (Ts.of (done ++ [t])) ∧ ws.drop a2 = r.flatMap tok ++ z :: rest ∧ a2 + (r.flatMap tok).length = a + (toks ts).length) →
          ∃ m', m' < (t :: r).length ∧ ∃ (done todo : List KM.T) (uu : List V) (a' : Nat), m' = todo.length ∧ ts.list = done ++ todo ∧ σ2 = [some (.ref p), some (.ref fl)] ∧ RS C H2 p l us ws a' d ∧ But p H H2 ∧ H2 fl = some (.lst uu) ∧ TsAt H2 uu (Ts.of done) ∧ ws.drop a' = todo.flatMap tok ++ z :: rest ∧ a' + (todo.flatMap tok).length = a + (toks ts).length := by
        rintro σ2 H2 ⟨uu2, a2, c1, c2, c3, c4, c5, c6, c7⟩
        exact ⟨r.length, by simp, done ++ [t], r, uu2, a2, rfl, by rw [hsp]; simp, c1, c2, c3, c4, c5, c6, c7⟩
      refine r_word R2 g rfl ⟨mk z3, rfl, fun H3 s3 => ?_⟩
      rw [k40, k91, dec_mkS, dec_mkS]
      have R3 := R2.same s3
      rcases hs3 with hs | ⟨i, hi, hs⟩ | hs | hs
      · rw [decide_eq_false (name_not hs (by decide)), decide_eq_false (name_not hs (by decide))]
        refine iteF (r_word R3 g rfl ⟨z3, rfl, by have := hs.2.1; omega, _, rfl, ?_⟩)
        rw [isName_ok hs]
        exact iteT (iteT ⟨_, low, body H3 _ s3 fun _ _ q => q⟩)
      · rw [decide_eq_false (by rw [hs]; exact num_not hi (by decide)), decide_eq_false (by rw [hs]; exact num_not hi (by decide))]
        have hl3 := numC_len i
        refine iteF (r_word R3 g rfl ⟨z3, rfl, by rw [hs]; omega, _, rfl, ?_⟩)
        rw [isName_no (by rw [hs]; exact fig_not_letter (numC_head hi))]
        refine iteF (r_word R3 g rfl ⟨z3, true, rfl, by rw [hs]; omega, .inr ⟨rfl, i, hi, hs⟩, _, rfl, ?_⟩)
        exact iteT ⟨_, low, body H3 _ s3 fun _ _ q => q⟩
      · rw [decide_eq_true hs, Bool.true_or]
        exact iteT (iteT ⟨_, low, body H3 _ s3 fun _ _ q => q⟩)
      · rw [decide_eq_true hs, Bool.or_true]
        exact iteT (iteT ⟨_, low, body H3 _ s3 fun _ _ q => q⟩)
end
end KW
set_option Elab.async false
set_option linter.all false
set_option maxRecDepth 100000
set_option maxHeartbeats 4000000
/-! The reader at every depth; a whole text read. -/
namespace KW
open PySem PySem.Spec PyProof.Rows L2 KM
theorem k61 : Str.ofString "=" = mk [61] := by decide +kernel
theorem k59 : Str.ofString ";" = mk [59] := by decide +kernel
mutual
theorem eq_not_tok : ∀ t : KM.T, pOk t → ([61] : List Nat) ∉ tok t
  | .name s, h => by
    simp only [pOk] at h
    simp only [tok, List.mem_singleton]
    exact fun e => name_not h (by decide) e.symm
  | .node i, h => by
    simp only [pOk] at h
    simp only [tok, List.mem_singleton]
    exact fun e => num_not h (by decide) e.symm
  | .back t, h => by
    simp only [pOk] at h
    have := eq_not_tok t h
    simp only [tok, List.mem_append, List.mem_singleton]
    rintro (e | e)
    · exact this e
    · exact absurd e (by decide)
  | .times t k, h => by
    simp only [pOk] at h
    have := eq_not_tok t h.1
    simp only [tok, List.mem_append, List.mem_cons, List.not_mem_nil, or_false]
    rintro (e | e | e)
    · exact this e
    · exact absurd e (by decide)
    · exact num_not h.2 (by decide) e.symm
  | .row ts, h => by
    simp only [pOk] at h
    have := eq_not_toks ts h.2
    simp only [tok, List.mem_append, List.mem_singleton]
    rintro ((e | e) | e)
    · exact absurd e (by decide)
    · exact this e
    · exact absurd e (by decide)
  | .round a b, h => by
    simp only [pOk] at h
    have h1 := eq_not_toks a h.2.2.1
    have h2 := eq_not_toks b h.2.2.2
    simp only [tok, List.mem_append, List.mem_singleton]
    rintro ((((e | e) | e) | e) | e)
    · exact absurd e (by decide)
    · exact h1 e
    · exact absurd e (by decide)
    · exact h2 e
    · exact absurd e (by decide)
theorem eq_not_toks : ∀ ts : Ts, pOks ts → ([61] : List Nat) ∉ toks ts
  | .nil, _ => by simp [toks]
  | .cons t ts, h => by
    simp only [pOks] at h
    have h1 := eq_not_tok t h.1
    have h2 := eq_not_toks ts h.2
    simp only [toks, List.mem_append]
    rintro (e | e)
    · exact h1 e
    · exact h2 e
end
/-- what a row text's things must be so that they are read -/
structure Rd1 (ts : Ts) : Prop where
  ne : ts.len ≠ 0
  ok : pOks ts
  dp : deps ts ≤ 3
  ln : ts.len ≤ 1000000
  wd : wids ts ≤ 1000000
structure RdW (told : Told) (last : Ts) : Prop where
  ts : ∀ p ∈ told, nameOk p.1 ∧ Rd1 p.2
  la : Rd1 last
  ln : told.length ≤ 1000
section
variable {P : Program} {w : World} {K : PySem.W.Frag} {mg : Str → Option Value} {base : Heap} {C : Addr}
theorem fn_none {CX : CXT} {k : Nat} {f : Addr} {fd : FuncData} {ps : List Str} {sp : Sp} (no : ∀ vs H Q E, ¬ sp vs H Q E) : FnOk P w K mg base CX k f fd ps sp :=
  ⟨fun vs H Q E h => absurd h (no vs H Q E), fun A outer s H args us vs Q E _ _ _ _ h => absurd h (no vs H Q E)⟩
theorem read_all {f1 f2 f3 : Addr} {d1 d2 d3 : FuncData} (T : TX K mg C) (S : Small P w K mg base C)
    (F1 : Fun K "plain" "Reading.plain" mplain f1 d1) (m1 : Meth K C "plain" f1) (b1 : Binds K d1 ["self"] [])
    (F2 : Fun K "thing" "Reading.thing" mthing f2 d2) (m2 : Meth K C "thing" f2) (b2 : Binds K d2 ["self"] [])
    (F3 : Fun K "things" "Reading.things" mthings f3 d3) (m3 : Meth K C "things" f3) (b3 : Binds K d3 ["self"] []) :
    ∀ n : Nat, Calm P w K mg base CX0 C "things" (3 * n + 3) ["self"] (spThings C n)
  | 0 => ⟨f3, d3, fn_none fun vs H Q E h => by
      obtain ⟨p, l, us, ws, a, d, ts, z, rest, _, _, _, _, _, _, hn, _⟩ := h
      omega, m3, b3⟩
  | n + 1 => by
    have ih := read_all T S F1 m1 b1 F2 m2 b2 F3 m3 b3 n
    have g1 : Calm P w K mg base CX0 C "plain" (3 * n + 4) ["self"] (spPlain C n) := ⟨f1, d1, ok_plain F1 T S ih, m1, b1⟩
    have g2 : Calm P w K mg base CX0 C "thing" (3 * n + 5) ["self"] (spThing C (n + 1)) := ⟨f2, d2, ok_thing F2 T S g1, m2, b2⟩
    exact ⟨f3, d3, ok_things F3 T S g2, m3, b3⟩
def spWhole (C : Addr) : Sp := fun vs H Q _ => ∃ (p l : Addr) (us : List V) (told : Told) (last : Ts), vs = [.ref p] ∧ RS C H p l us (tokW told last ++ [[]]) 0 0 ∧ RdW told last ∧
  ∀ (H' : Hp) (q fl : Addr) (uu : List V) (u : V), But p H H' → H' q = some (.tup [.ref fl, u]) → H' fl = some (.lst uu) → DsAt H' uu told → TsA H' u last → H fl = none → Q (.ref q) H'
theorem sc_whole : FnScope ["self", "found", "name", "last"] ["self"] (defScope mwhole) := ⟨rfl, rfl, rfl, by decide +kernel, rfl, by decide +kernel, by decide +kernel⟩
theorem tokD_len (p : List Nat × Ts) : (tokD p).length = (toks p.2).length + 3 := by
  unfold tokD
  simp
theorem ok_whole {f : Addr} {fd : FuncData} (F : Fun K "whole" "Reading.whole" mwhole f fd) (T : TX K mg C) (S : Small P w K mg base C) (GT : Calm P w K mg base CX0 C "things" (3 * 4 + 3) ["self"] (spThings C 4)) : FnOk P w K mg base CX0 16 f fd ["self"] (spWhole C) := by
  refine F.ok sc_whole (fun vs H Q E h => ?_) (fun cdv A outer s H vs Q E hr h => ?_)
  · obtain ⟨p, l, us, told, last, rfl, _⟩ := h
    rfl
  obtain ⟨p, l, us, told, last, rfl, R, W, k⟩ := h
  have hr1 : Room 1 (A.deeper (envOfC "Reading.whole" (defScope mwhole) s.heap.objs.size f cdv)) := hr.mono (by omega)
  have hr2 : Room 2 (A.deeper (envOfC "Reading.whole" (defScope mwhole) s.heap.objs.size f cdv)) := hr.mono (by omega)
  refine ⟨_, pss_cons (ps_set (i := 1) sc_whole.nd rfl (Or.inl rfl) (pe_lst pa_nil))
    (pss_cons (ps_while PassesOwn.never (PW.pt (pw_and (pt_val (pe_cal S.isName hr1 pass0 (pa_cons (pe_calm0 S.word (pv 0) T.cl hr1 pass0) pa_nil)))
        (pw_and1 (pt_cmpR op_eq (pe_ix ix_tup (pe_ix ix_list (pe_fld (pv 0) rfl) (pe_op op_add (pe_fld (pv 0) rfl) pe_int) (fun _ _ => rfl)) pe_int (fun _ _ => rfl)) pe_str (nomark _)))))
      (pss_cons (ps_set (i := 2) sc_whole.nd rfl (Or.inl rfl) (pe_calm0 S.take (pv 0) T.cl hr1 pass0))
      (pss_cons (ps_expr (pe_calm0 S.take (pv 0) T.cl hr1 pass0))
      (pss_cons (ps_expr (pe_bm PySem.F.plainAttrs_list PySem.F.slot_list_append PySem.F.type_list_append mt_append (pv 1) (pa_cons (pe_tup (pa_cons (pv 2) (pa_cons (pe_calm0 GT (pv 0) T.cl hr pass0) pa_nil))) pa_nil)))
      (pss_one (ps_expr (pe_calm S.need (pv 0) T.cl hr2 pass0 (pa_cons pe_str pa_nil))))))))
    (pss_cons (ps_set (i := 3) sc_whole.nd rfl (Or.inl rfl) (pe_calm0 GT (pv 0) T.cl hr pass0))
    (pss_cons (ps_if (pt_cmpR op_ne (pe_calm0 S.word (pv 0) T.cl hr1 pass0) pe_str (nomark _)) pss_never pss_nil)
    (pss_one (ps_ret (pe_tup (pa_cons (pv 1) (pa_cons (pv 3) pa_nil)))))))), ?_⟩
  refine ⟨Nat.zero_le _, fun fl hfl => ?_⟩
  have s1 := Same.new hfl (.lst [])
  have nfp : fl ≠ p := fun e => by
    obtain ⟨dx, ho⟩ := R.ob
    rw [e, ho] at hfl
    cases hfl
  have nfl : fl ≠ l := fun e => by
    rw [e, R.ls] at hfl
    cases hfl
  refine ⟨fun m σ H' => ∃ (done todo : Told) (uu : List V) (a' : Nat) (v2 v3 : Option V), m = todo.length ∧ told = done ++ todo ∧ σ = [some (.ref p), some (.ref fl), v2, v3] ∧ RS C H' p l us (tokW told last ++ [[]]) a' 0 ∧ But p H H' ∧ H' fl = some (.lst uu) ∧ DsAt H' uu done ∧ (tokW told last ++ [[]]).drop a' = todo.flatMap tokD ++ (toks last ++ [[]]),
    ⟨_, [], told, [], 0, none, none, rfl, rfl, rfl, R.same s1, Same.but s1, upd_same, rfl, by unfold tokW; simp⟩, fun m σ H' hW => ?_⟩
  obtain ⟨done, todo, uu, a', v2, v3, rfl, hsp, rfl, R2, b2, hF, hu, hw2⟩ := hW
  cases todo with
  | nil =>
    have hw3 : (tokW told last ++ [[]]).drop a' = toks last ++ [] :: [] := hw2
    have fin : ∀ H3, Same H' H3 → (∀ D : Ends, D.rt = Q → tSeq (tAsg (tMeth C "things" (spThings C 4) [] E0 (tVar 0) tNil) (gName 3)) (tSeq (tIfS (tTest (tOp rNe (tMeth C "word" (spWord C) [] E0 (tVar 0) tNil) (tC (V.str (Str.ofString ""))))) tNever tNext) (tRet (tTup (tCons (tVar 1) (tCons (tVar 3) tNil))))) D [some (.ref p), some (.ref fl), v2, v3] H3) := fun H3 s3 D hD => by
      have R3 := R2.same s3
      obtain ⟨l1, l2, l3, l4, l5⟩ := W.la
      refine rd_meth R3 (by decide +kernel) (by decide +kernel) (by decide +kernel) rfl ⟨p, l, us, _, a', 0, last, [], [], rfl, R3, hw3, .inr (.inr (.inr (.inr rfl))), l1, l2, by omega, by omega, l4, l5, fun H4 v4 R4 b4 hv4 => ?_⟩
      refine r_word R4 (drop_get (drop_app hw3)) rfl ⟨rfl, _, rfl, ?_⟩
      rw [empty_is, decide_eq_true rfl]
      refine iteF ⟨_, rfl, _, rfl, line2, fun q hq => ?_⟩
      rw [hD]
      have s4 := Same.new hq (.tup [.ref fl, v4])
      have hF4 := b4 _ _ (s3 _ _ hF) nfp
      have ed : done = told := by rw [hsp, List.append_nil]
      refine k _ q fl uu v4 (((b2.trans (Same.but s3)).trans b4).trans (Same.but s4)) upd_same (s4 _ _ hF4) ?_ (hv4.keep (Same.tk s4)) hfl
      rw [← ed]
      exact DsAt.keep (Same.tk s4) _ _ (DsAt.keep (R3.tk b4) _ _ (DsAt.keep (Same.tk s3) _ _ hu))
    obtain ⟨t0, r0, hl⟩ : ∃ t0 r0, last.list = t0 :: r0 := by
      have e := Ts.len_list last
      cases h : last.list with
      | nil => rw [h] at e; exact absurd e.symm W.la.ne
      | cons t r => exact ⟨t, r, rfl⟩
    obtain ⟨z, r, e, hs⟩ := tok_start t0 (pOks_mem last W.la.ok t0 (by rw [hl]; exact List.mem_cons_self))
    have etl : toks last = z :: (r ++ r0.flatMap tok) := by
      rw [toks_flat, hl, List.flatMap_cons, e]
      rfl
    have g0 : (tokW told last ++ [[]]).drop a' = z :: ((r ++ r0.flatMap tok) ++ [[]]) := by rw [hw3, etl]; rfl
    have g := drop_get g0
    rcases hs with hs | hs
    · refine r_word R2 g rfl ⟨z, rfl, by have := hs.2.1; omega, _, rfl, ?_⟩
      rw [isName_ok hs]
      obtain ⟨z5, hz5⟩ : ∃ z5, (tokW told last ++ [[]])[a' + 1]? = some z5 ∧ z5 ≠ [61] := by
        have d1 := drop_succ g0
        have no := eq_not_toks last W.la.ok
        rw [etl] at no
        cases h : r ++ r0.flatMap tok with
        | nil =>
          rw [h] at d1
          exact ⟨[], drop_get d1, by decide⟩
        | cons y q =>
          rw [h] at d1 no
          refine ⟨y, drop_get d1, fun e => no ?_⟩
          rw [e]
          simp
      obtain ⟨dx, ho⟩ := R2.ob
      obtain ⟨b, pl, hub, hb⟩ := WAt.get _ us R2.wd (a' + 1) z5 hz5.1
      refine iteT ⟨_, rfl, p, C, dx, _, _, rfl, ho, T.cl, T.nW, rd_words _ _ _, _, rfl, p, C, dx, _, _, rfl, ho, T.cl, T.nA, rd_at _ _ _, _, _, rfl, rfl, l, us, _, _, rfl, rfl, SqL.of R2.ls, at_of (j := a' + 1) (by omega) hub, b, _, _, _, rfl, rfl, SqT.of hb, at_get (a := 0) rfl, rfl, _, rfl, ?_⟩
      rw [k61, dec_mk, decide_eq_false hz5.2]
      exact iteF (fin _ (Same.refl _) _ rfl)
    · have hno : isName z = false ∧ z.length ≤ 2 := by
        rcases hs with ⟨i, hi, e⟩ | e | e
        · rw [e]; exact ⟨isName_no (fig_not_letter (numC_head hi)), numC_len i⟩
        · rw [e]; exact ⟨by decide, by decide⟩
        · rw [e]; exact ⟨by decide, by decide⟩
      refine r_word R2 g rfl ⟨z, rfl, by have := hno.2; omega, _, rfl, ?_⟩
      rw [hno.1]
      exact iteF (iteF (fin _ (Same.refl _) _ rfl))
  | cons q r =>
    have hq : q ∈ told := by rw [hsp]; simp
    obtain ⟨hnm, l1, l2, l3, l4, l5⟩ := W.ts q hq
    have w0 : (tokW told last ++ [[]]).drop a' = q.1 :: [61] :: (toks q.2 ++ [59] :: (r.flatMap tokD ++ (toks last ++ [[]]))) := by
      rw [hw2, List.flatMap_cons]
      unfold tokD
      simp
    have g := drop_get w0
    refine r_word R2 g rfl ⟨q.1, rfl, by have := hnm.2.1; omega, _, rfl, ?_⟩
    rw [isName_ok hnm]
    obtain ⟨dx, ho⟩ := R2.ob
    obtain ⟨b, pl, hub, hb⟩ := WAt.get _ us R2.wd (a' + 1) _ (drop_get (drop_succ w0))
    refine iteT ⟨_, rfl, p, C, dx, _, _, rfl, ho, T.cl, T.nW, rd_words _ _ _, _, rfl, p, C, dx, _, _, rfl, ho, T.cl, T.nA, rd_at _ _ _, _, _, rfl, rfl, l, us, _, _, rfl, rfl, SqL.of R2.ls, at_of (j := a' + 1) (by omega) hub, b, _, _, _, rfl, rfl, SqT.of hb, at_get (a := 0) rfl, rfl, _, rfl, ?_⟩
    rw [k61, dec_mk, decide_eq_true rfl]
    refine iteT ⟨fun σ' H2 => ∃ (uu2 : List V) (a2 : Nat) (v2 v3 : Option V), σ' = [some (.ref p), some (.ref fl), v2, v3] ∧ RS C H2 p l us (tokW told last ++ [[]]) a2 0 ∧ But p H H2 ∧ H2 fl = some (.lst uu2) ∧ DsAt H2 uu2 (done ++ [q]) ∧ (tokW told last ++ [[]]).drop a2 = r.flatMap tokD ++ (toks last ++ [[]]),
      fun σ' H2 ⟨uu2, a2, v2, v3, c1, c2, c3, c4, c5, c6⟩ => ⟨r.length, by simp, done ++ [q], r, uu2, a2, v2, v3, rfl, by rw [hsp]; simp, c1, c2, c3, c4, c5, c6⟩, ?_⟩
    refine r_take R2 g rfl fun H3 R3 b3 => ?_
    refine r_take R3 (drop_get (drop_succ w0)) rfl fun H4 R4 b4 => ?_
    have hF4 := b4 _ _ (b3 _ _ hF nfp) nfp
    refine ⟨_, rfl, .inl ⟨rfl, _, SqL.of hF4⟩, ?_⟩
    refine ⟨_, rfl, rd_meth R4 (by decide +kernel) (by decide +kernel) (by decide +kernel) rfl ⟨p, l, us, _, a' + 1 + 1, 0, q.2, [59], _, rfl, R4, drop_succ (drop_succ w0), .inr (.inr (.inr (.inl rfl))), l1, l2, by omega, by omega, l4, l5, fun H5 v5 R5 b5 hv5 => ⟨line2, fun o ho5 => ?_⟩⟩⟩
    have s5 := Same.new ho5 (.tup [.str (mk q.1), v5])
    have hF5 := s5 _ _ (b5 _ _ hF4 nfp)
    have hsz : uu.length ≤ 1000 := by
      have h1 := DsAt.len _ _ hu
      have h2 := congrArg List.length hsp
      rw [List.length_append] at h2
      have := W.ln
      omega
    refine ⟨fl, _, _, rfl, rfl, hF5, small1000 hsz, ?_⟩
    have tk6 : TK (upd H5 o (.tup [.str (mk q.1), v5])) (upd (upd H5 o (.tup [.str (mk q.1), v5])) fl (.lst (uu ++ [.ref o]))) := TK.upd _ fun xs e => by rw [hF5] at e; cases e
    have R6 := (R5.same s5).other (.lst (uu ++ [.ref o])) nfp nfl (fun xs e => by rw [hF5] at e; cases e)
    refine r_need R6 k59 (drop_get (drop_app (drop_succ (drop_succ w0)))) rfl fun H7 R7 b7 => ?_
    refine ⟨uu ++ [.ref o], _, _, _, rfl, R7, fun x u e nb => ?_, b7 _ _ upd_same nfp, ?_, drop_succ (drop_app (drop_succ (drop_succ w0)))⟩
    · have nbf : x ≠ fl := fun z => by rw [z, hfl] at e; cases e
      exact b7 _ _ (by rw [upd_ne nbf]; exact s5 _ _ (b5 _ _ (b4 _ _ (b3 _ _ (b2 _ _ e nb) nb) nb) nb)) nb
    · refine DsAt.snoc ?_ _ _ ?_
      · have nof : o ≠ fl := fun z => by
          have q2 := b5 _ _ hF4 nfp
          rw [← z, ho5] at q2
          cases q2
        refine ⟨o, v5, rfl, (R6.tk b7) _ _ ?_, ((hv5.keep (Same.tk s5)).keep tk6).keep (R6.tk b7)⟩
        rw [upd_ne nof, upd_same]
      · exact DsAt.keep (R6.tk b7) _ _ (DsAt.keep tk6 _ _ (DsAt.keep (Same.tk s5) _ _ (DsAt.keep (R4.tk b5) _ _ (DsAt.keep (R3.tk b4) _ _ (DsAt.keep (R2.tk b3) _ _ hu)))))
end
end KW
set_option Elab.async false
set_option linter.all false
set_option maxRecDepth 100000
set_option maxHeartbeats 4000000
/-! need_thing, need_things. -/
namespace KW
open PySem PySem.Spec PyProof.Rows L2 KM
theorem e_name_name : decide (V.str (Str.ofString "name") = V.str (Str.ofString "name")) = true := by decide +kernel
theorem e_name_node : decide (V.str (Str.ofString "name") = V.str (Str.ofString "node")) = false := by decide +kernel
theorem e_name_back : decide (V.str (Str.ofString "name") = V.str (Str.ofString "back")) = false := by decide +kernel
theorem e_name_times : decide (V.str (Str.ofString "name") = V.str (Str.ofString "times")) = false := by decide +kernel
theorem e_name_row : decide (V.str (Str.ofString "name") = V.str (Str.ofString "row")) = false := by decide +kernel
theorem i_name_back : (decide (Str.ofString "name" = Str.ofString "back") || decide (Str.ofString "name" = Str.ofString "times")) = false := by decide +kernel
theorem i_name_row : (decide (Str.ofString "name" = Str.ofString "row") || decide (Str.ofString "name" = Str.ofString "round")) = false := by decide +kernel
theorem i_name_name : (decide (Str.ofString "name" = Str.ofString "name") || decide (Str.ofString "name" = Str.ofString "node")) = true := by decide +kernel
theorem e_node_name : decide (V.str (Str.ofString "node") = V.str (Str.ofString "name")) = false := by decide +kernel
theorem e_node_node : decide (V.str (Str.ofString "node") = V.str (Str.ofString "node")) = true := by decide +kernel
theorem e_node_back : decide (V.str (Str.ofString "node") = V.str (Str.ofString "back")) = false := by decide +kernel
theorem e_node_times : decide (V.str (Str.ofString "node") = V.str (Str.ofString "times")) = false := by decide +kernel
theorem e_node_row : decide (V.str (Str.ofString "node") = V.str (Str.ofString "row")) = false := by decide +kernel
theorem i_node_back : (decide (Str.ofString "node" = Str.ofString "back") || decide (Str.ofString "node" = Str.ofString "times")) = false := by decide +kernel
theorem i_node_row : (decide (Str.ofString "node" = Str.ofString "row") || decide (Str.ofString "node" = Str.ofString "round")) = false := by decide +kernel
theorem i_node_name : (decide (Str.ofString "node" = Str.ofString "name") || decide (Str.ofString "node" = Str.ofString "node")) = true := by decide +kernel
theorem e_back_name : decide (V.str (Str.ofString "back") = V.str (Str.ofString "name")) = false := by decide +kernel
theorem e_back_node : decide (V.str (Str.ofString "back") = V.str (Str.ofString "node")) = false := by decide +kernel
theorem e_back_back : decide (V.str (Str.ofString "back") = V.str (Str.ofString "back")) = true := by decide +kernel
theorem e_back_times : decide (V.str (Str.ofString "back") = V.str (Str.ofString "times")) = false := by decide +kernel
theorem e_back_row : decide (V.str (Str.ofString "back") = V.str (Str.ofString "row")) = false := by decide +kernel
theorem i_back_back : (decide (Str.ofString "back" = Str.ofString "back") || decide (Str.ofString "back" = Str.ofString "times")) = true := by decide +kernel
theorem i_back_row : (decide (Str.ofString "back" = Str.ofString "row") || decide (Str.ofString "back" = Str.ofString "round")) = false := by decide +kernel
theorem i_back_name : (decide (Str.ofString "back" = Str.ofString "name") || decide (Str.ofString "back" = Str.ofString "node")) = false := by decide +kernel
theorem e_times_name : decide (V.str (Str.ofString "times") = V.str (Str.ofString "name")) = false := by decide +kernel
theorem e_times_node : decide (V.str (Str.ofString "times") = V.str (Str.ofString "node")) = false := by decide +kernel
theorem e_times_back : decide (V.str (Str.ofString "times") = V.str (Str.ofString "back")) = false := by decide +kernel
theorem e_times_times : decide (V.str (Str.ofString "times") = V.str (Str.ofString "times")) = true := by decide +kernel
theorem e_times_row : decide (V.str (Str.ofString "times") = V.str (Str.ofString "row")) = false := by decide +kernel
theorem i_times_back : (decide (Str.ofString "times" = Str.ofString "back") || decide (Str.ofString "times" = Str.ofString "times")) = true := by decide +kernel
theorem i_times_row : (decide (Str.ofString "times" = Str.ofString "row") || decide (Str.ofString "times" = Str.ofString "round")) = false := by decide +kernel
theorem i_times_name : (decide (Str.ofString "times" = Str.ofString "name") || decide (Str.ofString "times" = Str.ofString "node")) = false := by decide +kernel
theorem e_row_name : decide (V.str (Str.ofString "row") = V.str (Str.ofString "name")) = false := by decide +kernel
theorem e_row_node : decide (V.str (Str.ofString "row") = V.str (Str.ofString "node")) = false := by decide +kernel
theorem e_row_back : decide (V.str (Str.ofString "row") = V.str (Str.ofString "back")) = false := by decide +kernel
theorem e_row_times : decide (V.str (Str.ofString "row") = V.str (Str.ofString "times")) = false := by decide +kernel
theorem e_row_row : decide (V.str (Str.ofString "row") = V.str (Str.ofString "row")) = true := by decide +kernel
theorem i_row_back : (decide (Str.ofString "row" = Str.ofString "back") || decide (Str.ofString "row" = Str.ofString "times")) = false := by decide +kernel
theorem i_row_row : (decide (Str.ofString "row" = Str.ofString "row") || decide (Str.ofString "row" = Str.ofString "round")) = true := by decide +kernel
theorem i_row_name : (decide (Str.ofString "row" = Str.ofString "name") || decide (Str.ofString "row" = Str.ofString "node")) = false := by decide +kernel
theorem e_round_name : decide (V.str (Str.ofString "round") = V.str (Str.ofString "name")) = false := by decide +kernel
theorem e_round_node : decide (V.str (Str.ofString "round") = V.str (Str.ofString "node")) = false := by decide +kernel
theorem e_round_back : decide (V.str (Str.ofString "round") = V.str (Str.ofString "back")) = false := by decide +kernel
theorem e_round_times : decide (V.str (Str.ofString "round") = V.str (Str.ofString "times")) = false := by decide +kernel
theorem e_round_row : decide (V.str (Str.ofString "round") = V.str (Str.ofString "row")) = false := by decide +kernel
theorem i_round_back : (decide (Str.ofString "round" = Str.ofString "back") || decide (Str.ofString "round" = Str.ofString "times")) = false := by decide +kernel
theorem i_round_row : (decide (Str.ofString "round" = Str.ofString "row") || decide (Str.ofString "round" = Str.ofString "round")) = true := by decide +kernel
theorem i_round_name : (decide (Str.ofString "round" = Str.ofString "name") || decide (Str.ofString "round" = Str.ofString "node")) = false := by decide +kernel
theorem cut_one (xs : List V) (h : xs ≠ []) : cutV xs (some 1) none = xs.drop 1 := by
  unfold cutV
  rw [show HT.sIx xs.length 0 (some 1) = min 1 xs.length from HT.sIx_nat xs.length 0 1, HT.sIx_none]
  cases xs with
  | nil => exact absurd rfl h
  | cons x r =>
    rw [show min 1 (x :: r).length = 1 by
      rw [List.length_cons]
      omega]
    show (List.take ((x :: r).length - 1) r) = r
    rw [List.length_cons, Nat.add_sub_cancel]
    exact List.take_length
theorem not_whole (x : V) (xs : List V) : ¬ (HT.sIx (x :: xs).length 0 (some 1) = 0 ∧ HT.sIx (x :: xs).length (x :: xs).length none = (x :: xs).length) := fun h => by
  have e : HT.sIx (x :: xs).length 0 (some 1) = min 1 (x :: xs).length := HT.sIx_nat (x :: xs).length 0 1
  rw [e, List.length_cons] at h
  omega
theorem inV_mem {s : List Nat} {N : List (List Nat)} (h : s ∈ N) : inV (.str (mk s)) (N.map fun z => V.str (mk z)) = true := by
  unfold inV
  rw [List.any_eq_true]
  refine ⟨_, List.mem_map.mpr ⟨s, h, rfl⟩, ?_⟩
  show (mk s == mk s) = true
  simp
theorem all_flat (N : List (List Nat)) : (N.map fun z => V.str (mk z)).all flatV = true := by
  rw [List.all_eq_true]
  intro x hx
  obtain ⟨z, _, rfl⟩ := List.mem_map.mp hx
  rfl
def spNeedT (K : PySem.W.Frag) (k : Nat) : Sp := fun vs H Q _ => ∃ (la : Addr) (N : List (List Nat)) (nv v : V) (n : Nat) (t : KM.T), vs = [.ref la, nv, v] ∧ SqL K H la (N.map fun z => V.str (mk z)) ∧ (nv = .non ∨ nv = .int (n : Int)) ∧ TAt H v t ∧ vOk N n t ∧ hgt t ≤ k ∧ ∀ H', Same H H' → Q .non H'
def spNeedTs (K : PySem.W.Frag) (k : Nat) : Sp := fun vs H Q _ => ∃ (la : Addr) (N : List (List Nat)) (nv v : V) (n : Nat) (ts : Ts), vs = [.ref la, nv, v] ∧ SqL K H la (N.map fun z => V.str (mk z)) ∧ (nv = .non ∨ nv = .int (n : Int)) ∧ TsA H v ts ∧ vOks N n ts ∧ hgts ts ≤ k ∧ ∀ H', Same H H' → Q .non H'
theorem hgt_pos : ∀ t : KM.T, 1 ≤ hgt t
  | .name _ => by simp only [hgt]; omega
  | .node _ => by simp only [hgt]; omega
  | .back _ => by simp only [hgt]; omega
  | .times _ _ => by simp only [hgt]; omega
  | .row _ => by simp only [hgt]; omega
  | .round _ _ => by simp only [hgt]; omega
theorem hgts_pos : ∀ t : Ts, 2 ≤ hgts t
  | .nil => by simp only [hgts]; omega
  | .cons t r => by have := hgts_pos r; simp only [hgts]; omega
theorem vOks_mem {N : List (List Nat)} {n : Nat} : ∀ (ts : Ts), vOks N n ts → ∀ t ∈ ts.list, vOk N n t
  | .nil, _, t, h => by cases h
  | .cons x r, hp, t, h => by
    simp only [vOks] at hp
    rcases List.mem_cons.mp h with e | e
    · rw [e]; exact hp.1
    · exact vOks_mem r hp.2 t e
theorem hgts_mem : ∀ (ts : Ts), ∀ t ∈ ts.list, hgt t + 1 ≤ hgts ts
  | .nil, t, h => by cases h
  | .cons x r, t, h => by
    simp only [hgts]
    rcases List.mem_cons.mp h with e | e
    · rw [e]; omega
    · have := hgts_mem r t e; omega
section
variable {P : Program} {w : World} {K : PySem.W.Frag} {mg : Str → Option Value} {base : Heap} {C : Addr}
theorem sc_need_things : FnScope ["names", "n", "things", "thing"] ["names", "n", "things"] (defScope sneed_things) := ⟨rfl, rfl, rfl, by decide +kernel, rfl, by decide +kernel, by decide +kernel⟩
theorem ok_need_things {f : Addr} {fd : FuncData} {k : Nat} (F : Fun K "need_things" "need_things" sneed_things f fd) (G : Cal P w K mg base CX0 "need_thing" k ["names", "n", "thing"] (spNeedT K k)) : FnOk P w K mg base CX0 (k + 1) f fd ["names", "n", "things"] (spNeedTs K (k + 1)) := by
  refine F.ok sc_need_things (fun vs H Q E h => ?_) (fun cdv A outer s H vs Q E hr h => ?_)
  · obtain ⟨la, N, nv, v, n, ts, rfl, _⟩ := h
    rfl
  obtain ⟨la, N, nv, v, n, ts, rfl, hN, hnv, ⟨a, us, rfl, hT, hts⟩, hv, hh, q⟩ := h
  refine ⟨_, pss_one (ps_for PassesOwn.never rfl (pi_tup (pv 2)) (pg_name (i := 3) sc_need_things.nd rfl (Or.inl rfl)) (pss_one (ps_expr (pe_cal G hr pass0 (pa_cons (pv 0) (pa_cons (pv 1) (pa_cons (pv 3) pa_nil))))))), ?_⟩
  refine ⟨_, rfl, a, rfl, ⟨us, SqT.of hT⟩, for_tup (K := K) (a := a) (xs := us) (fun i σ H' => ∃ v3 : Option V, σ = [some (.ref la), some nv, some (.ref a), v3] ∧ Same H H')
    ⟨none, rfl, Same.refl H⟩ (fun i σ H' _ ⟨_, _, s1⟩ => SqT.of (s1 _ _ hT)) ?_ ?_⟩
  · rintro i x σ H' hx ⟨v3, rfl, s1⟩
    obtain ⟨t, ht, hu⟩ := TsAt.get ts us hts i x hx
    have hm := List.mem_of_getElem? ht
    refine ⟨_, rfl, _, rfl, _, rfl, la, N, nv, x, n, t, rfl, s1.seq hN, hnv, TAt.keep (Same.tk s1) _ _ hu, vOks_mem ts hv t hm, by have := hgts_mem ts t hm; omega, fun H2 s2 => ⟨some x, rfl, s1.trans s2⟩⟩
  · rintro σ H' ⟨v3, rfl, s1⟩
    exact q _ s1
theorem sc_need_thing : FnScope ["names", "n", "thing", "word", "things"] ["names", "n", "thing"] (defScope sneed_thing) := ⟨rfl, rfl, rfl, by decide +kernel, rfl, by decide +kernel, by decide +kernel⟩
theorem ok_need_thing {f : Addr} {fd : FuncData} {k : Nat} (F : Fun K "need_thing" "need_thing" sneed_thing f fd) (G : Cal P w K mg base CX0 "need_thing" k ["names", "n", "thing"] (spNeedT K k)) (Gs : Cal P w K mg base CX0 "need_things" k ["names", "n", "things"] (spNeedTs K k)) : FnOk P w K mg base CX0 (k + 1) f fd ["names", "n", "thing"] (spNeedT K (k + 1)) := by
  refine F.ok sc_need_thing (fun vs H Q E h => ?_) (fun cdv A outer s H vs Q E hr h => ?_)
  · obtain ⟨la, N, nv, v, n, t, rfl, _⟩ := h
    rfl
  obtain ⟨la, N, nv, v, n, t, rfl, hN, hnv, hT, hv, hh, q⟩ := h
  refine ⟨_, pss_cons (ps_set (i := 3) sc_need_thing.nd rfl (Or.inl rfl) (pe_ix ix_tup (pv 2) pe_int (fun _ _ => rfl)))
    (pss_cons (ps_if (PW.pt (pw_and (pt_cmpR op_eq (pv 3) pe_str (nomark _)) (pw_and1 (pt_cmpR op_notIn_seq (pe_ix ix_tup (pv 2) pe_int (fun _ _ => rfl)) (pv 0) rfl)))) pss_never pss_nil)
    (pss_cons (ps_if (PW.pt (pw_and (pt_cmpR op_eq (pv 3) pe_str (nomark _)) (pw_and (pt_cmpR op_notN (pv 1) pe_non (nomark _)) (pw_and1 (pt_cmpR op_ge (pe_ix ix_tup (pv 2) pe_int (fun _ _ => rfl)) (pv 1) (nomark _)))))) pss_never pss_nil)
    (pss_cons (ps_if (pt_in2 (pv 3)) (pss_one (ps_expr (pe_cal G hr pass0 (pa_cons (pv 0) (pa_cons (pv 1) (pa_cons (pe_ix ix_tup (pv 2) pe_int (fun _ _ => rfl)) pa_nil)))))) pss_nil)
    (pss_one (ps_if (pt_in2 (pv 3)) (pss_one (ps_for PassesOwn.never rfl (pi_tup (pe_slice sl_tup (pv 2) (po_some pe_int) po_none)) (pg_name (i := 4) sc_need_thing.nd rfl (Or.inl rfl))
      (pss_one (ps_expr (pe_cal Gs hr pass0 (pa_cons (pv 0) (pa_cons (pv 1) (pa_cons (pv 4) pa_nil)))))))) pss_nil))))), ?_⟩
  cases t with
  | name s =>
    simp only [TAt] at hT
    simp only [vOk] at hv
    obtain ⟨a, rfl, ha⟩ := hT
    refine ⟨_, rfl, a, _, _, _, rfl, rfl, SqT.of ha, at_get (a := 0) rfl, ?_⟩
    refine ⟨_, rfl, rfl, _, rfl, ?_⟩
    rw [e_name_name]
    refine iteT ⟨_, rfl, a, _, _, _, rfl, rfl, SqT.of ha, at_get (a := 1) rfl, _, rfl, la, _, rfl, .inl hN, rfl, all_flat N, _, rfl, ?_⟩
    rw [if_pos rfl, inV_mem hv]
    refine iteF ⟨_, rfl, rfl, _, rfl, ?_⟩
    rw [e_name_node]
    refine iteF (iteF ⟨_, rfl, _, rfl, fun H2 s2 => ?_⟩)
    rw [i_name_back]
    refine iteF ⟨_, rfl, _, rfl, fun H3 s3 => ?_⟩
    rw [i_name_row]
    exact iteF (q _ (s2.trans s3))
  | node i =>
    simp only [TAt] at hT
    simp only [vOk] at hv
    obtain ⟨a, rfl, ha⟩ := hT
    refine ⟨_, rfl, a, _, _, _, rfl, rfl, SqT.of ha, at_get (a := 0) rfl, ?_⟩
    refine ⟨_, rfl, rfl, _, rfl, ?_⟩
    rw [e_node_name]
    refine iteF (iteF ?_)
    dsimp only [tNext]
    refine jnI (fun σ' H' => σ' = [some (.ref la), some nv, some (.ref a), some (.str (Str.ofString "node")), none] ∧ H = H') ?_ fun fin => ?_
    · rintro σ' H' ⟨rfl, rfl⟩
      refine ⟨_, rfl, _, rfl, fun H2 s2 => ?_⟩
      rw [i_node_back]
      refine iteF ⟨_, rfl, _, rfl, fun H3 s3 => ?_⟩
      rw [i_node_row]
      exact iteF (q _ (s2.trans s3))
    refine ⟨_, rfl, rfl, _, rfl, ?_⟩
    rw [e_node_node]
    refine iteT ⟨_, rfl, rfl, _, rfl, ?_⟩
    rcases hnv with rfl | rfl
    · rw [show decide (V.non = V.non) = true from decide_eq_true rfl]
      exact iteF (iteF (fin _ _ ⟨rfl, rfl⟩))
    · rw [show decide (V.int (n : Int) = V.non) = false from decide_eq_false (by intro z; cases z)]
      refine iteT ⟨_, rfl, a, _, _, _, rfl, rfl, SqT.of ha, at_get (a := 1) rfl, _, rfl, _, _, rfl, rfl, _, rfl, ?_⟩
      rw [decide_eq_false (by omega : ¬ (n : Int) ≤ (i : Int))]
      exact iteF (fin _ _ ⟨rfl, rfl⟩)
  | back t =>
    simp only [TAt] at hT
    simp only [vOk] at hv
    simp only [hgt] at hh
    obtain ⟨a, u, rfl, ha, hu⟩ := hT
    refine ⟨_, rfl, a, _, _, _, rfl, rfl, SqT.of ha, at_get (a := 0) rfl, ?_⟩
    refine ⟨_, rfl, rfl, _, rfl, ?_⟩
    rw [e_back_name]
    refine iteF (iteF ⟨_, rfl, rfl, _, rfl, ?_⟩)
    rw [e_back_node]
    refine iteF (iteF ⟨_, rfl, _, rfl, fun H2 s2 => ?_⟩)
    rw [i_back_back]
    refine iteT ⟨_, rfl, _, rfl, _, rfl, a, _, _, _, rfl, rfl, SqT.of (s2 _ _ ha), at_get (a := 1) rfl, la, N, nv, u, n, t, rfl, s2.seq hN, hnv, TAt.keep (Same.tk s2) _ _ hu, hv, by omega, fun H3 s3 => ?_⟩
    refine ⟨_, rfl, _, rfl, fun H4 s4 => ?_⟩
    rw [i_back_row]
    exact iteF (q _ ((s2.trans s3).trans s4))
  | times t j =>
    simp only [TAt] at hT
    simp only [vOk] at hv
    simp only [hgt] at hh
    obtain ⟨a, u, rfl, ha, hu⟩ := hT
    refine ⟨_, rfl, a, _, _, _, rfl, rfl, SqT.of ha, at_get (a := 0) rfl, ?_⟩
    refine ⟨_, rfl, rfl, _, rfl, ?_⟩
    rw [e_times_name]
    refine iteF (iteF ⟨_, rfl, rfl, _, rfl, ?_⟩)
    rw [e_times_node]
    refine iteF (iteF ⟨_, rfl, _, rfl, fun H2 s2 => ?_⟩)
    rw [i_times_back]
    refine iteT ⟨_, rfl, _, rfl, _, rfl, a, _, _, _, rfl, rfl, SqT.of (s2 _ _ ha), at_get (a := 1) rfl, la, N, nv, u, n, t, rfl, s2.seq hN, hnv, TAt.keep (Same.tk s2) _ _ hu, hv, by omega, fun H3 s3 => ?_⟩
    refine ⟨_, rfl, _, rfl, fun H4 s4 => ?_⟩
    rw [i_times_row]
    exact iteF (q _ ((s2.trans s3).trans s4))
  | row ts =>
    simp only [TAt] at hT
    simp only [vOk] at hv
    simp only [hgt] at hh
    obtain ⟨a, b, us, rfl, ha, hb, hu⟩ := hT
    refine ⟨_, rfl, a, _, _, _, rfl, rfl, SqT.of ha, at_get (a := 0) rfl, ?_⟩
    refine ⟨_, rfl, rfl, _, rfl, ?_⟩
    rw [e_row_name]
    refine iteF (iteF ⟨_, rfl, rfl, _, rfl, ?_⟩)
    rw [e_row_node]
    refine iteF (iteF ⟨_, rfl, _, rfl, fun H2 s2 => ?_⟩)
    rw [i_row_back]
    refine iteF ⟨_, rfl, _, rfl, fun H3 s3 => ?_⟩
    rw [i_row_row]
    have ha3 := s3 _ _ (s2 _ _ ha)
    refine iteT ⟨_, rfl, 1, rfl, a, _, rfl, SqT.of ha3, not_whole _ _, fun c hc => ?_⟩
    have s4 := Same.new hc (.tup (cutV [.str (Str.ofString "row"), .ref b] (some 1) none))
    have s14 := (s2.trans s3).trans s4
    have hcc : (upd H3 c (.tup (cutV [.str (Str.ofString "row"), .ref b] (some 1) none))) c = some (.tup [.ref b]) := by
      rw [upd_same, cut_one _ (List.cons_ne_nil _ _)]
      rfl
    refine ⟨c, rfl, ⟨_, SqT.of hcc⟩, for_tup (K := K) (a := c) (xs := [.ref b]) (fun i σ H' => ∃ v4 : Option V, σ = [some (.ref la), some nv, some (.ref a), some (.str (Str.ofString "row")), v4] ∧ Same (upd H3 c (.tup (cutV [.str (Str.ofString "row"), .ref b] (some 1) none))) H')
      ⟨_, rfl, Same.refl _⟩ (fun i σ H' _ ⟨_, _, s1⟩ => SqT.of (s1 _ _ hcc)) ?_ ?_⟩
    · rintro i x σ H' hx ⟨v4, rfl, s5⟩
      match i, hx with
      | 0, hx =>
        have ex : V.ref b = x := Option.some.inj hx
        subst ex
        have s15 := s14.trans s5
        exact ⟨_, rfl, _, rfl, _, rfl, la, N, nv, .ref b, n, ts, rfl, s15.seq hN, hnv, ⟨b, us, rfl, s15 _ _ hb, TsAt.keep (Same.tk s15) _ _ hu⟩, hv, by omega, fun H6 s6 => ⟨_, rfl, s5.trans s6⟩⟩
      | i + 1, hx => cases hx
    · rintro σ H' ⟨v4, rfl, s5⟩
      exact q _ (s14.trans s5)
  | round x y =>
    simp only [TAt] at hT
    simp only [vOk] at hv
    simp only [hgt] at hh
    obtain ⟨a, b, b2, us, ws, rfl, ha, ⟨hb, hu⟩, hb2, hu2⟩ := hT
    refine ⟨_, rfl, a, _, _, _, rfl, rfl, SqT.of ha, at_get (a := 0) rfl, ?_⟩
    refine ⟨_, rfl, rfl, _, rfl, ?_⟩
    rw [e_round_name]
    refine iteF (iteF ⟨_, rfl, rfl, _, rfl, ?_⟩)
    rw [e_round_node]
    refine iteF (iteF ⟨_, rfl, _, rfl, fun H2 s2 => ?_⟩)
    rw [i_round_back]
    refine iteF ⟨_, rfl, _, rfl, fun H3 s3 => ?_⟩
    rw [i_round_row]
    have ha3 := s3 _ _ (s2 _ _ ha)
    refine iteT ⟨_, rfl, 1, rfl, a, _, rfl, SqT.of ha3, not_whole _ _, fun c hc => ?_⟩
    have s4 := Same.new hc (.tup (cutV [.str (Str.ofString "round"), .ref b, .ref b2] (some 1) none))
    have s14 := (s2.trans s3).trans s4
    have hcc : (upd H3 c (.tup (cutV [.str (Str.ofString "round"), .ref b, .ref b2] (some 1) none))) c = some (.tup [.ref b, .ref b2]) := by
      rw [upd_same, cut_one _ (List.cons_ne_nil _ _)]
      rfl
    refine ⟨c, rfl, ⟨_, SqT.of hcc⟩, for_tup (K := K) (a := c) (xs := [.ref b, .ref b2]) (fun i σ H' => ∃ v4 : Option V, σ = [some (.ref la), some nv, some (.ref a), some (.str (Str.ofString "round")), v4] ∧ Same (upd H3 c (.tup (cutV [.str (Str.ofString "round"), .ref b, .ref b2] (some 1) none))) H')
      ⟨_, rfl, Same.refl _⟩ (fun i σ H' _ ⟨_, _, s1⟩ => SqT.of (s1 _ _ hcc)) ?_ ?_⟩
    · rintro i z σ H' hx ⟨v4, rfl, s5⟩
      have s15 := s14.trans s5
      match i, hx with
      | 0, hx =>
        have ex : V.ref b = z := Option.some.inj hx
        subst ex
        exact ⟨_, rfl, _, rfl, _, rfl, la, N, nv, .ref b, n, x, rfl, s15.seq hN, hnv, ⟨b, us, rfl, s15 _ _ hb, TsAt.keep (Same.tk s15) _ _ hu⟩, hv.1, by omega, fun H6 s6 => ⟨_, rfl, s5.trans s6⟩⟩
      | 1, hx =>
        have ex : V.ref b2 = z := Option.some.inj hx
        subst ex
        exact ⟨_, rfl, _, rfl, _, rfl, la, N, nv, .ref b2, n, y, rfl, s15.seq hN, hnv, ⟨b2, ws, rfl, s15 _ _ hb2, TsAt.keep (Same.tk s15) _ _ hu2⟩, hv.2, by omega, fun H6 s6 => ⟨_, rfl, s5.trans s6⟩⟩
      | i + 2, hx => cases hx
    · rintro σ H' ⟨v4, rfl, s5⟩
      exact q _ (s14.trans s5)
theorem need_all {f1 f2 : Addr} {d1 d2 : FuncData} (F1 : Fun K "need_thing" "need_thing" sneed_thing f1 d1) (m1 : mg "need_thing" = some (.ref f1)) (b1 : Binds K d1 ["names", "n", "thing"] [])
    (F2 : Fun K "need_things" "need_things" sneed_things f2 d2) (m2 : mg "need_things" = some (.ref f2)) (b2 : Binds K d2 ["names", "n", "things"] []) :
    ∀ k : Nat, Cal P w K mg base CX0 "need_thing" k ["names", "n", "thing"] (spNeedT K k) ∧ Cal P w K mg base CX0 "need_things" k ["names", "n", "things"] (spNeedTs K k)
  | 0 => ⟨⟨f1, d1, fn_none fun vs H Q E h => by
      obtain ⟨la, N, nv, v, n, t, _, _, _, _, _, hh, _⟩ := h
      have := hgt_pos t
      omega, m1, F1.kp, b1⟩, ⟨f2, d2, fn_none fun vs H Q E h => by
      obtain ⟨la, N, nv, v, n, t, _, _, _, _, _, hh, _⟩ := h
      have := hgts_pos t
      omega, m2, F2.kp, b2⟩⟩
  | k + 1 => by
    obtain ⟨g1, g2⟩ := need_all F1 m1 b1 F2 m2 b2 k
    exact ⟨⟨f1, d1, ok_need_thing F1 g1 g2, m1, F1.kp, b1⟩, ⟨f2, d2, ok_need_things F2 g1, m2, F2.kp, b2⟩⟩
end
end KW
set_option Elab.async false
set_option linter.all false
set_option maxRecDepth 100000
set_option maxHeartbeats 4000000
/-! tree_of, printed and its texts. -/
namespace KW
open PySem PySem.Spec PyProof.Rows L2 KM
/-- no name is told twice, each is told ahead, nodes are below n -/
def chkW (n : Nat) : List (List Nat) → Told → Ts → Prop
  | N, [], last => vOks N n last
  | N, p :: r, last => p.1 ∉ N ∧ vOks N n p.2 ∧ chkW n (N ++ [p.1]) r last
theorem chkW_split {n : Nat} {last : Ts} : ∀ (done todo : Told) (N : List (List Nat)), chkW n N (done ++ todo) last → chkW n (N ++ done.map (·.1)) todo last
  | [], todo, N, h => by simpa using h
  | p :: r, todo, N, h => by
    have := chkW_split r todo (N ++ [p.1]) h.2.2
    simpa using this
theorem inV_not {s : List Nat} {N : List (List Nat)} (h : s ∉ N) : inV (.str (mk s)) (N.map fun z => V.str (mk z)) = false := by
  unfold inV
  rw [List.any_eq_false]
  intro x hx
  obtain ⟨z, hz, rfl⟩ := List.mem_map.mp hx
  show ¬ (mk z == mk s) = true
  intro q
  have := mk_inj (eq_of_beq q)
  rw [this] at hz
  exact h hz
def spTree (k : Nat) : Sp := fun vs H Q _ => ∃ (z : List Nat) (nv : V) (n : Nat) (told : Told) (last : Ts), vs = [.str (mk z), nv] ∧ z.length ≤ 2000 ∧ (∀ c ∈ z, cl c ≠ 4) ∧ lexF [] z = tokW told last ∧ RdW told last ∧ (nv = .non ∨ nv = .int (n : Int)) ∧ chkW n [] told last ∧ (∀ p ∈ told, hgts p.2 ≤ k) ∧ hgts last ≤ k ∧
  ∀ (H' : Hp) (q fl : Addr) (uu : List V) (u : V), Same H H' → H' q = some (.tup [.ref fl, u]) → H' fl = some (.lst uu) → DsAt H' uu told → TsA H' u last → Q (.ref q) H'
section
variable {P : Program} {w : World} {K : PySem.W.Frag} {mg : Str → Option Value} {base : Heap} {C : Addr}
theorem pe_isi {X : Cx} {x : Expr} {tx : TE} {n : Str} {ty : String} {p q pos : Pos} (hm : X.mg "isinstance" = none) (hx : PE X x tx) (hc : PE X (.Name n q) (tC (.ty ty))) (hg : Gl X "isinstance" := by rfl) (hs : starEach [x, .Name n q] X.env = (false, eval x X.env) :: starEach [.Name n q] X.env := by rfl)
    (hs2 : starEach [.Name n q] X.env = (false, eval (.Name n q) X.env) :: starEach [] X.env := by rfl) : PE X (.Call (.Name "isinstance" p) [x, .Name n q] [] pos) (tCB (rIsi X.K) (tCons tx (tCons (tC (.ty ty)) tNil))) :=
  pe_callB call_isi hg hm (by decide +kernel) (pa_cons hx (pa_cons hc pa_nil hs2) hs) (he := hs)
theorem sc_tree_of : FnScope ["text", "n", "told", "last", "names", "name", "things"] ["text", "n"] (defScope stree_of) := ⟨rfl, rfl, rfl, by decide +kernel, rfl, by decide +kernel, by decide +kernel⟩
theorem ok_tree_of {f fI : Addr} {fd fdI : FuncData} {k : Nat} (F : Fun K "tree_of" "tree_of" stree_of f fd) (T : TX K mg C) (M : Mk K C fI) (GI : FnOk P w K mg base CX0 2 fI fdI ["self", "text"] (spInit C)) (bI : Binds K fdI ["self", "text"] [])
    (GW : Calm P w K mg base CX0 C "whole" 16 ["self"] (spWhole C)) (GN : Cal P w K mg base CX0 "need_things" k ["names", "n", "things"] (spNeedTs K k)) (hk : 16 ≤ k) : FnOk P w K mg base CX0 (k + 1) f fd ["text", "n"] (spTree k) := by
  refine F.ok sc_tree_of (fun vs H Q E h => ?_) (fun cdv A outer s H vs Q E hr h => ?_)
  · obtain ⟨z, nv, n, told, last, rfl, _⟩ := h
    rfl
  obtain ⟨z, nv, n, told, last, rfl, hz, hc, hlex, W, hnv, hchk, hh1, hh2, q⟩ := h
  have hr16 : Room 16 (A.deeper (envOfC "tree_of" (defScope stree_of) s.heap.objs.size f cdv)) := hr.mono hk
  have hr3 : Room 3 (A.deeper (envOfC "tree_of" (defScope stree_of) s.heap.objs.size f cdv)) := hr.mono (by omega)
  refine ⟨_, pss_cons (ps_if (pt_not (pt_val (pe_isi T.isi (pv 0) (pe_bltn (v := .ty "str") rfl T.str (by decide +kernel) rfl)))) pss_never pss_nil)
    (pss_cons (ps_if (pt_cmpR op_gt (pe_callB call_len_str (by rfl) T.len PySem.boot_len (pa_cons (pv 0) pa_nil)) (pe_gI T.signs) (nomark _)) pss_never pss_nil)
    (pss_cons (ps_asg (pe_calm0 GW (pe_make M GI hr3 rfl T.mgC bI .nil pass0 (pa_cons (pv 0) pa_nil)) T.cl hr16 pass0) (pg_tup (by rfl) (pgs_cons (pg_name (i := 2) sc_tree_of.nd rfl (Or.inl rfl)) (pgs_cons (pg_name (i := 3) sc_tree_of.nd rfl (Or.inl rfl)) pgs_nil))))
    (pss_cons (ps_set (i := 4) sc_tree_of.nd rfl (Or.inl rfl) (pe_lst pa_nil))
    (pss_cons (ps_for PassesOwn.never rfl (pi_list (pv 2)) (pg_tup (by rfl) (pgs_cons (pg_name (i := 5) sc_tree_of.nd rfl (Or.inl rfl)) (pgs_cons (pg_name (i := 6) sc_tree_of.nd rfl (Or.inl rfl)) pgs_nil)))
      (pss_cons (ps_if (pt_cmpR op_in_seq (pv 5) (pv 4) rfl) pss_never pss_nil)
      (pss_cons (ps_expr (pe_cal GN hr pass0 (pa_cons (pv 4) (pa_cons (pv 1) (pa_cons (pv 6) pa_nil)))))
      (pss_one (ps_expr (pe_bm PySem.F.plainAttrs_list PySem.F.slot_list_append PySem.F.type_list_append mt_append (pv 4) (pa_cons (pv 5) pa_nil)))))))
    (pss_cons (ps_expr (pe_cal GN hr pass0 (pa_cons (pv 4) (pa_cons (pv 1) (pa_cons (pv 3) pa_nil)))))
    (pss_one (ps_ret (pe_tup (pa_cons (pv 2) (pa_cons (pv 3) pa_nil)))))))))), ?_⟩
  refine ⟨_, rfl, _, .ty "str", _, _, true, rfl, .ty "str", .base (.str _), kit_ty (by decide +kernel), _, rfl, iteF ?_⟩
  have hzl : (mk z).length ≤ sizeLine := line_ge (by rw [mk_len]; omega)
  refine ⟨_, rfl, mk z, rfl, hzl, _, _, rfl, rfl, _, rfl, ?_⟩
  rw [decide_eq_false (by rw [mk_len]; omega : ¬ (2000 : Int) < ((mk z).length : Nat))]
  refine iteF ?_
  -- told, last = Reading(text).whole()
  refine ⟨_, rfl, fun x dx hx hdx hne => ?_⟩
  have s0 : Same H (upd (upd H dx (.own x)) x (.ins C dx [])) := fun b o e => by
    rw [upd_ne (ne_of_none e hx), upd_ne (ne_of_none e hdx)]
    exact e
  refine ⟨x, dx, z, rfl, upd_same, by omega, hc, fun l us H1 R1 b1 => ⟨rfl, ?_⟩⟩
  rw [hlex] at R1
  have s1 : Same H H1 := fun b o e => b1 _ _ (s0 _ _ e) (ne_of_none e hx)
  obtain ⟨dx1, ho1⟩ := R1.ob
  refine ⟨x, dx1, _, rfl, ho1, rd_no _ _ _ (by decide +kernel) (by decide +kernel) (by decide +kernel), x, l, us, told, last, rfl, R1, W, fun H2 o fl uu u b2 ho hfl hD hL hfl0 => ?_⟩
  have s2 : Same H H2 := fun b o e => b2 _ _ (s1 _ _ e) (ne_of_none e hx)
  refine ⟨o, _, rfl, SqT.of ho, rfl, _, _, rfl, _, _, rfl, rfl, ?_⟩
  refine ⟨Nat.zero_le _, fun la hla => ?_⟩
  have s3 := Same.new hla (.lst [])
  have tk3 := Same.tk s3
  -- the names
  refine ⟨_, rfl, fl, rfl, ⟨uu, SqL.of (s3 _ _ hfl)⟩, for_list (K := K) (a := fl) (xs := uu) (fun i σ H' => ∃ v5 v6 : Option V, σ = [some (.str (mk z)), some nv, some (.ref fl), some u, some (.ref la), v5, v6] ∧ But la (upd H2 la (.lst [])) H' ∧ H' la = some (.lst ((told.take i).map fun p => V.str (mk p.1))))
    ⟨_, _, rfl, But.refl _ _, upd_same⟩ (fun i σ H' _ ⟨_, _, _, b4, _⟩ => SqL.of (b4 _ _ (s3 _ _ hfl) fun e => by rw [e, hla] at hfl; cases hfl)) ?_ ?_⟩
  · rintro i v σ H' hv ⟨v5, v6, rfl, b4, hN⟩
    obtain ⟨p, hp, o5, u5, rfl, h5, h6⟩ := DsAt.get told uu hD i v hv
    have hp' := List.mem_of_getElem? hp
    have hlt : i < told.length := (List.getElem?_eq_some_iff.mp hp).1
    have nla : ∀ {b : Addr} {o : HO}, H2 b = some o → b ≠ la := fun e z => by rw [z, hla] at e; cases e
    have k4 : ∀ {b : Addr} {o : HO}, H2 b = some o → H' b = some o := fun e => b4 _ _ (s3 _ _ e) (nla e)
    have tk4 : TK H2 H' := fun b xs e => k4 e
    have hsp : told = told.take i ++ p :: told.drop (i + 1) := by
      have e := (List.take_append_drop i told).symm
      rw [List.drop_eq_getElem_cons hlt] at e
      rw [(List.getElem?_eq_some_iff.mp hp).2] at e
      exact e
    have ch := chkW_split (told.take i) (p :: told.drop (i + 1)) [] (by rw [← hsp]; exact hchk)
    rw [List.nil_append] at ch
    have eN : ((told.take i).map fun p => V.str (mk p.1)) = ((told.take i).map (·.1)).map fun z => V.str (mk z) := by rw [List.map_map]; rfl
    refine ⟨o5, _, rfl, SqT.of (k4 h5), rfl, _, _, rfl, _, _, rfl, rfl, ?_⟩
    refine ⟨_, rfl, _, rfl, la, _, rfl, .inl (SqL.of hN), rfl, by rw [eN]; exact all_flat _, _, rfl, ?_⟩
    rw [if_neg Bool.false_ne_true, eN, inV_not ch.1]
    refine iteF ⟨_, rfl, _, rfl, _, rfl, la, (told.take i).map (·.1), nv, u5, n, p.2, rfl, by rw [← eN]; exact SqL.of hN, hnv, h6.keep tk4, ch.2.1, hh1 p hp', fun H5 s5 => ?_⟩
    refine ⟨_, rfl, .inl ⟨rfl, _, SqL.of (s5 _ _ hN)⟩, _, rfl, la, _, _, rfl, rfl, s5 _ _ hN, small1000 ?_, ?_⟩
    · rw [List.length_map, List.length_take]
      have := W.ln
      omega
    · refine ⟨_, _, rfl, (b4.trans (Same.but s5)).trans (But.upd _), ?_⟩
      rw [upd_same, List.take_add_one, hp, List.map_append]
      rfl
  · rintro σ H' ⟨v5, v6, rfl, b4, hN⟩
    have hlen := DsAt.len told uu hD
    rw [hlen, List.take_length] at hN
    have nla : ∀ {b : Addr} {o : HO}, H2 b = some o → b ≠ la := fun e z => by rw [z, hla] at e; cases e
    have k4 : ∀ {b : Addr} {o : HO}, H2 b = some o → H' b = some o := fun e => b4 _ _ (s3 _ _ e) (nla e)
    have tk4 : TK H2 H' := fun b xs e => k4 e
    have ch := chkW_split told [] [] (by rw [List.append_nil]; exact hchk)
    rw [List.nil_append] at ch
    have ch' : vOks (told.map (·.1)) n last := ch
    have eN : (told.map fun p => V.str (mk p.1)) = (told.map (·.1)).map fun z => V.str (mk z) := by rw [List.map_map]; rfl
    refine ⟨_, rfl, _, rfl, _, rfl, la, told.map (·.1), nv, u, n, last, rfl, by rw [← eN]; exact SqL.of hN, hnv, hL.keep tk4, ch', hh2, fun H5 s5 => ?_⟩
    refine ⟨_, rfl, _, rfl, line2, fun o6 ho6 => ?_⟩
    have s6 := Same.new ho6 (.tup [.ref fl, u])
    have tk6 := tk4.trans ((Same.tk s5).trans (Same.tk s6))
    exact q _ o6 fl uu u (fun b o e => s6 _ _ (s5 _ _ (k4 (s2 _ _ e)))) upd_same (s6 _ _ (s5 _ _ (k4 hfl))) (DsAt.keep tk6 _ _ hD) (hL.keep tk6)
end
end KW
set_option Elab.async false
set_option linter.all false
set_option maxRecDepth 100000
set_option maxHeartbeats 4000000
/-! Texts of things. -/
namespace KW
open PySem PySem.Spec PyProof.Rows L2 KM
theorem joinL_texts : ∀ ts : Ts, TL.joinL [32] (ts.list.map text) = texts ts
  | .nil => by simp [Ts.list, TL.joinL, texts]
  | .cons t .nil => by simp [Ts.list, TL.joinL, texts, Ts.len]
  | .cons t (.cons t2 r) => by
    have ih := joinL_texts (.cons t2 r)
    show text t ++ ([32] ++ TL.joinL [32] ((Ts.cons t2 r).list.map text)) = texts (.cons t (.cons t2 r))
    rw [ih]
    have e : texts (.cons t (.cons t2 r)) = text t ++ (if (Ts.cons t2 r).len = 0 then [] else 32 :: texts (.cons t2 r)) := by simp only [texts]
    rw [e, if_neg (by simp only [Ts.len]; omega)]
    rfl
theorem join_texts (ts : Ts) : Txt.join (mk [32]) (ts.list.map fun t => mk (text t)) = mk (texts ts) := by
  apply TL.ext_tl
  rw [TL.join_eq, TL.tl_join, List.map_map]
  show TL.joinL [32] (ts.list.map text) = texts ts
  exact joinL_texts ts
theorem sum_texts : ∀ ts : Ts, ((ts.list.map fun t => mk (text t)).map (·.length)).sum + ts.len ≤ (texts ts).length + 1
  | .nil => by simp [Ts.list, texts, Ts.len]
  | .cons t ts => by
    have ih := sum_texts ts
    simp only [Ts.list, List.map_cons, List.sum_cons, texts, Ts.len]
    rw [mk_len, List.length_append]
    cases ts with
    | nil => simp [Ts.list, Ts.len]
    | cons a b =>
      rw [if_neg (by simp only [Ts.len]; omega), List.length_cons]
      simp only [Ts.len] at ih ⊢
      omega
theorem k32 : Str.ofString " " = mk [32] := by decide +kernel
theorem k4432 : Str.ofString ", " = mk [44, 32] := by decide +kernel
def spTT (k : Nat) : Sp := fun vs H Q _ => ∃ (v : V) (t : KM.T), vs = [v] ∧ TAt H v t ∧ pOk t ∧ hgt t ≤ k ∧ (text t).length ≤ 1000000 ∧ wid t ≤ 1000 ∧ ∀ H', Same H H' → Q (.str (mk (text t))) H'
def spTTs (k : Nat) : Sp := fun vs H Q _ => ∃ (v : V) (ts : Ts), vs = [v] ∧ TsA H v ts ∧ pOks ts ∧ hgts ts ≤ k ∧ (texts ts).length ≤ 1000000 ∧ ts.len ≤ 1000 ∧ wids ts ≤ 1000 ∧ ∀ H', Same H H' → Q (.str (mk (texts ts))) H'
theorem add_str {a b : List Nat} (h : a.length + b.length ≤ 16000000) : (mk a).length + (mk b).length ≤ sizeLine := line_ge (by rw [mk_len, mk_len]; omega)
section
variable {P : Program} {w : World} {K : PySem.W.Frag} {mg : Str → Option Value} {base : Heap} {C : Addr}
theorem sc_things_text : FnScope ["things", "thing"] ["things"] (defScope sthings_text) := ⟨rfl, rfl, rfl, by decide +kernel, rfl, by decide +kernel, by decide +kernel⟩
theorem ok_things_text {f : Addr} {fd : FuncData} {k : Nat} (F : Fun K "things_text" "things_text" sthings_text f fd) (G : Cal P w K mg base CX0 "thing_text" k ["thing"] (spTT k)) : FnOk P w K mg base CX0 (k + 1) f fd ["things"] (spTTs (k + 1)) := by
  refine F.ok sc_things_text (fun vs H Q E h => ?_) (fun cdv A outer s H vs Q E hr h => ?_)
  · obtain ⟨v, ts, rfl, _⟩ := h
    rfl
  obtain ⟨v, ts, rfl, ⟨a, us, rfl, hT, hts⟩, hp, hh, hl, hn, hw, q⟩ := h
  refine ⟨_, pss_one (ps_ret (pe_join pe_str (pe_lc (own := [("thing", 1)]) (g := gName 1) (tt := tYes) rfl sc_things_text.nd (pi_tup (pv 0)) (blkOk_by (N := ["things", "thing"]) (sc := defScope sthings_text) (by decide +kernel))
    (fun _ _ _ _ _ => pg_name (i := 1) sc_things_text.nd rfl (Or.inl rfl)) (fun _ _ _ _ _ => pts_nil) (fun _ _ _ _ _ => pe_cal G hr pass0 (pa_cons (pv 1) pa_nil))))), ?_⟩
  have hlen := TsAt.len ts us hts
  have hll := Ts.len_list ts
  refine ⟨⟨_, rfl⟩, _, rfl, a, rfl, ⟨us, SqT.of hT⟩, fun D hD => lc_tup (K := K) (a := a) (xs := us) (fun i H' => But D H H' ∧ H' D = some (.lst ((ts.list.take i).map fun t => V.str (mk (text t)))))
    ⟨But.upd _, upd_same⟩ (fun i H' _ ⟨s1, _⟩ => SqT.of (s1 _ _ hT (ne_of_none hT hD))) ?_ ?_⟩
  · rintro i x H' hx ⟨s1, hL⟩
    obtain ⟨t, ht, hu⟩ := TsAt.get ts us hts i x hx
    have hm := List.mem_of_getElem? ht
    have tk1 : TK H H' := s1.tk fun xs e => by rw [hD] at e; cases e
    have hlt : i < us.length := (List.getElem?_eq_some_iff.mp hx).1
    refine ⟨rfl, _, rfl, x, t, rfl, TAt.keep tk1 _ _ hu, pOks_mem ts hp t hm, by have := hgts_mem ts t hm; omega, Nat.le_trans (texts_mem_len ts t hm) hl, Nat.le_trans (wids_mem ts t hm) hw, fun H2 s2 => ⟨_, s2 _ _ hL, ?_, (s1.trans (Same.but s2)).trans (But.upd _), ?_⟩⟩
    · rw [List.length_map, List.length_take]
      exact Nat.lt_of_le_of_lt (Nat.min_le_left _ _) (small1000 (by omega))
    · rw [upd_same, List.take_add_one, ht, List.map_append]
      rfl
  · rintro H' ⟨s1, hL⟩
    rw [hlen, ← hll, List.take_length] at hL
    have sm := sum_texts ts
    refine ⟨_, D, ts.list.map fun t => mk (text t), rfl, rfl, .inl (SqL.of (by rw [hL, List.map_map]; rfl)), ?_, ?_⟩
    · rw [List.length_map, hll, k32, mk_len, List.length_singleton]
      omega
    · rw [k32, join_texts]
      exact q _ fun b o e => s1 _ _ e (ne_of_none e hD)
theorem sc_thing_text : FnScope ["thing", "word"] ["thing"] (defScope sthing_text) := ⟨rfl, rfl, rfl, by decide +kernel, rfl, by decide +kernel, by decide +kernel⟩
theorem ok_thing_text {f : Addr} {fd : FuncData} {k : Nat} (F : Fun K "thing_text" "thing_text" sthing_text f fd) (T : TX K mg C) (G : Cal P w K mg base CX0 "thing_text" k ["thing"] (spTT k)) (Gs : Cal P w K mg base CX0 "things_text" k ["things"] (spTTs k)) : FnOk P w K mg base CX0 (k + 1) f fd ["thing"] (spTT (k + 1)) := by
  refine F.ok sc_thing_text (fun vs H Q E h => ?_) (fun cdv A outer s H vs Q E hr h => ?_)
  · obtain ⟨v, t, rfl, _⟩ := h
    rfl
  obtain ⟨v, t, rfl, hT, hp, hh, hl, hw, q⟩ := h
  refine ⟨_, pss_cons (ps_set (i := 1) sc_thing_text.nd rfl (Or.inl rfl) (pe_ix ix_tup (pv 0) pe_int (fun _ _ => rfl)))
    (pss_cons (ps_if (pt_in2 (pv 1)) (pss_one (ps_ret (pe_callTy (call_str_int.or SkE.call_str_str) (by rfl) T.str (by decide +kernel) (pa_cons (pe_ix ix_tup (pv 0) pe_int (fun _ _ => rfl)) pa_nil)))) pss_nil)
    (pss_cons (ps_if (pt_cmpR op_eq (pv 1) pe_str (nomark _)) (pss_one (ps_ret (pe_op op_add_str (pe_cal G hr pass0 (pa_cons (pe_ix ix_tup (pv 0) pe_int (fun _ _ => rfl)) pa_nil)) pe_str))) pss_nil)
    (pss_cons (ps_if (pt_cmpR op_eq (pv 1) pe_str (nomark _)) (pss_one (ps_ret (pe_op op_add_str (pe_op op_add_str (pe_cal G hr pass0 (pa_cons (pe_ix ix_tup (pv 0) pe_int (fun _ _ => rfl)) pa_nil)) pe_str) (pe_callTy call_str_int (by rfl) T.str (by decide +kernel) (pa_cons (pe_ix ix_tup (pv 0) pe_int (fun _ _ => rfl)) pa_nil))))) pss_nil)
    (pss_cons (ps_if (pt_cmpR op_eq (pv 1) pe_str (nomark _))
      (pss_cons (ps_if (pt_cmpR op_eq (pe_callB call_len_seq (by rfl) T.len PySem.boot_len (pa_cons (pe_ix ix_tup (pv 0) pe_int (fun _ _ => rfl)) pa_nil)) pe_int (nomark _)) (pss_one (ps_ret (pe_cal G hr pass0 (pa_cons (pe_ix ix_tup (pe_ix ix_tup (pv 0) pe_int (fun _ _ => rfl)) pe_int (fun _ _ => rfl)) pa_nil)))) pss_nil)
      (pss_one (ps_ret (pe_op op_add_str (pe_op op_add_str pe_str (pe_cal Gs hr pass0 (pa_cons (pe_ix ix_tup (pv 0) pe_int (fun _ _ => rfl)) pa_nil))) pe_str)))) pss_nil)
    (pss_one (ps_ret (pe_op op_add_str (pe_op op_add_str (pe_op op_add_str (pe_op op_add_str pe_str (pe_cal Gs hr pass0 (pa_cons (pe_ix ix_tup (pv 0) pe_int (fun _ _ => rfl)) pa_nil))) pe_str) (pe_cal Gs hr pass0 (pa_cons (pe_ix ix_tup (pv 0) pe_int (fun _ _ => rfl)) pa_nil))) pe_str))))))), ?_⟩
  cases t with
  | name s =>
    simp only [TAt] at hT
    simp only [text] at q
    obtain ⟨a, rfl, ha⟩ := hT
    refine ⟨_, rfl, a, _, _, _, rfl, rfl, SqT.of ha, at_get (a := 0) rfl, ?_⟩
    refine ⟨_, rfl, _, rfl, fun H2 s2 => ?_⟩
    rw [i_name_name]
    exact iteT ⟨_, rfl, a, _, _, _, rfl, rfl, SqT.of (s2 _ _ ha), at_get (a := 1) rfl, .inr ⟨_, rfl, q _ s2⟩⟩
  | node i =>
    simp only [TAt] at hT
    simp only [text] at q
    simp only [pOk] at hp
    obtain ⟨a, rfl, ha⟩ := hT
    refine ⟨_, rfl, a, _, _, _, rfl, rfl, SqT.of ha, at_get (a := 0) rfl, ?_⟩
    refine ⟨_, rfl, _, rfl, fun H2 s2 => ?_⟩
    rw [i_node_name]
    refine iteT ⟨_, rfl, a, _, _, _, rfl, rfl, SqT.of (s2 _ _ ha), at_get (a := 1) rfl, .inl ⟨i, rfl, num_log i hp, ?_⟩⟩
    rw [(num_facts i hp).2]
    exact q _ s2
  | back t =>
    simp only [TAt] at hT
    simp only [text] at q hl
    simp only [pOk] at hp
    simp only [hgt] at hh
    simp only [wid] at hw
    rw [List.length_append, List.length_singleton] at hl
    obtain ⟨a, u, rfl, ha, hu⟩ := hT
    refine ⟨_, rfl, a, _, _, _, rfl, rfl, SqT.of ha, at_get (a := 0) rfl, ?_⟩
    refine ⟨_, rfl, _, rfl, fun H2 s2 => ?_⟩
    rw [i_back_name]
    refine iteF ⟨_, rfl, rfl, _, rfl, ?_⟩
    rw [e_back_back]
    refine iteT ⟨_, rfl, a, _, _, _, rfl, rfl, SqT.of (s2 _ _ ha), at_get (a := 1) rfl, u, t, rfl, TAt.keep (Same.tk s2) _ _ hu, hp, by omega, by omega, hw, fun H3 s3 => ⟨_, _, rfl, rfl, ?_, ?_⟩⟩
    · rw [k126]
      exact add_str (by simp only [List.length_singleton]; omega)
    · rw [k126, mk_app]
      exact q _ (s2.trans s3)
  | times t j =>
    simp only [TAt] at hT
    simp only [text] at q hl
    simp only [pOk] at hp
    simp only [hgt] at hh
    simp only [wid] at hw
    rw [List.length_append, List.length_append, List.length_singleton] at hl
    obtain ⟨a, u, rfl, ha, hu⟩ := hT
    refine ⟨_, rfl, a, _, _, _, rfl, rfl, SqT.of ha, at_get (a := 0) rfl, ?_⟩
    refine ⟨_, rfl, _, rfl, fun H2 s2 => ?_⟩
    rw [i_times_name]
    refine iteF ⟨_, rfl, rfl, _, rfl, ?_⟩
    rw [e_times_back]
    refine iteF ⟨_, rfl, rfl, _, rfl, ?_⟩
    rw [e_times_times]
    refine iteT ⟨_, rfl, a, _, _, _, rfl, rfl, SqT.of (s2 _ _ ha), at_get (a := 1) rfl, u, t, rfl, TAt.keep (Same.tk s2) _ _ hu, hp.1, by omega, by omega, hw, fun H3 s3 => ⟨_, _, rfl, rfl, ?_, _, rfl, a, _, _, _, rfl, rfl, SqT.of (s3 _ _ (s2 _ _ ha)), at_get (a := 2) rfl, j, rfl, num_log j hp.2, _, _, rfl, rfl, ?_, ?_⟩⟩
    · rw [k94]
      exact add_str (by simp only [List.length_singleton]; omega)
    · rw [k94, mk_app, (num_facts j hp.2).2]
      exact add_str (by rw [List.length_append, List.length_singleton]; omega)
    · rw [k94, mk_app, (num_facts j hp.2).2, mk_app]
      exact q _ (s2.trans s3)
  | row ts =>
    simp only [TAt] at hT
    simp only [text] at q hl
    simp only [pOk] at hp
    simp only [hgt] at hh
    simp only [wid] at hw
    obtain ⟨a, b, us, rfl, ha, hb, hu⟩ := hT
    have hlen := TsAt.len ts us hu
    refine ⟨_, rfl, a, _, _, _, rfl, rfl, SqT.of ha, at_get (a := 0) rfl, ?_⟩
    refine ⟨_, rfl, _, rfl, fun H2 s2 => ?_⟩
    rw [i_row_name]
    refine iteF ⟨_, rfl, rfl, _, rfl, ?_⟩
    rw [e_row_back]
    refine iteF ⟨_, rfl, rfl, _, rfl, ?_⟩
    rw [e_row_times]
    refine iteF ⟨_, rfl, rfl, _, rfl, ?_⟩
    rw [e_row_row]
    refine iteT ⟨_, rfl, a, _, _, _, rfl, rfl, SqT.of (s2 _ _ ha), at_get (a := 1) rfl, b, _, rfl, .inr (SqT.of (s2 _ _ hb)), rfl, _, rfl, ?_⟩
    rw [hlen]
    by_cases h1 : ts.len = 1
    · rw [show decide (V.int ((ts.len : Nat) : Int) = V.int 1) = true from decide_eq_true (by rw [h1]; rfl)]
      rw [if_pos h1] at q hl
      cases ts with
      | nil => simp only [Ts.len] at h1; omega
      | cons t r =>
        cases r with
        | cons _ _ => simp only [Ts.len] at h1; omega
        | nil =>
          simp only [TsAt] at hu
          obtain ⟨u, r, e1, h2, e2⟩ := hu
          subst e2 e1
          simp only [pOks] at hp
          simp only [hgts] at hh
          simp only [wids] at hw
          simp only [texts, Ts.len] at q hl
          rw [if_pos trivial, List.append_nil] at q hl
          exact iteT ⟨_, rfl, a, _, _, _, rfl, rfl, SqT.of (s2 _ _ ha), at_get (a := 1) rfl, b, _, _, _, rfl, rfl, SqT.of (s2 _ _ hb), at_get (a := 0) rfl, u, t, rfl, TAt.keep (Same.tk s2) _ _ h2, hp.2.1, by omega, hl, by omega, fun H3 s3 => q _ (s2.trans s3)⟩
    · rw [show decide (V.int ((ts.len : Nat) : Int) = V.int 1) = false from decide_eq_false fun e => h1 (by have := V.int.inj e; omega)]
      rw [if_neg h1] at q hl
      simp only [List.length_append, List.length_singleton] at hl
      refine iteF ⟨_, rfl, a, _, _, _, rfl, rfl, SqT.of (s2 _ _ ha), at_get (a := 1) rfl, .ref b, ts, rfl, ⟨b, us, rfl, s2 _ _ hb, TsAt.keep (Same.tk s2) _ _ hu⟩, hp.2, by omega, by omega, by omega, by omega, fun H3 s3 => ⟨_, _, rfl, rfl, ?_, _, _, rfl, rfl, ?_, ?_⟩⟩
      · rw [k40]
        exact add_str (by simp only [List.length_singleton]; omega)
      · rw [k40, mk_app, k41]
        exact add_str (by simp only [List.length_singleton, List.length_append]; omega)
      · rw [k40, mk_app, k41, mk_app]
        exact q _ (s2.trans s3)
  | round x y =>
    simp only [TAt] at hT
    simp only [text] at q hl
    simp only [pOk] at hp
    simp only [hgt] at hh
    simp only [wid] at hw
    simp only [List.length_append, List.length_cons, List.length_nil] at hl
    obtain ⟨a, b, b2, us, ws, rfl, ha, ⟨hb, hu⟩, hb2, hu2⟩ := hT
    refine ⟨_, rfl, a, _, _, _, rfl, rfl, SqT.of ha, at_get (a := 0) rfl, ?_⟩
    refine ⟨_, rfl, _, rfl, fun H2 s2 => ?_⟩
    rw [i_round_name]
    refine iteF ⟨_, rfl, rfl, _, rfl, ?_⟩
    rw [e_round_back]
    refine iteF ⟨_, rfl, rfl, _, rfl, ?_⟩
    rw [e_round_times]
    refine iteF ⟨_, rfl, rfl, _, rfl, ?_⟩
    rw [e_round_row]
    refine iteF ⟨_, rfl, a, _, _, _, rfl, rfl, SqT.of (s2 _ _ ha), at_get (a := 1) rfl, .ref b, x, rfl, ⟨b, us, rfl, s2 _ _ hb, TsAt.keep (Same.tk s2) _ _ hu⟩, hp.2.2.1, by omega, by omega, by omega, by omega, fun H3 s3 => ⟨_, _, rfl, rfl, ?_, _, _, rfl, rfl, ?_, ?_⟩⟩
    · rw [k91]
      exact add_str (by simp only [List.length_singleton]; omega)
    · rw [k91, mk_app, k4432]
      exact add_str (by simp only [List.length_cons, List.length_nil, List.length_append]; omega)
    have s23 := s2.trans s3
    refine ⟨_, rfl, a, _, _, _, rfl, rfl, SqT.of (s23 _ _ ha), at_get (a := 2) rfl, .ref b2, y, rfl, ⟨b2, ws, rfl, s23 _ _ hb2, TsAt.keep (Same.tk s23) _ _ hu2⟩, hp.2.2.2, by omega, by omega, by omega, by omega, fun H4 s4 => ⟨_, _, rfl, rfl, ?_, _, _, rfl, rfl, ?_, ?_⟩⟩
    · rw [k91, mk_app, k4432, mk_app]
      exact add_str (by simp only [List.length_cons, List.length_nil, List.length_append]; omega)
    · rw [k91, mk_app, k4432, mk_app, mk_app, k93]
      exact add_str (by simp only [List.length_cons, List.length_nil, List.length_append]; omega)
    · rw [k91, mk_app, k4432, mk_app, mk_app, k93, mk_app]
      exact q _ (s23.trans s4)
theorem text_all {f1 f2 : Addr} {d1 d2 : FuncData} (T : TX K mg C) (F1 : Fun K "thing_text" "thing_text" sthing_text f1 d1) (m1 : mg "thing_text" = some (.ref f1)) (b1 : Binds K d1 ["thing"] [])
    (F2 : Fun K "things_text" "things_text" sthings_text f2 d2) (m2 : mg "things_text" = some (.ref f2)) (b2 : Binds K d2 ["things"] []) :
    ∀ k : Nat, Cal P w K mg base CX0 "thing_text" k ["thing"] (spTT k) ∧ Cal P w K mg base CX0 "things_text" k ["things"] (spTTs k)
  | 0 => ⟨⟨f1, d1, fn_none fun vs H Q E h => by
      obtain ⟨v, t, _, _, _, hh, _⟩ := h
      have := hgt_pos t
      omega, m1, F1.kp, b1⟩, ⟨f2, d2, fn_none fun vs H Q E h => by
      obtain ⟨v, t, _, _, _, hh, _⟩ := h
      have := hgts_pos t
      omega, m2, F2.kp, b2⟩⟩
  | k + 1 => by
    obtain ⟨g1, g2⟩ := text_all T F1 m1 b1 F2 m2 b2 k
    exact ⟨⟨f1, d1, ok_thing_text F1 T g1 g2, m1, F1.kp, b1⟩, ⟨f2, d2, ok_things_text F2 g1, m2, F2.kp, b2⟩⟩
end
end KW
set_option Elab.async false
set_option linter.all false
set_option maxRecDepth 100000
set_option maxHeartbeats 4000000
/-! printed. -/
namespace KW
open PySem PySem.Spec PyProof.Rows L2 KM
theorem joinL_nil : ∀ l : List (List Nat), TL.joinL [] l = l.flatten
  | [] => rfl
  | [x] => by simp [TL.joinL]
  | x :: y :: r => by
    have ih := joinL_nil (y :: r)
    show x ++ ([] ++ TL.joinL [] (y :: r)) = _
    rw [ih]
    simp
theorem join_told (told : Told) : Txt.join (mk []) (told.map fun p => mk (textD p)) = mk (told.flatMap textD) := by
  apply TL.ext_tl
  rw [TL.join_eq, TL.tl_join, List.map_map]
  show TL.joinL [] (told.map textD) = told.flatMap textD
  rw [joinL_nil, List.flatMap_def]
theorem sum_told (told : Told) : ((told.map fun p => mk (textD p)).map (·.length)).sum = (told.flatMap textD).length := by
  induction told with
  | nil => rfl
  | cons p r ih =>
    simp only [List.map_cons, List.sum_cons, List.flatMap_cons, List.length_append]
    rw [ih, mk_len]
theorem k326132 : Str.ofString " = " = mk [32, 61, 32] := by decide +kernel
theorem k5932 : Str.ofString "; " = mk [59, 32] := by decide +kernel
theorem textD_le {p : List Nat × Ts} {told : Told} (h : p ∈ told) : (textD p).length ≤ (told.flatMap textD).length := by
  induction told with
  | nil => cases h
  | cons q r ih =>
    rw [List.flatMap_cons, List.length_append]
    rcases List.mem_cons.mp h with e | e
    · rw [e]; omega
    · have := ih e; omega
/-- what a row text must be so that it is printed -/
structure PrW (k : Nat) (told : Told) (last : Ts) : Prop where
  rd : RdW told last
  ht : ∀ p ∈ told, hgts p.2 ≤ k ∧ p.2.len ≤ 1000 ∧ wids p.2 ≤ 1000
  hl : hgts last ≤ k ∧ last.len ≤ 1000 ∧ wids last ≤ 1000
  ln : (textW told last).length ≤ 1000000
def spPrinted (k : Nat) : Sp := fun vs H Q _ => ∃ (z : List Nat) (n : Nat) (told : Told) (last : Ts), vs = [.str (mk z)] ∧ z.length ≤ 2000 ∧ (∀ c ∈ z, cl c ≠ 4) ∧ lexF [] z = tokW told last ∧ PrW k told last ∧ chkW n [] told last ∧ ∀ H', Same H H' → Q (.str (mk (textW told last))) H'
section
variable {P : Program} {w : World} {K : PySem.W.Frag} {mg : Str → Option Value} {base : Heap} {C : Addr}
theorem sc_printed : FnScope ["text", "told", "last", "name", "things"] ["text"] (defScope sprinted) := ⟨rfl, rfl, rfl, by decide +kernel, rfl, by decide +kernel, by decide +kernel⟩
theorem ok_printed {f : Addr} {fd : FuncData} {k : Nat} (F : Fun K "printed" "printed" sprinted f fd) (GT : Cal P w K mg base CX0 "tree_of" (k + 1) ["text", "n"] (spTree k)) (GX : Cal P w K mg base CX0 "things_text" k ["things"] (spTTs k)) : FnOk P w K mg base CX0 (k + 2) f fd ["text"] (spPrinted k) := by
  refine F.ok sc_printed (fun vs H Q E h => ?_) (fun cdv A outer s H vs Q E hr h => ?_)
  · obtain ⟨z, n, told, last, rfl, _⟩ := h
    rfl
  obtain ⟨z, n, told, last, rfl, hz, hc, hlex, W, hchk, q⟩ := h
  have hr1 : Room k (A.deeper (envOfC "printed" (defScope sprinted) s.heap.objs.size f cdv)) := hr.mono (by omega)
  refine ⟨_, pss_cons (ps_asg (pe_cal GT hr pass0 (pa_cons (pv 0) (pa_cons pe_non pa_nil))) (pg_tup (by rfl) (pgs_cons (pg_name (i := 1) sc_printed.nd rfl (Or.inl rfl)) (pgs_cons (pg_name (i := 2) sc_printed.nd rfl (Or.inl rfl)) pgs_nil))))
    (pss_one (ps_ret (pe_op op_add_str (pe_join pe_str (pe_lc (own := [("name", 3), ("things", 4)]) (g := gTup K 2 (gCons (gName 3) (gCons (gName 4) gNil))) (tt := tYes) rfl sc_printed.nd (pi_list (pv 1)) (blkOk_by (N := ["text", "told", "last", "name", "things"]) (sc := defScope sprinted) (by decide +kernel))
      (fun _ _ _ _ _ => pg_tup (by rfl) (pgs_cons (pg_name (i := 3) sc_printed.nd rfl (Or.inl rfl)) (pgs_cons (pg_name (i := 4) sc_printed.nd rfl (Or.inl rfl)) pgs_nil))) (fun _ _ _ _ _ => pts_nil)
      (fun _ _ _ _ _ => pe_op op_add_str (pe_op op_add_str (pe_op op_add_str (pv 3) pe_str) (pe_cal GX hr1 pass0 (pa_cons (pv 4) pa_nil))) pe_str)))
      (pe_cal GX hr1 pass0 (pa_cons (pv 2) pa_nil))))), ?_⟩
  have hln := W.ln
  unfold textW at hln
  rw [List.length_append] at hln
  refine ⟨_, rfl, z, .non, n, told, last, rfl, hz, hc, hlex, W.rd, .inl rfl, hchk, fun p hp => (W.ht p hp).1, W.hl.1, fun H1 o fl uu u s1 ho hfl hD hL => ?_⟩
  refine ⟨o, _, rfl, SqT.of ho, rfl, _, _, rfl, _, _, rfl, rfl, ?_⟩
  have hdl := DsAt.len told uu hD
  refine ⟨⟨_, rfl⟩, _, rfl, fl, rfl, ⟨uu, SqL.of hfl⟩, fun D hDn => lc_list (K := K) (a := fl) (xs := uu) (fun i H' => But D H1 H' ∧ H' D = some (.lst ((told.take i).map fun p => V.str (mk (textD p)))))
    ⟨But.upd _, upd_same⟩ (fun i H' _ ⟨s2, _⟩ => SqL.of (s2 _ _ hfl (ne_of_none hfl hDn))) ?_ ?_⟩
  · rintro i x H' hx ⟨s2, hLd⟩
    obtain ⟨p, hp, o5, u5, rfl, h5, h6⟩ := DsAt.get told uu hD i x hx
    have hm := List.mem_of_getElem? hp
    obtain ⟨g1, g2, g3⟩ := W.ht p hm
    have gl := textD_le hm
    have glen : (textD p).length = p.1.length + 3 + (texts p.2).length + 2 := by
      unfold textD
      simp
      omega
    obtain ⟨hnm, l1, l2, l3, l4, l5⟩ := W.rd.ts p hm
    have tk2 : TK H1 H' := s2.tk fun xs e => by rw [hDn] at e; cases e
    have hlt : i < uu.length := (List.getElem?_eq_some_iff.mp hx).1
    have hn8 := hnm.2.1
    refine ⟨o5, _, rfl, SqT.of (tk2 _ _ h5), rfl, _, _, rfl, _, _, rfl, rfl, rfl, ?_⟩
    refine ⟨_, rfl, _, _, rfl, rfl, ?_, ?_⟩
    · rw [k326132]
      exact add_str (by simp only [List.length_cons, List.length_nil]; omega)
    rw [k326132, mk_app]
    refine ⟨_, rfl, u5, p.2, rfl, h6.keep tk2, l2, g1, by omega, g2, g3, fun H2 s3 => ⟨_, _, rfl, rfl, ?_, _, _, rfl, rfl, ?_, _, s3 _ _ hLd, ?_, (s2.trans (Same.but s3)).trans (But.upd _), ?_⟩⟩
    · exact add_str (by simp only [List.length_append, List.length_cons, List.length_nil]; omega)
    · rw [k5932, mk_app]
      exact add_str (by simp only [List.length_append, List.length_cons, List.length_nil]; omega)
    · rw [List.length_map, List.length_take]
      have := W.rd.ln
      exact Nat.lt_of_le_of_lt (Nat.min_le_left _ _) (small1000 (by omega))
    · rw [upd_same, List.take_add_one, hp, List.map_append, mk_app, k5932, mk_app]
      rfl
  · rintro H' ⟨s2, hLd⟩
    rw [hdl, List.take_length] at hLd
    have sm := sum_told told
    have tk2 : TK H1 H' := s2.tk fun xs e => by rw [hDn] at e; cases e
    refine ⟨_, D, told.map fun p => mk (textD p), rfl, rfl, .inl (SqL.of (by rw [hLd, List.map_map]; rfl)), ?_, ?_⟩
    · rw [sm, empty_is]
      have : (mk []).length = 0 := rfl
      rw [this]
      omega
    · rw [empty_is, join_told]
      obtain ⟨l1, l2, l3, l4, l5⟩ := W.rd.la
      refine ⟨_, rfl, u, last, rfl, hL.keep tk2, l2, W.hl.1, by omega, W.hl.2.1, W.hl.2.2, fun H3 s3 => ⟨_, _, rfl, rfl, add_str (by omega), ?_⟩⟩
      rw [mk_app]
      exact q _ fun b o e => s3 _ _ (s2 _ _ (s1 _ _ e) (ne_of_none (s1 _ _ e) hDn))
end
end KW
set_option Elab.async false
set_option linter.all false
set_option maxRecDepth 100000
set_option maxHeartbeats 4000000
/-! The law's draws. -/
namespace KW
open PySem PySem.Spec PyProof.Rows L2 KM
def noHp : Hp := fun _ => none
/-- at a a list of xs is to be read, whatever stands at r -/
def SqX (K : PySem.W.Frag) (H : Hp) (r a : Addr) (xs : List V) : Prop := (Rd H a (.lst xs) ∧ a ≠ r) ∨ SqL K noHp a xs
theorem SqX.sq {K : PySem.W.Frag} {H : Hp} {r a : Addr} {xs : List V} (h : SqX K H r a xs) : SqL K H a xs := by
  rcases h with h | h
  · exact .inl h.1
  · rcases h with h | h
    · rcases h with h | ⟨o, h⟩ <;> cases h
    · exact .inr h
theorem SqX.of {K : PySem.W.Frag} {H : Hp} {r a : Addr} {xs : List V} (h : SqL K H a xs) (hr : H r = none) : SqX K H r a xs := by
  rcases h with h | h
  · refine .inl ⟨h, fun e => ?_⟩
    rw [e] at h
    rcases h with h | ⟨o, h⟩ <;> rw [hr] at h <;> cases h
  · exact .inr (.inr h)
theorem SqX.keep {K : PySem.W.Frag} {H H' : Hp} {r a : Addr} {xs : List V} (h : SqX K H r a xs) (b : But r H H') : SqX K H' r a xs := by
  rcases h with ⟨h, n⟩ | h
  · refine .inl ⟨?_, n⟩
    rcases h with h | ⟨o, h⟩
    · exact .inl (b _ _ h n)
    · exact .inr ⟨o, b _ _ h n⟩
  · exact .inr h
/-- the draws' state at r; the script at a -/
def LR (K : PySem.W.Frag) (H : Hp) (r a : Addr) (ns : List Int) : Prop := ∃ (i s c : Int), H r = some (.lst [.ref a, .int i, .int s, .int c]) ∧ SqX K H r a (ns.map V.int) ∧ 0 ≤ i ∧ 0 ≤ s ∧ s < 2147483647
section
variable {K : PySem.W.Frag} {H H' : Hp} {r a D : Addr} {ns : List Int}
theorem LR.nt (h : LR K H r a ns) : ∀ xs, H r ≠ some (.tup xs) := fun xs e => by
  obtain ⟨i, s, c, h1, _⟩ := h
  rw [h1] at e
  cases e
theorem LR.there (h : LR K H r a ns) : ∃ o, H r = some o := by
  obtain ⟨i, s, c, h1, _⟩ := h
  exact ⟨_, h1⟩
theorem LR.same (h : LR K H r a ns) (e : Same H H') : LR K H' r a ns := by
  obtain ⟨i, s, c, h1, h2, h3⟩ := h
  exact ⟨i, s, c, e _ _ h1, h2.keep (Same.but e), h3⟩
/-- D may be changed without harm -/
def DOk (K : PySem.W.Frag) (r a : Addr) (ns : List Int) (D : Addr) : Prop := D ≠ r ∧ (D ≠ a ∨ SqL K noHp a (ns.map V.int))
theorem LR.fresh (h : LR K H r a ns) (hD : H D = none) : DOk K r a ns D := by
  obtain ⟨i, s, c, h1, h2, h3⟩ := h
  refine ⟨fun e => (by rw [e, h1] at hD; cases hD), ?_⟩
  rcases h2 with ⟨h, m⟩ | h
  · refine .inl fun e => ?_
    rw [← e] at h
    rcases h with h | ⟨o, h⟩ <;> rw [hD] at h <;> cases h
  · exact .inr h
theorem LR.upd (h : LR K H r a ns) (d : DOk K r a ns D) (o : HO) : LR K (upd H D o) r a ns := by
  obtain ⟨i, s, c, h1, h2, h3⟩ := h
  refine ⟨i, s, c, by rw [upd_ne d.1.symm]; exact h1, ?_, h3⟩
  rcases h2 with ⟨h, m⟩ | h
  · rcases d.2 with n | k
    · refine .inl ⟨?_, m⟩
      rcases h with h | ⟨q, h⟩
      · exact .inl (by rw [upd_ne n.symm]; exact h)
      · exact .inr ⟨q, by rw [upd_ne n.symm]; exact h⟩
    · exact .inr k
  · exact .inr h
theorem LR.tk (h : LR K H r a ns) (b : But r H H') : TK H H' := b.tk h.nt
end
def spTaken (K : PySem.W.Frag) : Sp := fun vs H Q _ => ∃ (r a : Addr) (ns : List Int) (m : Int), vs = [.ref r, .int m] ∧ 1 ≤ m ∧ m < 1000000000 ∧ LR K H r a ns ∧ ∀ (H' : Hp) (j : Nat), (j : Int) < m → LR K H' r a ns → But r H H' → Q (.int (j : Int)) H'
section
variable {P : Program} {w : World} {K : PySem.W.Frag} {mg : Str → Option Value} {base : Heap} {C : Addr}
theorem sc_taken : FnScope ["_law_row", "_law_many", "_law_found", "_law_cell"] ["_law_row", "_law_many"] (defScope s_law_taken) := ⟨rfl, rfl, rfl, by decide +kernel, rfl, by decide +kernel, by decide +kernel⟩
theorem mod_nat {x m : Int} (h : 1 ≤ m) : ∃ j : Nat, x % m = (j : Int) ∧ (j : Int) < m := ⟨(x % m).toNat, (Int.toNat_of_nonneg (Int.emod_nonneg _ (by omega))).symm, by rw [Int.toNat_of_nonneg (Int.emod_nonneg _ (by omega))]; exact Int.emod_lt_of_pos _ (by omega)⟩
theorem ok_taken {f : Addr} {fd : FuncData} (F : Fun K "_law_taken" "_law_taken" s_law_taken f fd) (T : TX K mg C) : FnOk P w K mg base CX0 1 f fd ["_law_row", "_law_many"] (spTaken K) := by
  refine F.ok sc_taken (fun vs H Q E h => ?_) (fun cdv A outer s H vs Q E hr h => ?_)
  · obtain ⟨r, a, ns, m, rfl, _⟩ := h
    rfl
  obtain ⟨r, a, ns, m, rfl, hm1, hm2, hL, q⟩ := h
  refine ⟨_, pss_cons (ps_if (pt_cmpR op_gt (pe_ix ix_list (pv 0) pe_int (fun _ _ => rfl)) pe_int (nomark _))
      (pss_cons (ps_set (i := 2) sc_taken.nd rfl (Or.inl rfl) (pe_op op_mod (pe_callTy call_int1 (by rfl) T.int (by decide +kernel) (pa_cons (pe_ix ix_list (pv 0) pe_int (fun _ _ => rfl)) pa_nil)) (pv 1)))
      (pss_cons (ps_asg (pe_op op_fdivN (pe_ix ix_list (pv 0) pe_int (fun _ _ => rfl)) (pv 1)) (pg_sub (pv 0) pe_int set_list))
      (pss_one (ps_ret (pv 2))))) pss_nil)
    (pss_cons (ps_asg (pe_op op_add (pe_ix ix_list (pv 0) pe_int (fun _ _ => rfl)) pe_int) (pg_sub (pv 0) pe_int set_list))
    (pss_cons (ps_if (pt_cmpR op_gt (pe_ix ix_list (pv 0) pe_int (fun _ _ => rfl)) (pe_callB call_len_seq (by rfl) T.len PySem.boot_len (pa_cons (pe_ix ix_list (pv 0) pe_int (fun _ _ => rfl)) pa_nil)) (nomark _))
      (pss_cons (ps_asg (pe_op op_mod (pe_callTy call_int1 (by rfl) T.int (by decide +kernel) (pa_cons (pe_op op_add (pe_op op_mul (pe_ix ix_list (pv 0) pe_int (fun _ _ => rfl)) pe_int) pe_int) pa_nil)) pe_int) (pg_sub (pv 0) pe_int set_list))
      (pss_one (ps_ret (pe_op op_mod (pe_callTy call_int1 (by rfl) T.int (by decide +kernel) (pa_cons (pe_op op_fdiv (pe_ix ix_list (pv 0) pe_int (fun _ _ => rfl)) pe_int) pa_nil)) (pv 1))))) pss_nil)
    (pss_cons (ps_set (i := 3) sc_taken.nd rfl (Or.inl rfl) (pe_ix ix_list (pe_ix ix_list (pv 0) pe_int (fun _ _ => rfl)) (pe_op op_sub (pe_ix ix_list (pv 0) pe_int (fun _ _ => rfl)) pe_int) (fun _ _ => rfl)))
    (pss_cons (ps_asg (pe_op op_mod (pe_callTy call_int1 (by rfl) T.int (by decide +kernel) (pa_cons (pe_op op_add (pe_op op_add (pe_op op_mul (pe_ix ix_list (pv 0) pe_int (fun _ _ => rfl)) pe_int) (pv 3)) pe_int) pa_nil)) pe_int) (pg_sub (pv 0) pe_int set_list))
    (pss_cons (ps_if (pt_cmpR op_ge (pv 3) (pe_op op_pow pe_int pe_int) (nomark _)) (pss_one (ps_asg (pe_op op_fdivN (pv 3) (pv 1)) (pg_sub (pv 0) pe_int set_list))) pss_nil)
    (pss_one (ps_ret (pe_op op_mod (pe_callTy call_int1 (by rfl) T.int (by decide +kernel) (pa_cons (pv 3) pa_nil)) (pv 1))))))))), ?_⟩
  obtain ⟨i, sd, c, hR, hS, hi, hs0, hs1⟩ := hL
  have R0 : ∀ {x0 x1 x2 x3 : V} {H' : Hp}, H' r = some (.lst [x0, x1, x2, x3]) → SqL K H' r [x0, x1, x2, x3] := fun h => SqL.of h
  -- the state behind a store
  have St : ∀ (i' sd' c' : Int) (H' : Hp), H' r = some (.lst [.ref a, .int i', .int sd', .int c']) → But r H H' → 0 ≤ i' → 0 ≤ sd' → sd' < 2147483647 → LR K H' r a ns := fun i' sd' c' H' h1 b h2 h3 h4 => ⟨i', sd', c', h1, hS.keep b, h2, h3, h4⟩
  refine ⟨_, rfl, r, _, _, _, rfl, rfl, R0 hR, at_get (a := 3) rfl, _, _, rfl, rfl, _, rfl, ?_⟩
  by_cases hc : 0 < c
  · rw [decide_eq_true hc]
    obtain ⟨j, ej, hj⟩ := mod_nat (x := c) hm1
    refine iteT ⟨_, rfl, r, _, _, _, rfl, rfl, R0 hR, at_get (a := 3) rfl, .inl ⟨_, rfl, _, rfl, _, _, rfl, rfl, by omega, ?_⟩⟩
    refine ⟨_, rfl, r, _, _, _, rfl, rfl, R0 hR, at_get (a := 3) rfl, _, rfl, _, _, rfl, rfl, ⟨by omega, by omega⟩, ?_⟩
    refine ⟨_, rfl, r, _, _, 3, rfl, rfl, hR, rfl, ?_⟩
    refine ⟨_, rfl, ?_⟩
    show Q (V.int (c % m)) _
    rw [ej]
    exact q _ j hj (St _ _ _ _ upd_same (But.upd _) hi hs0 hs1) (But.upd _)
  · rw [decide_eq_false hc]
    refine iteF ⟨_, rfl, r, _, _, _, rfl, rfl, R0 hR, at_get (a := 1) rfl, _, _, rfl, rfl, ?_⟩
    refine ⟨_, rfl, r, _, _, 1, rfl, rfl, hR, rfl, ?_⟩
    have b1 : But r H (upd H r (.lst ([V.ref a, .int i, .int sd, .int c].set 1 (.int (i + 1))))) := But.upd _
    have hR1 : (upd H r (.lst ([V.ref a, .int i, .int sd, .int c].set 1 (.int (i + 1))))) r = some (.lst [.ref a, .int (i + 1), .int sd, .int c]) := upd_same
    generalize upd H r (.lst ([V.ref a, .int i, .int sd, .int c].set 1 (.int (i + 1)))) = H1 at b1 hR1
    have hS1 := (hS.keep b1).sq
    refine ⟨_, rfl, r, _, _, _, rfl, rfl, R0 hR1, at_get (a := 1) rfl, _, rfl, r, _, _, _, rfl, rfl, R0 hR1, at_get (a := 0) rfl, a, _, rfl, .inl hS1, _, _, rfl, rfl, _, rfl, ?_⟩
    rw [List.length_map]
    have fl : ∀ y : Int, 0 ≤ y % 2147483647 ∧ y % 2147483647 < 2147483647 := fun y => ⟨Int.emod_nonneg _ (by decide), Int.emod_lt_of_pos _ (by decide)⟩
    by_cases hlt : (ns.length : Int) < i + 1
    · rw [decide_eq_true hlt]
      refine iteT ⟨_, rfl, r, _, _, _, rfl, rfl, R0 hR1, at_get (a := 2) rfl, _, _, rfl, rfl, .inr ⟨by decide, by decide⟩, _, _, rfl, rfl, .inl ⟨_, rfl, _, _, rfl, rfl, (by show (0 : Int) < 2147483647; decide), ?_⟩⟩
      refine ⟨_, rfl, r, _, _, 2, rfl, rfl, hR1, rfl, ?_⟩
      obtain ⟨f1, f2⟩ := fl (sd * 48271 + 11)
      have b2 : But r H1 (upd H1 r (.lst ([V.ref a, .int (i + 1), .int sd, .int c].set 2 (.int ((sd * 48271 + 11) % 2147483647))))) := But.upd _
      have hR2 : (upd H1 r (.lst ([V.ref a, .int (i + 1), .int sd, .int c].set 2 (.int ((sd * 48271 + 11) % 2147483647))))) r = some (.lst [.ref a, .int (i + 1), .int ((sd * 48271 + 11) % 2147483647), .int c]) := upd_same
      generalize upd H1 r (.lst ([V.ref a, .int (i + 1), .int sd, .int c].set 2 (.int ((sd * 48271 + 11) % 2147483647)))) = H2 at b2 hR2
      refine ⟨_, rfl, r, _, _, _, rfl, rfl, R0 hR2, at_get (a := 2) rfl, _, _, rfl, rfl, ⟨by decide, by decide⟩, .inl ⟨_, rfl, _, rfl, _, _, rfl, rfl, by omega, ?_⟩⟩
      obtain ⟨j, ej, hj⟩ := mod_nat (x := (sd * 48271 + 11) % 2147483647 / 7) hm1
      show Q (V.int ((sd * 48271 + 11) % 2147483647 / 7 % m)) _
      rw [ej]
      exact q _ j hj (St _ _ _ _ hR2 (b1.trans b2) (by omega) f1 f2) (b1.trans b2)
    · rw [decide_eq_false hlt]
      have hn : i.toNat < ns.length := by omega
      have gi : (ns.map V.int)[i.toNat]? = some (.int ns[i.toNat]) := by rw [List.getElem?_map, List.getElem?_eq_getElem hn]; rfl
      generalize ns[i.toNat] = ce at gi
      refine iteF ⟨_, rfl, r, _, _, _, rfl, rfl, R0 hR1, at_get (a := 0) rfl, _, rfl, r, _, _, _, rfl, rfl, R0 hR1, at_get (a := 1) rfl, _, _, rfl, rfl, a, _, _, _, rfl, rfl, hS1, at_of (j := i.toNat) (by omega) gi, ?_⟩
      refine ⟨_, rfl, r, _, _, _, rfl, rfl, R0 hR1, at_get (a := 2) rfl, _, _, rfl, rfl, .inr ⟨by decide, by decide⟩, _, rfl, _, _, rfl, rfl, _, _, rfl, rfl, .inl ⟨_, rfl, _, _, rfl, rfl, (by show (0 : Int) < 2147483647; decide), ?_⟩⟩
      refine ⟨_, rfl, r, _, _, 2, rfl, rfl, hR1, rfl, ?_⟩
      obtain ⟨f1, f2⟩ := fl (sd * 48271 + ce + 11)
      have b2 : But r H1 (upd H1 r (.lst ([V.ref a, .int (i + 1), .int sd, .int c].set 2 (.int ((sd * 48271 + ce + 11) % 2147483647))))) := But.upd _
      have hR2 : (upd H1 r (.lst ([V.ref a, .int (i + 1), .int sd, .int c].set 2 (.int ((sd * 48271 + ce + 11) % 2147483647))))) r = some (.lst [.ref a, .int (i + 1), .int ((sd * 48271 + ce + 11) % 2147483647), .int c]) := upd_same
      generalize upd H1 r (.lst ([V.ref a, .int (i + 1), .int sd, .int c].set 2 (.int ((sd * 48271 + ce + 11) % 2147483647)))) = H2 at b2 hR2
      obtain ⟨j, ej, hj⟩ := mod_nat (x := ce) hm1
      dsimp only
      refine jnI (fun σ' H' => ∃ c' : Int, H' r = some (.lst [.ref a, .int (i + 1), .int ((sd * 48271 + ce + 11) % 2147483647), .int c']) ∧ But r H H' ∧ σ' = [some (.ref r), some (.int m), none, some (.int ce)]) ?_ fun fin => ?_
      · rintro σ' H' ⟨c', h1, h2, rfl⟩
        refine ⟨_, rfl, .inl ⟨_, rfl, _, rfl, _, _, rfl, rfl, by omega, ?_⟩⟩
        show Q (V.int (ce % m)) _
        rw [ej]
        exact q _ j hj (St _ _ _ _ h1 h2 (by omega) f1 f2) h2
      refine ⟨_, rfl, _, _, rfl, rfl, ⟨by decide, by decide, by decide⟩, _, _, rfl, rfl, _, rfl, ?_⟩
      refine ite2 (fun _ => ?_) (fun _ => ?_)
      · refine ⟨_, rfl, _, rfl, _, _, rfl, rfl, ⟨by omega, by omega⟩, ?_⟩
        refine ⟨_, rfl, r, _, _, 3, rfl, rfl, hR2, rfl, ?_⟩
        exact fin _ _ ⟨_, upd_same, (b1.trans b2).trans (But.upd _), rfl⟩
      · exact fin _ _ ⟨c, hR2, b1.trans b2, rfl⟩
end
end KW
set_option Elab.async false
set_option linter.all false
set_option maxRecDepth 100000
set_option maxHeartbeats 4000000
/-! The law's picks; its trees. -/
namespace KW
open PySem PySem.Spec PyProof.Rows L2 KM
def spPick (K : PySem.W.Frag) : Sp := fun vs H Q _ => ∃ (r a la : Addr) (ns : List Int) (xs : List V), vs = [.ref r, .ref la] ∧ LR K H r a ns ∧ SqX K H r la xs ∧ 1 ≤ xs.length ∧ xs.length ≤ 1000000 ∧ ∀ (H' : Hp) (x : V), x ∈ xs → LR K H' r a ns → But r H H' → Q x H'
section
variable {P : Program} {w : World} {K : PySem.W.Frag} {mg : Str → Option Value} {base : Heap} {C : Addr}
theorem sc_pick : FnScope ["_law_row", "_law_things_here"] ["_law_row", "_law_things_here"] (defScope s_law_pick) := ⟨rfl, rfl, rfl, by decide +kernel, rfl, by decide +kernel, by decide +kernel⟩
theorem ok_pick {f : Addr} {fd : FuncData} (F : Fun K "_law_pick" "_law_pick" s_law_pick f fd) (T : TX K mg C) (G : Cal P w K mg base CX0 "_law_taken" 1 ["_law_row", "_law_many"] (spTaken K)) : FnOk P w K mg base CX0 2 f fd ["_law_row", "_law_things_here"] (spPick K) := by
  refine F.ok sc_pick (fun vs H Q E h => ?_) (fun cdv A outer s H vs Q E hr h => ?_)
  · obtain ⟨r, a, la, ns, xs, rfl, _⟩ := h
    rfl
  obtain ⟨r, a, la, ns, xs, rfl, hR, hS, h1, h2, q⟩ := h
  refine ⟨_, pss_one (ps_ret (pe_ix ix_list (pv 1) (pe_cal G hr pass0 (pa_cons (pv 0) (pa_cons (pe_callB call_len_seq (by rfl) T.len PySem.boot_len (pa_cons (pv 1) pa_nil)) pa_nil))) (fun _ _ => rfl))), ?_⟩
  refine ⟨_, rfl, _, rfl, _, rfl, la, xs, rfl, .inl hS.sq, r, a, ns, _, rfl, by omega, by omega, hR, fun H' j hj hR' b => ?_⟩
  have hj' : j < xs.length := by omega
  exact ⟨la, xs, _, xs[j], rfl, rfl, (hS.keep b).sq, at_get (List.getElem?_eq_getElem hj'), q _ _ (List.getElem_mem hj') hR' b⟩
end
end KW
set_option Elab.async false
set_option linter.all false
set_option maxRecDepth 100000
set_option maxHeartbeats 4000000
/-! The law's trees are drawn. -/
namespace KW
open PySem PySem.Spec PyProof.Rows L2 KM
/-! ### lists of texts compared with an empty one -/
theorem strOk_name {s : List Nat} (h : nameOk s) : PyData.strOk (mk s) = true := by
  unfold PyData.strOk
  rw [Array.all_eq_true]
  intro i hi
  have hm : (mk s).cps[i] ∈ s := by
    have : (mk s).cps[i] ∈ (mk s).cps := Array.getElem_mem hi
    simpa [mk] using this
  have e := h.2.2 _ hm
  have l : letter (mk s).cps[i] = true := by
    cases q : letter (mk s).cps[i] with
    | true => rfl
    | false => exact absurd e (cl1 q)
  unfold letter at l
  simp only [Bool.and_eq_true, decide_eq_true_eq] at l
  simp only [decide_eq_true_eq]
  omega
theorem lay_names : ∀ N : List (List Nat), (∀ s ∈ N, nameOk s) → PyData.canLayAll0 (N.map fun z => PyData.str (mk z)) = true
  | [], _ => by simp [PyData.canLayAll0]
  | s :: r, h => by
    simp only [List.map_cons, PyData.canLayAll0, PyData.canLay0]
    rw [strOk_name (h s List.mem_cons_self), lay_names r fun x hx => h x (List.mem_cons_of_mem _ hx)]
    rfl
theorem dep_names : ∀ N : List (List Nat), PyData.depthAll (N.map fun z => PyData.str (mk z)) ≤ 1
  | [] => by simp [PyData.depthAll]
  | s :: r => by
    have := dep_names r
    simp only [List.map_cons, PyData.depthAll, PyData.depth]
    omega
theorem names_shaped (N : List (List Nat)) (h : ∀ s ∈ N, nameOk s) : SeqAt.shaped (.list (N.map fun z => PyData.str (mk z))) = true := by
  have h1 := dep_names N
  have h2 : PyData.depth (.list (N.map fun z => PyData.str (mk z))) ≤ 64 := by
    simp only [PyData.depth]
    omega
  show (PyData.canLay0 (.list _) && decide (PyData.depth (.list _) ≤ 64)) = true
  rw [Bool.and_eq_true]
  exact ⟨by simp only [PyData.canLay0]; exact lay_names N h, decide_eq_true h2⟩
theorem dp_names {K : PySem.W.Frag} {H : Hp} : ∀ N : List (List Nat), DpAll K H (N.map fun z => V.str (mk z)) (N.map fun z => PyData.str (mk z))
  | [] => .nil
  | s :: r => .cons (.str _) (dp_names r)
/-! ### what a drawn tree is like -/
def cB : Nat → Nat
  | 0 => 8
  | d + 1 => 6 * (cB d + 6) + 10
structure GC (N : List (List Nat)) (n d j : Nat) (t : KM.T) : Prop where
  vo : vOk N n t
  po : pOk t
  dp : dep t ≤ d
  hg : hgt t ≤ 1 + 4 * d + j
  wi : wid t ≤ 3
  tx : (text t).length ≤ cB d + 3 * j
structure GTs (N : List (List Nat)) (n d : Nat) (ts : Ts) : Prop where
  ne : ts.len ≠ 0
  ln : ts.len ≤ 3
  vo : vOks N n ts
  po : pOks ts
  dp : deps ts ≤ d
  hg : hgts ts ≤ 4 + 4 * d
  wi : wids ts ≤ 3
  tx : (texts ts).length ≤ 3 * (cB d + 7)
theorem gts_of {N : List (List Nat)} {n d : Nat} : ∀ l : List KM.T, (∀ t ∈ l, GC N n d 2 t) → vOks N n (Ts.of l) ∧ pOks (Ts.of l) ∧ deps (Ts.of l) ≤ d ∧ hgts (Ts.of l) ≤ 4 + 4 * d ∧ wids (Ts.of l) ≤ 3 ∧ (texts (Ts.of l)).length ≤ l.length * (cB d + 7)
  | [], _ => ⟨by simp [Ts.of, vOks], by simp [Ts.of, pOks], by simp [Ts.of, deps], by simp only [Ts.of, hgts]; omega, by simp [Ts.of, wids], by simp [Ts.of, texts]⟩
  | t :: r, h => by
    obtain ⟨h1, h2, h3, h4, h5, h6⟩ := gts_of r fun x hx => h x (List.mem_cons_of_mem _ hx)
    obtain ⟨g1, g2, g3, g4, g5, g6⟩ := h t List.mem_cons_self
    refine ⟨by simp only [Ts.of, vOks]; exact ⟨g1, h1⟩, by simp only [Ts.of, pOks]; exact ⟨g2, h2⟩, by simp only [Ts.of, deps]; omega, by simp only [Ts.of, hgts]; omega, by simp only [Ts.of, wids]; omega, ?_⟩
    have e : (r.length + 1) * (cB d + 7) = r.length * (cB d + 7) + (cB d + 7) := Nat.succ_mul _ _
    simp only [Ts.of, texts, List.length_cons]
    rw [List.length_append, e]
    cases r with
    | nil => simp [Ts.of, Ts.len]; omega
    | cons a b =>
      rw [if_neg (by simp only [Ts.of, Ts.len]; omega), List.length_cons]
      omega
theorem gts_list {N : List (List Nat)} {n d : Nat} {l : List KM.T} (h1 : 1 ≤ l.length) (h3 : l.length ≤ 3) (h : ∀ t ∈ l, GC N n d 2 t) : GTs N n d (Ts.of l) := by
  obtain ⟨a, b, c, e, f, g⟩ := gts_of l h
  have hl := Ts.len_list (Ts.of l)
  rw [Ts.list_of] at hl
  refine ⟨by omega, by omega, a, b, c, e, f, Nat.le_trans g (Nat.mul_le_mul_right _ h3)⟩
theorem gc_name {N : List (List Nat)} {n d : Nat} {s : List Nat} (h : s ∈ N) (hs : nameOk s) : GC N n d 0 (.name s) := by
  refine ⟨by simp only [vOk]; exact h, by simp only [pOk]; exact hs, by simp only [dep]; omega, by simp only [hgt]; omega, by simp only [wid]; omega, ?_⟩
  simp only [text]
  have := hs.2.1
  have : 8 ≤ cB d := by cases d <;> simp only [cB] <;> omega
  omega
theorem gc_node {N : List (List Nat)} {n d i : Nat} (h : i < n) (hn : n ≤ 100) : GC N n d 0 (.node i) := by
  refine ⟨by simp only [vOk]; exact h, by simp only [pOk]; omega, by simp only [dep]; omega, by simp only [hgt]; omega, by simp only [wid]; omega, ?_⟩
  simp only [text]
  have := numC_len i
  have : 8 ≤ cB d := by cases d <;> simp only [cB] <;> omega
  omega
theorem gc_row {N : List (List Nat)} {n d : Nat} {ts : Ts} (h : GTs N n d ts) : GC N n (d + 1) 0 (.row ts) := by
  obtain ⟨h0, h1, h2, h3, h4, h5, h6, h7⟩ := h
  refine ⟨by simp only [vOk]; exact h2, by simp only [pOk]; exact ⟨h0, h3⟩, by simp only [dep]; omega, by simp only [hgt]; omega, by simp only [wid]; omega, ?_⟩
  simp only [text, cB]
  split
  · omega
  · simp only [List.length_append, List.length_singleton]; omega
theorem gc_round {N : List (List Nat)} {n d : Nat} {a b : Ts} (h : GTs N n d a) (k : GTs N n d b) : GC N n (d + 1) 0 (.round a b) := by
  obtain ⟨h0, h1, h2, h3, h4, h5, h6, h7⟩ := h
  obtain ⟨k0, k1, k2, k3, k4, k5, k6, k7⟩ := k
  refine ⟨by simp only [vOk]; exact ⟨h2, k2⟩, by simp only [pOk]; exact ⟨h0, k0, h3, k3⟩, by simp only [dep]; omega, by simp only [hgt]; omega, by simp only [wid]; omega, ?_⟩
  simp only [text, cB, List.length_append, List.length_cons, List.length_nil]
  omega
theorem gc_back {N : List (List Nat)} {n d j : Nat} {t : KM.T} (h : GC N n d j t) : GC N n d (j + 1) (.back t) := by
  obtain ⟨h1, h2, h3, h4, h5, h6⟩ := h
  refine ⟨by simp only [vOk]; exact h1, by simp only [pOk]; exact h2, by simp only [dep]; exact h3, by simp only [hgt]; omega, by simp only [wid]; exact h5, ?_⟩
  simp only [text, List.length_append, List.length_singleton]
  omega
theorem gc_times {N : List (List Nat)} {n d j k : Nat} {t : KM.T} (h : GC N n d j t) (hk : k < 100) : GC N n d (j + 1) (.times t k) := by
  obtain ⟨h1, h2, h3, h4, h5, h6⟩ := h
  refine ⟨by simp only [vOk]; exact h1, by simp only [pOk]; exact ⟨h2, hk⟩, by simp only [dep]; exact h3, by simp only [hgt]; omega, by simp only [wid]; exact h5, ?_⟩
  simp only [text, List.length_append, List.length_singleton]
  have := numC_len k
  omega
theorem gc_mono {N : List (List Nat)} {n d i j : Nat} {t : KM.T} (h : GC N n d i t) (e : i ≤ j) : GC N n d j t := by
  obtain ⟨h1, h2, h3, h4, h5, h6⟩ := h
  exact ⟨h1, h2, h3, by omega, h5, by omega⟩
/-- a test whose answer is known -/
theorem wtst {c : TT} {t u : TS} {D : Ends} {σ : L2.St} {H : Hp} (b : Bool) (Pw : Hp → Prop) (hb : ∀ H', Pw H' → (if b = true then t D σ H' else u D σ H')) (k : (∀ H', Pw H' → (if b = true then t D σ H' else u D σ H')) → tIfS c t u D σ H) : tIfS c t u D σ H := k hb
theorem eqv_empty (N : List (List Nat)) : PyData.eqv (.list (N.map fun z => PyData.str (mk z))) (.list []) = decide (N = []) := by
  cases N with
  | nil => simp [PyData.eqv, PyData.eqvAll]
  | cons a b => simp [PyData.eqv, PyData.eqvAll]
def spLThing (K : PySem.W.Frag) (m : Nat) : Sp := fun vs H Q _ => ∃ (r a la : Addr) (ns : List Int) (N : List (List Nat)) (n d : Nat), vs = [.ref r, .ref la, .int (n : Int), .int (d : Int)] ∧ LR K H r a ns ∧ H la = some (.lst (N.map fun z => V.str (mk z))) ∧ la ≠ r ∧ (∀ s ∈ N, nameOk s) ∧ N.length ≤ 100 ∧ 1 ≤ n ∧ n ≤ 100 ∧ d < m ∧
  ∀ (H' : Hp) (v : V) (t : KM.T), LR K H' r a ns → But r H H' → TAt H' v t → GC N n d 2 t → Q v H'
def spLThings (K : PySem.W.Frag) (m : Nat) : Sp := fun vs H Q _ => ∃ (r a la : Addr) (ns : List Int) (N : List (List Nat)) (n d : Nat), vs = [.ref r, .ref la, .int (n : Int), .int (d : Int)] ∧ LR K H r a ns ∧ H la = some (.lst (N.map fun z => V.str (mk z))) ∧ la ≠ r ∧ (∀ s ∈ N, nameOk s) ∧ N.length ≤ 100 ∧ 1 ≤ n ∧ n ≤ 100 ∧ d < m ∧
  ∀ (H' : Hp) (v : V) (ts : Ts), LR K H' r a ns → But r H H' → TsA H' v ts → GTs N n d ts → Q v H'
section
variable {P : Program} {w : World} {K : PySem.W.Frag} {mg : Str → Option Value} {base : Heap} {C : Addr}
theorem sc_lthing : FnScope ["_law_row", "_law_names", "_law_n", "_law_deep", "_law_way", "_law_found", "_law_turn"] ["_law_row", "_law_names", "_law_n", "_law_deep"] (defScope s_law_thing) := ⟨rfl, rfl, rfl, by decide +kernel, rfl, by decide +kernel, by decide +kernel⟩
theorem ok_lthing {f : Addr} {fd : FuncData} {m : Nat} (F : Fun K "_law_thing" "_law_thing" s_law_thing f fd) (T : TX K mg C) (GT : Cal P w K mg base CX0 "_law_taken" 1 ["_law_row", "_law_many"] (spTaken K)) (GP : Cal P w K mg base CX0 "_law_pick" 2 ["_law_row", "_law_things_here"] (spPick K))
    (GS : Cal P w K mg base CX0 "_law_things" (2 * m + 3) ["_law_row", "_law_names", "_law_n", "_law_deep"] (spLThings K m)) : FnOk P w K mg base CX0 (2 * m + 4) f fd ["_law_row", "_law_names", "_law_n", "_law_deep"] (spLThing K (m + 1)) := by
  refine F.ok sc_lthing (fun vs H Q E h => ?_) (fun cdv A outer s H vs Q E hr h => ?_)
  · obtain ⟨r, a, la, ns, N, n, d, rfl, _⟩ := h
    rfl
  obtain ⟨r, a, la, ns, N, n, d, rfl, hR, hla, hne, hN, hN100, hn1, hn2, hd, q⟩ := h
  have hr1 : Room 1 (A.deeper (envOfC "_law_thing" (defScope s_law_thing) s.heap.objs.size f cdv)) := hr.mono (by omega)
  have hr2 : Room 2 (A.deeper (envOfC "_law_thing" (defScope s_law_thing) s.heap.objs.size f cdv)) := hr.mono (by omega)
  refine ⟨_, pss_cons (ps_set (i := 4) sc_lthing.nd rfl (Or.inl rfl) (pe_ifExp (pt_cmpR op_gt (pv 3) pe_int (nomark _)) (pe_cal GT hr1 pass0 (pa_cons (pv 0) (pa_cons pe_int pa_nil))) (pe_cal GT hr1 pass0 (pa_cons (pv 0) (pa_cons pe_int pa_nil)))))
    (pss_cons (ps_if (PW.pt (pw_and (pt_cmpR op_eq (pv 4) pe_int (nomark _)) (pw_and1 (pt_cmpR (op_neD hr.units) (pv 1) (pe_lst pa_nil) (nomark _)))))
        (pss_one (ps_set (i := 5) sc_lthing.nd rfl (Or.inl rfl) (pe_tup (pa_cons pe_str (pa_cons (pe_cal GP hr2 pass0 (pa_cons (pv 0) (pa_cons (pv 1) pa_nil))) pa_nil)))))
        (pss_one (ps_if (pt_cmpR op_lt (pv 4) pe_int (nomark _))
          (pss_one (ps_set (i := 5) sc_lthing.nd rfl (Or.inl rfl) (pe_tup (pa_cons pe_str (pa_cons (pe_cal GT hr1 pass0 (pa_cons (pv 0) (pa_cons (pv 2) pa_nil))) pa_nil)))))
          (pss_one (ps_if (pt_cmpR op_eq (pv 4) pe_int (nomark _))
            (pss_one (ps_set (i := 5) sc_lthing.nd rfl (Or.inl rfl) (pe_tup (pa_cons pe_str (pa_cons (pe_cal GS hr pass0 (pa_cons (pv 0) (pa_cons (pv 1) (pa_cons (pv 2) (pa_cons (pe_op op_sub (pv 3) pe_int) pa_nil))))) (pa_cons (pe_cal GS hr pass0 (pa_cons (pv 0) (pa_cons (pv 1) (pa_cons (pv 2) (pa_cons (pe_op op_sub (pv 3) pe_int) pa_nil))))) pa_nil))))))
            (pss_one (ps_set (i := 5) sc_lthing.nd rfl (Or.inl rfl) (pe_tup (pa_cons pe_str (pa_cons (pe_cal GS hr pass0 (pa_cons (pv 0) (pa_cons (pv 1) (pa_cons (pv 2) (pa_cons (pe_op op_sub (pv 3) pe_int) pa_nil))))) pa_nil))))))))))
    (pss_cons (ps_for PassesOwn.never rfl (pi_range1 rfl T.range (pa_cons (pe_cal GT hr1 pass0 (pa_cons (pv 0) (pa_cons pe_int pa_nil))) pa_nil)) (pg_name (i := 6) sc_lthing.nd rfl (Or.inl rfl))
      (pss_one (ps_set (i := 5) sc_lthing.nd rfl (Or.inl rfl) (pe_ifExp (pt_cmpR op_eq (pe_cal GT hr1 pass0 (pa_cons (pv 0) (pa_cons pe_int pa_nil))) pe_int (nomark _)) (pe_tup (pa_cons pe_str (pa_cons (pv 5) pa_nil)))
        (pe_tup (pa_cons pe_str (pa_cons (pv 5) (pa_cons (pe_cal GP hr2 pass0 (pa_cons (pv 0) (pa_cons (pe_lst (pa_cons pe_int (pa_cons pe_int (pa_cons pe_int (pa_cons pe_int (pa_cons pe_int (pa_cons pe_int (pa_cons pe_int pa_nil)))))))) pa_nil))) pa_nil))))))))
    (pss_one (ps_ret (pv 5))))), ?_⟩
  refine jnA (fun σ' H1 => ∃ j : Nat, σ' = [some (.ref r), some (.ref la), some (.int (n : Int)), some (.int (d : Int)), some (.int (j : Int)), none, none] ∧ LR K H1 r a ns ∧ But r H H1 ∧ ((d = 0 ∧ j < 2) ∨ (1 ≤ d ∧ j < 6))) ?_ fun fin => ?_
  rotate_left
  · refine ⟨_, rfl, _, _, rfl, rfl, _, rfl, ?_⟩
    by_cases h0 : 0 < d
    · rw [decide_eq_true (by omega : (0 : Int) < (d : Int))]
      refine iteT ⟨_, rfl, r, a, ns, 6, rfl, by decide, by decide, hR, fun H1 j hj R1 b1 => ?_⟩
      exact fin _ _ ⟨j, rfl, R1, b1, .inr ⟨by omega, by omega⟩⟩
    · rw [decide_eq_false (by omega : ¬ (0 : Int) < (d : Int))]
      refine iteF ⟨_, rfl, r, a, ns, 2, rfl, by decide, by decide, hR, fun H1 j hj R1 b1 => ?_⟩
      exact fin _ _ ⟨j, rfl, R1, b1, .inl ⟨by omega, by omega⟩⟩
  rintro σ' H1 ⟨j, rfl, R1, b1, hj⟩
  have hla1 : H1 la = some (.lst (N.map fun z => V.str (mk z))) := b1 _ _ hla hne
  -- what stands ahead of the signs
  refine jnI (fun σ' H2 => ∃ (v : V) (t : KM.T), σ' = [some (.ref r), some (.ref la), some (.int (n : Int)), some (.int (d : Int)), some (.int (j : Int)), some v, none] ∧ LR K H2 r a ns ∧ But r H H2 ∧ TAt H2 v t ∧ GC N n d 0 t) ?_ fun fin => ?_
  rotate_left
  · by_cases hA : j = 0 ∧ N ≠ []
    · obtain ⟨rfl, hN0⟩ := hA
      refine ⟨_, rfl, rfl, _, rfl, ?_⟩
      rw [show decide (V.int ((0 : Nat) : Int) = V.int 0) = true from decide_eq_true rfl]
      refine iteT ⟨_, rfl, Nat.zero_le _, fun e he => ⟨_, _, .lst (SqL.of (Same.new he _ _ _ hla1)) (dp_names N), .lst (SqL.of upd_same) .nil, names_shaped N hN, by decide, _, rfl, ?_⟩⟩
      rw [eqv_empty, decide_eq_false hN0]
      have s2 := Same.new he (.lst [])
      have R2 := R1.same s2
      have hla2 := s2 _ _ hla1
      refine iteT ⟨_, rfl, _, rfl, r, a, la, ns, _, rfl, R2, .inl ⟨Rd.of hla2, hne⟩, by rw [List.length_map]; exact List.length_pos_iff.mpr hN0, by rw [List.length_map]; omega, fun H3 x hx R3 b3 => ⟨line2, fun o ho => ?_⟩⟩
      obtain ⟨z, hz, rfl⟩ := List.mem_map.mp hx
      have s4 := Same.new ho (.tup [.str (Str.ofString "name"), .str (mk z)])
      refine fin _ _ ⟨_, .name z, rfl, R3.same s4, ((b1.trans (Same.but s2)).trans b3).trans (Same.but s4), ?_, gc_name hz (hN z hz)⟩
      simp only [TAt]
      exact ⟨o, rfl, upd_same⟩
    · refine wtst false (fun H' => Same H1 H') ?_ fun fi2 => ?_
      rotate_left
      · refine ⟨_, rfl, rfl, _, rfl, ?_⟩
        by_cases h0 : j = 0
        · have hN0 : N = [] := by
            cases N with
            | nil => rfl
            | cons x y => exact absurd ⟨h0, List.cons_ne_nil _ _⟩ hA
          rw [show decide (V.int (j : Int) = V.int 0) = true from decide_eq_true (by rw [h0]; rfl)]
          refine iteT ⟨_, rfl, Nat.zero_le _, fun e he => ⟨_, _, .lst (SqL.of (Same.new he _ _ _ hla1)) (dp_names N), .lst (SqL.of upd_same) .nil, names_shaped N hN, by decide, _, rfl, ?_⟩⟩
          rw [eqv_empty, decide_eq_true hN0]
          exact fi2 _ (Same.new he _)
        · rw [show decide (V.int (j : Int) = V.int 0) = false from decide_eq_false fun e => h0 (by have := V.int.inj e; omega)]
          exact iteF (fi2 _ (Same.refl _))
      rintro H2 s2
      have R2 := R1.same s2
      have b2 := b1.trans (Same.but s2)
      have hla2 := s2 _ _ hla1
      refine iteF ⟨_, rfl, _, _, rfl, rfl, _, rfl, ?_⟩
      by_cases h3 : j < 3
      · rw [decide_eq_true (by omega : (j : Int) < 3)]
        refine iteT ⟨_, rfl, _, rfl, r, a, ns, _, rfl, by omega, by omega, R2, fun H3 i hi R3 b3 => ⟨line2, fun o ho => ?_⟩⟩
        have s4 := Same.new ho (.tup [.str (Str.ofString "node"), .int (i : Int)])
        refine fin _ _ ⟨_, .node i, rfl, R3.same s4, (b2.trans b3).trans (Same.but s4), ?_, gc_node (by omega) hn2⟩
        simp only [TAt]
        exact ⟨o, rfl, upd_same⟩
      · rw [decide_eq_false (by omega : ¬ (j : Int) < 3)]
        obtain ⟨d', rfl⟩ : ∃ d', d = d' + 1 := ⟨d - 1, by omega⟩
        have ed : (((d' + 1 : Nat) : Int) - 1) = (d' : Int) := by omega
        refine iteF ⟨_, rfl, rfl, _, rfl, ?_⟩
        by_cases h4 : j = 3
        · rw [show decide (V.int (j : Int) = V.int 3) = true from decide_eq_true (by rw [h4]; rfl)]
          refine iteT ⟨_, rfl, _, rfl, _, rfl, _, rfl, _, _, rfl, rfl, ?_⟩
          refine ⟨r, a, la, ns, N, n, d', by rw [← ed]; rfl, R2, hla2, hne, hN, hN100, hn1, hn2, by omega, fun H3 v3 ts3 R3 b3 hv3 hg3 => ?_⟩
          refine ⟨_, rfl, _, rfl, _, rfl, _, rfl, _, _, rfl, rfl, ?_⟩
          refine ⟨r, a, la, ns, N, n, d', by rw [← ed]; rfl, R3, b3 _ _ hla2 hne, hne, hN, hN100, hn1, hn2, by omega, fun H4 v4 ts4 R4 b4 hv4 hg4 => ⟨line3, fun o ho => ?_⟩⟩
          have s4 := Same.new ho (.tup [.str (Str.ofString "round"), v3, v4])
          refine fin _ _ ⟨_, .round ts3 ts4, rfl, R4.same s4, ((b2.trans b3).trans b4).trans (Same.but s4), ?_, gc_round hg3 hg4⟩
          obtain ⟨x, xs, rfl, x1, x2⟩ := (hv3.keep (R3.tk b4)).keep (Same.tk s4)
          obtain ⟨y, ys, rfl, y1, y2⟩ := hv4.keep (Same.tk s4)
          simp only [TAt]
          exact ⟨o, x, y, xs, ys, rfl, upd_same, ⟨x1, x2⟩, y1, y2⟩
        · rw [show decide (V.int (j : Int) = V.int 3) = false from decide_eq_false fun e => h4 (by have := V.int.inj e; omega)]
          refine iteF ⟨_, rfl, _, rfl, _, rfl, _, rfl, _, _, rfl, rfl, ?_⟩
          refine ⟨r, a, la, ns, N, n, d', by rw [← ed]; rfl, R2, hla2, hne, hN, hN100, hn1, hn2, by omega, fun H3 v3 ts3 R3 b3 hv3 hg3 => ⟨line2, fun o ho => ?_⟩⟩
          have s4 := Same.new ho (.tup [.str (Str.ofString "row"), v3])
          refine fin _ _ ⟨_, .row ts3, rfl, R3.same s4, (b2.trans b3).trans (Same.but s4), ?_, gc_row hg3⟩
          obtain ⟨x, xs, rfl, x1, x2⟩ := hv3.keep (Same.tk s4)
          simp only [TAt]
          exact ⟨o, x, xs, rfl, upd_same, x1, x2⟩
  rintro σ' H2 ⟨v, t, rfl, R2, b2, hv, hg⟩
  -- the signs behind it
  refine ⟨_, rfl, r, a, ns, 3, rfl, by decide, by decide, R2, fun H3 i3 hi3 R3 b3 => ⟨(i3 : Int), rfl, by omega, by omega, ?_⟩⟩
  refine for_range (lo := 0) (n := (i3 : Int).toNat) (fun i σ H' => ∃ (v : V) (t : KM.T) (v6 : Option V), σ = [some (.ref r), some (.ref la), some (.int (n : Int)), some (.int (d : Int)), some (.int (j : Int)), some v, v6] ∧ LR K H' r a ns ∧ But r H H' ∧ TAt H' v t ∧ GC N n d i t)
    ⟨v, t, none, rfl, R3, b2.trans b3, TAt.keep (R2.tk b3) _ _ hv, hg⟩ ?_ ?_
  · rintro i σ H4 hi ⟨v4, t4, v6, rfl, R4, b4, hv4, hg4⟩
    refine ⟨_, rfl, r, a, ns, 2, rfl, by decide, by decide, R4, fun H5 i5 hi5 R5 b5 => ⟨rfl, _, rfl, ?_⟩⟩
    have hv5 := TAt.keep (R4.tk b5) _ _ hv4
    refine ite2 (fun _ => ?_) (fun _ => ?_)
    · refine ⟨_, rfl, line2, fun o ho => ?_⟩
      have s6 := Same.new ho (.tup [.str (Str.ofString "back"), v4])
      refine ⟨_, .back t4, _, rfl, R5.same s6, (b4.trans b5).trans (Same.but s6), ?_, gc_back hg4⟩
      simp only [TAt]
      exact ⟨o, v4, rfl, upd_same, TAt.keep (Same.tk s6) _ _ hv5⟩
    · refine ⟨_, rfl, _, rfl, line_ge (show 7 ≤ 16777216 by decide), fun lp hlp => ?_⟩
      have s6 := Same.new hlp (.lst [.int 0, .int 1, .int 2, .int 2, .int 3, .int 9, .int 20])
      have R6 := R5.same s6
      have nlp : lp ≠ r := (R5.fresh hlp).1
      refine ⟨r, a, lp, ns, _, rfl, R6, .inl ⟨Rd.of upd_same, nlp⟩, (show 1 ≤ 7 by decide), (show 7 ≤ 1000000 by decide), fun H7 x hx R7 b7 => ⟨line3, fun o ho => ?_⟩⟩
      obtain ⟨k, rfl, hk⟩ : ∃ k : Nat, x = .int (k : Int) ∧ k < 100 := by
        simp only [List.mem_cons, List.not_mem_nil, or_false] at hx
        rcases hx with e | e | e | e | e | e | e
        · exact ⟨0, e, by omega⟩
        · exact ⟨1, e, by omega⟩
        · exact ⟨2, e, by omega⟩
        · exact ⟨2, e, by omega⟩
        · exact ⟨3, e, by omega⟩
        · exact ⟨9, e, by omega⟩
        · exact ⟨20, e, by omega⟩
      have s8 := Same.new ho (.tup [.str (Str.ofString "times"), v4, .int (k : Int)])
      refine ⟨_, .times t4 k, _, rfl, R7.same s8, (((b4.trans b5).trans (Same.but s6)).trans b7).trans (Same.but s8), ?_, gc_times hg4 hk⟩
      simp only [TAt]
      exact ⟨o, v4, rfl, upd_same, TAt.keep (Same.tk s8) _ _ (TAt.keep (R6.tk b7) _ _ (TAt.keep (Same.tk s6) _ _ hv5))⟩
  · rintro σ H4 ⟨v4, t4, v6, rfl, R4, b4, hv4, hg4⟩
    exact ⟨_, rfl, q _ _ t4 R4 b4 hv4 (gc_mono hg4 (by omega))⟩
end
end KW
set_option Elab.async false
set_option linter.all false
set_option maxRecDepth 100000
set_option maxHeartbeats 4000000
/-! The law's things drawn; both by induction. -/
namespace KW
open PySem PySem.Spec PyProof.Rows L2 KM
section
variable {P : Program} {w : World} {K : PySem.W.Frag} {mg : Str → Option Value} {base : Heap} {C : Addr}
theorem sc_lthings : FnScope ["_law_row", "_law_names", "_law_n", "_law_deep", "_law_turn"] ["_law_row", "_law_names", "_law_n", "_law_deep"] (defScope s_law_things) := ⟨rfl, rfl, rfl, by decide +kernel, rfl, by decide +kernel, by decide +kernel⟩
theorem ok_lthings {f : Addr} {fd : FuncData} {m : Nat} (F : Fun K "_law_things" "_law_things" s_law_things f fd) (T : TX K mg C) (GT : Cal P w K mg base CX0 "_law_taken" 1 ["_law_row", "_law_many"] (spTaken K))
    (G : Cal P w K mg base CX0 "_law_thing" (2 * m + 4) ["_law_row", "_law_names", "_law_n", "_law_deep"] (spLThing K (m + 1))) : FnOk P w K mg base CX0 (2 * m + 5) f fd ["_law_row", "_law_names", "_law_n", "_law_deep"] (spLThings K (m + 1)) := by
  refine F.ok sc_lthings (fun vs H Q E h => ?_) (fun cdv A outer s H vs Q E hr h => ?_)
  · obtain ⟨r, a, la, ns, N, n, d, rfl, _⟩ := h
    rfl
  obtain ⟨r, a, la, ns, N, n, d, rfl, hR, hla, hne, hN, hN100, hn1, hn2, hd, q⟩ := h
  have hr1 : Room 1 (A.deeper (envOfC "_law_things" (defScope s_law_things) s.heap.objs.size f cdv)) := hr.mono (by omega)
  refine ⟨_, pss_one (ps_ret (pe_callTy call_tuple_of (by rfl) T.tuple (by decide +kernel) (pa_cons (pe_lc (own := [("_law_turn", 4)]) (g := gName 4) (tt := tYes) rfl sc_lthings.nd (pi_range1 rfl T.range (pa_cons (pe_op op_add pe_int (pe_cal GT hr1 pass0 (pa_cons (pv 0) (pa_cons pe_int pa_nil)))) pa_nil))
    (blkOk_by (N := ["_law_row", "_law_names", "_law_n", "_law_deep", "_law_turn"]) (sc := defScope s_law_things) (by decide +kernel))
    (fun _ _ _ _ _ => pg_name (i := 4) sc_lthings.nd rfl (Or.inl rfl)) (fun _ _ _ _ _ => pts_nil) (fun _ _ _ _ _ => pe_cal G hr pass0 (pa_cons (pv 0) (pa_cons (pv 1) (pa_cons (pv 2) (pa_cons (pv 3) pa_nil)))))) pa_nil))), ?_⟩
  refine ⟨_, rfl, r, a, ns, 3, rfl, by decide, by decide, hR, fun H1 j hj R1 b1 => ⟨_, _, rfl, rfl, _, rfl, ?_⟩⟩
  have e1 : ((1 : Int) + (j : Int)).toNat = j + 1 := by omega
  refine ⟨(by show -(2 ^ 62) ≤ (1 : Int) + (j : Int); omega), (by show (1 : Int) + (j : Int) < 2 ^ 62; omega), fun D hD => lc_range (lo := 0) (n := ((1 : Int) + (j : Int)).toNat) (fun i H' => ∃ (l : List KM.T) (us : List V), l.length = i ∧ LR K H' r a ns ∧ But r H H' ∧ H' D = some (.lst us) ∧ TsAt H' us (Ts.of l) ∧ ∀ t ∈ l, GC N n d 2 t)
    ⟨[], [], rfl, R1.same (Same.new hD _), b1.trans (Same.but (Same.new hD _)), upd_same, rfl, fun t ht => by cases ht⟩ ?_ ?_⟩
  · rintro i H' hi ⟨l, us, hl, R2, b2, hDl, hT, hg⟩
    refine ⟨rfl, _, rfl, _, rfl, _, rfl, _, rfl, r, a, la, ns, N, n, d, rfl, R2, b2 _ _ hla hne, hne, hN, hN100, hn1, hn2, hd, fun H3 v t R3 b3 hv hgt => ?_⟩
    have dok := R1.fresh hD
    have hD3 := b3 _ _ hDl dok.1
    have ul := TsAt.len _ _ hT
    rw [← Ts.len_list, Ts.list_of] at ul
    have tk3 : TK H3 (upd H3 D (.lst (us ++ [v]))) := TK.upd _ fun xs e => by rw [hD3] at e; cases e
    refine ⟨us, hD3, Nat.lt_of_le_of_lt (show us.length ≤ 1000 by omega) (small1000 (Nat.le_refl _)), l ++ [t], us ++ [v], by rw [List.length_append, hl]; rfl, R3.upd dok _, ?_, upd_same, ?_, ?_⟩
    · intro b o e nb
      have nD : b ≠ D := fun z => by
        rw [z] at e
        have e2 := b1 _ _ e dok.1
        rw [hD] at e2
        cases e2
      rw [upd_ne nD]
      exact b3 _ _ (b2 _ _ e nb) nb
    · rw [← of_snoc]
      exact TsAt.snoc (TAt.keep tk3 _ _ hv) _ _ (TsAt.keep tk3 _ _ (TsAt.keep (R2.tk b3) _ _ hT))
    · intro x hx
      rcases List.mem_append.mp hx with hx | hx
      · exact hg x hx
      · rw [List.mem_singleton.mp hx]; exact hgt
  · rintro H' ⟨l, us, hl, R2, b2, hDl, hT, hg⟩
    refine ⟨D, us, rfl, .inl ⟨SqL.of hDl, fun o ho => ?_⟩⟩
    have s4 := Same.new ho (.tup us)
    exact q _ _ (Ts.of l) (R2.same s4) (b2.trans (Same.but s4)) ⟨o, us, rfl, upd_same, TsAt.keep (Same.tk s4) _ _ hT⟩ (gts_list (by omega) (by omega) hg)
theorem draw_all {f1 f2 : Addr} {d1 d2 : FuncData} (T : TX K mg C) (GT : Cal P w K mg base CX0 "_law_taken" 1 ["_law_row", "_law_many"] (spTaken K)) (GP : Cal P w K mg base CX0 "_law_pick" 2 ["_law_row", "_law_things_here"] (spPick K))
    (F1 : Fun K "_law_thing" "_law_thing" s_law_thing f1 d1) (m1 : mg "_law_thing" = some (.ref f1)) (b1 : Binds K d1 ["_law_row", "_law_names", "_law_n", "_law_deep"] [])
    (F2 : Fun K "_law_things" "_law_things" s_law_things f2 d2) (m2 : mg "_law_things" = some (.ref f2)) (b2 : Binds K d2 ["_law_row", "_law_names", "_law_n", "_law_deep"] []) :
    ∀ m : Nat, Cal P w K mg base CX0 "_law_things" (2 * m + 3) ["_law_row", "_law_names", "_law_n", "_law_deep"] (spLThings K m)
  | 0 => ⟨f2, d2, fn_none fun vs H Q E h => by
      obtain ⟨r, a, la, ns, N, n, d, _, _, _, _, _, _, _, _, hd, _⟩ := h
      omega, m2, F2.kp, b2⟩
  | m + 1 => by
    have ih := draw_all T GT GP F1 m1 b1 F2 m2 b2 m
    have g1 : Cal P w K mg base CX0 "_law_thing" (2 * m + 4) ["_law_row", "_law_names", "_law_n", "_law_deep"] (spLThing K (m + 1)) := ⟨f1, d1, ok_lthing F1 T GT GP ih, m1, F1.kp, b1⟩
    exact ⟨f2, d2, ok_lthings F2 T GT g1, m2, F2.kp, b2⟩
end
end KW
set_option Elab.async false
set_option linter.all false
set_option maxRecDepth 100000
set_option maxHeartbeats 4000000
/-! The law's texts. -/
namespace KW
open PySem PySem.Spec PyProof.Rows L2 KM
theorem e_name_round : decide (V.str (Str.ofString "name") = V.str (Str.ofString "round")) = false := by decide +kernel
theorem e_node_round : decide (V.str (Str.ofString "node") = V.str (Str.ofString "round")) = false := by decide +kernel
theorem e_back_round : decide (V.str (Str.ofString "back") = V.str (Str.ofString "round")) = false := by decide +kernel
theorem e_times_round : decide (V.str (Str.ofString "times") = V.str (Str.ofString "round")) = false := by decide +kernel
theorem e_row_round : decide (V.str (Str.ofString "row") = V.str (Str.ofString "round")) = false := by decide +kernel
theorem e_round_round : decide (V.str (Str.ofString "round") = V.str (Str.ofString "round")) = true := by decide +kernel
section
variable {P : Program} {w : World} {K : PySem.W.Frag} {mg : Str → Option Value} {base : Heap} {C : Addr}
theorem sc_lthings_text : FnScope ["_law_things_here", "_law_thing_here"] ["_law_things_here"] (defScope s_law_things_text) := ⟨rfl, rfl, rfl, by decide +kernel, rfl, by decide +kernel, by decide +kernel⟩
theorem ok_lthings_text {f : Addr} {fd : FuncData} {k : Nat} (F : Fun K "_law_things_text" "_law_things_text" s_law_things_text f fd) (G : Cal P w K mg base CX0 "_law_thing_text" k ["_law_thing_here"] (spTT k)) : FnOk P w K mg base CX0 (k + 1) f fd ["_law_things_here"] (spTTs (k + 1)) := by
  refine F.ok sc_lthings_text (fun vs H Q E h => ?_) (fun cdv A outer s H vs Q E hr h => ?_)
  · obtain ⟨v, ts, rfl, _⟩ := h
    rfl
  obtain ⟨v, ts, rfl, ⟨a, us, rfl, hT, hts⟩, hp, hh, hl, hn, hw, q⟩ := h
  refine ⟨_, pss_one (ps_ret (pe_join pe_str (pe_lc (own := [("_law_thing_here", 1)]) (g := gName 1) (tt := tYes) rfl sc_lthings_text.nd (pi_tup (pv 0)) (blkOk_by (N := ["_law_things_here", "_law_thing_here"]) (sc := defScope s_law_things_text) (by decide +kernel))
    (fun _ _ _ _ _ => pg_name (i := 1) sc_lthings_text.nd rfl (Or.inl rfl)) (fun _ _ _ _ _ => pts_nil) (fun _ _ _ _ _ => pe_cal G hr pass0 (pa_cons (pv 1) pa_nil))))), ?_⟩
  have hlen := TsAt.len ts us hts
  have hll := Ts.len_list ts
  refine ⟨⟨_, rfl⟩, _, rfl, a, rfl, ⟨us, SqT.of hT⟩, fun D hD => lc_tup (K := K) (a := a) (xs := us) (fun i H' => But D H H' ∧ H' D = some (.lst ((ts.list.take i).map fun t => V.str (mk (text t)))))
    ⟨But.upd _, upd_same⟩ (fun i H' _ ⟨s1, _⟩ => SqT.of (s1 _ _ hT (ne_of_none hT hD))) ?_ ?_⟩
  · rintro i x H' hx ⟨s1, hL⟩
    obtain ⟨t, ht, hu⟩ := TsAt.get ts us hts i x hx
    have hm := List.mem_of_getElem? ht
    have tk1 : TK H H' := s1.tk fun xs e => by rw [hD] at e; cases e
    have hlt : i < us.length := (List.getElem?_eq_some_iff.mp hx).1
    refine ⟨rfl, _, rfl, x, t, rfl, TAt.keep tk1 _ _ hu, pOks_mem ts hp t hm, by have := hgts_mem ts t hm; omega, Nat.le_trans (texts_mem_len ts t hm) hl, Nat.le_trans (wids_mem ts t hm) hw, fun H2 s2 => ⟨_, s2 _ _ hL, ?_, (s1.trans (Same.but s2)).trans (But.upd _), ?_⟩⟩
    · rw [List.length_map, List.length_take]
      exact Nat.lt_of_le_of_lt (Nat.min_le_left _ _) (small1000 (by omega))
    · rw [upd_same, List.take_add_one, ht, List.map_append]
      rfl
  · rintro H' ⟨s1, hL⟩
    rw [hlen, ← hll, List.take_length] at hL
    have sm := sum_texts ts
    refine ⟨_, D, ts.list.map fun t => mk (text t), rfl, rfl, .inl (SqL.of (by rw [hL, List.map_map]; rfl)), ?_, ?_⟩
    · rw [List.length_map, hll, k32, mk_len, List.length_singleton]
      omega
    · rw [k32, join_texts]
      exact q _ fun b o e => s1 _ _ e (ne_of_none e hD)
theorem sc_lthing_text : FnScope ["_law_thing_here"] ["_law_thing_here"] (defScope s_law_thing_text) := ⟨rfl, rfl, rfl, by decide +kernel, rfl, by decide +kernel, by decide +kernel⟩
theorem ok_lthing_text {f : Addr} {fd : FuncData} {k : Nat} (F : Fun K "_law_thing_text" "_law_thing_text" s_law_thing_text f fd) (T : TX K mg C) (G : Cal P w K mg base CX0 "_law_thing_text" k ["_law_thing_here"] (spTT k)) (Gs : Cal P w K mg base CX0 "_law_things_text" k ["_law_things_here"] (spTTs k)) : FnOk P w K mg base CX0 (k + 1) f fd ["_law_thing_here"] (spTT (k + 1)) := by
  refine F.ok sc_lthing_text (fun vs H Q E h => ?_) (fun cdv A outer s H vs Q E hr h => ?_)
  · obtain ⟨v, t, rfl, _⟩ := h
    rfl
  obtain ⟨v, t, rfl, hT, hp, hh, hl, hw, q⟩ := h
  refine ⟨_, pss_cons (ps_if (pt_in2 (pe_ix ix_tup (pv 0) pe_int (fun _ _ => rfl))) (pss_one (ps_ret (pe_callTy (call_str_int.or SkE.call_str_str) (by rfl) T.str (by decide +kernel) (pa_cons (pe_ix ix_tup (pv 0) pe_int (fun _ _ => rfl)) pa_nil)))) pss_nil)
    (pss_cons (ps_if (pt_cmpR op_eq (pe_ix ix_tup (pv 0) pe_int (fun _ _ => rfl)) pe_str (nomark _)) (pss_one (ps_ret (pe_op op_add_str (pe_cal G hr pass0 (pa_cons (pe_ix ix_tup (pv 0) pe_int (fun _ _ => rfl)) pa_nil)) pe_str))) pss_nil)
    (pss_cons (ps_if (pt_cmpR op_eq (pe_ix ix_tup (pv 0) pe_int (fun _ _ => rfl)) pe_str (nomark _)) (pss_one (ps_ret (pe_op op_add_str (pe_op op_add_str (pe_cal G hr pass0 (pa_cons (pe_ix ix_tup (pv 0) pe_int (fun _ _ => rfl)) pa_nil)) pe_str) (pe_callTy call_str_int (by rfl) T.str (by decide +kernel) (pa_cons (pe_ix ix_tup (pv 0) pe_int (fun _ _ => rfl)) pa_nil))))) pss_nil)
    (pss_cons (ps_if (pt_cmpR op_eq (pe_ix ix_tup (pv 0) pe_int (fun _ _ => rfl)) pe_str (nomark _))
      (pss_one (ps_ret (pe_op op_add_str (pe_op op_add_str (pe_op op_add_str (pe_op op_add_str pe_str (pe_cal Gs hr pass0 (pa_cons (pe_ix ix_tup (pv 0) pe_int (fun _ _ => rfl)) pa_nil))) pe_str) (pe_cal Gs hr pass0 (pa_cons (pe_ix ix_tup (pv 0) pe_int (fun _ _ => rfl)) pa_nil))) pe_str))) pss_nil)
    (pss_one (ps_ret (pe_ifExp (pt_cmpR op_eq (pe_callB call_len_seq (by rfl) T.len PySem.boot_len (pa_cons (pe_ix ix_tup (pv 0) pe_int (fun _ _ => rfl)) pa_nil)) pe_int (nomark _)) (pe_cal G hr pass0 (pa_cons (pe_ix ix_tup (pe_ix ix_tup (pv 0) pe_int (fun _ _ => rfl)) pe_int (fun _ _ => rfl)) pa_nil))
      (pe_op op_add_str (pe_op op_add_str pe_str (pe_cal Gs hr pass0 (pa_cons (pe_ix ix_tup (pv 0) pe_int (fun _ _ => rfl)) pa_nil))) pe_str))))))), ?_⟩
  cases t with
  | name s =>
    simp only [TAt] at hT
    simp only [text] at q
    obtain ⟨a, rfl, ha⟩ := hT
    refine ⟨_, rfl, a, _, _, _, rfl, rfl, SqT.of ha, at_get (a := 0) rfl, _, rfl, fun H2 s2 => ?_⟩
    rw [i_name_name]
    exact iteT ⟨_, rfl, a, _, _, _, rfl, rfl, SqT.of (s2 _ _ ha), at_get (a := 1) rfl, .inr ⟨_, rfl, q _ s2⟩⟩
  | node i =>
    simp only [TAt] at hT
    simp only [text] at q
    simp only [pOk] at hp
    obtain ⟨a, rfl, ha⟩ := hT
    refine ⟨_, rfl, a, _, _, _, rfl, rfl, SqT.of ha, at_get (a := 0) rfl, _, rfl, fun H2 s2 => ?_⟩
    rw [i_node_name]
    refine iteT ⟨_, rfl, a, _, _, _, rfl, rfl, SqT.of (s2 _ _ ha), at_get (a := 1) rfl, .inl ⟨i, rfl, num_log i hp, ?_⟩⟩
    rw [(num_facts i hp).2]
    exact q _ s2
  | back t =>
    simp only [TAt] at hT
    simp only [text] at q hl
    simp only [pOk] at hp
    simp only [hgt] at hh
    simp only [wid] at hw
    rw [List.length_append, List.length_singleton] at hl
    obtain ⟨a, u, rfl, ha, hu⟩ := hT
    refine ⟨_, rfl, a, _, _, _, rfl, rfl, SqT.of ha, at_get (a := 0) rfl, _, rfl, fun H2 s2 => ?_⟩
    rw [i_back_name]
    refine iteF ⟨_, rfl, a, _, _, _, rfl, rfl, SqT.of (s2 _ _ ha), at_get (a := 0) rfl, rfl, _, rfl, ?_⟩
    rw [e_back_back]
    refine iteT ⟨_, rfl, a, _, _, _, rfl, rfl, SqT.of (s2 _ _ ha), at_get (a := 1) rfl, u, t, rfl, TAt.keep (Same.tk s2) _ _ hu, hp, by omega, by omega, hw, fun H3 s3 => ⟨_, _, rfl, rfl, ?_, ?_⟩⟩
    · rw [k126]
      exact add_str (by simp only [List.length_singleton]; omega)
    · rw [k126, mk_app]
      exact q _ (s2.trans s3)
  | times t j =>
    simp only [TAt] at hT
    simp only [text] at q hl
    simp only [pOk] at hp
    simp only [hgt] at hh
    simp only [wid] at hw
    rw [List.length_append, List.length_append, List.length_singleton] at hl
    obtain ⟨a, u, rfl, ha, hu⟩ := hT
    refine ⟨_, rfl, a, _, _, _, rfl, rfl, SqT.of ha, at_get (a := 0) rfl, _, rfl, fun H2 s2 => ?_⟩
    rw [i_times_name]
    refine iteF ⟨_, rfl, a, _, _, _, rfl, rfl, SqT.of (s2 _ _ ha), at_get (a := 0) rfl, rfl, _, rfl, ?_⟩
    rw [e_times_back]
    refine iteF ⟨_, rfl, a, _, _, _, rfl, rfl, SqT.of (s2 _ _ ha), at_get (a := 0) rfl, rfl, _, rfl, ?_⟩
    rw [e_times_times]
    refine iteT ⟨_, rfl, a, _, _, _, rfl, rfl, SqT.of (s2 _ _ ha), at_get (a := 1) rfl, u, t, rfl, TAt.keep (Same.tk s2) _ _ hu, hp.1, by omega, by omega, hw, fun H3 s3 => ⟨_, _, rfl, rfl, ?_, _, rfl, a, _, _, _, rfl, rfl, SqT.of (s3 _ _ (s2 _ _ ha)), at_get (a := 2) rfl, j, rfl, num_log j hp.2, _, _, rfl, rfl, ?_, ?_⟩⟩
    · rw [k94]
      exact add_str (by simp only [List.length_singleton]; omega)
    · rw [k94, mk_app, (num_facts j hp.2).2]
      exact add_str (by rw [List.length_append, List.length_singleton]; omega)
    · rw [k94, mk_app, (num_facts j hp.2).2, mk_app]
      exact q _ (s2.trans s3)
  | row ts =>
    simp only [TAt] at hT
    simp only [text] at q hl
    simp only [pOk] at hp
    simp only [hgt] at hh
    simp only [wid] at hw
    obtain ⟨a, b, us, rfl, ha, hb, hu⟩ := hT
    have hlen := TsAt.len ts us hu
    refine ⟨_, rfl, a, _, _, _, rfl, rfl, SqT.of ha, at_get (a := 0) rfl, _, rfl, fun H2 s2 => ?_⟩
    rw [i_row_name]
    refine iteF ⟨_, rfl, a, _, _, _, rfl, rfl, SqT.of (s2 _ _ ha), at_get (a := 0) rfl, rfl, _, rfl, ?_⟩
    rw [e_row_back]
    refine iteF ⟨_, rfl, a, _, _, _, rfl, rfl, SqT.of (s2 _ _ ha), at_get (a := 0) rfl, rfl, _, rfl, ?_⟩
    rw [e_row_times]
    refine iteF ⟨_, rfl, a, _, _, _, rfl, rfl, SqT.of (s2 _ _ ha), at_get (a := 0) rfl, rfl, _, rfl, ?_⟩
    rw [e_row_round]
    refine iteF ⟨_, rfl, a, _, _, _, rfl, rfl, SqT.of (s2 _ _ ha), at_get (a := 1) rfl, b, _, rfl, .inr (SqT.of (s2 _ _ hb)), rfl, _, rfl, ?_⟩
    rw [hlen]
    by_cases h1 : ts.len = 1
    · rw [show decide (V.int ((ts.len : Nat) : Int) = V.int 1) = true from decide_eq_true (by rw [h1]; rfl)]
      rw [if_pos h1] at q hl
      cases ts with
      | nil => simp only [Ts.len] at h1; omega
      | cons t r =>
        cases r with
        | cons _ _ => simp only [Ts.len] at h1; omega
        | nil =>
          simp only [TsAt] at hu
          obtain ⟨u, r, e1, h2, e2⟩ := hu
          subst e2 e1
          simp only [pOks] at hp
          simp only [hgts] at hh
          simp only [wids] at hw
          simp only [texts, Ts.len] at q hl
          rw [if_pos trivial, List.append_nil] at q hl
          exact iteT ⟨_, rfl, a, _, _, _, rfl, rfl, SqT.of (s2 _ _ ha), at_get (a := 1) rfl, b, _, _, _, rfl, rfl, SqT.of (s2 _ _ hb), at_get (a := 0) rfl, u, t, rfl, TAt.keep (Same.tk s2) _ _ h2, hp.2.1, by omega, hl, by omega, fun H3 s3 => q _ (s2.trans s3)⟩
    · rw [show decide (V.int ((ts.len : Nat) : Int) = V.int 1) = false from decide_eq_false fun e => h1 (by have := V.int.inj e; omega)]
      rw [if_neg h1] at q hl
      simp only [List.length_append, List.length_singleton] at hl
      refine iteF ⟨_, rfl, a, _, _, _, rfl, rfl, SqT.of (s2 _ _ ha), at_get (a := 1) rfl, .ref b, ts, rfl, ⟨b, us, rfl, s2 _ _ hb, TsAt.keep (Same.tk s2) _ _ hu⟩, hp.2, by omega, by omega, by omega, by omega, fun H3 s3 => ⟨_, _, rfl, rfl, ?_, _, _, rfl, rfl, ?_, ?_⟩⟩
      · rw [k40]
        exact add_str (by simp only [List.length_singleton]; omega)
      · rw [k40, mk_app, k41]
        exact add_str (by simp only [List.length_singleton, List.length_append]; omega)
      · rw [k40, mk_app, k41, mk_app]
        exact q _ (s2.trans s3)
  | round x y =>
    simp only [TAt] at hT
    simp only [text] at q hl
    simp only [pOk] at hp
    simp only [hgt] at hh
    simp only [wid] at hw
    simp only [List.length_append, List.length_cons, List.length_nil] at hl
    obtain ⟨a, b, b2, us, ws, rfl, ha, ⟨hb, hu⟩, hb2, hu2⟩ := hT
    refine ⟨_, rfl, a, _, _, _, rfl, rfl, SqT.of ha, at_get (a := 0) rfl, _, rfl, fun H2 s2 => ?_⟩
    rw [i_round_name]
    refine iteF ⟨_, rfl, a, _, _, _, rfl, rfl, SqT.of (s2 _ _ ha), at_get (a := 0) rfl, rfl, _, rfl, ?_⟩
    rw [e_round_back]
    refine iteF ⟨_, rfl, a, _, _, _, rfl, rfl, SqT.of (s2 _ _ ha), at_get (a := 0) rfl, rfl, _, rfl, ?_⟩
    rw [e_round_times]
    refine iteF ⟨_, rfl, a, _, _, _, rfl, rfl, SqT.of (s2 _ _ ha), at_get (a := 0) rfl, rfl, _, rfl, ?_⟩
    rw [e_round_round]
    refine iteT ⟨_, rfl, a, _, _, _, rfl, rfl, SqT.of (s2 _ _ ha), at_get (a := 1) rfl, .ref b, x, rfl, ⟨b, us, rfl, s2 _ _ hb, TsAt.keep (Same.tk s2) _ _ hu⟩, hp.2.2.1, by omega, by omega, by omega, by omega, fun H3 s3 => ⟨_, _, rfl, rfl, ?_, _, _, rfl, rfl, ?_, ?_⟩⟩
    · rw [k91]
      exact add_str (by simp only [List.length_singleton]; omega)
    · rw [k91, mk_app, k4432]
      exact add_str (by simp only [List.length_cons, List.length_nil, List.length_append]; omega)
    have s23 := s2.trans s3
    refine ⟨_, rfl, a, _, _, _, rfl, rfl, SqT.of (s23 _ _ ha), at_get (a := 2) rfl, .ref b2, y, rfl, ⟨b2, ws, rfl, s23 _ _ hb2, TsAt.keep (Same.tk s23) _ _ hu2⟩, hp.2.2.2, by omega, by omega, by omega, by omega, fun H4 s4 => ⟨_, _, rfl, rfl, ?_, _, _, rfl, rfl, ?_, ?_⟩⟩
    · rw [k91, mk_app, k4432, mk_app]
      exact add_str (by simp only [List.length_cons, List.length_nil, List.length_append]; omega)
    · rw [k91, mk_app, k4432, mk_app, mk_app, k93]
      exact add_str (by simp only [List.length_cons, List.length_nil, List.length_append]; omega)
    · rw [k91, mk_app, k4432, mk_app, mk_app, k93, mk_app]
      exact q _ (s23.trans s4)
theorem ltext_all {f1 f2 : Addr} {d1 d2 : FuncData} (T : TX K mg C) (F1 : Fun K "_law_thing_text" "_law_thing_text" s_law_thing_text f1 d1) (m1 : mg "_law_thing_text" = some (.ref f1)) (b1 : Binds K d1 ["_law_thing_here"] [])
    (F2 : Fun K "_law_things_text" "_law_things_text" s_law_things_text f2 d2) (m2 : mg "_law_things_text" = some (.ref f2)) (b2 : Binds K d2 ["_law_things_here"] []) :
    ∀ k : Nat, Cal P w K mg base CX0 "_law_thing_text" k ["_law_thing_here"] (spTT k) ∧ Cal P w K mg base CX0 "_law_things_text" k ["_law_things_here"] (spTTs k)
  | 0 => ⟨⟨f1, d1, fn_none fun vs H Q E h => by
      obtain ⟨v, t, _, _, _, hh, _⟩ := h
      have := hgt_pos t
      omega, m1, F1.kp, b1⟩, ⟨f2, d2, fn_none fun vs H Q E h => by
      obtain ⟨v, t, _, _, _, hh, _⟩ := h
      have := hgts_pos t
      omega, m2, F2.kp, b2⟩⟩
  | k + 1 => by
    obtain ⟨g1, g2⟩ := ltext_all T F1 m1 b1 F2 m2 b2 k
    exact ⟨⟨f1, d1, ok_lthing_text F1 T g1 g2, m1, F1.kp, b1⟩, ⟨f2, d2, ok_lthings_text F2 g1, m2, F2.kp, b2⟩⟩
end
end KW
set_option Elab.async false
set_option linter.all false
set_option maxRecDepth 100000
set_option maxHeartbeats 4000000
/-! A walk over enumerate(text). -/
namespace KW
open PySem PySem.Spec PyProof.Rows L2 KM
def IteS (x : Str) : It :=
  ⟨fun i _ => i < x.cps.size, fun i H v H' => ∃ T c, v = .ref T ∧ H T = none ∧ H' = upd H T (.tup [.int (i : Nat), .str ⟨#[c]⟩]) ∧ x.cps[i]? = some c, fun i _ => i = x.cps.size⟩
theorem turn_enumS {P : Program} {w : World} {K : PySem.W.Frag} {elts : List Expr} {kk : Nat} {tpos : Pos} (e it : Addr) (x : Str) (t : Tok) :
    Turn P w K (.Tuple elts kk tpos) (IteS x) [e, it] e (fun i h => (∃ old, IsEnum h e it ((i : Nat) : Int) old) ∧ h.IsStrIter it (strIterType x) x t i ∧ e ≠ it) where
  mem := by simp
  obj := fun i h st b hb => by
    obtain ⟨⟨old, he⟩, ⟨o, ho, hc, hd⟩, _⟩ := st
    have e' : b = e ∨ b = it := by simpa using hb
    rcases e' with z | z
    · rw [z]; exact ⟨_, he, fun v q => nomatch q⟩
    · rw [z]; exact ⟨o, ho, fun v q => by rw [hd] at q; cases q⟩
  keep := fun i h h' st k => by
    obtain ⟨⟨old, he⟩, ⟨o, ho, r⟩, hne⟩ := st
    exact ⟨⟨old, k e (by simp) _ he⟩, ⟨o, k it (by simp) o ho, r⟩, hne⟩
  item := by
    intro X hP hw hK hc i pins s σ H E I hf st hg
    subst hP hw hK
    obtain ⟨⟨old, he⟩, hit, hne⟩ := st
    have hel : e < s.heap.objs.size := Heap.lt_size he
    have hil : it < s.heap.objs.size := by obtain ⟨_, q, _⟩ := hit; exact Heap.lt_size q
    have D : Draws X.prog X.w X.A.in1 it [it] x.cps.size (fun i v => ∃ c u, x.cps[i]? = some c ∧ v = .str ⟨#[c]⟩ u) (fun i h => h.IsStrIter it (strIterType x) x t i) := Draws.text (A := X.A.in1) (by have q := I.ok.hd hc; exact q) it x t
    refine wpAny_pyNext_enum_itemD D he hit hg hne (by simpa using hne) fun v h' tk hv ho hit' hT hsz hk => ?_
    obtain ⟨c, u, hcx, rfl⟩ := hv
    refine ⟨_, rfl, wpAny_letOwnedTupleGo_enum (s := { s with heap := h', toks := tk + 1 }) ho fun h'' he' sb => ?_⟩
    have hT2 : h''.get? s.heap.objs.size = some { cls := .type "tuple", data := .seq #[.int i tk, .str ⟨#[c]⟩ u] } := (sb.2 _ (Nat.ne_of_gt hel)).trans hT
    have new : ObjOk X.prog X.w (upd H s.heap.objs.size (.tup [.int (i : Nat), .str ⟨#[c]⟩])) h'' s.heap.objs.size (.tup [.int (i : Nat), .str ⟨#[c]⟩]) :=
      ⟨by show 2 ≤ sizeLine; decide, [.int i tk, .str ⟨#[c]⟩ u], .cons ⟨_, rfl⟩ (.cons ⟨_, rfl⟩ .nil), ⟨_, hT2, rfl, _, rfl⟩⟩
    have I1 : Inv X pins σ (upd H s.heap.objs.size (.tup [.int (i : Nat), .str ⟨#[c]⟩])) { s with heap := h'', toks := tk + 1 } :=
      I.turnedNew (ch := [e, it]) (fun b ob hb q => (sb.2 b (fun z => hb (by simp [z]))).trans (hk b ob (fun z => hb (by simp [z])) (fun z => hb (by simp [z])) q)) hf (Nat.le_refl _) new
    refine ⟨.ref s.heap.objs.size, _, I1, rfl, ⟨_, c, rfl, I.hok.fresh (Nat.le_refl _), rfl, hcx⟩, ⟨⟨.str ⟨#[c]⟩ u, ?_⟩, ?_, hne⟩, fun b hb => ?_⟩
    · have e1 : ((i + 1 : Nat) : Int) = (i : Int) + 1 := by omega
      rw [e1]; exact he'
    · obtain ⟨o, q, r⟩ := hit'
      exact ⟨o, (sb.2 it (Ne.symm hne)).trans q, r⟩
    · have hb' : b < s.heap.objs.size := by
        have e' : b = e ∨ b = it := by simpa using hb
        rcases e' with z | z
        · rw [z]; exact hel
        · rw [z]; exact hil
      rw [upd_ne (Nat.ne_of_lt hb')]
      exact (hf b hb).1
  done := by
    intro X hP hw hK hc i pins s σ H E I hf st hg
    subst hP hw hK
    obtain ⟨⟨old, he⟩, hit, hne⟩ := st
    have D : Draws X.prog X.w X.A.in1 it [it] x.cps.size (fun i v => ∃ c u, x.cps[i]? = some c ∧ v = .str ⟨#[c]⟩ u) (fun i h => h.IsStrIter it (strIterType x) x t i) := Draws.text (A := X.A.in1) (by have q := I.ok.hd hc; exact q) it x t
    have hg' : i = x.cps.size := hg
    subst hg'
    obtain ⟨f0, f1, f2, f3, f4, f5⟩ := hf it (by simp)
    exact wpAny_pyNext_enum_endD D he hit fun h' eb => ⟨rfl, I.turned (t' := s.toks) (fun b o hb q => eb b o hb q) f0 f1 f3 f4 f5⟩
  self := fun A i s Q E st h => let ⟨⟨_, he⟩, _⟩ := st; wpAny_pyIter_enum he h
def iEnumS (ta : TA) : TI := fun σ H R => ta σ H fun vs H1 => ∃ x, vs = [.str x] ∧ R (IteS x) H1
theorem pi_enumS {X : Cx} {e : Expr} {ta : TA} {p pos tpos : Pos} {elts : List Expr} {kk : Nat} (hg : Gl X "enumerate") (hm : X.mg "enumerate" = none) (ha : PA X [e] ta) (hs : starEach [e] X.env = [(false, eval e X.env)] := by rfl) :
    PI X (.Tuple elts kk tpos) (.Call (.Name "enumerate" p) [e] [] pos) (iEnumS ta) := by
  refine ⟨fun pins s σ H R I h => ?_⟩
  refine Call_ (ld_blt I hg hm boot_enumerate (PyProof.Rows.callWith_type1 (thn (ha.run pos pins s σ H _ I h) fun us s1 ⟨vs, H1, I1, r1, q1⟩ => ?_) hs rfl))
  obtain ⟨x, ex, q⟩ := q1
  subst ex
  cases r1 with
  | cons r rr =>
    cases rr
    obtain ⟨t, rfl⟩ := r
    refine call_enumerate_str fun h' he hit hsz hk => wpAny_pyIter_enum he ?_
    have I2 : Inv X pins σ H1 { s1 with heap := h' } := I1.kept (t' := s1.toks) hk
    refine ⟨s1.heap.objs.size + 1, [s1.heap.objs.size + 1, s1.heap.objs.size], _, _, H1, rfl, I2, turn_enumS (s1.heap.objs.size + 1) s1.heap.objs.size x t, ⟨⟨.none, he⟩, hit, Nat.succ_ne_self _⟩, fun b hb => ?_, q⟩
    have e' : b = s1.heap.objs.size + 1 ∨ b = s1.heap.objs.size := by simpa using hb
    have hle : s1.heap.objs.size ≤ b := by
      rcases e' with z | z
      · rw [z]; exact Nat.le_add_right _ _
      · rw [z]; exact Nat.le_refl _
    exact I1.fpOk hle (I1.hok.fresh hle)
theorem for_enumS {x : Str} {g : TG} {tb : TS} {D : Ends} {σ : L2.St} {H : Hp} (Pv : Nat → L2.St → Hp → Prop) (h0 : Pv 0 σ H)
    (hs : ∀ i c T σ H, x.cps[i]? = some c → Pv i σ H → H T = none → g (.ref T) σ (upd H T (.tup [.int (i : Nat), .str ⟨#[c]⟩])) fun σ2 H2 => tb { D with nx := Pv (i + 1), ct := Pv (i + 1), bk := D.nx } σ2 H2) (hd : ∀ σ H, Pv x.cps.size σ H → D.nx σ H) :
    ∃ W : Nat → Nat → L2.St → Hp → Prop, (∃ m, W 0 m σ H) ∧ ∀ i m σ H, W i m σ H →
      ((IteS x).stop i H ∧ D.nx σ H) ∨ ((IteS x).go i H ∧ ∃ N : L2.St → Hp → Prop, (∀ σ' H', N σ' H' → ∃ m', m' < m ∧ W (i + 1) m' σ' H') ∧ ∀ y H', (IteS x).yld i H y H' → g y σ H' fun σ2 H2 => tb { D with nx := N, ct := N, bk := D.nx } σ2 H2) := by
  refine ⟨fun i m σ H => m = x.cps.size - i ∧ i ≤ x.cps.size ∧ Pv i σ H, ⟨x.cps.size, by simp, Nat.zero_le _, h0⟩, ?_⟩
  rintro i m σ H ⟨rfl, hi, p⟩
  by_cases hlt : i < x.cps.size
  · refine .inr ⟨hlt, Pv (i + 1), fun σ' H' p' => ⟨x.cps.size - (i + 1), by omega, rfl, hlt, p'⟩, fun y H' hy => ?_⟩
    obtain ⟨T, c, rfl, hT, rfl, hc⟩ := hy
    exact hs i c T σ H hc p hT
  · have e : i = x.cps.size := by omega
    subst e
    exact .inl ⟨rfl, hd σ H p⟩
end KW
set_option Elab.async false
set_option linter.all false
set_option maxRecDepth 100000
set_option maxHeartbeats 4000000
/-! _law_loose. -/
namespace KW
open PySem PySem.Spec PyProof.Rows L2 KM
theorem repl_spaced (l : List Nat) : StrLaws.replL [126] [32, 126] l = spaced 126 l := by
  induction l with
  | nil => rw [StrLaws.replL_nil]; rfl
  | cons c r ih =>
    by_cases h : c = 126
    · rw [StrLaws.replL_hit (by simp) (by rw [h]; rfl)]
      show [32, 126] ++ StrLaws.replL [126] [32, 126] r = _
      rw [ih, h]
      rfl
    · rw [StrLaws.replL_miss (fun e => h (by simpa using e)), ih]
      show _ = (if c = 126 then 32 :: c :: spaced 126 r else c :: spaced 126 r)
      rw [if_neg h]
theorem k126s : Str.ofString "~" = mk [126] := by decide +kernel
theorem k32126 : Str.ofString " ~" = mk [32, 126] := by decide +kernel
theorem k10 : Str.ofString "\n" = mk [10] := by decide +kernel
theorem k3232 : Str.ofString "  " = mk [32, 32] := by decide +kernel
theorem repl_mk (l : List Nat) : Txt.replace (mk l) (mk [126]) (mk [32, 126]) = mk (spaced 126 l) := by
  apply TL.ext_tl
  have h := StrLaws.replace_list (x := mk l) (y := mk [126]) (z := mk [32, 126]) (by decide)
  show (Txt.replace (mk l) (mk [126]) (mk [32, 126])).cps.toList = _
  rw [h]
  exact repl_spaced l
theorem cl_sg {c : Nat} (h : single c = true) : cl c = 3 := by
  unfold single at h
  have h : c ∈ sgs := by simpa using h
  have : ∀ c ∈ sgs, cl c = 3 := by decide
  exact this c h
def prev (x : List Nat) (i : Nat) : Nat := if i = 0 then 0 else x.getD (i - 1) 0
/-- so far the writing is loose -/
structure LF (x : List Nat) (i : Nat) (b : List Nat) : Prop where
  ln : b.length ≤ 2 * i
  go : ∀ r', Loose (prev x i) (x.drop i) r' → Loose 0 x (b ++ r')
theorem lf_zero (x : List Nat) : LF x 0 [] := ⟨Nat.le_refl _, fun r' h => by
  simpa [prev] using h⟩
theorem prev_succ {x : List Nat} {i c : Nat} (h : x[i]? = some c) : prev x (i + 1) = c := by
  unfold prev
  rw [if_neg (Nat.succ_ne_zero i), Nat.add_sub_cancel, List.getD_eq_getElem?_getD, h]
  rfl
theorem drop_at {x : List Nat} {i c : Nat} (h : x[i]? = some c) : x.drop i = c :: x.drop (i + 1) := by
  obtain ⟨hi, e⟩ := List.getElem?_eq_some_iff.mp h
  rw [List.drop_eq_getElem_cons hi, e]
theorem LF.same {x b : List Nat} {i c : Nat} (L : LF x i b) (h : x[i]? = some c) (hc : c ≠ 32) : LF x (i + 1) (b ++ [c]) := by
  refine ⟨by rw [List.length_append, List.length_singleton]; have := L.ln; omega, fun r' k => ?_⟩
  rw [prev_succ h] at k
  rw [List.append_assoc]
  refine L.go _ ?_
  rw [drop_at h]
  exact .same hc k
theorem LF.blanks {x b : List Nat} {i : Nat} (L : LF x i b) (h : x[i]? = some 32) {bs : List Nat} (h0 : bs ≠ []) (h2 : bs.length ≤ 2) (hb : ∀ c ∈ bs, cl c = 0) : LF x (i + 1) (b ++ bs) := by
  refine ⟨by rw [List.length_append]; have := L.ln; omega, fun r' k => ?_⟩
  rw [prev_succ h] at k
  rw [List.append_assoc]
  refine L.go _ ?_
  rw [drop_at h]
  exact .blanks bs h0 h2 hb k
theorem LF.none_l {x b : List Nat} {i : Nat} (L : LF x i b) (h : x[i]? = some 32) (hp : cl (prev x i) = 3) : LF x (i + 1) b := by
  refine ⟨by have := L.ln; omega, fun r' k => ?_⟩
  rw [prev_succ h] at k
  refine L.go _ ?_
  rw [drop_at h]
  exact .none_l hp k
theorem LF.none_r {x b : List Nat} {i c : Nat} (L : LF x i b) (h : x[i]? = some 32) (hn : x[i + 1]? = some c) (hp : cl c = 3) : LF x (i + 1) b := by
  refine ⟨by have := L.ln; omega, fun r' k => ?_⟩
  rw [prev_succ h, drop_at hn] at k
  refine L.go _ ?_
  rw [drop_at h, drop_at hn]
  have hc : c ≠ 32 := fun e => by rw [e, cl32] at hp; cases hp
  generalize x.drop (i + 1 + 1) = d at k
  cases k with
  | same _ k => exact .none_r hp (.same hc k)
  | blanks bs _ _ _ _ => exact absurd rfl hc
  | none_l _ _ => exact absurd rfl hc
  | none_r _ _ => exact absurd rfl hc
theorem lf_bl {x b : List Nat} {i : Nat} (L : LF x i b) (h : x[i]? = some 32) : LF x (i + 1) (b ++ [32]) ∧ LF x (i + 1) (b ++ [10]) ∧ LF x (i + 1) (b ++ [32, 32]) :=
  ⟨L.blanks h (by simp) (by decide) (by decide), L.blanks h (by simp) (by decide) (by decide), L.blanks h (by simp) (by decide) (by decide)⟩
theorem but_new {p D : Addr} {H : Hp} {o : HO} (h : H D = none) : But p H (upd H D o) := Same.but (Same.new h o)
/-- what loose writing gives -/
def LooseOk (x z : List Nat) : Prop := ∃ p q b, z = p ++ spaced 126 b ++ q ∧ (∀ c ∈ p, cl c = 0) ∧ (∀ c ∈ q, cl c = 0) ∧ p.length ≤ 1 ∧ q.length ≤ 1 ∧ Loose 0 x b
def spLoose (K : PySem.W.Frag) : Sp := fun vs H Q _ => ∃ (r a : Addr) (ns : List Int) (x : List Nat), vs = [.ref r, .str (mk x)] ∧ LR K H r a ns ∧ x.length ≤ 900 ∧
  ∀ (H' : Hp) (z : List Nat), LR K H' r a ns → But r H H' → LooseOk x z → Q (.str (mk z)) H'
section
variable {P : Program} {w : World} {K : PySem.W.Frag} {mg : Str → Option Value} {base : Heap} {C : Addr}
theorem sc_loose : FnScope ["_law_row", "_law_text", "_law_found", "_law_at", "_law_sign", "_law_tight"] ["_law_row", "_law_text"] (defScope s_law_loose) := ⟨rfl, rfl, rfl, by decide +kernel, rfl, by decide +kernel, by decide +kernel⟩
theorem ok_loose {f : Addr} {fd : FuncData} (F : Fun K "_law_loose" "_law_loose" s_law_loose f fd) (T : TX K mg C) (GP : Cal P w K mg base CX0 "_law_pick" 2 ["_law_row", "_law_things_here"] (spPick K)) :
    FnOk P w K mg base CX0 3 f fd ["_law_row", "_law_text"] (spLoose K) := by
  refine F.ok sc_loose (fun vs H Q E h => ?_) (fun cdv A outer s H vs Q E hr h => ?_)
  · obtain ⟨r, a, ns, x, rfl, _⟩ := h
    rfl
  obtain ⟨r, a, ns, x, rfl, hR, hx, q⟩ := h
  have hr2 : Room 2 (A.deeper (envOfC "_law_loose" (defScope s_law_loose) s.heap.objs.size f cdv)) := hr.mono (by omega)
  refine ⟨_, pss_str (i := 2) sc_loose.nd rfl (Or.inl rfl)
    (psst_cons (PST.of (ps_for PassesOwn.never rfl (pi_enumS (by rfl) T.enum (pa_cons (pv 1) pa_nil)) (pg_tup (by rfl) (pgs_cons (pg_name (i := 3) sc_loose.nd rfl (Or.inl rfl)) (pgs_cons (pg_name (i := 4) sc_loose.nd rfl (Or.inl rfl)) pgs_nil)))
      (pss_cons (ps_set (i := 5) sc_loose.nd rfl (Or.inl rfl) (pe_and (pe_chain op_lt op_lt pe_int (pv 3) (pe_op op_sub (pe_callB call_len_str (by rfl) T.len PySem.boot_len (pa_cons (pv 1) pa_nil)) pe_int))
          (pe_one (pe_or (pe_cmpR op_in_sign (pe_item_str (pv 1) (pe_op op_sub (pv 3) pe_int) (fun _ _ => rfl)) pe_str rfl) (pe_one (pe_cmpR op_in_sign (pe_item_str (pv 1) (pe_op op_add (pv 3) pe_int) (fun _ _ => rfl)) pe_str rfl))))))
      (pss_one (ps_set (i := 2) sc_loose.nd rfl (Or.inl rfl) (pe_op op_add_str (pv 2) (pe_ifExp (pt_cmpR op_eq (pv 4) pe_str (nomark _)) (pe_cal GP hr2 pass0 (pa_cons (pv 0) (pa_cons (pe_ifExp (pt_val (pv 5)) (pe_lst (pa_cons pe_str (pa_cons pe_str (pa_cons pe_str (pa_cons pe_str pa_nil))))) (pe_lst (pa_cons pe_str (pa_cons pe_str (pa_cons pe_str pa_nil))))) pa_nil))) (pv 4))))))))
    (CwR.psst_one (CwR.pst_ret (CwR.pet_op op_add_str (CwR.pet_op op_add_str (CwR.PET.of (pe_cal GP hr2 pass0 (pa_cons (pv 0) (pa_cons (pe_lst (pa_cons pe_str (pa_cons pe_str pa_nil))) pa_nil)))) (CwR.pet_replC (pv 2) (by decide +kernel))) (CwR.PET.of (pe_cal GP hr2 pass0 (pa_cons (pv 0) (pa_cons (pe_lst (pa_cons pe_str (pa_cons pe_str pa_nil))) pa_nil)))))))), ?_⟩
  refine ⟨_, rfl, _, rfl, for_enumS (fun i σ' H' => i ≤ x.length ∧ ∃ (b : List Nat) (v3 v4 v5 : Option V), σ' = [some (.ref r), some (.str (mk x)), some (.str (mk b)), v3, v4, v5] ∧ LF x i b ∧ LR K H' r a ns ∧ But r H H') ?_ ?_ ?_⟩
  · exact ⟨Nat.zero_le _, [], none, none, none, rfl, lf_zero x, hR, But.refl _ _⟩
  · rintro i c T' σ' H1 hc ⟨hi, b, v3, v4, v5, rfl, hL, R1, b1⟩ hT
    have hc : x[i]? = some c := by simpa [mk] using hc
    have hil : i < x.length := (List.getElem?_eq_some_iff.mp hc).1
    have sT := Same.new hT (.tup [.int (i : Nat), .str ⟨#[c]⟩])
    refine ⟨T', _, rfl, SqT.of upd_same, rfl, _, _, rfl, _, _, rfl, rfl, ?_⟩
    refine jnA (fun σ' H' => ∃ tg : Bool, σ' = [some (.ref r), some (.str (mk x)), some (.str (mk b)), some (.int (i : Nat)), some (.str ⟨#[c]⟩), some (.bl tg)] ∧ LR K H' r a ns ∧ But r H H' ∧ (tg = true → cl (prev x i) = 3 ∨ ∃ d, x[i + 1]? = some d ∧ cl d = 3)) ?_ fun fin => ?_
    rotate_left
    · have hxl : (mk x).length ≤ sizeLine := line_ge (by rw [mk_len]; omega)
      have R2 := R1.same sT
      have b2 := b1.trans (Same.but (p := r) sT)
      refine ⟨_, rfl, _, _, rfl, rfl, _, rfl, ?_⟩
      by_cases h0 : 0 < i
      · rw [decide_eq_true (by omega : (0 : Int) < ((i : Nat) : Int))]
        refine iteT ⟨_, rfl, mk x, rfl, hxl, _, _, rfl, rfl, _, _, rfl, rfl, _, rfl, ?_⟩
        rw [mk_len]
        by_cases h1 : i + 1 < x.length
        · rw [decide_eq_true (by omega : ((i : Nat) : Int) < ((x.length : Nat) : Int) - 1)]
          obtain ⟨e, he⟩ : ∃ e, x[i - 1]? = some e := ⟨x[i - 1]'(by omega), List.getElem?_eq_getElem (by omega)⟩
          have hpv : prev x i = e := by
            unfold prev
            rw [if_neg (by omega), List.getD_eq_getElem?_getD, he]
            rfl
          have ix1 : ((i : Nat) : Int) - 1 = ((i - 1 : Nat) : Int) := by omega
          refine iteT ⟨_, rfl, _, rfl, _, _, rfl, rfl, mk x, ((i : Nat) : Int) - 1, e, rfl, rfl, by omega, by omega, by rw [mk_len]; omega, ?_, _, SINS, rfl, rfl, _, rfl, ?_⟩
          · rw [ix1]
            exact mk_at he
          · rw [sins_dec]
            by_cases hs : single e = true
            · rw [hs]
              exact iteT (fin _ _ ⟨true, rfl, R2, b2, fun _ => .inl (by rw [hpv]; exact cl_sg hs)⟩)
            · rw [eq_false_of_ne_true hs]
              obtain ⟨d, hd⟩ : ∃ d, x[i + 1]? = some d := ⟨x[i + 1]'(by omega), List.getElem?_eq_getElem (by omega)⟩
              have ix2 : ((i : Nat) : Int) + 1 = ((i + 1 : Nat) : Int) := by omega
              refine iteF ⟨_, rfl, _, rfl, _, _, rfl, rfl, mk x, ((i : Nat) : Int) + 1, d, rfl, rfl, by omega, by omega, by rw [mk_len]; omega, ?_, _, SINS, rfl, rfl, ?_⟩
              · rw [ix2]
                exact mk_at hd
              · rw [sins_dec]
                exact fin _ _ ⟨single d, rfl, R2, b2, fun z => .inr ⟨d, hd, cl_sg z⟩⟩
        · rw [decide_eq_false (by omega : ¬ ((i : Nat) : Int) < ((x.length : Nat) : Int) - 1)]
          exact iteF (fin _ _ ⟨false, rfl, R2, b2, fun z => by cases z⟩)
      · rw [decide_eq_false (by omega : ¬ (0 : Int) < ((i : Nat) : Int))]
        exact iteF ⟨_, rfl, iteF (fin _ _ ⟨false, rfl, R2, b2, fun z => by cases z⟩)⟩
    · rintro σ' H2 ⟨tg, rfl, R2, b2, htg⟩
      have hbl := hL.ln
      have hib : i + 1 ≤ x.length := hil
      refine ⟨_, rfl, _, rfl, rfl, _, rfl, ?_⟩
      by_cases h32 : c = 32
      · subst h32
        rw [show decide (V.str ⟨#[32]⟩ = V.str " ") = true from decide_eq_true (by rw [k32]; rfl)]
        refine iteT ⟨_, rfl, _, rfl, _, rfl, ?_⟩
        cases tg with
        | true =>
          refine iteT ⟨line_ge (by show 4 ≤ 16777216; decide), fun D hD => ⟨r, a, D, ns, _, rfl, R2.upd (R2.fresh hD) _, .inl ⟨Rd.of upd_same, (R2.fresh hD).1⟩, by show 1 ≤ _; simp, by show _ ≤ 1000000; simp, fun H3 v hv R3 b3 => ?_⟩⟩
          have key : ∃ bs, v = .str (mk bs) ∧ bs.length ≤ 2 ∧ LF x (i + 1) (b ++ bs) := by
            have hb := lf_bl hL hc
            rcases List.mem_cons.mp hv with rfl | hv
            · exact ⟨[32], by rw [k32], by decide, hb.1⟩
            rcases List.mem_cons.mp hv with rfl | hv
            · refine ⟨[], by rw [empty_is], by decide, ?_⟩
              rw [List.append_nil]
              rcases htg rfl with hp | ⟨d, hd, hp⟩
              · exact hL.none_l hc hp
              · exact hL.none_r hc hd hp
            rcases List.mem_cons.mp hv with rfl | hv
            · exact ⟨[10], by rw [k10], by decide, hb.2.1⟩
            rw [List.mem_singleton.mp hv]
            exact ⟨[32, 32], by rw [k3232], by decide, hb.2.2⟩
          obtain ⟨bs, rfl, hbs, hLF⟩ := key
          refine ⟨_, _, rfl, rfl, add_str (by omega), hib, _, _, _, _, by rw [mk_app]; rfl, hLF, R3, (b2.trans (but_new hD)).trans b3⟩
        | false =>
          refine iteF ⟨line_ge (by show 3 ≤ 16777216; decide), fun D hD => ⟨r, a, D, ns, _, rfl, R2.upd (R2.fresh hD) _, .inl ⟨Rd.of upd_same, (R2.fresh hD).1⟩, by show 1 ≤ _; simp, by show _ ≤ 1000000; simp, fun H3 v hv R3 b3 => ?_⟩⟩
          have key : ∃ bs, v = .str (mk bs) ∧ bs.length ≤ 2 ∧ LF x (i + 1) (b ++ bs) := by
            have hb := lf_bl hL hc
            rcases List.mem_cons.mp hv with rfl | hv
            · exact ⟨[32], by rw [k32], by decide, hb.1⟩
            rcases List.mem_cons.mp hv with rfl | hv
            · exact ⟨[10], by rw [k10], by decide, hb.2.1⟩
            rw [List.mem_singleton.mp hv]
            exact ⟨[32, 32], by rw [k3232], by decide, hb.2.2⟩
          obtain ⟨bs, rfl, hbs, hLF⟩ := key
          refine ⟨_, _, rfl, rfl, add_str (by omega), hib, _, _, _, _, by rw [mk_app]; rfl, hLF, R3, (b2.trans (but_new hD)).trans b3⟩
      · rw [show decide (V.str ⟨#[c]⟩ = V.str " ") = false from decide_eq_false (by rw [k32]; intro e; exact h32 (by simpa [mk] using e))]
        refine iteF ⟨_, rfl, ?_⟩
        refine ⟨mk b, mk [c], rfl, rfl, add_str (by simp only [List.length_singleton]; omega), hib, _, _, _, _, by rw [mk_app]; rfl, hL.same hc h32, R2, b2⟩
  · rintro σ' H1 ⟨hi, b, v3, v4, v5, rfl, hL, R1, b1⟩
    have hL2 : Loose 0 x b := by
      have := hL.go [] (by
        have e : (mk x).cps.size = x.length := rfl
        rw [e, List.drop_length]; exact .nil)
      rwa [List.append_nil] at this
    refine ⟨_, rfl, line_ge (by show 2 ≤ 16777216; decide), fun D hD => ⟨r, a, D, ns, _, rfl, R1.upd (R1.fresh hD) _, .inl ⟨Rd.of upd_same, (R1.fresh hD).1⟩, by show 1 ≤ _; simp, by show _ ≤ 1000000; simp, fun H3 v hv R3 b3 => ?_⟩⟩
    have kp : ∃ p, v = .str (mk p) ∧ p.length ≤ 1 ∧ ∀ c ∈ p, cl c = 0 := by
      rcases List.mem_cons.mp hv with rfl | hv
      · exact ⟨[], by rw [empty_is], by decide, by simp⟩
      rw [List.mem_singleton.mp hv]
      exact ⟨[32], by rw [k32], by decide, by decide⟩
    obtain ⟨p, rfl, hp1, hp⟩ := kp
    have hsl := loose_len hL2
    have hbl := hL.ln
    have e9 : (mk x).cps.size = x.length := rfl
    rw [e9] at hbl
    refine ⟨_, rfl, mk b, rfl, ?_, _, _, rfl, rfl, ?_, ?_⟩
    · rw [k32126, mk_len, mk_len]
      show b.length + (b.length + 1) * 2 ≤ 16777216
      omega
    · rw [k126s, k32126, repl_mk]
      exact add_str (by omega)
    rw [k126s, k32126, repl_mk, mk_app]
    refine ⟨_, rfl, line_ge (by show 2 ≤ 16777216; decide), fun D2 hD2 => ⟨r, a, D2, ns, _, rfl, R3.upd (R3.fresh hD2) _, .inl ⟨Rd.of upd_same, (R3.fresh hD2).1⟩, by show 1 ≤ _; simp, by show _ ≤ 1000000; simp, fun H4 v hv R4 b4 => ?_⟩⟩
    have kq : ∃ p, v = .str (mk p) ∧ p.length ≤ 1 ∧ ∀ c ∈ p, cl c = 0 := by
      rcases List.mem_cons.mp hv with rfl | hv
      · exact ⟨[], by rw [empty_is], by decide, by simp⟩
      rw [List.mem_singleton.mp hv]
      exact ⟨[10], by rw [k10], by decide, by decide⟩
    obtain ⟨y, rfl, hy1, hy⟩ := kq
    refine ⟨_, _, rfl, rfl, add_str (by rw [List.length_append]; omega), ?_⟩
    rw [mk_app]
    exact q _ _ R4 ((((b1.trans (but_new hD)).trans b3).trans (but_new hD2)).trans b4) ⟨p, y, b, rfl, hp, hy, hp1, hy1, hL2⟩
end
end KW
set_option Elab.async false
set_option linter.all false
set_option maxRecDepth 100000
set_option maxHeartbeats 4000000
/-! is_integer, is_from, need_count. -/
namespace KW
open PySem PySem.Spec PyProof.Rows L2 KM
def spIsInt : Sp := fun vs H Q _ => ∃ i : Int, vs = [.int i] ∧ Q (.bl true) H
def spIsFrom : Sp := fun vs H Q _ => ∃ i a b : Int, vs = [.int i, .int a, .int b] ∧ a ≤ i ∧ i ≤ b ∧ Q (.bl true) H
def spNeedC : Sp := fun vs H Q _ => ∃ i : Int, vs = [.int i] ∧ 1 ≤ i ∧ i ≤ 6 ∧ Q .non H
section
variable {P : Program} {w : World} {K : PySem.W.Frag} {mg : Str → Option Value} {base : Heap} {C : Addr}
theorem sc_isint : FnScope ["value"] ["value"] (defScope sis_integer) := ⟨rfl, rfl, rfl, by decide +kernel, rfl, by decide +kernel, by decide +kernel⟩
theorem ok_isint {f : Addr} {fd : FuncData} (F : Fun K "is_integer" "is_integer" sis_integer f fd) (T : TX K mg C) : FnOk P w K mg base CX0 1 f fd ["value"] spIsInt := by
  refine F.ok sc_isint (fun vs H Q E h => ?_) (fun cdv A outer s H vs Q E hr h => ?_)
  · obtain ⟨i, rfl, _⟩ := h
    rfl
  obtain ⟨i, rfl, q⟩ := h
  refine ⟨_, pss_one (ps_ret (pe_and (pe_isi T.isi (pv 0) (pe_bltn (v := .ty "int") rfl T.int (by decide +kernel) rfl)) (pe_one (pe_not (pe_isi T.isi (pv 0) (pe_bltn (v := .ty "bool") rfl T.bool (by decide +kernel) rfl)))))), ?_⟩
  refine ⟨_, rfl, _, .ty "int", _, _, true, rfl, .ty "int", .base (.int _), kit_ty (by decide +kernel), _, rfl, iteT ?_⟩
  exact ⟨_, rfl, _, .ty "bool", _, _, false, rfl, .ty "bool", .base (.int _), kit_ty (by decide +kernel), _, rfl, q⟩
theorem sc_isfrom : FnScope ["value", "low", "high"] ["value", "low", "high"] (defScope sis_from) := ⟨rfl, rfl, rfl, by decide +kernel, rfl, by decide +kernel, by decide +kernel⟩
theorem ok_isfrom {f : Addr} {fd : FuncData} (F : Fun K "is_from" "is_from" sis_from f fd) (G : Cal P w K mg base CX0 "is_integer" 1 ["value"] spIsInt) : FnOk P w K mg base CX0 2 f fd ["value", "low", "high"] spIsFrom := by
  refine F.ok sc_isfrom (fun vs H Q E h => ?_) (fun cdv A outer s H vs Q E hr h => ?_)
  · obtain ⟨i, a, b, rfl, _⟩ := h
    rfl
  obtain ⟨i, a, b, rfl, h1, h2, q⟩ := h
  refine ⟨_, pss_one (ps_ret (pe_and (pe_cal G hr pass0 (pa_cons (pv 0) pa_nil)) (pe_one (pe_chain op_le op_le (pv 1) (pv 0) (pv 2))))), ?_⟩
  refine ⟨_, rfl, _, rfl, _, rfl, iteT ⟨_, rfl, _, rfl, _, _, rfl, rfl, _, rfl, ?_⟩⟩
  rw [decide_eq_true h1]
  refine iteT ⟨_, rfl, _, _, rfl, rfl, ?_⟩
  show Q (.bl (decide (i ≤ b))) H
  rw [decide_eq_true h2]
  exact q
theorem sc_needc : FnScope ["value"] ["value"] (defScope sneed_count) := ⟨rfl, rfl, rfl, by decide +kernel, rfl, by decide +kernel, by decide +kernel⟩
theorem ok_needc {f : Addr} {fd : FuncData} (F : Fun K "need_count" "need_count" sneed_count f fd) (T : TX K mg C) (G : Cal P w K mg base CX0 "is_from" 2 ["value", "low", "high"] spIsFrom) : FnOk P w K mg base CX0 3 f fd ["value"] spNeedC := by
  refine F.ok sc_needc (fun vs H Q E h => ?_) (fun cdv A outer s H vs Q E hr h => ?_)
  · obtain ⟨i, rfl, _⟩ := h
    rfl
  obtain ⟨i, rfl, h1, h2, q⟩ := h
  refine ⟨_, pss_one (ps_if (pt_not (pt_val (pe_cal G hr pass0 (pa_cons (pv 0) (pa_cons pe_int (pa_cons (pe_gI T.nodes) pa_nil)))))) pss_never pss_nil), ?_⟩
  exact ⟨_, rfl, _, _, _, rfl, h1, h2, _, rfl, iteF q⟩
end
end KW
set_option Elab.async false
set_option linter.all false
set_option maxRecDepth 100000
set_option maxHeartbeats 4000000
/-! TooLong as it is used; short. -/
namespace KW
open PySem PySem.Spec PyProof.Rows L2 KM
/-- TooLong(e) -/
def tMkTL (CT : Addr) (ta : TA) : L2.St → Hp → XK → Prop := fun σ H Q => ta σ H fun vs H1 => ∃ v, vs = [v] ∧ ∀ d, H1 d = none → Q (.ref CT) (some d) (upd H1 d (.xd [(("most" : Str), v)]))
def TLOk (P : Program) (w : World) (K : PySem.W.Frag) (mg : Str → Option Value) (base : Heap) (CT : Addr) : Prop :=
  ∀ (X : Cx), X.prog = P → X.w = w → X.K = K → X.mg = mg → X.base = base → Room 4 X.A → ∀ {a : Expr} {ta : TA} {p pos : Pos}, PA X [a] ta → Gl X "TooLong" → starEach (a :: []) X.env = (false, eval a X.env) :: starEach [] X.env → (backTo pos (starEach [] X.env)).any (·.1) = false →
    PMk X (.Call (.Name "TooLong" p) [a] [] pos) (tMkTL CT ta)
/-- what is let out -/
def TLE (CT : Addr) (H : Hp) (E : XK) : Prop := ∀ (d : Addr) (H' : Hp), Same H H' → H' d = some (.xd [(("most" : Str), .int 200)]) → E (.ref CT) (some d) H'
theorem TLE.mono {CT : Addr} {H H1 : Hp} {E : XK} (h : TLE CT H E) (s : Same H H1) : TLE CT H1 E := fun d H' s2 e => h d H' (s.trans s2) e
def rowL (r : KM.Row) : List V := r.map V.int
def spShort (CT : Addr) : Sp := fun vs H Q E => ∃ (l : Addr) (r : KM.Row), vs = [.ref l] ∧ H l = some (.lst (rowL r)) ∧ r.length ≤ 16000000 ∧ (r.length ≤ 200 → Q (.ref l) H) ∧ (200 < r.length → TLE CT H E)
section
variable {P : Program} {w : World} {K : PySem.W.Frag} {mg : Str → Option Value} {base : Heap} {C CT : Addr}
theorem sc_short : FnScope ["row"] ["row"] (defScope sshort) := ⟨rfl, rfl, rfl, by decide +kernel, rfl, by decide +kernel, by decide +kernel⟩
theorem ok_short {f : Addr} {fd : FuncData} (F : Fun K "short" "short" sshort f fd) (T : TX K mg C) (M : TLOk P w K mg base CT) : FnOk P w K mg base (L2.CX P w) 5 f fd ["row"] (spShort CT) := by
  refine F.okX sc_short (fun vs H Q E h => ?_) (fun cdv A outer s H vs Q E hr h => ?_)
  · obtain ⟨l, r, rfl, _⟩ := h
    rfl
  obtain ⟨l, r, rfl, hl, hr2, q1, q2⟩ := h
  refine ⟨_, pss_cons (ps_if (pt_cmpR op_gt (pe_callB call_len_seq (by rfl) T.len PySem.boot_len (pa_cons (pv 0) pa_nil)) (pe_gI T.turns) (nomark _))
      (pss_one (ps_raise rfl (takes_of rfl rfl rfl rfl) (M _ rfl rfl rfl rfl rfl hr (pa_cons (pe_gI T.turns) pa_nil) (by rfl) (by rfl) (by rfl)))) pss_nil)
    (pss_one (ps_ret (pv 0))), ?_⟩
  refine ⟨_, rfl, l, _, rfl, .inl (SqL.of hl), _, _, rfl, rfl, _, rfl, ?_⟩
  show ite _ _ _
  rw [show (rowL r).length = r.length from List.length_map _]
  by_cases h : 200 < r.length
  · rw [decide_eq_true (by omega : (200 : Int) < (r.length : Int))]
    exact iteT ⟨_, rfl, fun d hd => q2 h d _ (Same.new hd _) upd_same⟩
  · rw [decide_eq_false (by omega : ¬ (200 : Int) < (r.length : Int))]
    exact iteF ⟨_, rfl, q1 (by omega)⟩
end
end KW
set_option Elab.async false
set_option linter.all false
set_option maxRecDepth 100000
set_option maxHeartbeats 4000000
/-! row_of_thing, row_of_things. -/
namespace KW
open PySem PySem.Spec PyProof.Rows L2 KM
abbrev Envr : Type := List Nat → Option KM.Row
/-- the known rows -/
def KnAt (H : Hp) (kn : Addr) (N : List (List Nat)) (env : Envr) : Prop :=
  ∃ kvs : List (Key × V), H kn = some (.dK kvs) ∧ kvs.length ≤ 1000 ∧ ∀ s ∈ N, ∃ r a, env s = some r ∧ valV kvs (Sum.inr (mk s)) = some (.ref a) ∧ H a = some (.lst (rowL r))
theorem KnAt.same {H H' : Hp} {kn : Addr} {N : List (List Nat)} {env : Envr} (h : KnAt H kn N env) (s : Same H H') : KnAt H' kn N env := by
  obtain ⟨kvs, h1, h2, h3⟩ := h
  refine ⟨kvs, s _ _ h1, h2, fun z hz => ?_⟩
  obtain ⟨r, a, e1, e2, e3⟩ := h3 z hz
  exact ⟨r, a, e1, e2, s _ _ e3⟩
def EB (env : Envr) : Prop := ∀ s r, env s = some r → r.length ≤ 200
theorem rowL_len (r : KM.Row) : (rowL r).length = r.length := List.length_map _
theorem rowL_app (a b : KM.Row) : rowL a ++ rowL b = rowL (a ++ b) := (List.map_append).symm
theorem rowL_rev (a : KM.Row) : (rowL a).reverse = rowL a.reverse := (List.map_reverse).symm
theorem rowL_rep (k : Nat) (a : KM.Row) : (List.replicate k (rowL a)).flatten = rowL (repR k a) := by
  unfold rowL repR
  rw [List.map_flatten, List.map_replicate]
theorem repR_len (k : Nat) (a : KM.Row) : (repR k a).length = k * a.length := by
  unfold repR
  simp
theorem catTs_of (env : Envr) (t : KM.T) (l : List KM.T) : catTs env (Ts.of (t :: l)) = (rowT env t).bind fun r => (catTs env (Ts.of l)).map fun q => r ++ q := by
  simp only [Ts.of, catTs]
theorem drop_of {α : Type} {x : List α} {i : Nat} {c : α} (h : x[i]? = some c) : x.drop i = c :: x.drop (i + 1) := by
  obtain ⟨hi, e⟩ := List.getElem?_eq_some_iff.mp h
  rw [List.drop_eq_getElem_cons hi, e]
/-- what the rows of a thing are -/
def spRT (CT : Addr) (k : Nat) : Sp := fun vs H Q E => ∃ (kn : Addr) (v : V) (N : List (List Nat)) (env : Envr) (n : Nat) (t : KM.T), vs = [.ref kn, v] ∧ KnAt H kn N env ∧ EB env ∧ TAt H v t ∧ vOk N n t ∧ pOk t ∧ hgt t ≤ k ∧ wid t ≤ 1000 ∧
  (∀ (r : KM.Row) (H' : Hp) (l : Addr), rowT env t = some r → Same H H' → H' l = some (.lst (rowL r)) → Q (.ref l) H') ∧ (rowT env t = none → TLE CT H E)
def spRTs (CT : Addr) (k : Nat) : Sp := fun vs H Q E => ∃ (kn : Addr) (v : V) (N : List (List Nat)) (env : Envr) (n : Nat) (ts : Ts), vs = [.ref kn, v] ∧ KnAt H kn N env ∧ EB env ∧ TsA H v ts ∧ vOks N n ts ∧ pOks ts ∧ hgts ts ≤ k ∧ ts.len ≤ 1000 ∧ wids ts ≤ 1000 ∧
  (∀ (r : KM.Row) (H' : Hp) (l : Addr), rowTs env ts = some r → Same H H' → H' l = some (.lst (rowL r)) → Q (.ref l) H') ∧ (rowTs env ts = none → TLE CT H E)
section
variable {P : Program} {w : World} {K : PySem.W.Frag} {mg : Str → Option Value} {base : Heap} {C CT : Addr}
theorem sc_row_of_things : FnScope ["known", "things", "found", "thing"] ["known", "things"] (defScope srow_of_things) := ⟨rfl, rfl, rfl, by decide +kernel, rfl, by decide +kernel, by decide +kernel⟩
theorem ok_row_of_things {f : Addr} {fd : FuncData} {k : Nat} (F : Fun K "row_of_things" "row_of_things" srow_of_things f fd) (GS : Cal P w K mg base (L2.CX P w) "short" 5 ["row"] (spShort CT)) (G : Cal P w K mg base (L2.CX P w) "row_of_thing" (k + 5) ["known", "thing"] (spRT CT k)) :
    FnOk P w K mg base (L2.CX P w) (k + 6) f fd ["known", "things"] (spRTs CT (k + 1)) := by
  refine F.okX sc_row_of_things (fun vs H Q E h => ?_) (fun cdv A outer s H vs Q E hr h => ?_)
  · obtain ⟨kn, v, N, env, n, ts, rfl, _⟩ := h
    rfl
  obtain ⟨kn, v, N, env, n, ts, rfl, hK, hEB, ⟨a, us, rfl, hT, hts⟩, hv, hp, hh, hl, hw, q1, q2⟩ := h
  have hr5 : Room 5 (A.deeper (envOfC "row_of_things" (defScope srow_of_things) s.heap.objs.size f cdv)) := hr.mono (by omega)
  refine ⟨_, pss_cons (ps_set (i := 2) sc_row_of_things.nd rfl (Or.inl rfl) (pe_lst pa_nil))
    (pss_cons (ps_for (passes_of rfl) rfl (pi_tup (pv 1)) (pg_name (i := 3) sc_row_of_things.nd rfl (Or.inl rfl))
      (pss_one (ps_expr (pe_bm PySem.F.plainAttrs_list PySem.F.slot_list_extend PySem.F.type_list_extend mt_extend (pv 2) (pa_cons (pe_cal G hr (passes_call (W := fun cls d _ H => E cls d H) (takes_of rfl rfl rfl rfl) (fun _ _ _ _ h => h)) (pa_cons (pv 0) (pa_cons (pv 3) pa_nil))) pa_nil)))))
    (pss_one (ps_ret (pe_cal GS hr5 (passes_call (W := fun cls d _ H => E cls d H) (takes_of rfl rfl rfl rfl) (fun _ _ _ _ h => h)) (pa_cons (pv 2) pa_nil))))), ?_⟩
  have hlen := TsAt.len ts us hts
  have hll := Ts.len_list ts
  refine ⟨Nat.zero_le _, fun la hla => ?_⟩
  have s0 := Same.new hla (.lst [])
  refine ⟨_, rfl, a, rfl, ⟨us, SqT.of (s0 _ _ hT)⟩, for_tup (K := K) (a := a) (xs := us) (fun i σ H' => ∃ (v3 : Option V) (acc : KM.Row), σ = [some (.ref kn), some (.ref a), some (.ref la), v3] ∧ Same H H' ∧ H' la = some (.lst (rowL acc)) ∧ acc.length ≤ 200 * i ∧ catTs env ts = (catTs env (Ts.of (ts.list.drop i))).map fun q => acc ++ q)
    ⟨none, [], rfl, s0, upd_same, Nat.le_refl _, ?_⟩ (fun i σ H' _ ⟨_, _, _, s1, _⟩ => SqT.of (s1 _ _ hT)) ?_ ?_⟩
  · rw [List.drop_zero, Ts.of_list]
    cases catTs env ts <;> rfl
  · rintro i x σ H' hx ⟨v3, acc, rfl, s1, hA, hal, hcat⟩
    obtain ⟨t, ht, hu⟩ := TsAt.get ts us hts i x hx
    have hm := List.mem_of_getElem? ht
    have hlt : i < us.length := (List.getElem?_eq_some_iff.mp hx).1
    rw [drop_of ht, catTs_of] at hcat
    refine ⟨_, rfl, .inl ⟨rfl, _, SqL.of hA⟩, _, rfl, _, rfl, kn, x, N, env, n, t, rfl, hK.same s1, hEB, TAt.keep (Same.tk s1) _ _ hu, vOks_mem ts hv t hm, pOks_mem ts hp t hm, by have := hgts_mem ts t hm; omega, Nat.le_trans (wids_mem ts t hm) hw, ?_, ?_⟩
    · intro r H2 l hrt s2 hl2
      have hrl := rowT_le hEB t r hrt
      have hA2 := s2 _ _ hA
      refine ⟨la, l, _, _, rfl, rfl, hA2, hl2, ?_, ?_⟩
      · rw [rowL_len, rowL_len]
        exact line_ge (by omega)
      · refine ⟨_, acc ++ r, rfl, ?_, by rw [upd_same, rowL_app], by rw [List.length_append]; omega, ?_⟩
        · intro b o e
          have nb : b ≠ la := ne_of_none e hla
          rw [upd_ne nb]
          exact s2 _ _ (s1 _ _ e)
        · rw [hcat, hrt]
          simp only [Option.bind_some, Option.map_map]
          congr 1
          funext q
          simp
    · intro hn
      rw [hn] at hcat
      refine (q2 ?_).mono s1
      unfold rowTs
      rw [hcat]
      rfl
  · rintro σ H' ⟨v3, acc, rfl, s1, hA, hal, hcat⟩
    rw [hlen, ← hll, List.drop_length] at hcat
    have e : catTs env ts = some acc := by
      rw [hcat]
      simp [Ts.of, catTs]
    refine ⟨_, rfl, la, acc, rfl, hA, by omega, fun h => q1 acc _ la ?_ s1 hA, fun h => (q2 ?_).mono s1⟩
    · unfold rowTs shortO
      rw [e]
      simp only [Option.bind_some]
      rw [if_pos h]
    · unfold rowTs shortO
      rw [e]
      simp only [Option.bind_some]
      rw [if_neg (by omega)]
end
end KW
set_option Elab.async false
set_option linter.all false
set_option maxRecDepth 100000
set_option maxHeartbeats 4000000
/-! row_of_thing; both by induction. -/
namespace KW
open PySem PySem.Spec PyProof.Rows L2 KM
section
variable {P : Program} {w : World} {K : PySem.W.Frag} {mg : Str → Option Value} {base : Heap} {C CT : Addr}
theorem sc_row_of_thing : FnScope ["known", "thing", "word", "one", "other"] ["known", "thing"] (defScope srow_of_thing) := ⟨rfl, rfl, rfl, by decide +kernel, rfl, by decide +kernel, by decide +kernel⟩
theorem ok_row_of_thing {f : Addr} {fd : FuncData} {k : Nat} (F : Fun K "row_of_thing" "row_of_thing" srow_of_thing f fd) (GS : Cal P w K mg base (L2.CX P w) "short" 5 ["row"] (spShort CT)) (G : Cal P w K mg base (L2.CX P w) "row_of_thing" (k + 5) ["known", "thing"] (spRT CT k))
    (Gs : Cal P w K mg base (L2.CX P w) "row_of_things" (k + 5) ["known", "things"] (spRTs CT k)) : FnOk P w K mg base (L2.CX P w) (k + 6) f fd ["known", "thing"] (spRT CT (k + 1)) := by
  refine F.okX sc_row_of_thing (fun vs H Q E h => ?_) (fun cdv A outer s H vs Q E hr h => ?_)
  · obtain ⟨kn, v, N, env, n, t, rfl, _⟩ := h
    rfl
  obtain ⟨kn, v, N, env, n, t, rfl, hK, hEB, hT, hv, hp, hh, hw, q1, q2⟩ := h
  have hr5 : Room 5 (A.deeper (envOfC "row_of_thing" (defScope srow_of_thing) s.heap.objs.size f cdv)) := hr.mono (by omega)
  refine ⟨_, pss_cons (ps_set (i := 2) sc_row_of_thing.nd rfl (Or.inl rfl) (pe_ix ix_tup (pv 1) pe_int (fun _ _ => rfl)))
    (pss_cons (ps_if (pt_cmpR op_eq (pv 2) pe_str (nomark _)) (pss_one (ps_ret (pe_dget (hu_of hr) (pv 0) (pe_ix ix_tup (pv 1) pe_int (fun _ _ => rfl)) (fun _ _ => rfl)))) pss_nil)
    (pss_cons (ps_if (pt_cmpR op_eq (pv 2) pe_str (nomark _)) (pss_one (ps_ret (pe_lst (pa_cons (pe_ix ix_tup (pv 1) pe_int (fun _ _ => rfl)) pa_nil)))) pss_nil)
    (pss_cons (ps_if (pt_cmpR op_eq (pv 2) pe_str (nomark _)) (pss_one (ps_ret (pe_revL (pe_cal G hr (passes_call (W := fun cls d _ H => E cls d H) (takes_of rfl rfl rfl rfl) (fun _ _ _ _ h => h)) (pa_cons (pv 0) (pa_cons (pe_ix ix_tup (pv 1) pe_int (fun _ _ => rfl)) pa_nil)))))) pss_nil)
    (pss_cons (ps_if (pt_cmpR op_eq (pv 2) pe_str (nomark _)) (pss_one (ps_ret (pe_cal GS hr5 (passes_call (W := fun cls d _ H => E cls d H) (takes_of rfl rfl rfl rfl) (fun _ _ _ _ h => h)) (pa_cons (pe_op op_rep (pe_cal G hr (passes_call (W := fun cls d _ H => E cls d H) (takes_of rfl rfl rfl rfl) (fun _ _ _ _ h => h)) (pa_cons (pv 0) (pa_cons (pe_ix ix_tup (pv 1) pe_int (fun _ _ => rfl)) pa_nil))) (pe_ix ix_tup (pv 1) pe_int (fun _ _ => rfl))) pa_nil)))) pss_nil)
    (pss_cons (ps_if (pt_cmpR op_eq (pv 2) pe_str (nomark _)) (pss_one (ps_ret (pe_cal Gs hr (passes_call (W := fun cls d _ H => E cls d H) (takes_of rfl rfl rfl rfl) (fun _ _ _ _ h => h)) (pa_cons (pv 0) (pa_cons (pe_ix ix_tup (pv 1) pe_int (fun _ _ => rfl)) pa_nil))))) pss_nil)
    (pss_cons (ps_par (i := 3) (j := 4) rfl sc_row_of_thing.nd rfl rfl (by decide) rfl rfl (pa_cons (pe_cal Gs hr (passes_call (W := fun cls d _ H => E cls d H) (takes_of rfl rfl rfl rfl) (fun _ _ _ _ h => h)) (pa_cons (pv 0) (pa_cons (pe_ix ix_tup (pv 1) pe_int (fun _ _ => rfl)) pa_nil))) (pa_cons (pe_cal Gs hr (passes_call (W := fun cls d _ H => E cls d H) (takes_of rfl rfl rfl rfl) (fun _ _ _ _ h => h)) (pa_cons (pv 0) (pa_cons (pe_ix ix_tup (pv 1) pe_int (fun _ _ => rfl)) pa_nil))) pa_nil)) (by rfl))
    (pss_one (ps_ret (pe_cal GS hr5 (passes_call (W := fun cls d _ H => E cls d H) (takes_of rfl rfl rfl rfl) (fun _ _ _ _ h => h)) (pa_cons (pe_op op_cat (pe_op op_cat (pe_op op_cat (pv 3) (pv 4)) (pe_revL (pv 3))) (pe_revL (pv 4))) pa_nil)))))))))), ?_⟩
  cases t with
  | name s =>
    simp only [TAt] at hT
    simp only [vOk] at hv
    obtain ⟨a, rfl, ha⟩ := hT
    obtain ⟨kvs, hk1, hk2, hk3⟩ := hK
    obtain ⟨r, l, e1, e2, e3⟩ := hk3 s hv
    refine ⟨_, rfl, a, _, _, _, rfl, rfl, SqT.of ha, at_get (a := 0) rfl, ?_⟩
    refine ⟨_, rfl, rfl, _, rfl, ?_⟩
    rw [e_name_name]
    refine iteT ⟨_, rfl, _, rfl, a, _, _, _, rfl, rfl, SqT.of ha, at_get (a := 1) rfl, kn, .ref l, rfl, ?_, q1 r _ l (by simp only [rowT]; exact e1) (Same.refl _) e3⟩
    have g := DGet.k (k := Sum.inr (mk s)) hk1
    rw [e2] at g
    exact g
  | node i =>
    simp only [TAt] at hT
    obtain ⟨a, rfl, ha⟩ := hT
    refine ⟨_, rfl, a, _, _, _, rfl, rfl, SqT.of ha, at_get (a := 0) rfl, ?_⟩
    refine ⟨_, rfl, rfl, _, rfl, ?_⟩
    rw [e_node_name]
    refine iteF ⟨_, rfl, rfl, _, rfl, ?_⟩
    rw [e_node_node]
    exact iteT ⟨_, rfl, a, _, _, _, rfl, rfl, SqT.of ha, at_get (a := 1) rfl, line_ge (by show 1 ≤ 16777216; decide), fun p hp => q1 [(i : Int)] _ p (by simp only [rowT]) (Same.new hp _) upd_same⟩
  | back t =>
    simp only [TAt] at hT
    simp only [vOk] at hv
    simp only [pOk] at hp
    simp only [hgt] at hh
    simp only [wid] at hw
    obtain ⟨a, u, rfl, ha, hu⟩ := hT
    refine ⟨_, rfl, a, _, _, _, rfl, rfl, SqT.of ha, at_get (a := 0) rfl, ?_⟩
    refine ⟨_, rfl, rfl, _, rfl, ?_⟩
    rw [e_back_name]
    refine iteF ⟨_, rfl, rfl, _, rfl, ?_⟩
    rw [e_back_node]
    refine iteF ⟨_, rfl, rfl, _, rfl, ?_⟩
    rw [e_back_back]
    refine iteT ⟨_, rfl, _, rfl, a, _, _, _, rfl, rfl, SqT.of ha, at_get (a := 1) rfl, kn, u, N, env, n, t, rfl, hK, hEB, hu, hv, hp, by omega, hw, fun r H2 l hrt s2 hl => ?_, fun hn => q2 (by simp only [rowT]; rw [hn]; rfl)⟩
    exact ⟨l, _, rfl, SqL.of hl, fun p hp => q1 r.reverse _ p (by simp only [rowT]; rw [hrt]; rfl) (s2.trans (Same.new hp _)) (by rw [upd_same, rowL_rev])⟩
  | times t j =>
    simp only [TAt] at hT
    simp only [vOk] at hv
    simp only [pOk] at hp
    simp only [hgt] at hh
    simp only [wid] at hw
    obtain ⟨a, u, rfl, ha, hu⟩ := hT
    refine ⟨_, rfl, a, _, _, _, rfl, rfl, SqT.of ha, at_get (a := 0) rfl, ?_⟩
    refine ⟨_, rfl, rfl, _, rfl, ?_⟩
    rw [e_times_name]
    refine iteF ⟨_, rfl, rfl, _, rfl, ?_⟩
    rw [e_times_node]
    refine iteF ⟨_, rfl, rfl, _, rfl, ?_⟩
    rw [e_times_back]
    refine iteF ⟨_, rfl, rfl, _, rfl, ?_⟩
    rw [e_times_times]
    refine iteT ⟨_, rfl, _, rfl, a, _, _, _, rfl, rfl, SqT.of ha, at_get (a := 1) rfl, kn, u, N, env, n, t, rfl, hK, hEB, hu, hv, hp.1, by omega, hw, fun r H2 l hrt s2 hl => ?_, fun hn => q2 (by simp only [rowT]; rw [hn]; rfl)⟩
    have hrl := rowT_le hEB t r hrt
    have hj := hp.2
    have hrep := repR_len j r
    have hm : j * r.length ≤ 100 * 200 := Nat.mul_le_mul (by omega) hrl
    have ej : ((j : Nat) : Int).toNat = j := Int.toNat_natCast j
    refine ⟨_, rfl, a, _, _, _, rfl, rfl, SqT.of (s2 _ _ ha), at_get (a := 2) rfl, l, (j : Int), _, rfl, rfl, hl, by omega, by omega, ?_, fun p hp => ?_⟩
    · rw [rowL_len, ej, Nat.mul_comm]
      exact line_ge (by omega)
    rw [ej, rowL_rep]
    have s3 := Same.new hp (.lst (rowL (repR j r)))
    refine ⟨p, _, rfl, upd_same, by omega, fun h => q1 (repR j r) _ p ?_ (s2.trans s3) upd_same, fun h => (q2 ?_).mono (s2.trans s3)⟩
    · simp only [rowT]
      rw [hrt]
      show shortO (repR j r) = _
      unfold shortO
      rw [if_pos h]
    · simp only [rowT]
      rw [hrt]
      show shortO (repR j r) = _
      unfold shortO
      rw [if_neg (by omega)]
  | row ts =>
    simp only [TAt] at hT
    simp only [vOk] at hv
    simp only [pOk] at hp
    simp only [hgt] at hh
    simp only [wid] at hw
    obtain ⟨a, b, us, rfl, ha, hb, hu⟩ := hT
    refine ⟨_, rfl, a, _, _, _, rfl, rfl, SqT.of ha, at_get (a := 0) rfl, ?_⟩
    refine ⟨_, rfl, rfl, _, rfl, ?_⟩
    rw [e_row_name]
    refine iteF ⟨_, rfl, rfl, _, rfl, ?_⟩
    rw [e_row_node]
    refine iteF ⟨_, rfl, rfl, _, rfl, ?_⟩
    rw [e_row_back]
    refine iteF ⟨_, rfl, rfl, _, rfl, ?_⟩
    rw [e_row_times]
    refine iteF ⟨_, rfl, rfl, _, rfl, ?_⟩
    rw [e_row_row]
    refine iteT ⟨_, rfl, _, rfl, a, _, _, _, rfl, rfl, SqT.of ha, at_get (a := 1) rfl, kn, .ref b, N, env, n, ts, rfl, hK, hEB, ⟨b, us, rfl, hb, hu⟩, hv, hp.2, by omega, by omega, by omega, fun r H2 l hrt s2 hl => q1 r H2 l (by simp only [rowT]; exact hrt) s2 hl, fun hn => q2 (by simp only [rowT]; exact hn)⟩
  | round x y =>
    simp only [TAt] at hT
    simp only [vOk] at hv
    simp only [pOk] at hp
    simp only [hgt] at hh
    simp only [wid] at hw
    obtain ⟨a, b, c, us, ws, rfl, ha, ⟨hb, hu⟩, hc, hu2⟩ := hT
    refine ⟨_, rfl, a, _, _, _, rfl, rfl, SqT.of ha, at_get (a := 0) rfl, ?_⟩
    refine ⟨_, rfl, rfl, _, rfl, ?_⟩
    rw [e_round_name]
    refine iteF ⟨_, rfl, rfl, _, rfl, ?_⟩
    rw [e_round_node]
    refine iteF ⟨_, rfl, rfl, _, rfl, ?_⟩
    rw [e_round_back]
    refine iteF ⟨_, rfl, rfl, _, rfl, ?_⟩
    rw [e_round_times]
    refine iteF ⟨_, rfl, rfl, _, rfl, ?_⟩
    rw [e_round_row]
    refine iteF ⟨_, rfl, _, rfl, a, _, _, _, rfl, rfl, SqT.of ha, at_get (a := 1) rfl, kn, .ref b, N, env, n, x, rfl, hK, hEB, ⟨b, us, rfl, hb, hu⟩, hv.1, hp.2.2.1, by omega, by omega, by omega, fun r H2 l hrt s2 hl => ?_, fun hn => q2 (by simp only [rowT]; show ((rowTs env x).bind _) = none; rw [hn]; rfl)⟩
    refine ⟨_, rfl, _, rfl, a, _, _, _, rfl, rfl, SqT.of (s2 _ _ ha), at_get (a := 2) rfl, kn, .ref c, N, env, n, y, rfl, hK.same s2, hEB, ⟨c, ws, rfl, s2 _ _ hc, TsAt.keep (Same.tk s2) _ _ hu2⟩, hv.2, hp.2.2.2, by omega, by omega, by omega, fun r2 H3 l2 hrt2 s3 hl2 => ?_, fun hn => (q2 (by simp only [rowT]; show ((rowTs env x).bind fun z => (rowTs env y).bind _) = none; rw [hrt]; show ((rowTs env y).bind _) = none; rw [hn]; rfl)).mono s2⟩
    have hl3 := s3 _ _ hl
    have b1 := rowTs_le hrt
    have b2 := rowTs_le hrt2
    have fin : rowT env (.round x y) = shortO (r ++ r2 ++ r.reverse ++ r2.reverse) := by
      simp only [rowT]
      show ((rowTs env x).bind fun z => (rowTs env y).bind fun z2 => _) = _
      rw [hrt, hrt2]
      rfl
    refine ⟨_, _, rfl, _, rfl, _, rfl, l, l2, _, _, rfl, rfl, hl3, hl2, ?_, fun p hp => ?_⟩
    · rw [rowL_len, rowL_len]; exact line_ge (by omega)
    have t1 := Same.new hp (.lst (rowL r ++ rowL r2))
    generalize hH4 : upd H3 p (.lst (rowL r ++ rowL r2)) = H4 at t1
    have hp4 : H4 p = some (.lst (rowL (r ++ r2))) := by rw [← hH4, upd_same, rowL_app]
    refine ⟨_, rfl, l, _, rfl, SqL.of (t1 _ _ hl3), fun p2 hp2 => ?_⟩
    have t2 := Same.new hp2 (.lst (rowL r).reverse)
    generalize hH5 : upd H4 p2 (.lst (rowL r).reverse) = H5 at t2
    have hp5 : H5 p2 = some (.lst (rowL r.reverse)) := by rw [← hH5, upd_same, rowL_rev]
    refine ⟨p, p2, _, _, rfl, rfl, t2 _ _ hp4, hp5, ?_, fun p3 hp3 => ?_⟩
    · rw [rowL_len, rowL_len, List.length_append, List.length_reverse]; exact line_ge (by omega)
    have t3 := Same.new hp3 (.lst (rowL (r ++ r2) ++ rowL r.reverse))
    generalize hH6 : upd H5 p3 (.lst (rowL (r ++ r2) ++ rowL r.reverse)) = H6 at t3
    have hp6 : H6 p3 = some (.lst (rowL (r ++ r2 ++ r.reverse))) := by rw [← hH6, upd_same, rowL_app]
    refine ⟨_, rfl, l2, _, rfl, SqL.of (t3 _ _ (t2 _ _ (t1 _ _ hl2))), fun p4 hp4 => ?_⟩
    have t4 := Same.new hp4 (.lst (rowL r2).reverse)
    generalize hH7 : upd H6 p4 (.lst (rowL r2).reverse) = H7 at t4
    have hp7 : H7 p4 = some (.lst (rowL r2.reverse)) := by rw [← hH7, upd_same, rowL_rev]
    refine ⟨p3, p4, _, _, rfl, rfl, t4 _ _ hp6, hp7, ?_, fun p5 hp5 => ?_⟩
    · rw [rowL_len, rowL_len, List.length_append, List.length_append, List.length_reverse, List.length_reverse]; exact line_ge (by omega)
    have t5 := Same.new hp5 (.lst (rowL (r ++ r2 ++ r.reverse) ++ rowL r2.reverse))
    have sall := s2.trans (s3.trans (t1.trans (t2.trans (t3.trans (t4.trans t5)))))
    refine ⟨p5, r ++ r2 ++ r.reverse ++ r2.reverse, rfl, by rw [upd_same, rowL_app], ?_, fun h => q1 _ _ p5 ?_ sall (by rw [upd_same, rowL_app]), fun h => (q2 ?_).mono sall⟩
    · rw [List.length_append, List.length_append, List.length_append, List.length_reverse, List.length_reverse]; omega
    · rw [fin]
      unfold shortO
      rw [if_pos h]
    · rw [fin]
      unfold shortO
      rw [if_neg (by omega)]
theorem row_all {f1 f2 : Addr} {d1 d2 : FuncData} (GS : Cal P w K mg base (L2.CX P w) "short" 5 ["row"] (spShort CT)) (F1 : Fun K "row_of_thing" "row_of_thing" srow_of_thing f1 d1) (m1 : mg "row_of_thing" = some (.ref f1)) (b1 : Binds K d1 ["known", "thing"] [])
    (F2 : Fun K "row_of_things" "row_of_things" srow_of_things f2 d2) (m2 : mg "row_of_things" = some (.ref f2)) (b2 : Binds K d2 ["known", "things"] []) :
    ∀ k : Nat, Cal P w K mg base (L2.CX P w) "row_of_thing" (k + 5) ["known", "thing"] (spRT CT k) ∧ Cal P w K mg base (L2.CX P w) "row_of_things" (k + 5) ["known", "things"] (spRTs CT k)
  | 0 => ⟨⟨f1, d1, fn_none fun vs H Q E h => by
      obtain ⟨kn, v, N, env, n, t, _, _, _, _, _, _, hh, _⟩ := h
      have := hgt_pos t
      omega, m1, F1.kp, b1⟩, ⟨f2, d2, fn_none fun vs H Q E h => by
      obtain ⟨kn, v, N, env, n, t, _, _, _, _, _, _, hh, _⟩ := h
      have := hgts_pos t
      omega, m2, F2.kp, b2⟩⟩
  | k + 1 => by
    obtain ⟨i1, i2⟩ := row_all GS F1 m1 b1 F2 m2 b2 k
    exact ⟨⟨f1, d1, ok_row_of_thing F1 GS i1 i2, m1, F1.kp, b1⟩, ⟨f2, d2, ok_row_of_things F2 GS i1, m2, F2.kp, b2⟩⟩
end
end KW
set_option Elab.async false
set_option linter.all false
set_option maxRecDepth 100000
set_option maxHeartbeats 4000000
/-! row_of. -/
namespace KW
open PySem PySem.Spec PyProof.Rows L2 KM
theorem setE_same (env : Envr) (s : List Nat) (r : KM.Row) : setE env s r s = some r := if_pos rfl
theorem setE_other {env : Envr} {s z : List Nat} {r : KM.Row} (h : z ≠ s) : setE env s r z = env z := if_neg h
theorem KnAt.put {H : Hp} {kn l : Addr} {N : List (List Nat)} {env : Envr} {s : List Nat} {q : KM.Row} (h : KnAt H kn N env) (hl : H l = some (.lst (rowL q))) (hN : N.length < 1000) : ∀ kvs : List (Key × V), H kn = some (.dK kvs) → kvs.length < 1000 → KnAt (upd H kn (.dK (putK kvs (Sum.inr (mk s)) (.ref l)))) kn (N ++ [s]) (setE env s q) := by
  intro kvs hk hk2
  obtain ⟨kvs', h1, h2, h3⟩ := h
  rw [hk] at h1
  have e : kvs = kvs' := by cases h1; rfl
  subst e
  have len := length_putK kvs (Sum.inr (mk s)) (.ref l)
  refine ⟨_, upd_same, by omega, fun z hz => ?_⟩
  by_cases hzs : z = s
  · subst hzs
    refine ⟨q, l, setE_same _ _ _, ?_, ?_⟩
    · rw [valV_put, if_pos rfl]
    · rw [upd_ne (fun e => by rw [e, hk] at hl; cases hl)]
      exact hl
  · have hz' : z ∈ N := by
      rcases List.mem_append.mp hz with h | h
      · exact h
      · exact absurd (List.mem_singleton.mp h) hzs
    obtain ⟨r, a, e1, e2, e3⟩ := h3 z hz'
    refine ⟨r, a, by rw [setE_other hzs]; exact e1, ?_, ?_⟩
    · rw [valV_put, if_neg (fun e => hzs (mk_inj (Sum.inr.inj e)))]
      exact e2
    · rw [upd_ne (fun e => by rw [e, hk] at e3; cases e3)]
      exact e3
def spRowOf (CT : Addr) (k : Nat) : Sp := fun vs H Q E => ∃ (n : Nat) (z : List Nat) (told : Told) (last : Ts), vs = [.int (n : Int), .str (mk z)] ∧ 1 ≤ n ∧ n ≤ 6 ∧ z.length ≤ 2000 ∧ (∀ c ∈ z, cl c ≠ 4) ∧ lexF [] z = tokW told last ∧ PrW k told last ∧ chkW n [] told last ∧ told.length ≤ 900 ∧
  (∀ (r : KM.Row) (H' : Hp) (t : Addr), rowW env0 told last = some r → Same H H' → H' t = some (.tup (rowL r)) → Q (.ref t) H') ∧ (rowW env0 told last = none → TLE CT H E)
section
variable {P : Program} {w : World} {K : PySem.W.Frag} {mg : Str → Option Value} {base : Heap} {C CT : Addr}
theorem sc_row_of : FnScope ["n", "text", "told", "last", "known", "name", "things"] ["n", "text"] (defScope srow_of) := ⟨rfl, rfl, rfl, by decide +kernel, rfl, by decide +kernel, by decide +kernel⟩
theorem ok_row_of {f : Addr} {fd : FuncData} {k : Nat} (F : Fun K "row_of" "row_of" srow_of f fd) (T : TX K mg C) (GC : Cal P w K mg base CX0 "need_count" 3 ["value"] spNeedC) (GT : Cal P w K mg base CX0 "tree_of" (k + 1) ["text", "n"] (spTree k))
    (Gs : Cal P w K mg base (L2.CX P w) "row_of_things" (k + 5) ["known", "things"] (spRTs CT k)) : FnOk P w K mg base (L2.CX P w) (k + 6) f fd ["n", "text"] (spRowOf CT k) := by
  refine F.okX sc_row_of (fun vs H Q E h => ?_) (fun cdv A outer s H vs Q E hr h => ?_)
  · obtain ⟨n, z, told, last, rfl, _⟩ := h
    rfl
  obtain ⟨n, z, told, last, rfl, hn1, hn2, hz, hc, hlex, W, hchk, htl, q1, q2⟩ := h
  have hr3 : Room 3 (A.deeper (envOfC "row_of" (defScope srow_of) s.heap.objs.size f cdv)) := hr.mono (by omega)
  have hr1 : Room (k + 1) (A.deeper (envOfC "row_of" (defScope srow_of) s.heap.objs.size f cdv)) := hr.mono (by omega)
  refine ⟨_, pss_cons (ps_expr (pe_cal GC hr3 pass0 (pa_cons (pv 0) pa_nil)))
    (pss_cons (ps_asg (pe_cal GT hr1 pass0 (pa_cons (pv 1) (pa_cons (pv 0) pa_nil))) (pg_tup (by rfl) (pgs_cons (pg_name (i := 2) sc_row_of.nd rfl (Or.inl rfl)) (pgs_cons (pg_name (i := 3) sc_row_of.nd rfl (Or.inl rfl)) pgs_nil))))
    (pss_cons (ps_set (i := 4) sc_row_of.nd rfl (Or.inl rfl) pe_dnewK)
    (pss_cons (ps_for (passes_of rfl) rfl (pi_list (pv 2)) (pg_tup (by rfl) (pgs_cons (pg_name (i := 5) sc_row_of.nd rfl (Or.inl rfl)) (pgs_cons (pg_name (i := 6) sc_row_of.nd rfl (Or.inl rfl)) pgs_nil)))
      (pss_one (ps_dput (hu_of hr) (pv 4) (pv 5) (pe_cal Gs hr (passes_call (W := fun cls d _ H => E cls d H) (takes_of rfl rfl rfl rfl) (fun _ _ _ _ h => h)) (pa_cons (pv 4) (pa_cons (pv 6) pa_nil))) (by rfl))))
    (pss_one (ps_ret (pe_callTy call_tuple_of (by rfl) T.tuple (by decide +kernel) (pa_cons (pe_cal Gs hr (passes_call (W := fun cls d _ H => E cls d H) (takes_of rfl rfl rfl rfl) (fun _ _ _ _ h => h)) (pa_cons (pv 4) (pa_cons (pv 3) pa_nil))) pa_nil))))))), ?_⟩
  refine ⟨_, rfl, (n : Int), rfl, by omega, by omega, ?_⟩
  refine ⟨_, rfl, _, rfl, z, .int (n : Int), n, told, last, rfl, hz, hc, hlex, W.rd, .inr rfl, hchk, fun p hp => (W.ht p hp).1, W.hl.1, fun H1 o fl uu u s1 ho hfl hD hL => ?_⟩
  refine ⟨o, _, rfl, SqT.of ho, rfl, _, _, rfl, _, _, rfl, rfl, fun kn hkn => ?_⟩
  have s3 := Same.new hkn (.dK [])
  have s13 := s1.trans s3
  have hdl := DsAt.len told uu hD
  refine ⟨_, rfl, fl, rfl, ⟨uu, SqL.of (s3 _ _ hfl)⟩, for_list (K := K) (a := fl) (xs := uu) (fun i σ H' => ∃ (v5 v6 : Option V) (env : Envr) (kvs : List (Key × V)), σ = [some (.int (n : Int)), some (.str (mk z)), some (.ref fl), some u, some (.ref kn), v5, v6] ∧ Same H1 H' ∧ EB env ∧ KnAt H' kn ((told.take i).map (·.1)) env ∧ H' kn = some (.dK kvs) ∧ kvs.length ≤ i ∧ rowW env0 told last = rowW env (told.drop i) last)
    ⟨none, none, env0, [], rfl, s3, fun s r h => (by cases h), ⟨[], upd_same, Nat.zero_le _, fun s hs => by cases hs⟩, upd_same, Nat.le_refl _, rfl⟩ (fun i σ H' _ ⟨_, _, _, _, _, s4, _⟩ => SqL.of (s4 _ _ hfl)) ?_ ?_⟩
  · rintro i v σ H' hv ⟨v5, v6, env, kvs, rfl, s4, hEB, hKn, hkv, hkl, hrow⟩
    obtain ⟨p, hp, o5, u5, rfl, h5, h6⟩ := DsAt.get told uu hD i v hv
    have hp' := List.mem_of_getElem? hp
    have hlt : i < told.length := (List.getElem?_eq_some_iff.mp hp).1
    have tk4 : TK H1 H' := Same.tk s4
    have hsp : told = told.take i ++ p :: told.drop (i + 1) := by
      have e := (List.take_append_drop i told).symm
      rw [drop_of hp] at e
      exact e
    have ch := chkW_split (told.take i) (p :: told.drop (i + 1)) [] (by rw [← hsp]; exact hchk)
    rw [List.nil_append] at ch
    rw [drop_of hp] at hrow
    obtain ⟨w1, w2, w3⟩ := W.ht p hp'
    obtain ⟨hnm, rd⟩ := W.rd.ts p hp'
    refine ⟨o5, _, rfl, SqT.of (s4 _ _ h5), rfl, _, _, rfl, _, _, rfl, rfl, ?_⟩
    refine ⟨_, rfl, _, rfl, kn, u5, (told.take i).map (·.1), env, n, p.2, rfl, hKn, hEB, h6.keep tk4, ch.2.1, rd.ok, w1, w2, w3, fun r H5 l hrt s5 hl => ?_, fun hn => ?_⟩
    · have hkv5 := s5 _ _ hkv
      refine ⟨_, rfl, _, rfl, kn, _, rfl, DPut.k (k := Sum.inr (mk p.1)) hkv5 (small1000 (by omega)), ?_⟩
      refine ⟨_, _, setE env p.1 r, _, rfl, ?_, setE_le hEB (rowTs_le hrt), ?_, upd_same, ?_, ?_⟩
      · intro b ob e
        rw [upd_ne (ne_of_none e hkn)]
        exact s5 _ _ (s4 _ _ e)
      · have := (hKn.same s5).put (s := p.1) (q := r) hl (by rw [List.length_map, List.length_take]; omega) kvs hkv5 (by omega)
        rw [List.take_add_one, hp, List.map_append]
        exact this
      · have := length_putK kvs (Sum.inr (mk p.1)) (.ref l)
        omega
      · rw [hrow]
        show (rowTs env p.2).bind _ = _
        rw [hrt]
        rfl
    · refine (q2 ?_).mono (s1.trans s4)
      rw [hrow]
      show (rowTs env p.2).bind _ = _
      rw [hn]
      rfl
  · rintro σ H' ⟨v5, v6, env, kvs, rfl, s4, hEB, hKn, hkv, hkl, hrow⟩
    rw [hdl, List.drop_length] at hrow
    rw [hdl, List.take_length] at hKn
    have ch := chkW_split told [] [] (by rw [List.append_nil]; exact hchk)
    rw [List.nil_append] at ch
    have ch' : vOks (told.map (·.1)) n last := ch
    obtain ⟨w1, w2, w3⟩ := W.hl
    refine ⟨_, rfl, _, rfl, kn, u, told.map (·.1), env, n, last, rfl, hKn, hEB, hL.keep (Same.tk s4), ch', W.rd.la.ok, w1, w2, w3, fun r H5 l hrt s5 hl => ?_, fun hn => (q2 (by rw [hrow]; exact hn)).mono (s1.trans s4)⟩
    refine ⟨l, _, rfl, .inl ⟨SqL.of hl, fun t ht => ?_⟩⟩
    exact q1 r _ t (by rw [hrow]; exact hrt) (((s1.trans s4).trans s5).trans (Same.new ht _)) upd_same
end
end KW
set_option Elab.async false
set_option linter.all false
set_option maxRecDepth 100000
set_option maxHeartbeats 4000000
/-! tuple[::-1]; tuple * int for any small int. -/
namespace KW
open PySem PySem.Spec PyProof.Rows L2 KM
theorem fm_congr {α β : Type} {f g : α → Option β} : ∀ l : List α, (∀ x ∈ l, f x = g x) → l.filterMap f = l.filterMap g
  | [], _ => rfl
  | a :: r, h => by
    rw [List.filterMap_cons, List.filterMap_cons, h a List.mem_cons_self, fm_congr r fun x hx => h x (List.mem_cons_of_mem _ hx)]
theorem rev_pick (xs : Array Value) : ((List.range xs.size).filterMap fun (k : Nat) => xs[((xs.size : Int) - 1 + (k : Int) * (-1)).toNat]?) = xs.toList.reverse := by
  have h := PySem.W.krv_all xs.toList.reverse.toArray
  have e : xs.toList.reverse.toArray.size = xs.size := by simp
  rw [e] at h
  rw [show xs.toList.reverse.toArray.toList = xs.toList.reverse from rfl] at h
  rw [← h]
  apply fm_congr
  intro k hk
  have hk := List.mem_range.mp hk
  have e2 : ((xs.size : Int) - 1 + (k : Int) * (-1)).toNat = xs.size - 1 - k := by omega
  rw [e2]
  simp [List.getElem?_reverse, hk]
section
variable {prog : Program} {w : World} {A : Around} {E : Value → Shared → Prop} {s : Shared}
theorem sliceApplied_rev {sl : Addr} {vl vu vs : Value} {n : Nat} {Q : Int × Int × Nat → Shared → Prop} (hs : s.heap.IsSliceOf sl vl vu vs) (pl : IsPart vl none) (pu : IsPart vu none) (ps : IsPart vs (some (-1)))
    (h : Q ((n : Int) - 1, -1, n) s) : wpAny (model prog w) A (Builtin.Slice.sliceApplied (.ref sl) (pure (n : Int))) Q E s := by
  obtain ⟨os, hos, hcs, hds⟩ := id hs
  cases pl
  cases pu
  cases ps
  rename_i t
  unfold Builtin.Slice.sliceApplied Builtin.Slice.sliceFields
  refine wpAny_bind (wpAny_bind (wpAny_field hos hds (x := .none) rfl (wpAny_bind (wpAny_field hos hds (x := .none) rfl (wpAny_bind (wpAny_field hos hds (x := .int (-1) t) rfl (wpAny_pure ?_)))))))
  refine wpAny_bind (slicePart_int ?_)
  show wpAny _ _ (if ((-1 : Int) == 0) = true then _ else _) _ _ s
  rw [if_neg (by decide)]
  refine wpAny_bind (slicePart_none (wpAny_bind (slicePart_none (wpAny_bind (wpAny_pure ?_)))))
  show wpAny _ _ (pure ((n : Int) - 1, (-1 : Int), Builtin.Slice.slicePlaces ((n : Int) - 1) (-1) (-1))) _ _ s
  have e : Builtin.Slice.slicePlaces ((n : Int) - 1) (-1) (-1) = n := by
    unfold Builtin.Slice.slicePlaces
    rw [if_neg (by decide)]
    by_cases h : (n : Int) - 1 > -1
    · rw [if_pos h, show (-(-1) : Int) = 1 by decide, Int.ediv_one]
      omega
    · rw [if_neg h]
      omega
  rw [e]
  exact wpAny_pure h
theorem getItem_tuple_rev {t sl : Addr} {items : Array Value} {vl vu vs : Value} {Q : Value → Shared → Prop} (ht : IsTup s.heap t items) (hs : s.heap.IsSliceOf sl vl vu vs) (pl : IsPart vl none) (pu : IsPart vu none) (ps : IsPart vs (some (-1)))
    (h : Q (.ref s.heap.objs.size) { s with heap := s.heap.push { cls := .type "tuple", data := .seq items.toList.reverse.toArray } })
    (hsz : items.size ≤ sizeLine) : wpAny (model prog w) A (getItem (.ref t) (.ref sl)) Q E s := by
  have htake : sizeOk (.seq items.toList.reverse.toArray) := by
    show items.toList.reverse.toArray.size ≤ sizeLine
    simpa using hsz
  obtain ⟨os, hos, hcs, hds⟩ := id hs
  have hTs : s.TypeIs (.ref sl) "slice" := ⟨os, hos, hcs⟩
  unfold getItem
  try with_reducible refine wpAny_holding ?_
  first | refine wpAny_bind (wpAny_pure ?_) | skip
  refine wpAny_bind (wpAny_sequenceKey ht.typeIs (by decide) ?_)
  refine wpAny_bind (wpAny_callSpecial?_slot (name := Str.ofString "__getitem__") ht.typeIs PyProof.Rows.slot_tuple_getitem
    (wpAny_call_entry PyProof.Rows.slot_tuple_getitem ht.typeIs entry_tuple_getitem ?_ (args_tuple_getitem _ _)))
  show wpAny _ _ (Builtin.Tuple.tupleItemsOf (.ref t) >>= _) _ _ s
  refine wpAny_bind (PyProof.Rows.tupleItemsOf_ ht ?_)
  refine wpAny_bind (wpAny_typeOf hTs ?_)
  rw [if_pos (by decide)]
  refine wpAny_bind (sliceApplied_rev hs pl pu ps ?_)
  have hno : ¬ ((((items.size : Int) - 1) == 0 && (-1 : Int) == 1 && items.size == items.size) = true) := by
    intro q
    rw [Bool.and_eq_true, Bool.and_eq_true] at q
    exact absurd q.1.2 (by decide)
  show wpAny _ _ (if (((items.size : Int) - 1) == 0 && (-1 : Int) == 1 && items.size == items.size) = true then _ else _) _ _ s
  rw [if_neg hno, rev_pick]
  first
    | exact wpAny_bind (m := Builtin.Tuple.tupleExact _) (wpAny_newObj_type (wpAny_pure ⟨_, rfl, wpAny_pure h⟩) htake)
    | exact wpAny_bind (m := Builtin.Tuple.tupleExact _) (wpAny_newObj_type (wpAny_bind (wpAny_pure (wpAny_pure ⟨_, rfl, wpAny_pure h⟩))) htake)
    | exact wpAny_bind (wpAny_bind (m := Builtin.Tuple.tupleExact _) (wpAny_newObj_type (wpAny_pure (wpAny_pure ⟨_, rfl, wpAny_pure h⟩)) htake))
    | exact wpAny_bind (wpAny_bind (m := Builtin.Tuple.tupleExact _) (wpAny_newObj_type (wpAny_pure ⟨_, rfl, wpAny_pure h⟩) htake))
end
section
variable {X : Cx}
def tRevT (K : PySem.W.Frag) (te : TE) : TE := fun σ H Q => te σ H fun x H1 => ∃ a xs, x = .ref a ∧ SqT K H1 a xs ∧ ∀ p, H1 p = none → Q (.ref p) (upd H1 p (.tup xs.reverse))
theorem pe_revT {e : Expr} {te : TE} {k : Nat} {p1 p2 p3 pos : Pos} (he : PE X e te) : PE X (.Subscript e (.Slice none none (some (.UnaryOp .USub (.Constant (.int 1) k p1) p2)) p3) pos) (tRevT X.K te) := by
  refine ⟨fun pins s σ H Q I h => ?_⟩
  refine Subscript_ (thn (he.run pins s σ H _ I h) fun v s1 ⟨x, H1, I1, r1, q1⟩ => ?_)
  obtain ⟨a, xs, ex, hx, q⟩ := q1
  subst ex
  cases r1
  have hst : PO X (some (.UnaryOp .USub (.Constant (.int 1) k p1) p2)) (tPart (tUn (rU fun i => .int (-i)) (tC (.int 1)))) := po_some (pe_un un_neg pe_int)
  refine wpAny_Slice (thn (po_none.run pins s1 σ H1 (fun o H2 => o = none ∧ H2 = H1) I1 ⟨rfl, rfl⟩) fun vl s2 ⟨l, H2, I2, pl, el, e2⟩ => ?_)
  subst el e2
  refine thn (po_none.run pins s2 σ H2 (fun o H3 => o = none ∧ H3 = H2) I2 ⟨rfl, rfl⟩) fun vu s3 ⟨u, H3, I3, pu, eu, e3⟩ => ?_
  subst eu e3
  refine thn (hst.run pins s3 σ H3 (fun o H4 => o = some (-1) ∧ H4 = H3) I3 ⟨1, rfl, -1, rfl, rfl, rfl⟩) fun vs s4 ⟨o, H4, I4, ps, eo, e4⟩ => ?_
  subst eo e4
  have I5 : Inv X pins σ H4 { s4 with heap := s4.heap.push { cls := .type "slice", data := .fields #[vl, vu, vs] } } := I4.kept (t' := s4.toks) fun b ob q => Heap.get?_push_of_some _ q
  obtain ⟨its, r, ht, hz⟩ := I5.tuple hx
  have hlen := r.length
  show wpAny (model X.prog X.w) X.A (subscriptTail e (.Slice none none (some (.UnaryOp .USub (.Constant (.int 1) k p1) p2)) p3) (.ref a) (.ref s4.heap.objs.size)) (EP X pins σ Q) X.xe { s4 with heap := s4.heap.push { cls := .type "slice", data := .fields #[vl, vu, vs] } }
  refine tail_any (ops := [.ref a, .ref s4.heap.objs.size]) ht.typeIs (PyProof.Rows.slot_tuple_getitem.lookup) ?_ (by with_unfolding_all rfl)
  refine getItem_tuple_rev ht (Heap.IsSliceOf.new _ vl vu vs) pl pu ps ?_ (by rw [List.size_toArray]; omega)
  refine ⟨.ref _, _, I5.laid (t' := s4.toks) (o := .tup xs.reverse) (fun b ob q => Heap.get?_push_of_some _ q) (Nat.le_refl _) ?_, rfl, q _ (I5.hok.fresh (Nat.le_refl _))⟩
  exact ⟨by rw [List.length_reverse]; exact hz, _, r.reverse, IsTup.new _ _⟩
theorem tuple_mulSame (l : Addr) (items : Array Value) (n : Nat) (dd : Option Addr) (sl : Array (Option Value)) (x : Int) (u : Tok) (c0 : (decide (x < -(2 ^ 63)) || decide (x ≥ 2 ^ 63)) = false) (c1 : (items.isEmpty || x == 1) = true) :
    Meets (Builtin.«tuple.__mul__» ⟨[.ref l, .int x u], []⟩) (fun _ R s => s.heap.get? l = some { cls := .type "tuple", dict := dd, data := .seq items n, slots := sl } ∧
      R (.ok (.ret (Value.ref l))) s) :=
  .of_wp fun prog w A R s h => by
    obtain ⟨hp, g, d, tk, os⟩ := s
    obtain ⟨hl, h⟩ := h
    have f1 := AutoSeq1.idx_int
    wp_walk using wpAny_loadPart' hl
    repeat (first
      | (refine wpAny_ite_false (decide_eq_false (by rw [c0]; exact Bool.false_ne_true)) ?_; wp_walk using wpAny_loadPart' hl)
      | (refine wpAny_ite_true (decide_eq_true (by rw [c1])) ?_; wp_walk using wpAny_loadPart' hl))
    exact ⟨_, rfl, h⟩
theorem tuple_mulZero (l : Addr) (items : Array Value) (n : Nat) (dd : Option Addr) (sl : Array (Option Value)) (x : Int) (u : Tok) (c0 : (decide (x < -(2 ^ 63)) || decide (x ≥ 2 ^ 63)) = false) (c1 : (items.isEmpty || x == 1) = false) (c2 : (decide (x ≤ 0) || items.isEmpty) = true) :
    Meets (Builtin.«tuple.__mul__» ⟨[.ref l, .int x u], []⟩) (fun _ R s => s.heap.get? l = some { cls := .type "tuple", dict := dd, data := .seq items n, slots := sl } ∧
      R (.ok (.ret (Value.ref s.heap.objs.size))) { s with heap := s.heap.push { cls := Value.type "tuple", data := Data.seq #[] }, toks := s.toks }) :=
  .of_wp fun prog w A R s h => by
    obtain ⟨hp, g, d, tk, os⟩ := s
    obtain ⟨hl, h⟩ := h
    have f1 := AutoSeq1.idx_int
    wp_walk using wpAny_loadPart' hl
    repeat (first
      | (refine wpAny_ite_false (decide_eq_false (by rw [c0]; exact Bool.false_ne_true)) ?_; wp_walk using wpAny_loadPart' hl)
      | (refine wpAny_ite_false (decide_eq_false (by rw [c1]; exact Bool.false_ne_true)) ?_; wp_walk using wpAny_loadPart' hl)
      | (refine wpAny_ite_true (decide_eq_true (by rw [c2])) ?_; wp_walk using wpAny_loadPart' hl))
    exact ⟨_, rfl, h⟩
/-- t * k, k small and not negative -/
def rRepA (K : PySem.W.Frag) : R2 := fun x y H Q => ∃ l k xs, x = .ref l ∧ y = .int k ∧ SqT K H l xs ∧ 0 ≤ k ∧ k ≤ 1000 ∧ xs.length ≤ 1000 ∧ ((xs = [] ∨ k = 1) → Q (.ref l) H) ∧
  (xs ≠ [] → k ≠ 1 → ∀ p, H p = none → Q (.ref p) (upd H p (.tup (List.replicate k.toNat xs).flatten)))
theorem op_repA : OpR X (binaryOp .Mult) (rRepA X.K) := by
  intro pins s σ H x y v u Q I rx ry h
  obtain ⟨l, k, xs, rfl, rfl, hT, h1, h2, hz, q1, q2⟩ := h
  by_cases hne : xs = [] ∨ k = 1
  · have q := q1 hne
    cases rx
    obtain ⟨t, rfl⟩ := ry
    obtain ⟨its, r, ⟨⟨cls, dd, data, sl⟩, ho, hc, n, hd⟩, hs⟩ := I.tuple hT
    simp only at hc hd
    subst hc hd
    have c0 : (decide (k < -(2 ^ 63)) || decide (k ≥ 2 ^ 63)) = false := by
      rw [decide_eq_false (by omega), decide_eq_false (by omega)] <;> rfl
    have c1 : (its.toArray.isEmpty || k == 1) = true := by
      rcases hne with e | e
      · subst e
        cases r
        rfl
      · rw [e]
        simp
    refine wpAny_binaryOp_repeat_ref (T := "tuple") (U := "int") (by decide) ⟨_, ho, rfl⟩ (fun s' => typeIs_int s' k t) noFill_tuple_mul F.fills_int_mul F.slot_int_rmul repeat_tuple F.slot_int_index.lookup
      (call_meets F.slot_int_rmul (typeIs_int s k t) F.entry_int_rmul (F.args_int_rmul_2 _ _) (int_rmul_tuple k t l its.toArray n dd sl)
        ⟨ho, rfl, ⟨_, ho, rfl⟩, call_meets F.slot_tuple_mul ⟨_, ho, rfl⟩ F.entry_tuple_mul (F.args_tuple_mul_2 _ _) (tuple_mulSame l its.toArray n dd sl k t c0 c1) ⟨ho, ?_⟩⟩)
    exact ⟨.ref l, H, I, rfl, q⟩
  · have hx : xs ≠ [] := fun e => hne (.inl e)
    have hk : k ≠ 1 := fun e => hne (.inr e)
    have q := q2 hx hk
    by_cases h0 : k = 0
    · subst h0
      cases rx
      obtain ⟨t, rfl⟩ := ry
      obtain ⟨its, r, ⟨⟨cls, dd, data, sl⟩, ho, hc, n, hd⟩, hs⟩ := I.tuple hT
      simp only at hc hd
      subst hc hd
      have hi : its.toArray.isEmpty = false := by
        cases r with
        | nil => exact absurd rfl hx
        | cons a b => rfl
      have c1 : (its.toArray.isEmpty || (0 : Int) == 1) = false := by
        rw [hi]
        rfl
      refine wpAny_binaryOp_repeat_ref (T := "tuple") (U := "int") (by decide) ⟨_, ho, rfl⟩ (fun s' => typeIs_int s' 0 t) noFill_tuple_mul F.fills_int_mul F.slot_int_rmul repeat_tuple F.slot_int_index.lookup
        (call_meets F.slot_int_rmul (typeIs_int s 0 t) F.entry_int_rmul (F.args_int_rmul_2 _ _) (int_rmul_tuple 0 t l its.toArray n dd sl)
          ⟨ho, rfl, ⟨_, ho, rfl⟩, call_meets F.slot_tuple_mul ⟨_, ho, rfl⟩ F.entry_tuple_mul (F.args_tuple_mul_2 _ _) (tuple_mulZero l its.toArray n dd sl 0 t (by decide) c1 (by simp)) ⟨ho, ?_⟩⟩)
      refine ⟨.ref s.heap.objs.size, _, I.laid (t' := s.toks) (o := .tup (List.replicate (0 : Int).toNat xs).flatten) (fun b ob q => Heap.get?_push_of_some _ q) (Nat.le_refl _) ?_, rfl, q _ (I.hok.fresh (Nat.le_refl _))⟩
      exact ⟨Nat.zero_le _, [], .nil, IsTup.new _ _⟩
    · exact op_repT pins s σ H _ _ v u Q I rx ry ⟨l, k, xs, rfl, rfl, hT, hx, by omega, h2, hz, q⟩
end
end KW
set_option Elab.async false
set_option linter.all false
set_option maxRecDepth 100000
set_option maxHeartbeats 4000000
/-! _law_things_row. -/
namespace KW
open PySem PySem.Spec PyProof.Rows L2 KM
/-- the law's places: a row of each name, and a flag: some row was too long -/
def PlAt (H : Hp) (P : Addr) (N : List (List Nat)) (env : Envr) (f : Bool) : Prop :=
  ∃ kvs : List (Key × V), H P = some (.dK kvs) ∧ (kvs.length ≤ N.length + 1 ∧ N.length ≤ 900) ∧ valV kvs (Sum.inr (mk [])) = some (.bl f) ∧ ∀ s ∈ N, ∃ (xs : KM.Row) (a : Addr), valV kvs (Sum.inr (mk s)) = some (.ref a) ∧ H a = some (.tup (rowL xs)) ∧ xs.length ≤ 201 ∧ (f = false → env s = some xs)
section
variable {H H' : Hp} {p : Addr} {N : List (List Nat)} {env : Envr} {f g : Bool}
theorem PlAt.nt (h : PlAt H p N env f) : ∀ xs, H p ≠ some (.tup xs) := fun xs e => by
  obtain ⟨kvs, h1, _⟩ := h
  rw [h1] at e
  cases e
theorem PlAt.same (h : PlAt H p N env f) (s : Same H H') : PlAt H' p N env f := by
  obtain ⟨kvs, h1, h2, h3, h4⟩ := h
  refine ⟨kvs, s _ _ h1, h2, h3, fun z hz => ?_⟩
  obtain ⟨xs, a, e1, e2, e3⟩ := h4 z hz
  exact ⟨xs, a, e1, s _ _ e2, e3⟩
theorem PlAt.get (h : PlAt H p N env f) : DGet H p (.str (mk [])) (some (.bl f)) := by
  obtain ⟨kvs, h1, h2, h3, h4⟩ := h
  have g := DGet.k (k := Sum.inr (mk [])) h1
  rw [h3] at g
  exact g
theorem PlAt.put (h : PlAt H p N env f) (hN : ∀ s ∈ N, s ≠ []) (hg : f = true → g = true) : ∃ H', DPut H p (.str (mk [])) (.bl g) H' ∧ But p H H' ∧ PlAt H' p N env g := by
  obtain ⟨kvs, h1, h2, h3, h4⟩ := h
  refine ⟨_, DPut.k (k := Sum.inr (mk [])) h1 (small1000 (by omega)), But.upd _, putK kvs (Sum.inr (mk [])) (.bl g), upd_same, ?_, ?_, fun z hz => ?_⟩
  · unfold putK
    rw [valV_any, h3]
    rw [if_pos (show (some (V.bl f)).isSome = true from rfl), List.length_map]
    exact h2
  · rw [valV_put, if_pos rfl]
  · obtain ⟨xs, a, e1, e2, e3, e4⟩ := h4 z hz
    refine ⟨xs, a, ?_, ?_, e3, fun gf => e4 ?_⟩
    · rw [valV_put, if_neg (fun e => hN z hz (mk_inj (Sum.inr.inj e)))]
      exact e1
    · rw [upd_ne (fun e => by rw [e, h1] at e2; cases e2)]
      exact e2
    · cases f with
      | false => rfl
      | true => rw [hg rfl] at gf; cases gf
end
/-- what the law's rows of a thing are -/
def RowEnd (f g : Bool) (o : Option KM.Row) (xs : KM.Row) : Prop := (f = true → g = true) ∧ (f = false → (g = false → o = some xs) ∧ (g = true → o = none))
def spLR (k : Nat) : Sp := fun vs H Q _ => ∃ (p : Addr) (v : V) (N : List (List Nat)) (env : Envr) (f : Bool) (n : Nat) (t : KM.T), vs = [.ref p, v] ∧ PlAt H p N env f ∧ (∀ s ∈ N, s ≠ []) ∧ EB env ∧ TAt H v t ∧ vOk N n t ∧ pOk t ∧ hgt t ≤ k ∧ wid t ≤ 1000 ∧
  ∀ (H' : Hp) (a : Addr) (xs : KM.Row) (g : Bool), But p H H' → PlAt H' p N env g → H' a = some (.tup (rowL xs)) → xs.length ≤ 201 → RowEnd f g (rowT env t) xs → Q (.ref a) H'
def spLRs (k : Nat) : Sp := fun vs H Q _ => ∃ (p : Addr) (v : V) (N : List (List Nat)) (env : Envr) (f : Bool) (n : Nat) (ts : Ts), vs = [.ref p, v] ∧ PlAt H p N env f ∧ (∀ s ∈ N, s ≠ []) ∧ EB env ∧ TsA H v ts ∧ vOks N n ts ∧ pOks ts ∧ hgts ts ≤ k ∧ ts.len ≤ 1000 ∧ wids ts ≤ 1000 ∧
  ∀ (H' : Hp) (a : Addr) (xs : KM.Row) (g : Bool), But p H H' → PlAt H' p N env g → H' a = some (.tup (rowL xs)) → xs.length ≤ 201 → RowEnd f g (rowTs env ts) xs → Q (.ref a) H'
theorem cut_to (xs : List V) (n : Nat) : cutV xs none (some (n : Int)) = xs.take n := by
  unfold cutV
  rw [HT.sIx_none, HT.sIx_nat]
  show List.take (min n xs.length - 0) (List.drop 0 xs) = _
  rw [List.drop_zero, Nat.sub_zero]
  rcases Nat.le_total n xs.length with h | h
  · rw [Nat.min_eq_left h]
  · rw [Nat.min_eq_right h, List.take_of_length_le (Nat.le_refl _), List.take_of_length_le h]
theorem rowL_take (n : Nat) (xs : KM.Row) : (rowL xs).take n = rowL (xs.take n) := (List.map_take).symm
section
variable {P : Program} {w : World} {K : PySem.W.Frag} {mg : Str → Option Value} {base : Heap} {C CT : Addr}
/-- found[:201] -/
theorem cut201 {H : Hp} {a : Addr} {xs : KM.Row} {Q : VK} (h : H a = some (.tup (rowL xs))) (q : ∀ H' a', Same H H' → H' a' = some (.tup (rowL (xs.take 201))) → Q (.ref a') H') : rSlA K (.ref a) none (some 201) H Q := by
  refine ⟨a, rowL xs, rfl, SqT.of h, fun hw => ?_, fun _ p hp => ?_⟩
  · have h2 := hw.2
    have e : HT.sIx (rowL xs).length (rowL xs).length (some ((201 : Nat) : Int)) = min 201 (rowL xs).length := HT.sIx_nat _ _ 201
    have h3 : min 201 (rowL xs).length = (rowL xs).length := e.symm.trans h2
    rw [rowL_len] at h3
    refine q H a (Same.refl _) ?_
    rw [List.take_of_length_le (by omega)]
    exact h
  · refine q _ p (Same.new hp _) ?_
    rw [upd_same]
    have e := cut_to (rowL xs) 201
    rw [rowL_take] at e
    exact congrArg (fun z => some (HO.tup z)) e
theorem sc_lthings_row : FnScope ["_law_place", "_law_things_here", "_law_found", "_law_thing_here"] ["_law_place", "_law_things_here"] (defScope s_law_things_row) := ⟨rfl, rfl, rfl, by decide +kernel, rfl, by decide +kernel, by decide +kernel⟩
theorem ok_lthings_row {f : Addr} {fd : FuncData} {k : Nat} (F : Fun K "_law_things_row" "_law_things_row" s_law_things_row f fd) (T : TX K mg C) (G : Cal P w K mg base CX0 "_law_thing_row" k ["_law_place", "_law_thing_here"] (spLR k)) : FnOk P w K mg base CX0 (k + 1) f fd ["_law_place", "_law_things_here"] (spLRs (k + 1)) := by
  refine F.ok sc_lthings_row (fun vs H Q E h => ?_) (fun cdv A outer s H vs Q E hr h => ?_)
  · obtain ⟨kn, v, N, env, n, ts, _, rfl, _⟩ := h
    rfl
  obtain ⟨p, v, N, env, f0, n, ts, rfl, hP, hN, hEB, ⟨b, us, rfl, hT, hts⟩, hv, hp, hh, hl, hw, q⟩ := h
  refine ⟨_, pss_cons (ps_set (i := 2) sc_lthings_row.nd rfl (Or.inl rfl) (pe_tup pa_nil))
    (pss_cons (ps_for PassesOwn.never rfl (pi_tup (pv 1)) (pg_name (i := 3) sc_lthings_row.nd rfl (Or.inl rfl))
      (pss_one (ps_set (i := 2) sc_lthings_row.nd rfl (Or.inl rfl) (pe_op op_catA (pv 2) (pe_cal G hr pass0 (pa_cons (pv 0) (pa_cons (pv 3) pa_nil)))))))
    (pss_cons (ps_dput (hu_of hr) (pv 0) pe_str (pe_or (pe_dget (hu_of hr) (pv 0) pe_str (fun _ _ => rfl)) (pe_one (pe_cmpR op_gt (pe_callB call_len_seq (by rfl) T.len PySem.boot_len (pa_cons (pv 2) pa_nil)) pe_int (nomark _)))) (by rfl))
    (pss_one (ps_ret (pe_slice sl_tupA (pv 2) po_none (po_some pe_int)))))), ?_⟩
  refine ⟨Nat.zero_le _, fun t0 ht0 => ?_⟩
  have s0 := Same.new ht0 (.tup [])
  have hlen := TsAt.len ts us hts
  have hll := Ts.len_list ts
  refine ⟨_, rfl, b, rfl, ⟨us, SqT.of (s0 _ _ hT)⟩, for_tup (K := K) (a := b) (xs := us) (fun i σ H' => ∃ (v3 : Option V) (acc : KM.Row) (a : Addr) (g : Bool), σ = [some (.ref p), some (.ref b), some (.ref a), v3] ∧ But p H H' ∧ PlAt H' p N env g ∧ H' a = some (.tup (rowL acc)) ∧ acc.length ≤ 201 * i ∧ (f0 = true → g = true) ∧ (f0 = false → (g = false → catTs env ts = (catTs env (Ts.of (ts.list.drop i))).map fun q => acc ++ q) ∧ (g = true → catTs env ts = none)))
    ⟨none, [], t0, f0, rfl, Same.but s0, hP.same s0, upd_same, Nat.le_refl _, fun e => e, fun e => ⟨fun _ => ?_, fun z => by rw [e] at z; cases z⟩⟩ (fun i σ H' _ ⟨_, _, _, _, _, b1, _⟩ => SqT.of (b1.tk hP.nt _ _ hT)) ?_ ?_⟩
  · rw [List.drop_zero, Ts.of_list]
    cases catTs env ts <;> rfl
  · rintro i x σ H' hx ⟨v3, acc, a, g, rfl, b1, hP1, hA, hal, hg1, hg2⟩
    obtain ⟨t, ht, hu⟩ := TsAt.get ts us hts i x hx
    have hm := List.mem_of_getElem? ht
    have hlt : i < us.length := (List.getElem?_eq_some_iff.mp hx).1
    refine ⟨_, rfl, _, rfl, _, rfl, p, x, N, env, g, n, t, rfl, hP1, hN, hEB, TAt.keep (b1.tk hP.nt) _ _ hu, vOks_mem ts hv t hm, pOks_mem ts hp t hm, by have := hgts_mem ts t hm; omega, Nat.le_trans (wids_mem ts t hm) hw, fun H2 a2 xs2 g2 b2 hP2 ha2 hxl hre => ?_⟩
    have hA2 : H2 a = some (.tup (rowL acc)) := b2.tk hP1.nt _ _ hA
    have fin : ∀ (H3 : Hp) (a3 : Addr), Same H2 H3 → H3 a3 = some (.tup (rowL (acc ++ xs2))) → ∃ (v3 : Option V) (acc : KM.Row) (a : Addr) (g : Bool), [some (V.ref p), some (.ref b), some (.ref a3), some x] = [some (V.ref p), some (.ref b), some (.ref a), v3] ∧ But p H H3 ∧ PlAt H3 p N env g ∧ H3 a = some (.tup (rowL acc)) ∧ acc.length ≤ 201 * (i + 1) ∧ (f0 = true → g = true) ∧ (f0 = false → (g = false → catTs env ts = (catTs env (Ts.of (ts.list.drop (i + 1)))).map fun q => acc ++ q) ∧ (g = true → catTs env ts = none)) := by
      intro H3 a3 s3 h3
      refine ⟨some x, acc ++ xs2, a3, g2, rfl, (b1.trans b2).trans (Same.but s3), hP2.same s3, h3, by rw [List.length_append]; omega, fun e => hre.1 (hg1 e), fun e => ?_⟩
      obtain ⟨k1, k2⟩ := hg2 e
      have hd := drop_of ht
      cases g with
      | true =>
        have g2t := hre.1 rfl
        rw [g2t]
        exact ⟨fun z => (by cases z), fun _ => k2 rfl⟩
      | false =>
        obtain ⟨r1, r2⟩ := hre.2 rfl
        have kk := k1 rfl
        rw [hd, catTs_of] at kk
        refine ⟨fun z => ?_, fun z => ?_⟩
        · rw [kk, r1 z]
          simp only [Option.bind_some, Option.map_map]
          congr 1
          funext q
          simp
        · rw [kk, r2 z]
          rfl
    refine ⟨a, a2, _, _, rfl, rfl, SqT.of hA2, SqT.of ha2, by rw [rowL_len, rowL_len]; exact line_ge (by omega), fun e => ?_, fun _ e => ?_, fun _ _ p3 hp3 => ?_⟩
    · have e2 : acc = [] := List.map_eq_nil_iff.mp e
      exact fin _ a2 (Same.refl _) (by rw [e2]; exact ha2)
    · have e2 : xs2 = [] := List.map_eq_nil_iff.mp e
      exact fin _ a (Same.refl _) (by rw [e2, List.append_nil]; exact hA2)
    · exact fin _ p3 (Same.new hp3 _) (by rw [upd_same, rowL_app])
  · rintro σ H' ⟨v3, acc, a, g, rfl, b1, hP1, hA, hal, hg1, hg2⟩
    rw [hlen, ← hll, List.drop_length] at hg2
    -- the tail
    have tl : ∀ h : Bool, h = (g || decide (200 < acc.length)) → ∃ H2, DPut H' p (.str (Str.ofString "")) (.bl h) H2 ∧ rSlA K (.ref a) none (some 201) H2 Q := by
      intro h eh
      obtain ⟨H2, hp1, b2, hP2⟩ := hP1.put (g := h) hN (fun e => by rw [eh, e]; rfl)
      refine ⟨H2, by rw [empty_is]; exact hp1, cut201 (b2.tk hP1.nt _ _ hA) fun H3 a3 s3 h3 => ?_⟩
      refine q H3 a3 _ h ((b1.trans b2).trans (Same.but s3)) (hP2.same s3) h3 (by rw [List.length_take]; omega) ⟨fun e => ?_, fun e => ?_⟩
      · rw [eh, hg1 e]
        rfl
      · obtain ⟨k1, k2⟩ := hg2 e
        unfold rowTs
        cases g with
        | true =>
          rw [k2 rfl]
          rw [Bool.true_or] at eh
          rw [eh]
          exact ⟨fun z => (by cases z), fun _ => rfl⟩
        | false =>
          have kk : catTs env ts = some acc := by
            rw [k1 rfl]
            simp [Ts.of, catTs]
          rw [kk]
          rw [Bool.false_or] at eh
          show (h = false → shortO acc = _) ∧ (h = true → shortO acc = none)
          unfold shortO
          refine ⟨fun z => ?_, fun z => ?_⟩
          · rw [z] at eh
            have := of_decide_eq_false eh.symm
            rw [if_pos (by omega), List.take_of_length_le (by omega)]
          · rw [z] at eh
            have := of_decide_eq_true eh.symm
            rw [if_neg (by omega)]
    refine ⟨_, rfl, p, .bl g, rfl, by rw [empty_is]; exact hP1.get, g, rfl, ?_⟩
    cases g with
    | true =>
      obtain ⟨H2, d1, d2⟩ := tl true rfl
      exact iteT ⟨_, rfl, p, H2, rfl, d1, _, rfl, _, rfl, d2⟩
    | false =>
      obtain ⟨H2, d1, d2⟩ := tl _ rfl
      refine iteF ⟨_, rfl, a, _, rfl, .inr (SqT.of hA), _, _, rfl, rfl, _, rfl, p, H2, rfl, ?_, _, rfl, _, rfl, d2⟩
      show DPut H' p _ (.bl (decide ((200 : Int) < (((rowL acc).length : Nat) : Int)))) H2
      rw [rowL_len]
      rw [show decide ((200 : Int) < ((acc.length : Nat) : Int)) = (false || decide (200 < acc.length)) from by rw [Bool.false_or]; exact decide_eq_decide.mpr (by omega)]
      exact d1
end
end KW
set_option Elab.async false
set_option linter.all false
set_option maxRecDepth 100000
set_option maxHeartbeats 4000000
/-! _law_thing_row; both by induction. -/
namespace KW
open PySem PySem.Spec PyProof.Rows L2 KM
section
variable {P : Program} {w : World} {K : PySem.W.Frag} {mg : Str → Option Value} {base : Heap} {C CT : Addr}
theorem sc_lthing_row : FnScope ["_law_place", "_law_thing_here", "_law_found", "_law_one", "_law_other"] ["_law_place", "_law_thing_here"] (defScope s_law_thing_row) := ⟨rfl, rfl, rfl, by decide +kernel, rfl, by decide +kernel, by decide +kernel⟩
theorem op_catX {H : Hp} {a b : Addr} {xs ys : KM.Row} {Q : VK} (ha : H a = some (.tup (rowL xs))) (hb : H b = some (.tup (rowL ys))) (hl : xs.length + ys.length ≤ 16000000) (q : ∀ H' c, Same H H' → H' c = some (.tup (rowL (xs ++ ys))) → Q (.ref c) H') : rCatA K (.ref a) (.ref b) H Q := by
  refine ⟨a, b, _, _, rfl, rfl, SqT.of ha, SqT.of hb, by rw [rowL_len, rowL_len]; exact line_ge (by omega), fun e => ?_, fun _ e => ?_, fun _ _ p3 hp3 => ?_⟩
  · have e2 : xs = [] := List.map_eq_nil_iff.mp e
    exact q _ b (Same.refl _) (by rw [e2]; exact hb)
  · have e2 : ys = [] := List.map_eq_nil_iff.mp e
    exact q _ a (Same.refl _) (by rw [e2, List.append_nil]; exact ha)
  · exact q _ p3 (Same.new hp3 _) (by rw [upd_same, rowL_app])
theorem ok_lthing_row {f : Addr} {fd : FuncData} {k : Nat} (F : Fun K "_law_thing_row" "_law_thing_row" s_law_thing_row f fd) (T : TX K mg C) (G : Cal P w K mg base CX0 "_law_thing_row" k ["_law_place", "_law_thing_here"] (spLR k)) (Gs : Cal P w K mg base CX0 "_law_things_row" k ["_law_place", "_law_things_here"] (spLRs k)) :
    FnOk P w K mg base CX0 (k + 1) f fd ["_law_place", "_law_thing_here"] (spLR (k + 1)) := by
  refine F.ok sc_lthing_row (fun vs H Q E h => ?_) (fun cdv A outer s H vs Q E hr h => ?_)
  · obtain ⟨kn, v, N, env, n, t, _, rfl, _⟩ := h
    rfl
  obtain ⟨p, v, N, env, f0, n, t, rfl, hP, hN, hEB, hT, hv, hp, hh, hw, q⟩ := h
  refine ⟨_, pss_cons (ps_if (pt_cmpR op_eq (pe_ix ix_tup (pv 1) pe_int (fun _ _ => rfl)) pe_str (nomark _)) (pss_one (ps_ret (pe_dget (hu_of hr) (pv 0) (pe_ix ix_tup (pv 1) pe_int (fun _ _ => rfl)) (fun _ _ => rfl)))) pss_nil)
    (pss_cons (ps_if (pt_cmpR op_eq (pe_ix ix_tup (pv 1) pe_int (fun _ _ => rfl)) pe_str (nomark _)) (pss_one (ps_ret (pe_tup (pa_cons (pe_ix ix_tup (pv 1) pe_int (fun _ _ => rfl)) pa_nil)))) pss_nil)
    (pss_cons (ps_if (pt_cmpR op_eq (pe_ix ix_tup (pv 1) pe_int (fun _ _ => rfl)) pe_str (nomark _)) (pss_one (ps_ret (pe_revT (pe_cal G hr pass0 (pa_cons (pv 0) (pa_cons (pe_ix ix_tup (pv 1) pe_int (fun _ _ => rfl)) pa_nil)))))) pss_nil)
    (pss_cons (ps_if (pt_cmpR op_eq (pe_ix ix_tup (pv 1) pe_int (fun _ _ => rfl)) pe_str (nomark _))
        (pss_one (ps_set (i := 2) sc_lthing_row.nd rfl (Or.inl rfl) (pe_op op_repA (pe_cal G hr pass0 (pa_cons (pv 0) (pa_cons (pe_ix ix_tup (pv 1) pe_int (fun _ _ => rfl)) pa_nil))) (pe_ix ix_tup (pv 1) pe_int (fun _ _ => rfl)))))
        (pss_one (ps_if (pt_cmpR op_eq (pe_ix ix_tup (pv 1) pe_int (fun _ _ => rfl)) pe_str (nomark _))
          (pss_one (ps_set (i := 2) sc_lthing_row.nd rfl (Or.inl rfl) (pe_cal Gs hr pass0 (pa_cons (pv 0) (pa_cons (pe_ix ix_tup (pv 1) pe_int (fun _ _ => rfl)) pa_nil)))))
          (pss_cons (ps_par (i := 3) (j := 4) rfl sc_lthing_row.nd rfl rfl (by decide) rfl rfl (pa_cons (pe_cal Gs hr pass0 (pa_cons (pv 0) (pa_cons (pe_ix ix_tup (pv 1) pe_int (fun _ _ => rfl)) pa_nil))) (pa_cons (pe_cal Gs hr pass0 (pa_cons (pv 0) (pa_cons (pe_ix ix_tup (pv 1) pe_int (fun _ _ => rfl)) pa_nil))) pa_nil)) (by rfl))
          (pss_one (ps_set (i := 2) sc_lthing_row.nd rfl (Or.inl rfl) (pe_op op_catA (pe_op op_catA (pe_op op_catA (pv 3) (pv 4)) (pe_revT (pv 3))) (pe_revT (pv 4)))))))))
    (pss_cons (ps_dput (hu_of hr) (pv 0) pe_str (pe_or (pe_dget (hu_of hr) (pv 0) pe_str (fun _ _ => rfl)) (pe_one (pe_cmpR op_gt (pe_callB call_len_seq (by rfl) T.len PySem.boot_len (pa_cons (pv 2) pa_nil)) pe_int (nomark _)))) (by rfl))
    (pss_one (ps_ret (pe_slice sl_tupA (pv 2) po_none (po_some pe_int)))))))), ?_⟩
  -- the tail
  have tl : ∀ (H1 : Hp) (a : Addr) (xs : KM.Row) (g : Bool), But p H H1 → PlAt H1 p N env g → H1 a = some (.tup (rowL xs)) → (f0 = true → g = true) → (f0 = false → (g = false → rowT env t = shortO xs) ∧ (g = true → rowT env t = none)) →
      ∀ h : Bool, h = (g || decide (200 < xs.length)) → ∃ H2, DPut H1 p (.str (Str.ofString "")) (.bl h) H2 ∧ rSlA K (.ref a) none (some 201) H2 Q := by
    intro H1 a xs g b1 hP1 hA hg1 hg2 h eh
    obtain ⟨H2, hp1, b2, hP2⟩ := hP1.put (g := h) hN (fun e => by rw [eh, e]; rfl)
    refine ⟨H2, by rw [empty_is]; exact hp1, cut201 (b2.tk hP1.nt _ _ hA) fun H3 a3 s3 h3 => ?_⟩
    refine q H3 a3 _ h ((b1.trans b2).trans (Same.but s3)) (hP2.same s3) h3 (by rw [List.length_take]; omega) ⟨fun e => ?_, fun e => ?_⟩
    · rw [eh, hg1 e]
      rfl
    · obtain ⟨k1, k2⟩ := hg2 e
      cases g with
      | true =>
        rw [k2 rfl]
        rw [Bool.true_or] at eh
        rw [eh]
        exact ⟨fun z => (by cases z), fun _ => rfl⟩
      | false =>
        rw [k1 rfl]
        rw [Bool.false_or] at eh
        unfold shortO
        refine ⟨fun z => ?_, fun z => ?_⟩
        · rw [z] at eh
          have := of_decide_eq_false eh.symm
          rw [if_pos (by omega), List.take_of_length_le (by omega)]
        · rw [z] at eh
          have := of_decide_eq_true eh.symm
          rw [if_neg (by omega)]
  cases t with
  | name s =>
    simp only [TAt] at hT
    simp only [vOk] at hv
    obtain ⟨a, rfl, ha⟩ := hT
    refine ⟨_, rfl, a, _, _, _, rfl, rfl, SqT.of ha, at_get (a := 0) rfl, rfl, _, rfl, ?_⟩
    rw [e_name_name]
    obtain ⟨kvs, h1, h2, h3, h4⟩ := id hP
    obtain ⟨xs, l, e1, e2, e3, e4⟩ := h4 s hv
    refine iteT ⟨_, rfl, _, rfl, a, _, _, _, rfl, rfl, SqT.of ha, at_get (a := 1) rfl, p, .ref l, rfl, ?_, q H l xs f0 (But.refl _ _) hP e2 e3 ⟨fun e => e, fun e => ⟨fun _ => ?_, fun z => ?_⟩⟩⟩
    · have g := DGet.k (k := Sum.inr (mk s)) h1
      rw [e1] at g
      exact g
    · simp only [rowT]
      exact e4 e
    · rw [e] at z
      cases z
  | node i =>
    simp only [TAt] at hT
    obtain ⟨a, rfl, ha⟩ := hT
    refine ⟨_, rfl, a, _, _, _, rfl, rfl, SqT.of ha, at_get (a := 0) rfl, rfl, _, rfl, ?_⟩
    rw [e_node_name]
    refine iteF ⟨_, rfl, a, _, _, _, rfl, rfl, SqT.of ha, at_get (a := 0) rfl, rfl, _, rfl, ?_⟩
    rw [e_node_node]
    refine iteT ⟨_, rfl, a, _, _, _, rfl, rfl, SqT.of ha, at_get (a := 1) rfl, line_ge (by show 1 ≤ 16777216; decide), fun p2 hp2 => ?_⟩
    have s2 := Same.new hp2 (.tup [V.int (i : Int)])
    refine q _ p2 [(i : Int)] f0 (Same.but s2) (hP.same s2) upd_same (by show 1 ≤ 201; decide) ⟨fun e => e, fun e => ⟨fun _ => by simp only [rowT], fun z => ?_⟩⟩
    rw [e] at z
    cases z
  | back t =>
    simp only [TAt] at hT
    simp only [vOk] at hv
    simp only [pOk] at hp
    simp only [hgt] at hh
    simp only [wid] at hw
    obtain ⟨a, u, rfl, ha, hu⟩ := hT
    refine ⟨_, rfl, a, _, _, _, rfl, rfl, SqT.of ha, at_get (a := 0) rfl, rfl, _, rfl, ?_⟩
    rw [e_back_name]
    refine iteF ⟨_, rfl, a, _, _, _, rfl, rfl, SqT.of ha, at_get (a := 0) rfl, rfl, _, rfl, ?_⟩
    rw [e_back_node]
    refine iteF ⟨_, rfl, a, _, _, _, rfl, rfl, SqT.of ha, at_get (a := 0) rfl, rfl, _, rfl, ?_⟩
    rw [e_back_back]
    refine iteT ⟨_, rfl, _, rfl, a, _, _, _, rfl, rfl, SqT.of ha, at_get (a := 1) rfl, p, u, N, env, f0, n, t, rfl, hP, hN, hEB, hu, hv, hp, by omega, hw, fun H2 l xs g b2 hP2 hl hxl hre => ?_⟩
    refine ⟨l, _, rfl, SqT.of hl, fun p2 hp2 => ?_⟩
    have s2 := Same.new hp2 (.tup (rowL xs).reverse)
    refine q _ p2 xs.reverse g (b2.trans (Same.but s2)) (hP2.same s2) (by rw [upd_same, rowL_rev]) (by rw [List.length_reverse]; exact hxl) ⟨hre.1, fun e => ?_⟩
    obtain ⟨k1, k2⟩ := hre.2 e
    simp only [rowT]
    exact ⟨fun z => by rw [k1 z]; rfl, fun z => by rw [k2 z]; rfl⟩
  | times t j =>
    simp only [TAt] at hT
    simp only [vOk] at hv
    simp only [pOk] at hp
    simp only [hgt] at hh
    simp only [wid] at hw
    obtain ⟨a, u, rfl, ha, hu⟩ := hT
    refine ⟨_, rfl, a, _, _, _, rfl, rfl, SqT.of ha, at_get (a := 0) rfl, rfl, _, rfl, ?_⟩
    rw [e_times_name]
    refine iteF ⟨_, rfl, a, _, _, _, rfl, rfl, SqT.of ha, at_get (a := 0) rfl, rfl, _, rfl, ?_⟩
    rw [e_times_node]
    refine iteF ⟨_, rfl, a, _, _, _, rfl, rfl, SqT.of ha, at_get (a := 0) rfl, rfl, _, rfl, ?_⟩
    rw [e_times_back]
    refine iteF ?_
    dsimp only [tNext]
    refine jnI (fun σ' H1 => ∃ (b9 : Addr) (xs : KM.Row) (g : Bool) (v3 v4 : Option V), σ' = [some (.ref p), some (.ref a), some (.ref b9), v3, v4] ∧ But p H H1 ∧ PlAt H1 p N env g ∧ H1 b9 = some (.tup (rowL xs)) ∧ (f0 = true → g = true) ∧ (f0 = false → (g = false → rowT env (.times t j) = shortO xs) ∧ (g = true → rowT env (.times t j) = none))) ?_ fun fin => ?_
    · rintro σ' H1 ⟨b9, xs, g, v3, v4, rfl, b1, hP1, hA, hg1, hg2⟩
      refine ⟨_, rfl, p, .bl g, rfl, by rw [empty_is]; exact hP1.get, g, rfl, ?_⟩
      cases g with
      | true =>
        obtain ⟨H2, d1, d2⟩ := tl H1 b9 xs true b1 hP1 hA hg1 hg2 true rfl
        exact iteT ⟨_, rfl, p, H2, rfl, d1, _, rfl, _, rfl, d2⟩
      | false =>
        obtain ⟨H2, d1, d2⟩ := tl H1 b9 xs false b1 hP1 hA hg1 hg2 _ rfl
        refine iteF ⟨_, rfl, b9, _, rfl, .inr (SqT.of hA), _, _, rfl, rfl, _, rfl, p, H2, rfl, ?_, _, rfl, _, rfl, d2⟩
        show DPut H1 p _ (.bl (decide ((200 : Int) < (((rowL xs).length : Nat) : Int)))) H2
        rw [rowL_len]
        rw [show decide ((200 : Int) < ((xs.length : Nat) : Int)) = (false || decide (200 < xs.length)) from by rw [Bool.false_or]; exact decide_eq_decide.mpr (by omega)]
        exact d1
    refine ⟨_, rfl, a, _, _, _, rfl, rfl, SqT.of ha, at_get (a := 0) rfl, rfl, _, rfl, ?_⟩
    rw [e_times_times]
    refine iteT ⟨_, rfl, _, rfl, a, _, _, _, rfl, rfl, SqT.of ha, at_get (a := 1) rfl, p, u, N, env, f0, n, t, rfl, hP, hN, hEB, hu, hv, hp.1, by omega, hw, fun H2 l xs g b2 hP2 hl hxl hre => ?_⟩
    have hj := hp.2
    have ej : ((j : Nat) : Int).toNat = j := Int.toNat_natCast j
    have last : ∀ (H3 : Hp) (l3 : Addr), Same H2 H3 → H3 l3 = some (.tup (rowL (repR j xs))) → ∃ (b9 : Addr) (xs : KM.Row) (g : Bool) (v3 v4 : Option V), [some (V.ref p), some (.ref a), some (.ref l3), none, none] = [some (V.ref p), some (.ref a), some (.ref b9), v3, v4] ∧ But p H H3 ∧ PlAt H3 p N env g ∧ H3 b9 = some (.tup (rowL xs)) ∧ (f0 = true → g = true) ∧ (f0 = false → (g = false → rowT env (.times t j) = shortO xs) ∧ (g = true → rowT env (.times t j) = none)) := by
      intro H3 l3 s3 h3
      refine ⟨l3, repR j xs, g, none, none, rfl, b2.trans (Same.but s3), hP2.same s3, h3, hre.1, fun e => ?_⟩
      obtain ⟨k1, k2⟩ := hre.2 e
      simp only [rowT]
      exact ⟨fun z => by rw [k1 z]; rfl, fun z => by rw [k2 z]; rfl⟩
    refine ⟨_, rfl, a, _, _, _, rfl, rfl, SqT.of (b2.tk hP.nt _ _ ha), at_get (a := 2) rfl, l, (j : Int), _, rfl, rfl, SqT.of hl, by omega, by omega, by rw [rowL_len]; omega, fun e => fin _ _ (last H2 l (Same.refl _) ?_), fun e1 e2 p3 hp3 => fin _ _ (last _ p3 (Same.new hp3 _) ?_)⟩
    · rcases e with e | e
      · have e2 : xs = [] := List.map_eq_nil_iff.mp e
        rw [hl, e2]
        unfold repR
        simp
      · have e2 : j = 1 := by omega
        rw [hl, e2]
        unfold repR
        simp
    · rw [upd_same, ej, rowL_rep]
  | row ts =>
    simp only [TAt] at hT
    simp only [vOk] at hv
    simp only [pOk] at hp
    simp only [hgt] at hh
    simp only [wid] at hw
    obtain ⟨a, b, us, rfl, ha, hb, hu⟩ := hT
    refine ⟨_, rfl, a, _, _, _, rfl, rfl, SqT.of ha, at_get (a := 0) rfl, rfl, _, rfl, ?_⟩
    rw [e_row_name]
    refine iteF ⟨_, rfl, a, _, _, _, rfl, rfl, SqT.of ha, at_get (a := 0) rfl, rfl, _, rfl, ?_⟩
    rw [e_row_node]
    refine iteF ⟨_, rfl, a, _, _, _, rfl, rfl, SqT.of ha, at_get (a := 0) rfl, rfl, _, rfl, ?_⟩
    rw [e_row_back]
    refine iteF ?_
    dsimp only [tNext]
    refine jnI (fun σ' H1 => ∃ (b9 : Addr) (xs : KM.Row) (g : Bool) (v3 v4 : Option V), σ' = [some (.ref p), some (.ref a), some (.ref b9), v3, v4] ∧ But p H H1 ∧ PlAt H1 p N env g ∧ H1 b9 = some (.tup (rowL xs)) ∧ (f0 = true → g = true) ∧ (f0 = false → (g = false → rowT env (.row ts) = shortO xs) ∧ (g = true → rowT env (.row ts) = none))) ?_ fun fin => ?_
    · rintro σ' H1 ⟨b9, xs, g, v3, v4, rfl, b1, hP1, hA, hg1, hg2⟩
      refine ⟨_, rfl, p, .bl g, rfl, by rw [empty_is]; exact hP1.get, g, rfl, ?_⟩
      cases g with
      | true =>
        obtain ⟨H2, d1, d2⟩ := tl H1 b9 xs true b1 hP1 hA hg1 hg2 true rfl
        exact iteT ⟨_, rfl, p, H2, rfl, d1, _, rfl, _, rfl, d2⟩
      | false =>
        obtain ⟨H2, d1, d2⟩ := tl H1 b9 xs false b1 hP1 hA hg1 hg2 _ rfl
        refine iteF ⟨_, rfl, b9, _, rfl, .inr (SqT.of hA), _, _, rfl, rfl, _, rfl, p, H2, rfl, ?_, _, rfl, _, rfl, d2⟩
        show DPut H1 p _ (.bl (decide ((200 : Int) < (((rowL xs).length : Nat) : Int)))) H2
        rw [rowL_len]
        rw [show decide ((200 : Int) < ((xs.length : Nat) : Int)) = (false || decide (200 < xs.length)) from by rw [Bool.false_or]; exact decide_eq_decide.mpr (by omega)]
        exact d1
    refine ⟨_, rfl, a, _, _, _, rfl, rfl, SqT.of ha, at_get (a := 0) rfl, rfl, _, rfl, ?_⟩
    rw [e_row_times]
    refine iteF ⟨_, rfl, a, _, _, _, rfl, rfl, SqT.of ha, at_get (a := 0) rfl, rfl, _, rfl, ?_⟩
    rw [e_row_row]
    refine iteT ⟨_, rfl, _, rfl, a, _, _, _, rfl, rfl, SqT.of ha, at_get (a := 1) rfl, p, .ref b, N, env, f0, n, ts, rfl, hP, hN, hEB, ⟨b, us, rfl, hb, hu⟩, hv, hp.2, by omega, by omega, by omega, fun H2 l xs g b2 hP2 hl hxl hre => ?_⟩
    refine fin _ _ ⟨l, xs, g, none, none, rfl, b2, hP2, hl, hre.1, fun e => ?_⟩
    obtain ⟨k1, k2⟩ := hre.2 e
    have e9 : rowT env (.row ts) = rowTs env ts := by
      simp only [rowT]
      rfl
    rw [e9]
    refine ⟨fun z => ?_, k2⟩
    have e8 := k1 z
    rw [e8]
    have := rowTs_le e8
    unfold shortO
    rw [if_pos this]
  | round x y =>
    simp only [TAt] at hT
    simp only [vOk] at hv
    simp only [pOk] at hp
    simp only [hgt] at hh
    simp only [wid] at hw
    obtain ⟨a, b, c, us, ws, rfl, ha, ⟨hb, hu⟩, hc, hu2⟩ := hT
    refine ⟨_, rfl, a, _, _, _, rfl, rfl, SqT.of ha, at_get (a := 0) rfl, rfl, _, rfl, ?_⟩
    rw [e_round_name]
    refine iteF ⟨_, rfl, a, _, _, _, rfl, rfl, SqT.of ha, at_get (a := 0) rfl, rfl, _, rfl, ?_⟩
    rw [e_round_node]
    refine iteF ⟨_, rfl, a, _, _, _, rfl, rfl, SqT.of ha, at_get (a := 0) rfl, rfl, _, rfl, ?_⟩
    rw [e_round_back]
    refine iteF ?_
    dsimp only [tNext]
    refine jnI (fun σ' H1 => ∃ (b9 : Addr) (xs : KM.Row) (g : Bool) (v3 v4 : Option V), σ' = [some (.ref p), some (.ref a), some (.ref b9), v3, v4] ∧ But p H H1 ∧ PlAt H1 p N env g ∧ H1 b9 = some (.tup (rowL xs)) ∧ (f0 = true → g = true) ∧ (f0 = false → (g = false → rowT env (.round x y) = shortO xs) ∧ (g = true → rowT env (.round x y) = none))) ?_ fun fin => ?_
    · rintro σ' H1 ⟨b9, xs, g, v3, v4, rfl, b1, hP1, hA, hg1, hg2⟩
      refine ⟨_, rfl, p, .bl g, rfl, by rw [empty_is]; exact hP1.get, g, rfl, ?_⟩
      cases g with
      | true =>
        obtain ⟨H2, d1, d2⟩ := tl H1 b9 xs true b1 hP1 hA hg1 hg2 true rfl
        exact iteT ⟨_, rfl, p, H2, rfl, d1, _, rfl, _, rfl, d2⟩
      | false =>
        obtain ⟨H2, d1, d2⟩ := tl H1 b9 xs false b1 hP1 hA hg1 hg2 _ rfl
        refine iteF ⟨_, rfl, b9, _, rfl, .inr (SqT.of hA), _, _, rfl, rfl, _, rfl, p, H2, rfl, ?_, _, rfl, _, rfl, d2⟩
        show DPut H1 p _ (.bl (decide ((200 : Int) < (((rowL xs).length : Nat) : Int)))) H2
        rw [rowL_len]
        rw [show decide ((200 : Int) < ((xs.length : Nat) : Int)) = (false || decide (200 < xs.length)) from by rw [Bool.false_or]; exact decide_eq_decide.mpr (by omega)]
        exact d1
    refine ⟨_, rfl, a, _, _, _, rfl, rfl, SqT.of ha, at_get (a := 0) rfl, rfl, _, rfl, ?_⟩
    rw [e_round_times]
    refine iteF ⟨_, rfl, a, _, _, _, rfl, rfl, SqT.of ha, at_get (a := 0) rfl, rfl, _, rfl, ?_⟩
    rw [e_round_row]
    refine iteF ⟨_, rfl, _, rfl, a, _, _, _, rfl, rfl, SqT.of ha, at_get (a := 1) rfl, p, .ref b, N, env, f0, n, x, rfl, hP, hN, hEB, ⟨b, us, rfl, hb, hu⟩, hv.1, hp.2.2.1, by omega, by omega, by omega, fun H2 l xs g b2 hP2 hl hxl hre => ?_⟩
    have tk2 := b2.tk hP.nt
    refine ⟨_, rfl, _, rfl, a, _, _, _, rfl, rfl, SqT.of (tk2 _ _ ha), at_get (a := 2) rfl, p, .ref c, N, env, g, n, y, rfl, hP2, hN, hEB, ⟨c, ws, rfl, tk2 _ _ hc, TsAt.keep tk2 _ _ hu2⟩, hv.2, hp.2.2.2, by omega, by omega, by omega, fun H3 l2 ys g2 b3 hP3 hl2 hyl hre2 => ?_⟩
    have tk3 := b3.tk hP2.nt
    have hl3 := tk3 _ _ hl
    refine ⟨_, _, rfl, _, rfl, _, rfl, op_catX hl3 hl2 (by omega) fun H4 c4 s4 h4 => ?_⟩
    refine ⟨_, rfl, l, _, rfl, SqT.of (s4 _ _ hl3), fun p5 hp5 => ?_⟩
    have s5 := Same.new hp5 (.tup (rowL xs).reverse)
    refine op_catX (xs := xs ++ ys) (ys := xs.reverse) (s5 _ _ h4) (by rw [upd_same, rowL_rev]) (by rw [List.length_append, List.length_reverse]; omega) fun H6 c6 s6 h6 => ?_
    refine ⟨_, rfl, l2, _, rfl, SqT.of (s6 _ _ (s5 _ _ (s4 _ _ hl2))), fun p7 hp7 => ?_⟩
    have s7 := Same.new hp7 (.tup (rowL ys).reverse)
    refine op_catX (xs := xs ++ ys ++ xs.reverse) (ys := ys.reverse) (s7 _ _ h6) (by rw [upd_same, rowL_rev]) (by rw [List.length_append, List.length_append, List.length_reverse, List.length_reverse]; omega) fun H8 c8 s8 h8 => ?_
    have sall : Same H3 H8 := s4.trans (s5.trans (s6.trans (s7.trans s8)))
    refine fin _ _ ⟨c8, xs ++ ys ++ xs.reverse ++ ys.reverse, g2, some (.ref l), some (.ref l2), rfl, (b2.trans b3).trans (Same.but sall), hP3.same sall, h8, fun e => hre2.1 (hre.1 e), fun e => ?_⟩
    obtain ⟨k1, k2⟩ := hre.2 e
    have e9 : rowT env (.round x y) = (rowTs env x).bind fun z => (rowTs env y).bind fun z2 => shortO (z ++ z2 ++ z.reverse ++ z2.reverse) := by
      simp only [rowT]
      rfl
    rw [e9]
    cases g with
    | true =>
      rw [hre2.1 rfl, k2 rfl]
      exact ⟨fun z => (by cases z), fun _ => rfl⟩
    | false =>
      obtain ⟨m1, m2⟩ := hre2.2 rfl
      rw [k1 rfl]
      refine ⟨fun z => ?_, fun z => ?_⟩
      · rw [m1 z]
        rfl
      · rw [m2 z]
        rfl
theorem lrow_all {f1 f2 : Addr} {d1 d2 : FuncData} (T : TX K mg C) (F1 : Fun K "_law_thing_row" "_law_thing_row" s_law_thing_row f1 d1) (m1 : mg "_law_thing_row" = some (.ref f1)) (b1 : Binds K d1 ["_law_place", "_law_thing_here"] [])
    (F2 : Fun K "_law_things_row" "_law_things_row" s_law_things_row f2 d2) (m2 : mg "_law_things_row" = some (.ref f2)) (b2 : Binds K d2 ["_law_place", "_law_things_here"] []) :
    ∀ k : Nat, Cal P w K mg base CX0 "_law_thing_row" k ["_law_place", "_law_thing_here"] (spLR k) ∧ Cal P w K mg base CX0 "_law_things_row" k ["_law_place", "_law_things_here"] (spLRs k)
  | 0 => ⟨⟨f1, d1, fn_none fun vs H Q E h => by
      obtain ⟨kn, v, N, env, f, n, t, _, _, _, _, _, _, _, hh, _⟩ := h
      have := hgt_pos t
      omega, m1, F1.kp, b1⟩, ⟨f2, d2, fn_none fun vs H Q E h => by
      obtain ⟨kn, v, N, env, f, n, t, _, _, _, _, _, _, _, hh, _⟩ := h
      have := hgts_pos t
      omega, m2, F2.kp, b2⟩⟩
  | k + 1 => by
    obtain ⟨i1, i2⟩ := lrow_all T F1 m1 b1 F2 m2 b2 k
    exact ⟨⟨f1, d1, ok_lthing_row F1 T i1 i2, m1, F1.kp, b1⟩, ⟨f2, d2, ok_lthings_row F2 T i1, m2, F2.kp, b2⟩⟩
end
end KW
set_option Elab.async false
set_option linter.all false
set_option maxRecDepth 100000
set_option maxHeartbeats 4000000
/-! _law_alike, on equal rows. -/
namespace KW
open PySem PySem.Spec PyProof.Rows L2 KM
def spAlikeI : Sp := fun vs H Q _ => ∃ i : Int, vs = [.int i, .int i] ∧ ∀ H', Same H H' → Q (.bl true) H'
def spAlikeR : Sp := fun vs H Q _ => ∃ (a b : Addr) (r : KM.Row), vs = [.ref a, .ref b] ∧ H a = some (.tup (rowL r)) ∧ H b = some (.tup (rowL r)) ∧ r.length ≤ 1000 ∧ ∀ H', Same H H' → Q (.bl true) H'
def spAlike (lv : Bool) : Sp := fun vs H Q E => spAlikeI vs H Q E ∨ (lv = true ∧ spAlikeR vs H Q E)
section
variable {P : Program} {w : World} {K : PySem.W.Frag} {mg : Str → Option Value} {base : Heap} {C CT : Addr}
theorem kit_int2 : PySem.W.kitAny K (.type "int") [.type "tuple", .type "list"] = some false := kitAny_cons (b := false) (kit_ty (by decide +kernel)) (fun _ => kitAny_cons (b := false) (kit_ty (by decide +kernel)) (fun _ => kitAny_nil) (fun z => by cases z)) (fun z => by cases z)
theorem kit_tup2 : PySem.W.kitAny K (.type "tuple") [.type "tuple", .type "list"] = some true := kitAny_cons (b := true) (kit_ty (by decide +kernel)) (fun z => by cases z) (fun _ => rfl)
theorem sc_alike : FnScope ["_law_found", "_law_due", "_law_k", "_law_key"] ["_law_found", "_law_due"] (defScope s_law_alike) := ⟨rfl, rfl, rfl, by decide +kernel, rfl, by decide +kernel, by decide +kernel⟩
theorem ok_alike {f : Addr} {fd : FuncData} {k : Nat} {sp : Sp} {lv : Bool} (hsp : lv = true → ∀ (i : Int) H Q E, (∀ H', Same H H' → Q (.bl true) H') → sp [.int i, .int i] H Q E) (F : Fun K "_law_alike" "_law_alike" s_law_alike f fd) (T : TX K mg C) (G : Cal P w K mg base CX0 "_law_alike" k ["_law_found", "_law_due"] sp) :
    FnOk P w K mg base CX0 (k + 1) f fd ["_law_found", "_law_due"] (spAlike lv) := by
  refine F.ok sc_alike (fun vs H Q E h => ?_) (fun cdv A outer s H vs Q E hr h => ?_)
  · rcases h with ⟨i, rfl, _⟩ | ⟨_, a, b, r, rfl, _⟩ <;> rfl
  refine ⟨_, pss_cons (ps_if (pt_val (pe_callB call_isiT (by rfl) T.isi (by decide +kernel) (pa_cons (pv 1) (pa_cons (pe_tup (pa_cons (pe_bltn (v := .ty "tuple") rfl T.tuple (by decide +kernel) rfl) (pa_cons (pe_bltn (v := .ty "list") rfl T.list (by decide +kernel) rfl) pa_nil))) pa_nil))))
      (pss_cons (ps_if (PW.pt (pw_or (pt_not (pt_val (pe_callB call_isiT (by rfl) T.isi (by decide +kernel) (pa_cons (pv 0) (pa_cons (pe_tup (pa_cons (pe_bltn (v := .ty "tuple") rfl T.tuple (by decide +kernel) rfl) (pa_cons (pe_bltn (v := .ty "list") rfl T.list (by decide +kernel) rfl) pa_nil))) pa_nil)))))
          (pw_or1 (pt_cmpR op_ne (pe_isi T.isi (pv 0) (pe_bltn (v := .ty "list") rfl T.list (by decide +kernel) rfl)) (pe_isi T.isi (pv 1) (pe_bltn (v := .ty "list") rfl T.list (by decide +kernel) rfl)) (nomark _))))) pss_never pss_nil)
      (pss_cons (ps_if (pt_cmpR op_ne (pe_callB call_len_seq (by rfl) T.len PySem.boot_len (pa_cons (pv 0) pa_nil)) (pe_callB call_len_seq (by rfl) T.len PySem.boot_len (pa_cons (pv 1) pa_nil)) (nomark _)) pss_never pss_nil)
      (pss_one (ps_ret (pe_cmpR (op_eqD hr.units) (pe_lc (own := [("_law_k", 2)]) (g := gName 2) rfl sc_alike.nd (pi_range1 rfl T.range (pa_cons (pe_callB call_len_seq (by rfl) T.len PySem.boot_len (pa_cons (pv 1) pa_nil)) pa_nil))
          (blkOk_by (N := ["_law_found", "_law_due", "_law_k", "_law_key"]) (sc := defScope s_law_alike) (by decide +kernel))
          (fun _ _ _ _ _ => pg_name (i := 2) sc_alike.nd rfl (Or.inl rfl)) (fun _ _ _ _ _ => pts_one (pt_not (pt_val (pe_cal G hr pass0 (pa_cons (pe_ix (show IxR _ (rIxT K) from ix_tup) (pv 0) (pv 2) (fun _ _ => rfl)) (pa_cons (pe_ix (show IxR _ (rIxT K) from ix_tup) (pv 1) (pv 2) (fun _ _ => rfl)) pa_nil)))))) (fun _ _ _ _ _ => pv 2)) (pe_lst pa_nil) (nomark _)))))) pss_nil)
    (pss_cons (ps_if (pt_val (pe_isi T.isi (pv 1) (pe_bltn (v := .ty "dict") rfl T.dict (by decide +kernel) rfl))) pss_never pss_nil)
    (pss_cons (ps_if (PW.pt (pw_or (pt_cmpR op_isN (pv 1) pe_non (nomark _)) (pw_or1 (pt_val (pe_isi T.isi (pv 1) (pe_bltn (v := .ty "str") rfl T.str (by decide +kernel) rfl)))))) pss_never pss_nil)
    (pss_one (ps_ret (pe_and (pe_isi T.isi (pv 0) (pe_bltn (v := .ty "int") rfl T.int (by decide +kernel) rfl)) (pe_and (pe_cmpR op_eq (pe_isi T.isi (pv 0) (pe_bltn (v := .ty "bool") rfl T.bool (by decide +kernel) rfl)) (pe_isi T.isi (pv 1) (pe_bltn (v := .ty "bool") rfl T.bool (by decide +kernel) rfl)) (nomark _)) (pe_one (pe_cmpR op_eq (pv 0) (pv 1) (nomark _))))))))), ?_⟩
  rcases h with ⟨i, rfl, q⟩ | ⟨hlv, a, b, r, rfl, ha, hb, hl, q⟩
  · refine ⟨_, rfl, line2, fun tp htp => ⟨.int i, tp, _, _, _, false, rfl, upd_same, .cons (.ty _) (.cons (.ty _) .nil), .base (.int _), kit_int2, _, rfl, iteF ?_⟩⟩
    have s1 := Same.new htp (.tup [.ty "tuple", .ty "list"])
    refine ⟨_, rfl, _, .ty "dict", _, _, false, rfl, .ty "dict", .base (.int _), kit_ty (by decide +kernel), _, rfl, iteF ?_⟩
    refine ⟨_, rfl, rfl, _, rfl, ?_⟩
    rw [show decide (V.int i = V.non) = false from decide_eq_false (by intro z; cases z)]
    refine iteF ⟨_, rfl, _, .ty "str", _, _, false, rfl, .ty "str", .base (.int _), kit_ty (by decide +kernel), _, rfl, iteF ?_⟩
    refine ⟨_, rfl, _, .ty "int", _, _, true, rfl, .ty "int", .base (.int _), kit_ty (by decide +kernel), _, rfl, iteT ?_⟩
    refine ⟨_, rfl, _, .ty "bool", _, _, false, rfl, .ty "bool", .base (.int _), kit_ty (by decide +kernel), _, rfl, _, .ty "bool", _, _, false, rfl, .ty "bool", .base (.int _), kit_ty (by decide +kernel), rfl, _, rfl, ?_⟩
    rw [show decide (V.bl false = V.bl false) = true from decide_eq_true rfl]
    refine iteT ⟨_, rfl, _, rfl, rfl, ?_⟩
    show Q (.bl (decide (V.int i = V.int i))) _
    rw [decide_eq_true rfl]
    exact q _ s1
  · refine ⟨_, rfl, line2, fun tp htp => ⟨.ref b, tp, _, _, _, true, rfl, upd_same, .cons (.ty _) (.cons (.ty _) .nil), .base (.tup (Same.new htp _ _ _ hb)), kit_tup2, _, rfl, iteT ?_⟩⟩
    have s1 := Same.new htp (.tup [.ty "tuple", .ty "list"])
    generalize upd H tp (.tup [.ty "tuple", .ty "list"]) = H1 at s1
    refine ⟨_, rfl, line2, fun tp2 htp2 => ⟨.ref a, tp2, _, _, _, true, rfl, upd_same, .cons (.ty _) (.cons (.ty _) .nil), .base (.tup (Same.new htp2 _ _ _ (s1 _ _ ha))), kit_tup2, _, rfl, iteF ?_⟩⟩
    have s2 := s1.trans (Same.new htp2 (.tup [.ty "tuple", .ty "list"]))
    generalize upd H1 tp2 (.tup [.ty "tuple", .ty "list"]) = H2 at s2
    have ha2 := s2 _ _ ha
    have hb2 := s2 _ _ hb
    refine ⟨_, rfl, _, .ty "list", _, _, false, rfl, .ty "list", .base (.tup ha2), kit_ty (by decide +kernel), _, rfl, _, .ty "list", _, _, false, rfl, .ty "list", .base (.tup hb2), kit_ty (by decide +kernel), rfl, _, rfl, ?_⟩
    rw [show (!decide (V.bl false = V.bl false)) = false from by rw [decide_eq_true rfl]; rfl]
    refine iteF ⟨_, rfl, a, _, rfl, .inr (SqT.of ha2), _, rfl, b, _, rfl, .inr (SqT.of hb2), rfl, _, rfl, ?_⟩
    rw [decide_eq_true rfl]
    refine iteF ?_
    refine ⟨_, rfl, b, _, rfl, .inr (SqT.of hb2), _, rfl, ?_, ?_, fun D hD => lc_range (lo := 0) (n := (((rowL r).length : Nat) : Int).toNat) (fun i H' => But D H2 H' ∧ H' D = some (.lst [])) ⟨But.upd _, upd_same⟩ ?_ ?_⟩
    · rw [rowL_len]; omega
    · rw [rowL_len]; omega
    · rintro i H' hi ⟨b3, hD3⟩
      rw [Int.toNat_natCast, rowL_len] at hi
      have na : a ≠ D := fun e => by rw [e, hD] at ha2; cases ha2
      have nb : b ≠ D := fun e => by rw [e, hD] at hb2; cases hb2
      have hx : (rowL r)[i]? = some (.int r[i]) := by
        unfold rowL
        rw [List.getElem?_map, List.getElem?_eq_getElem hi]
        rfl
      have at1 : atI (rowL r) ((0 : Int) + (i : Int)) = some (.int r[i]) := at_of (j := i) (by omega) hx
      refine ⟨rfl, ?_⟩
      refine ⟨_, rfl, _, rfl, a, _, _, _, rfl, rfl, SqT.of (b3 _ _ ha2 na), at1, _, rfl, _, rfl, b, _, _, _, rfl, rfl, SqT.of (b3 _ _ hb2 nb), at1, hsp hlv _ _ _ _ fun H4 s4 => ⟨_, rfl, iteF ⟨b3.trans (Same.but s4), s4 _ _ hD3⟩⟩⟩
    · rintro H' ⟨b3, hD3⟩
      refine ⟨Nat.zero_le _, fun D2 hD2 => ?_⟩
      have s5 := Same.new hD2 (.lst [])
      refine ⟨_, _, .lst (SqL.of (s5 _ _ hD3)) .nil, .lst (SqL.of upd_same) .nil, rfl, by decide, ?_⟩
      show Q (.bl (PyData.eqv (.list []) (.list []))) _
      rw [show PyData.eqv (.list []) (.list []) = true from by simp [PyData.eqv, PyData.eqvAll]]
      refine q _ fun b o e => s5 _ _ (b3 _ _ (s2 _ _ e) (ne_of_none (s2 _ _ e) hD))
theorem cal_alike {f : Addr} {fd : FuncData} (F : Fun K "_law_alike" "_law_alike" s_law_alike f fd) (T : TX K mg C) (m : mg "_law_alike" = some (.ref f)) (b : Binds K fd ["_law_found", "_law_due"] []) :
    Cal P w K mg base CX0 "_law_alike" 2 ["_law_found", "_law_due"] (spAlike true) := by
  have G0 : Cal P w K mg base CX0 "_law_alike" 0 ["_law_found", "_law_due"] (fun _ _ _ _ => False) := ⟨f, fd, fn_none fun vs H Q E h => h, m, F.kp, b⟩
  have G1 : Cal P w K mg base CX0 "_law_alike" 1 ["_law_found", "_law_due"] (spAlike false) := ⟨f, fd, ok_alike (fun z => by cases z) F T G0, m, F.kp, b⟩
  exact ⟨f, fd, ok_alike (fun _ i H Q E q => .inl ⟨i, rfl, q⟩) F T G1, m, F.kp, b⟩
end
end KW
set_option Elab.async false
set_option linter.all false
set_option maxRecDepth 100000
set_option maxHeartbeats 4000000
/-! A try whose first clause takes all that its body lets out; isinstance of a caught error with a dict. -/
namespace KW
open PySem PySem.Spec PyProof.Rows L2 KM
/-- what the first clause wishes: it takes the exception -/
def wFst (K : PySem.W.Frag) (c : Value) (i m : Nat) (ts : Addr → Value → Option Addr → TS) (D : Ends) : WX := fun cls d σ H =>
  PySem.W.exmOne K cls c = some true ∧ ∀ a, H a = none → σ.length = m → ts a cls d { nx := fun σ' H' => D.nx (σ'.set i none) H', rt := D.rt, bk := fun σ' H' => D.bk (σ'.set i none) H', ct := fun σ' H' => D.ct (σ'.set i none) H' } (σ.set i (some (.ref a))) H
section
variable {X : Cx} {x n : Str} {c : Value} {i : Nat} {body suite : List Stmt} {b₀ : Stmt} {np pos pos' : Pos} {tb : WX → TS} {ts : Addr → Value → Option Addr → TS} {hds : List ExceptHandler}
theorem ps_try_fst (hs : X.stack = X.env :: X.outer) (hf : X.env.frame = some X.env.locals) (hN : X.N.Nodup) (hi : X.N[i]? = some n) (hln : X.env.kindOf n = some .local) (hc : Names X x c)
    (hb : ∀ (W : WX) (pn : List (Addr × Obj)) (xe : Value → Shared → Prop), Takes (X.tr pn xe) W → PassesOwn (model X.prog X.w) X.A X.env xe → PSs (X.tr pn xe) body (tb W))
    (hsu : ∀ (a : Addr) (oe : Obj) (cls : Value) (d : Option Addr) (pn : List (Addr × Obj)), Zc cls d oe → (∃ vs, oe.data = .fields vs) → PSs (X.suite a ((a, oe) :: pn)) (b₀ :: suite) (ts a cls d)) :
    PS X (.Try body (.ExceptHandler (some (.Name x np)) (some n) (b₀ :: suite) pos' :: hds) [] [] pos) (fun D σ H => tb (wFst X.K c i X.N.length ts D) D σ H) := by
  refine ⟨fun pins s σ H D I h => ?_⟩
  have okI := I.ok
  have frames : X.A.frames = some (X.env :: X.outer) := by rw [okI.frames, hs]
  have hloc : Loc X.env.scope n := .inl hln
  refine wpAny_Try_except ?_
  refine wpAny_mono ((hb (wFst X.K c i X.N.length ts D) (X.pn ++ pins) (fun e s₁ => wpAny (model X.prog X.w) X.A (noteFrame e X.env) (fun _ s₂ => wpAny (model X.prog X.w) X.A (setFlight e none) (fun _ s₃ =>
    wpAny (model X.prog X.w) X.A (handleBy e X.env (.ExceptHandler (some (.Name x np)) (some n) (b₀ :: suite) pos' :: hds)) (SP X pins D) X.xe s₃) X.xe s₂) X.xe s₁) (fun u t u9 => ?_) PassesOwn.looking).run [] s σ H D (I.toTry _) h) (fun fl t hsp => ?_) (fun e t he => he)
  · obtain ⟨a, B, sI, pins2, σ2, H2, cls, d, rfl, J2, nb, up, sky, na, os, ag, hb1, hyes⟩ := u9
    have J : Inv X pins σ2 H2 sI := J2.ofTry okI
    have sky2 : Sky B (X.env :: X.outer) a (Zc cls d) X.env.locals t.heap := by rw [← hs]; exact sky
    show wpAny (model X.prog X.w) X.A (noteFrame (.ref a) X.env) _ _ _
    refine Sky.land Zc.steady frames hf sky2 fun h3 fl3 up3 => ?_
    have J3 : Inv X pins σ2 H2 { t with heap := h3 } := J.landed nb fl3.1 (up.trans up3) os ag
    obtain ⟨oe3, vs3, he3, hz3, hd3⟩ := fl3.there
    have nfr : a ∉ frs (X.env :: X.outer) := fun hm => by
      obtain ⟨_, o', e', hnf⟩ := fl3.2.2.1.mem hm
      rw [he3] at e'
      cases e'
      exact hnf _ hd3
    have nL : a ≠ X.env.locals := fun z => nfr (List.mem_filterMap.mpr ⟨X.env, List.mem_cons_self, by rw [hf, z]⟩)
    have nF : a ∉ X.fs := fun hm => by
      obtain ⟨e, he, q⟩ := List.mem_filterMap.mp hm
      exact nfr (List.mem_filterMap.mpr ⟨e, List.mem_cons_of_mem _ he, q⟩)
    have S3 := J3.suite he3 hd3 na nL nF
    refine wpAny_handleBy_cons (codeAny_handlers_test ?_) (by intro q; cases q)
    have LT : PySem.W.Looks (model X.prog X.w) h3 (typeOf (.ref a)) cls := fun A Q E s k q => wpAny_typeOf_ref (k _ _ he3) (by rw [hz3.1]; exact q)
    have LM := PySem.W.exm_one (M := model X.prog X.w) (J3.kIn) LT hb1
    have test : ∀ {Q : Value → Shared → Prop} {E : Value → Shared → Prop}, Q c { t with heap := h3 } → wpAny (model X.prog X.w) (X.A.mark (some (.ref a))) (eval (.Name x np) X.env) Q E { t with heap := h3 } := fun {Q E} q => by
      obtain ⟨g1, g2, g3 | ⟨g3, g4, g5⟩⟩ := hc
      · exact ld_glob (X := X.suite a ((a, oe3) :: (X.pn ++ pins))) S3 g1 g3 q g2
      · exact ld_blt (X := X.suite a ((a, oe3) :: (X.pn ++ pins))) S3 g1 g3 g4 q g5 g2
    refine test (LM.here ?_)
    refine codeAny_handlers_suite_as ?_
    refine HandSPX.lands_againZ fl3 fun h4 fl4 up4 => ?_
    have J4 : Inv X pins σ2 H2 { t with heap := h4 } := J.landed nb fl4.1 ((up.trans up3).trans up4) os ag
    obtain ⟨oe4, vs4, he4, hz4, hd4⟩ := fl4.there
    have S4 := J4.suite he4 hd4 na nL nF
    refine store_ok (X := X.suite a ((a, oe4) :: (X.pn ++ pins))) (v := .ref a) S4 hN hi hloc rfl (fun s5 S5 => ?_) (.inr hln)
    refine wpAny_mono ((hsu a oe4 cls d (X.pn ++ pins) hz4 ⟨_, hd4⟩).run [] s5 _ H2 _ S5 (hyes a na J.len)) (fun f s6 hsp => ?_) (fun _ _ z => False.elim z)
    have leave : ∀ {σ6 : L2.St} {H6 : Hp} {Q : Shared → Prop}, Inv (X.suite a ((a, oe4) :: (X.pn ++ pins))) [] σ6 H6 s6 → (∀ s7, Inv X pins (σ6.set i none) H6 s7 → Q s7) →
        wpAny (model X.prog X.w) X.A (do bindName X.env n .none; unbindBehindTheSuite X.env n pos') (fun _ s7 => Q s7) X.xe s6 := fun {σ6 H6 Q} S6 hq => gone_ok (S6.unsuite okI) hN hi hln hq
    cases f with
    | next =>
      obtain ⟨σ6, H6, S6, q6⟩ := hsp
      exact leave S6 fun s7 J7 => ⟨_, _, J7, q6⟩
    | brk =>
      obtain ⟨σ6, H6, S6, q6⟩ := hsp
      exact leave S6 fun s7 J7 => ⟨_, _, J7, q6⟩
    | cont =>
      obtain ⟨σ6, H6, S6, q6⟩ := hsp
      exact leave S6 fun s7 J7 => ⟨_, _, J7, q6⟩
    | ret u =>
      obtain ⟨v6, σ6, H6, S6, r6, q6⟩ := hsp
      exact leave S6 fun s7 J7 => ⟨_, _, _, J7, r6, q6⟩
  · cases fl with
    | next =>
      obtain ⟨σ', H', J', q⟩ := hsp
      exact wpAny_execs_nil ⟨σ', H', J'.ofTry okI, q⟩
    | brk =>
      obtain ⟨σ', H', J', q⟩ := hsp
      exact ⟨σ', H', J'.ofTry okI, q⟩
    | cont =>
      obtain ⟨σ', H', J', q⟩ := hsp
      exact ⟨σ', H', J'.ofTry okI, q⟩
    | ret u =>
      obtain ⟨v, σ', H', J', r, q⟩ := hsp
      exact ⟨v, σ', H', J'.ofTry okI, r, q⟩
end
/-- isinstance(e, c), e the caught exception, which has a dict -/
def rIsD (K : PySem.W.Frag) (D a : Addr) (d : Option Addr) : List V → Hp → VK → Prop := fun xs H Q => ∃ (c : V) (cv : Value) (b : Bool) (dd : Addr) (fs : List (Str × V)), xs = [.ref a, c] ∧ d = some dd ∧ H dd = some (.xd fs) ∧ (∀ u, RelV c u → u = cv) ∧ PySem.W.kitOne K (.ref D) cv = some b ∧ Q (.bl b) H
theorem call_isD {X : Cx} {a D : Addr} {oe : Obj} {cls : Value} {d : Option Addr} {pn : List (Addr × Obj)} (C : ExcC X.K D) (hi : PySem.W.isClsIn X.K D = true) (hz : Zc cls d oe) (hf : ∃ vs, oe.data = .fields vs) :
    CallR (X.suite a ((a, oe) :: pn)) (.builtin "isinstance") (fun xs H Q => cls = .ref D ∧ rIsD X.K D a d xs H Q) := by
  intro pins s σ H xs us Q I r h
  obtain ⟨ecls, c, cv, b, dd, fs, rfl, ed, hdd, hcv, e, q⟩ := h
  obtain ⟨u1, u2, rfl, rx, rt⟩ := vals2 r
  cases (show u1 = Value.ref a from rx)
  obtain rfl := hcv _ rt
  obtain ⟨hget, _⟩ := I.pin (a, oe) (List.mem_append_left _ List.mem_cons_self)
  obtain ⟨vs, hv⟩ := hf
  have hx : ObjOk X.prog X.w H s.heap dd (.xd fs) := I.hok dd _ hdd
  obtain ⟨mA, hns, hr⟩ := hx
  obtain ⟨od, ho, hl⟩ := lookIn_ns hns
  have J : PySem.W.InstAt s.heap a oe D (some od) := ⟨hget, by rw [hz.1, ecls], by unfold PySem.W.notCls; rw [hv] <;> rfl, by rw [hz.2, ed]; exact ho⟩
  exact PySem.W.kia_one (PySem.W.kitx_exc hi C.hg C.hk C.hs C.ha C.hn C.ht C.hm) I.kIn J e (fun z => nomatch z) fun tk => ⟨.bl b, H, I.tok _, rfl, q⟩
end KW
set_option Elab.async false
set_option linter.all false
set_option maxRecDepth 100000
set_option maxHeartbeats 4000000
/-! _law_error. -/
namespace KW
open PySem PySem.Spec PyProof.Rows L2 KM LamX
/-- what the class TooLong says -/
structure TLx (K : PySem.W.Frag) (mg : Str → Option Value) (CT : Addr) : Prop where
  gC : mg "TooLong" = some (.ref CT)
  te : PySem.W.exmOne K (.ref CT) (.ref CT) = some true
  ex : ExcC K CT
  ic : PySem.W.isClsIn K CT = true
  xf : XfC K CT
  nm : PySem.W.findIn K (.ref CT) "most" = some none
  ve : PySem.W.kitOne K (.ref CT) (.type "ValueError") = some true
  isi : mg "isinstance" = none
  VE : mg "ValueError" = none
def TErr (CT : Addr) : (XK → Hp → VK → Prop) → Hp → VK → Prop := fun tl H Q =>
  tl (fun cls d H1 => cls = .ref CT ∧ ∃ dd, d = some dd ∧ H1 dd = some (.xd [(("most" : Str), .int 200)]) ∧ ∀ H2 t, Same H1 H2 → H2 t = some (.tup [.str "TooLong", .int 200]) → Q (.ref t) H2) H (fun _ H1 => Q (.str "") H1)
theorem sc_lerr : FnScope ["_law_call", "e"] ["_law_call"] (defScope s_law_error) := ⟨rfl, rfl, rfl, by decide +kernel, rfl, by decide +kernel, by decide +kernel⟩
theorem err_gives {X : Cx} {g CT : Addr} {cdg : Value} {q : Str} (T : TLx X.K X.mg CT) : GivesTo X ["_law_call", "e"] "_law_error" (defScope s_law_error) g cdg (defBody s_law_error) "_law_call" q (TErr CT) := by
  intro f c' s H Q tl act hc h
  refine ⟨_, pss_cons (ps_try_fst (X := (cxOf C8.CX0 X.prog X.w X.K X.mg X.base ["_law_call", "e"] "_law_error" (defScope s_law_error) g cdg X.A X.stack s H C8.E0).nox) (c := .ref CT) (i := 1)
      (tb := fun W D σ H => ∃ Ech : XK, (∀ cls d σ' H', Ech cls d H' → W cls d σ' H') ∧ σ[0]? = some (some (.ref f)) ∧ H c' = some (CodeO c' q) ∧ tl Ech H (fun _ H1 => D.nx σ H1))
      rfl rfl sc_lerr.nd rfl rfl ⟨rfl, by decide +kernel, .inl T.gC⟩ (fun W pn xe tk _ => ?_)
      (fun a oe cls d pn hz hf => pss_one (ps_ret (pe_ifExp (pt_val (pe_callB (call_isD T.ex T.ic hz hf) (by rfl) T.isi (by decide +kernel) (pa_cons (pv 1) (pa_cons (pe_bltn (v := .ty "ValueError") rfl T.VE (by decide +kernel) rfl) pa_nil)))) (pe_tup (pa_cons pe_str (pa_cons (pe_xf T.xf T.nm hz hf (pv 1)) pa_nil))) pe_str))))
    (pss_one (ps_ret pe_str)), ?_⟩
  · refine ⟨fun pins s' σ H' D I h' => ?_⟩
    obtain ⟨Ech, hW, h1, h2, h3⟩ := h'
    exact (pss_one (ps_expr (act W pn xe Ech _ _ tk hW))).run pins s' σ H' D I ⟨h1, h2, h3⟩
  · refine ⟨fun cls d H1 => cls = .ref CT ∧ ∃ dd, d = some dd ∧ H1 dd = some (.xd [(("most" : Str), .int 200)]) ∧ ∀ H2 t, Same H1 H2 → H2 t = some (.tup [.str "TooLong", .int 200]) → Q (.ref t) H2, ?_, rfl, hc, ?_⟩
    · rintro cls d σ' H1 ⟨rfl, dd, rfl, hd, hq⟩
      refine ⟨T.te, fun a ha hl => ?_⟩
      have h9 : (σ'.set 1 (some (V.ref a)))[1]? = some (some (V.ref a)) := List.getElem?_set_self (by rw [hl]; exact Nat.lt_succ_self 1)
      refine ⟨_, h9, rfl, _, .type "ValueError", true, dd, _, rfl, rfl, hd, fun u r => r, T.ve, _, rfl, iteT ?_⟩
      refine ⟨_, h9, rfl, rfl, dd, _, .int 200, rfl, hd, rfl, line2, fun t ht => hq _ t (Same.new ht _) upd_same⟩
    · exact h
end KW
set_option Elab.async false
set_option linter.all false
set_option maxRecDepth 100000
set_option maxHeartbeats 4000000
/-! Plain facts of the texts that the law draws. -/
namespace KW
open PySem PySem.Spec PyProof.Rows L2 KM
def Ok4 (l : List Nat) : Prop := ∀ c ∈ l, cl c ≠ 4
theorem Ok4.app {a b : List Nat} (h : Ok4 a) (k : Ok4 b) : Ok4 (a ++ b) := fun c hc => by
  rcases List.mem_append.mp hc with h1 | h1
  · exact h c h1
  · exact k c h1
theorem ok4_of {l : List Nat} {k : Nat} (hk : k ≠ 4) (h : ∀ c ∈ l, cl c = k) : Ok4 l := fun c hc e => hk ((h c hc).symm.trans e)
theorem ok4_nil : Ok4 [] := fun c hc => by cases hc
theorem ok4_num {n : Nat} (h : n < 100) : Ok4 (numC n) := ok4_of (k := 2) (by decide) (numC_fig h)
theorem ok4_a : Ok4 [126] := by unfold Ok4; decide
theorem ok4_b : Ok4 [94] := by unfold Ok4; decide
theorem ok4_c : Ok4 [40] := by unfold Ok4; decide
theorem ok4_d : Ok4 [41] := by unfold Ok4; decide
theorem ok4_e : Ok4 [91] := by unfold Ok4; decide
theorem ok4_f : Ok4 [44, 32] := by unfold Ok4; decide
theorem ok4_g : Ok4 [93] := by unfold Ok4; decide
theorem ok4_h : Ok4 [32] := by unfold Ok4; decide
theorem ok4_i : Ok4 [32, 61, 32] := by unfold Ok4; decide
theorem ok4_j : Ok4 [59, 32] := by unfold Ok4; decide
mutual
theorem text_ok4 : ∀ t : KM.T, pOk t → Ok4 (text t)
  | .name s, h => by
    simp only [pOk] at h
    simp only [text]
    exact ok4_of (k := 1) (by decide) h.2.2
  | .node i, h => by
    simp only [pOk] at h
    simp only [text]
    exact ok4_num h
  | .back t, h => by
    simp only [pOk] at h
    simp only [text]
    exact (text_ok4 t h).app ok4_a
  | .times t k, h => by
    simp only [pOk] at h
    simp only [text]
    exact ((text_ok4 t h.1).app ok4_b).app (ok4_num h.2)
  | .row ts, h => by
    simp only [pOk] at h
    simp only [text]
    split
    · exact texts_ok4 ts h.2
    · exact (ok4_c.app (texts_ok4 ts h.2)).app ok4_d
  | .round a b, h => by
    simp only [pOk] at h
    simp only [text]
    exact (((ok4_e.app (texts_ok4 a h.2.2.1)).app ok4_f).app (texts_ok4 b h.2.2.2)).app ok4_g
theorem texts_ok4 : ∀ ts : Ts, pOks ts → Ok4 (texts ts)
  | .nil, h => by
    simp only [texts]
    exact ok4_nil
  | .cons t ts, h => by
    simp only [pOks] at h
    simp only [texts]
    refine (text_ok4 t h.1).app ?_
    split
    · exact ok4_nil
    · exact ok4_h.app (texts_ok4 ts h.2)
end
theorem loose_ok4 {p : Nat} {a b : List Nat} (L : Loose p a b) (h : Ok4 a) : Ok4 b := by
  induction L with
  | nil => exact ok4_nil
  | same hc L ih =>
    have h2 := ih fun c hc => h c (List.mem_cons_of_mem _ hc)
    intro c hc
    rcases List.mem_cons.mp hc with e | e
    · rw [e]
      exact h _ List.mem_cons_self
    · exact h2 c e
  | blanks bs h1 h2 h3 L ih =>
    exact Ok4.app (ok4_of (k := 0) (by decide) h3) (ih fun c hc => h c (List.mem_cons_of_mem _ hc))
  | none_l hp L ih => exact ih fun c hc => h c (List.mem_cons_of_mem _ hc)
  | none_r hc L ih => exact ih fun c hc => h c (List.mem_cons_of_mem _ hc)
theorem spaced_ok4 : ∀ a : List Nat, Ok4 a → Ok4 (spaced 126 a)
  | [], _ => ok4_nil
  | d :: r, h => by
    have ih := spaced_ok4 r fun c hc => h c (List.mem_cons_of_mem _ hc)
    have hd := h d List.mem_cons_self
    show Ok4 (if d = 126 then 32 :: d :: spaced 126 r else d :: spaced 126 r)
    split
    · intro c hc
      rcases List.mem_cons.mp hc with e | hc
      · rw [e]
        decide
      rcases List.mem_cons.mp hc with e | e
      · rw [e]
        exact hd
      · exact ih c e
    · intro c hc
      rcases List.mem_cons.mp hc with e | e
      · rw [e]
        exact hd
      · exact ih c e
/-- what loose writing keeps -/
theorem looseOk_facts {x z : List Nat} (L : LooseOk x z) (h : Ok4 x) (hl : x.length ≤ 900) : z.length ≤ 2000 ∧ Ok4 z ∧ lexF [] z = lexF [] x := by
  obtain ⟨p, q, b, rfl, hp, hq, hp1, hq1, hL⟩ := L
  have hs := loose_len hL
  refine ⟨?_, ?_, ?_⟩
  · rw [List.length_append, List.length_append]
    omega
  · exact ((ok4_of (k := 0) (by decide) hp).app (spaced_ok4 _ (loose_ok4 hL h))).app (ok4_of (k := 0) (by decide) hq)
  · rw [lexF_ends [] p q _ hp hq, lexF_spaced (by decide) [] b, ← loose_lex hL []]
/-! ### the drawn texts -/
/-- what the law's loop has drawn -/
structure TG (n : Nat) (told : Told) : Prop where
  ch : chkW n [] told .nil
  ok : ∀ p ∈ told, nameOk p.1 ∧ ∃ N, GTs N n 1 p.2
  ln : told.length ≤ 3
theorem chkW_snoc {n : Nat} {p : List Nat × Ts} : ∀ (told : Told) (N : List (List Nat)), chkW n N told .nil → p.1 ∉ N ++ told.map (·.1) → vOks (N ++ told.map (·.1)) n p.2 → chkW n N (told ++ [p]) .nil
  | [], N, _, h1, h2 => by
    simp only [List.map_nil, List.append_nil] at h1 h2
    exact ⟨h1, h2, by simp only [chkW, vOks]⟩
  | x :: r, N, h, h1, h2 => by
    refine ⟨h.1, h.2.1, chkW_snoc r _ h.2.2 ?_ ?_⟩
    · simpa using h1
    · simpa using h2
theorem chkW_last {n : Nat} {last : Ts} : ∀ (told : Told) (N : List (List Nat)), chkW n N told .nil → vOks (N ++ told.map (·.1)) n last → chkW n N told last
  | [], N, _, h => by
    simp only [List.map_nil, List.append_nil] at h
    exact h
  | x :: r, N, h, h2 => ⟨h.1, h.2.1, chkW_last r _ h.2.2 (by simpa using h2)⟩
theorem chkW_norm {n : Nat} {last : Ts} : ∀ (told : Told) (N : List (List Nat)), chkW n N told last → chkW n N (told.map normD) (norms last)
  | [], N, h => norms_vOk last h
  | x :: r, N, h => ⟨h.1, norms_vOk x.2 h.2.1, chkW_norm r _ h.2.2⟩
theorem rd1_of {N : List (List Nat)} {n d : Nat} {ts : Ts} (h : GTs N n d ts) (hd : d ≤ 3) : Rd1 (norms ts) := by
  have w := norms_wid ts
  have dp := norms_dep ts
  have l := norms_len ts
  exact ⟨by rw [l]; exact h.ne, norms_pOk ts h.po, by have := h.dp; omega, by rw [l]; have := h.ln; omega, by have := h.wi; omega⟩
theorem prW_of {n : Nat} {N : List (List Nat)} {told : Told} {last : Ts} (G : TG n told) (hl : GTs N n 2 last) (hz : (textW told last).length ≤ 1000000) : PrW 16 (told.map normD) (norms last) := by
  refine ⟨⟨fun p hp => ?_, rd1_of hl (by decide), by rw [List.length_map]; have := G.ln; omega⟩, fun p hp => ?_, ?_, by rw [textW_norm]; exact hz⟩
  · obtain ⟨q, hq, rfl⟩ := List.mem_map.mp hp
    obtain ⟨h1, N2, h2⟩ := G.ok q hq
    exact ⟨h1, rd1_of h2 (by decide)⟩
  · obtain ⟨q, hq, rfl⟩ := List.mem_map.mp hp
    obtain ⟨h1, N2, h2⟩ := G.ok q hq
    have w := norms_wid q.2
    have g := norms_hgt q.2
    have l := norms_len q.2
    have := h2.hg
    have := h2.wi
    have := h2.ln
    exact ⟨by show hgts (norms q.2) ≤ 16; omega, by show (norms q.2).len ≤ 1000; omega, by show wids (norms q.2) ≤ 1000; omega⟩
  · have w := norms_wid last
    have g := norms_hgt last
    have l := norms_len last
    have := hl.hg
    have := hl.wi
    have := hl.ln
    exact ⟨by omega, by omega, by omega⟩
theorem textW_ok4 {n : Nat} {N : List (List Nat)} {told : Told} {last : Ts} (G : TG n told) (hl : GTs N n 2 last) : Ok4 (textW told last) := by
  unfold textW
  refine Ok4.app ?_ (texts_ok4 last hl.po)
  intro c hc
  obtain ⟨p, hp, hc⟩ := List.mem_flatMap.mp hc
  obtain ⟨h1, N2, h2⟩ := G.ok p hp
  have : Ok4 (textD p) := (((ok4_of (k := 1) (by decide) h1.2.2).app ok4_i).app (texts_ok4 p.2 h2.po)).app ok4_j
  exact this c hc
theorem lex_text {n : Nat} {N : List (List Nat)} {told : Told} {last : Ts} (G : TG n told) (hl : GTs N n 2 last) : lexF [] (textW told last) = tokW (told.map normD) (norms last) := by
  rw [← textW_norm]
  have h := textW_tok (told.map normD) (norms last) [] (fun p hp => ?_) (norms_pOk last hl.po) (norms_nf last)
  · rw [h, List.nil_append]
  · obtain ⟨q, hq, rfl⟩ := List.mem_map.mp hp
    obtain ⟨h1, N2, h2⟩ := G.ok q hq
    exact ⟨h1, norms_pOk q.2 h2.po, norms_nf q.2⟩
/-- in brackets once more -/
theorem brack {n : Nat} {N : List (List Nat)} {last : Ts} (hl : GTs N n 2 last) (h1 : last.len = 1) (hz : (texts last).length ≤ 900) :
    lexF [] ([40] ++ texts last ++ [41]) = tokW [] (.cons (.row (norms last)) .nil) ∧ PrW 16 [] (.cons (.row (norms last)) .nil) ∧ textW [] (.cons (.row (norms last)) .nil) = texts last ∧ Ok4 ([40] ++ texts last ++ [41]) := by
  have w := norms_wid last
  have g := norms_hgt last
  have l := norms_len last
  have dp := norms_dep last
  have e0 : textW [] (.cons (.row (norms last)) .nil) = texts last := by
    unfold textW
    simp only [List.flatMap_nil, List.nil_append, texts, Ts.len, text]
    rw [if_pos (by rw [l]; exact h1), if_pos True.intro, List.append_nil, norms_text]
  refine ⟨?_, ⟨⟨fun p hp => (by cases hp), ⟨by simp [Ts.len], ?_, ?_, by simp [Ts.len], ?_⟩, by decide⟩, fun p hp => (by cases hp), ⟨?_, by simp [Ts.len], ?_⟩, by rw [e0]; omega⟩, e0, (ok4_c.app (texts_ok4 last hl.po)).app ok4_d⟩
  · rw [← norms_text]
    have e : [40] ++ texts (norms last) ++ [41] = 40 :: (texts (norms last) ++ [41]) := by simp
    rw [e, lexF_single cl_s.1]
    have h := texts_toks (norms last) [[40]] (norms_nf last) (norms_pOk last hl.po)
    unfold lexF
    rw [runW_app]
    have h2 : flush (runW (runW ([] ++ [[40]], []) (texts (norms last))) [41]) = (([[40]] ++ toks (norms last)) ++ [[41]], []) := by
      rw [J_single (by rw [List.nil_append]; exact h) cl_s.2.1]
      rfl
    rw [h2]
    unfold tokW
    simp [toks, tok]
  · simp only [pOks, pOk]
    exact ⟨⟨by rw [l]; exact hl.ne, norms_pOk last hl.po⟩, trivial⟩
  · simp only [deps, dep]
    have := hl.dp
    omega
  · simp only [wids, wid]
    have := hl.wi
    omega
  · simp only [hgts, hgt]
    have := hl.hg
    omega
  · simp only [wids, wid]
    have := hl.wi
    omega
end KW
set_option Elab.async false
set_option linter.all false
set_option maxRecDepth 100000
set_option maxHeartbeats 4000000
/-! The law's state; its two comprehensions. -/
namespace KW
open PySem PySem.Spec PyProof.Rows L2 KM LamX
/-- what stands ahead of u meets there -/
theorem jnX {t u : TS} {D : Ends} {σ : L2.St} {H : Hp} (Ex : L2.St → Hp → Prop) (hd : ∀ σ H, Ex σ H → u D σ H) (k : (∀ σ H, Ex σ H → u D σ H) → tSeq t u D σ H) : tSeq t u D σ H := k hd
theorem lc_names {K : PySem.W.Frag} {H : Hp} {Q : VK} {lt : Addr} {uu : List V} {told : Told} {x0 x1 x3 x4 x5 x6 x7 x8 x9 x10 x11 : Option V} (hlt : H lt = some (.lst uu)) (hD : DsAt H uu told) (hn : told.length ≤ 1000)
    (q : ∀ H' D, Same H H' → H D = none → H' D = some (.lst ((told.map (·.1)).map fun z => V.str (mk z))) → Q (.ref D) H') :
    tLc (iList K (tVar 2)) (gTup K 2 (gCons (gName 11) (gCons (gName 5) gNil))) tYes (tVar 11) [11, 5] [x0, x1, some (.ref lt), x3, x4, x5, x6, x7, x8, x9, x10, x11] H Q := by
  have hdl := DsAt.len told uu hD
  refine ⟨_, rfl, lt, rfl, ⟨uu, SqL.of hlt⟩, fun D hDn => lc_list (K := K) (a := lt) (xs := uu) (fun i H' => But D H H' ∧ H' D = some (.lst ((told.take i).map fun p => V.str (mk p.1))))
    ⟨But.upd _, upd_same⟩ (fun i H' _ ⟨s2, _⟩ => SqL.of (s2 _ _ hlt (ne_of_none hlt hDn))) ?_ ?_⟩
  · rintro i x H' hx ⟨s2, hL⟩
    obtain ⟨p, hp, o5, u5, rfl, h5, h6⟩ := DsAt.get told uu hD i x hx
    have tk2 : TK H H' := s2.tk fun xs e => by rw [hDn] at e; cases e
    have hlt2 : i < uu.length := (List.getElem?_eq_some_iff.mp hx).1
    refine ⟨o5, _, rfl, SqT.of (tk2 _ _ h5), rfl, _, _, rfl, _, _, rfl, rfl, rfl, ?_⟩
    refine ⟨_, rfl, _, hL, ?_, s2.trans (But.upd _), ?_⟩
    · rw [List.length_map, List.length_take]
      exact Nat.lt_of_le_of_lt (Nat.min_le_left _ _) (small1000 (by omega))
    · rw [upd_same, List.take_add_one, hp, List.map_append]
      rfl
  · rintro H' ⟨s2, hL⟩
    rw [hdl, List.take_length] at hL
    refine q H' D (fun b o e => s2 _ _ e (ne_of_none e hDn)) hDn ?_
    rw [hL, List.map_map]
    rfl
/-- the law's state -/
structure LS (K : PySem.W.Frag) (r a lt pl Pt : Addr) (ns : List Int) (told : Told) (uu : List V) (H : Hp) : Prop where
  lr : LR K H r a ns
  dk : DOk K r a ns lt
  ht : H lt = some (.lst uu)
  da : DsAt H uu told
  hp : H pl = some (.dK [(Sum.inr (mk []), .bl false)])
  tb : H Pt = some (.tbl #[])
section
variable {K : PySem.W.Frag} {r a lt pl Pt : Addr} {ns : List Int} {told : Told} {uu : List V} {H H' : Hp}
theorem LS.same (h : LS K r a lt pl Pt ns told uu H) (s : Same H H') : LS K r a lt pl Pt ns told uu H' :=
  ⟨h.lr.same s, h.dk, s _ _ h.ht, DsAt.keep (Same.tk s) _ _ h.da, s _ _ h.hp, s _ _ h.tb⟩
theorem LR.ne {o : HO} (h : LR K H r a ns) {p : Addr} (hp : H p = some o) (no : ∀ xs, o ≠ .lst xs) : p ≠ r := fun e => by
  obtain ⟨i, s, c, h1, _⟩ := h
  rw [e, h1] at hp
  exact no _ (Option.some.inj hp).symm
theorem LS.but (h : LS K r a lt pl Pt ns told uu H) (b : But r H H') (l : LR K H' r a ns) : LS K r a lt pl Pt ns told uu H' :=
  ⟨l, h.dk, b _ _ h.ht h.dk.1, DsAt.keep (h.lr.tk b) _ _ h.da, b _ _ h.hp (h.lr.ne h.hp fun xs e => by cases e), b _ _ h.tb (h.lr.ne h.tb fun xs e => by cases e)⟩
theorem LS.snoc (h : LS K r a lt pl Pt ns told uu H) {p : List Nat × Ts} {u : V} (d : DAt H u p) : LS K r a lt pl Pt ns (told ++ [p]) (uu ++ [u]) (upd H lt (.lst (uu ++ [u]))) := by
  have tk : TK H (upd H lt (.lst (uu ++ [u]))) := TK.upd _ fun xs e => by rw [h.ht] at e; cases e
  refine ⟨h.lr.upd h.dk _, h.dk, upd_same, DsAt.snoc (d.keep tk) _ _ (DsAt.keep tk _ _ h.da), ?_, ?_⟩
  · rw [upd_ne (fun e => by have := h.hp; rw [e, h.ht] at this; cases this)]
    exact h.hp
  · rw [upd_ne (fun e => by have := h.tb; rw [e, h.ht] at this; cases this)]
    exact h.tb
end
def nm3 : List (List Nat) := [[97], [108, 111, 110, 103], [98]]
theorem nm3_v : [V.str "a", V.str "long", V.str "b"] = nm3.map fun z => V.str (mk z) := by decide +kernel
theorem nm3_ok : ∀ z ∈ nm3, nameOk z := by
  unfold nameOk nm3
  decide
theorem nm3_nd {i : Nat} {z : List Nat} (h : nm3[i]? = some z) : z ∉ nm3.take i := by
  have : ∀ i : Fin 3, nm3[i.1]'(by have := i.2; show i.1 < 3; omega) ∉ nm3.take i.1 := by decide
  obtain ⟨hi, e⟩ := List.getElem?_eq_some_iff.mp h
  have q := this ⟨i, hi⟩
  rw [← e]
  exact q
end KW
set_option Elab.async false
set_option linter.all false
set_option maxRecDepth 100000
set_option maxHeartbeats 4000000
/-! list == [] asks for the lengths alone. -/
namespace KW
open PySem PySem.Spec PyProof.Rows L2 KM
/-- xs == ys, ys without items -/
def rEq0 (K : PySem.W.Frag) : R2 := fun x y H Q => ∃ a b xs, x = .ref a ∧ y = .ref b ∧ SqL K H a xs ∧ SqL K H b [] ∧ Q (.bl (decide (xs = []))) H
theorem op_eq0 {X : Cx} (hu : X.A.units < cLine) : OpR X (compareOp .Eq) (rEq0 X.K) := by
  intro pins s σ H x y v u Q I rx ry h
  obtain ⟨a, b, xs, rfl, rfl, ha, hb, q⟩ := h
  cases rx
  cases ry
  obtain ⟨its, r, p, hz⟩ := I.list ha
  obtain ⟨its2, r2, p2, hz2⟩ := I.list hb
  cases r2
  by_cases e : xs = []
  · subst e
    cases r
    rw [decide_eq_true rfl] at q
    refine PySem.SeqAt.eq_listAt (e := fun _ => true) p.isList p2.isList rfl hu (fun j h1 => absurd h1 (Nat.not_lt_zero j)) ?_
    exact ⟨.bl true, H, I, rfl, q⟩
  · rw [decide_eq_false e] at q
    refine PySem.SeqAt.eq_list_lengthsAt p.isList p2.isList ?_ hu ⟨.bl false, H, I, rfl, q⟩
    cases r with
    | nil => exact absurd rfl e
    | cons a b => simp
end KW
set_option Elab.async false
set_option linter.all false
set_option maxRecDepth 100000
set_option maxHeartbeats 4000000
/-! Rows as data; places that grow; heaps that keep all but tables. -/
namespace KW
open PySem PySem.Spec PyProof.Rows L2 KM LamX
def rowD (r : KM.Row) : PyData := .tuple (r.map PyData.int)
theorem lay_row : ∀ r : KM.Row, PyData.canLayAll0 (r.map PyData.int) = true
  | [] => by simp [PyData.canLayAll0]
  | s :: r => by
    simp only [List.map_cons, PyData.canLayAll0, PyData.canLay0]
    rw [lay_row r]
    rfl
theorem dep_row : ∀ r : KM.Row, PyData.depthAll (r.map PyData.int) ≤ 1
  | [] => by simp [PyData.depthAll]
  | s :: r => by
    have := dep_row r
    simp only [List.map_cons, PyData.depthAll, PyData.depth]
    omega
theorem lay_rowD (r : KM.Row) : PyData.canLay0 (rowD r) = true := by
  unfold rowD
  simp only [PyData.canLay0]
  exact lay_row r
theorem row_shaped (r : KM.Row) : SeqAt.shaped (rowD r) = true := by
  have h1 := dep_row r
  have h2 : PyData.depth (rowD r) ≤ 64 := by
    unfold rowD
    simp only [PyData.depth]
    omega
  show (PyData.canLay0 (rowD r) && decide (PyData.depth (rowD r) ≤ 64)) = true
  rw [lay_rowD, decide_eq_true h2]
  rfl
theorem row_eqv (r : KM.Row) : PyData.eqv (rowD r) (rowD r) = true := SeqAt.eqv_refl _ (SeqAt.canLay_of_shaped (row_shaped r))
theorem dp_row {K : PySem.W.Frag} {H : Hp} : ∀ r : KM.Row, DpAll K H (rowL r) (r.map PyData.int)
  | [] => .nil
  | s :: r => .cons (.int _) (dp_row r)
theorem dp_rowD {K : PySem.W.Frag} {H : Hp} {a : Addr} {r : KM.Row} (h : H a = some (.tup (rowL r))) : Dp K H (.ref a) (rowD r) := .tup (SqT.of h) (dp_row r)
/-! ### the error's data -/
def errD : PyData := .tuple [.str "TooLong", .int 200]
theorem err_shaped : SeqAt.shaped errD = true := by decide +kernel
theorem err_eqv : PyData.eqv errD errD = true := SeqAt.eqv_refl _ (SeqAt.canLay_of_shaped err_shaped)
theorem dp_err {K : PySem.W.Frag} {H : Hp} {a : Addr} (h : H a = some (.tup [.str "TooLong", .int 200])) : Dp K H (.ref a) errD := .tup (SqT.of h) (.cons (.str _) (.cons (.int _) .nil))
theorem str0_shaped : SeqAt.shaped (.str "") = true := by decide +kernel
theorem str0_eqv : PyData.eqv (.str "") (.str "") = true := SeqAt.eqv_refl _ (SeqAt.canLay_of_shaped str0_shaped)
/-! ### heaps -/
theorem ext_same {H H' : Hp} (s : Same H H') : ExtN H H' := fun b o h _ => s b o h
section
variable {K : PySem.W.Frag} {H H' : Hp} {p r a : Addr} {ns : List Int} {N : List (List Nat)} {env : Envr} {f g : Bool}
theorem lr_ext (h : LR K H r a ns) (e : ExtN H H') : LR K H' r a ns := by
  obtain ⟨i, s, c, h1, h2, h3⟩ := h
  refine ⟨i, s, c, e _ _ h1 (fun ps z => by cases z), ?_, h3⟩
  rcases h2 with ⟨hr, m⟩ | h
  · refine .inl ⟨?_, m⟩
    rcases hr with hr | ⟨o, hr⟩
    · exact .inl (e _ _ hr (fun ps z => by cases z))
    · exact .inr ⟨o, e _ _ hr (fun ps z => by cases z)⟩
  · exact .inr h
theorem pl_ext (h : PlAt H p N env f) (e : ExtN H H') : PlAt H' p N env f := by
  obtain ⟨kvs, h1, h2, h3, h4⟩ := h
  refine ⟨kvs, e _ _ h1 (fun ps z => by cases z), h2, h3, fun z hz => ?_⟩
  obtain ⟨xs, b, e1, e2, e3⟩ := h4 z hz
  exact ⟨xs, b, e1, e _ _ e2 (fun ps z => by cases z), e3⟩
/-- the draws' state where a dict is written -/
theorem lr_dict (h : LR K H r a ns) (b : But p H H') {kvs : List (Key × V)} (hp : H p = some (.dK kvs)) : LR K H' r a ns := by
  obtain ⟨i, s, c, h1, h2, h3⟩ := h
  refine ⟨i, s, c, b _ _ h1 (fun e => by rw [e, hp] at h1; cases h1), ?_, h3⟩
  rcases h2 with ⟨hr, m⟩ | h
  · refine .inl ⟨?_, m⟩
    rcases hr with hr | ⟨o, hr⟩
    · exact .inl (b _ _ hr (fun e => by rw [e, hp] at hr; cases hr))
    · exact .inr ⟨o, b _ _ hr (fun e => by rw [e, hp] at hr; cases hr)⟩
  · exact .inr h
theorem PlAt.dict (h : PlAt H p N env f) : ∃ kvs, H p = some (.dK kvs) := by
  obtain ⟨kvs, h1, _⟩ := h
  exact ⟨kvs, h1⟩
/-- one more name has its row -/
theorem pl_set {b : Addr} {s : List Nat} {xs : KM.Row} (h : PlAt H p N env f) (hb : H b = some (.tup (rowL xs))) (hx : xs.length ≤ 201) (hx2 : f = false → xs.length ≤ 200) (hN : N.length < 900) (hs : s ≠ []) :
    ∃ H', DPut H p (.str (mk s)) (.ref b) H' ∧ But p H H' ∧ PlAt H' p (N ++ [s]) (setE env s (xs.take 200)) f := by
  obtain ⟨kvs, h1, h2, h3, h4⟩ := h
  have len := length_putK kvs (Sum.inr (mk s)) (.ref b)
  refine ⟨_, DPut.k (k := Sum.inr (mk s)) h1 (small1000 (by omega)), But.upd _, putK kvs (Sum.inr (mk s)) (.ref b), upd_same, ?_, ?_, fun z hz => ?_⟩
  · rw [List.length_append, List.length_singleton]
    omega
  · rw [valV_put, if_neg (fun e => hs (mk_inj (Sum.inr.inj e)).symm)]
    exact h3
  · by_cases hzs : z = s
    · subst hzs
      refine ⟨xs, b, ?_, ?_, hx, fun hf => ?_⟩
      · rw [valV_put, if_pos rfl]
      · rw [upd_ne (fun e => by rw [e, h1] at hb; cases hb)]
        exact hb
      · rw [setE_same, List.take_of_length_le (hx2 hf)]
    · have hz' : z ∈ N := by
        rcases List.mem_append.mp hz with h | h
        · exact h
        · exact absurd (List.mem_singleton.mp h) hzs
      obtain ⟨ys, c, e1, e2, e3, e4⟩ := h4 z hz'
      refine ⟨ys, c, ?_, ?_, e3, fun hf => ?_⟩
      · rw [valV_put, if_neg (fun e => hzs (mk_inj (Sum.inr.inj e)))]
        exact e1
      · rw [upd_ne (fun e => by rw [e, h1] at e2; cases e2)]
        exact e2
      · rw [setE_other hzs]
        exact e4 hf
end
end KW
set_option Elab.async false
set_option linter.all false
set_option maxRecDepth 100000
set_option maxHeartbeats 800000
/-! law: its parts. -/
namespace KW
open PySem PySem.Spec PyProof.Rows L2 KM LamX
abbrev Nlaw : List Str := ["_law_script", "_law_row", "_law_told", "_law_place", "_law_name", "_law_things_here", "_law_last", "_law_value", "_law_due", "_law_n", "_law_text", "_law_one"]
theorem sc_law : FnScope Nlaw ["_law_script"] (defScope slaw) := ⟨rfl, rfl, rfl, by decide +kernel, rfl, by decide +kernel, by decide +kernel⟩
theorem flat_le (told : Told) (m : Nat) (h : ∀ p ∈ told, (textD p).length ≤ m) : (told.flatMap textD).length ≤ told.length * m := by
  induction told with
  | nil => simp
  | cons p r ih =>
    rw [List.flatMap_cons, List.length_append, List.length_cons, Nat.succ_mul]
    have := h p List.mem_cons_self
    have := ih fun q hq => h q (List.mem_cons_of_mem _ hq)
    omega
/-- values that meet behind a choice -/
theorem jnIf {tc : TT} {ta tb : TE} {σ : L2.St} {H : Hp} {Q : VK} (Ex : V → Hp → Prop) (hd : ∀ v H, Ex v H → Q v H) (k : (∀ v H, Ex v H → Q v H) → tIf tc ta tb σ H Q) : tIf tc ta tb σ H Q := k hd
/-- a text that is printed as z -/
def VP (n : Nat) (z : List Nat) (x : V) : Prop := ∃ (y : List Nat) (told : Told) (last : Ts), x = .str (mk y) ∧ y.length ≤ 2000 ∧ Ok4 y ∧ lexF [] y = tokW told last ∧ PrW 16 told last ∧ chkW n [] told last ∧ textW told last = z
/-- all that law calls -/
structure Kit (P : Program) (w : World) (K : PySem.W.Frag) (mg : Str → Option Value) (base : Heap) (C CT : Addr) : Prop where
  T : TX K mg C
  X : TLx K mg CT
  taken : Cal P w K mg base CX0 "_law_taken" 1 ["_law_row", "_law_many"] (spTaken K)
  things : Cal P w K mg base CX0 "_law_things" 9 ["_law_row", "_law_names", "_law_n", "_law_deep"] (spLThings K 3)
  ttext : Cal P w K mg base CX0 "_law_things_text" 20 ["_law_things_here"] (spTTs 20)
  loose : Cal P w K mg base CX0 "_law_loose" 3 ["_law_row", "_law_text"] (spLoose K)
  printed : Cal P w K mg base CX0 "printed" 18 ["text"] (spPrinted 16)
  rows : Cal P w K mg base CX0 "_law_things_row" 16 ["_law_place", "_law_things_here"] (spLRs 16)
  alike : Cal P w K mg base CX0 "_law_alike" 2 ["_law_found", "_law_due"] (spAlike true)
  rowof : Cal P w K mg base (L2.CX P w) "row_of" 22 ["n", "text"] (spRowOf CT 16)
  err : ∃ (g : Addr) (dg : FuncData), Fun K "_law_error" "_law_error" s_law_error g dg ∧ mg "_law_error" = some (.ref g) ∧ L2.Binds K dg ["_law_call"] []
def spLaw (K : PySem.W.Frag) (Pt : Addr) : Sp := fun vs H Q _ => ∃ (a : Addr) (ns : List Int), vs = [.ref a] ∧ SqL K H a (ns.map V.int) ∧ H Pt = some (.tbl #[]) ∧ ∀ H', Q (.bl true) H'
abbrev Tb (Pt : Addr) : List (Addr × Str) := [(Pt, ("law" : Str) ++ "<lambda>")]
section
variable {P : Program} {w : World} {K : PySem.W.Frag} {mg : Str → Option Value} {base : Heap} {C CT : Addr}
theorem ok_law {f cL Pt : Addr} {fd : FuncData} (F : Fun K "law" "law" slaw f fd) (hcL : fd.code = .ref cL) (TB : TabB base mg cL Pt) (Z : Kit P w K mg base C CT) : FnOk P w K mg base CX0 31 f fd ["_law_script"] (spLaw K Pt) := by
  obtain ⟨oc, od, kV, doc, pm, an, cdv, ct, osl, rfl, lk, hcd⟩ := F.ex
  have hcL : cdv = .ref cL := hcL
  subst hcL
  obtain ⟨gE, dE, FE, mE, bE⟩ := Z.err
  have kpE := FE.kp
  obtain ⟨ocE, odE, kVE, docE, pmE, anE, cdE, ctE, oslE, rfl, lkE, hcE⟩ := FE.ex
  refine fn_of lk hcd sc_law (fun vs H Q E h => ?_) fun A outer s H vs Q E hr h => ?_
  · obtain ⟨a, ns, rfl, _⟩ := h
    rfl
  suffices key : ∃ t, PSs (cxOf CX0 P w K mg base Nlaw "law" (defScope slaw) f (.ref cL) A outer s H E).nox (defBody slaw) t ∧ t { nx := fun _ H' => Q .non H', rt := Q } (L2.start Nlaw vs) H by
    obtain ⟨t, h1, h2⟩ := key
    exact ⟨t, h1.nox, h2⟩
  obtain ⟨a, ns, rfl, hS, hPt, q⟩ := h
  have T := Z.T
  have hr1 : Room 1 (A.deeper (envOfC "law" (defScope slaw) s.heap.objs.size f (.ref cL))) := hr.mono (by omega)
  have hr2 : Room 2 (A.deeper (envOfC "law" (defScope slaw) s.heap.objs.size f (.ref cL))) := hr.mono (by omega)
  have hr3 : Room 3 (A.deeper (envOfC "law" (defScope slaw) s.heap.objs.size f (.ref cL))) := hr.mono (by omega)
  have hr9 : Room 9 (A.deeper (envOfC "law" (defScope slaw) s.heap.objs.size f (.ref cL))) := hr.mono (by omega)
  have hr16 : Room 16 (A.deeper (envOfC "law" (defScope slaw) s.heap.objs.size f (.ref cL))) := hr.mono (by omega)
  have hr18 : Room 18 (A.deeper (envOfC "law" (defScope slaw) s.heap.objs.size f (.ref cL))) := hr.mono (by omega)
  have hr20 : Room 20 (A.deeper (envOfC "law" (defScope slaw) s.heap.objs.size f (.ref cL))) := hr.mono (by omega)
  have hr24 : Room 24 (A.deeper (envOfC "law" (defScope slaw) s.heap.objs.size f (.ref cL))) := hr.mono (by omega)
  have hr22 : Room 22 (A.deeper (envOfC "law" (defScope slaw) s.heap.objs.size f (.ref cL))) := hr.mono (by omega)
  refine ⟨_, pss_cons (ps_set (i := 1) sc_law.nd rfl (Or.inl rfl) (pe_lst (pa_cons (pv 0) (pa_cons pe_int (pa_cons pe_int (pa_cons pe_int pa_nil))))))
    (pss_cons (ps_asg (pe_tup (pa_cons (pe_op op_add pe_int (pe_cal Z.taken hr1 pass0 (pa_cons (pv 1) (pa_cons pe_int pa_nil)))) (pa_cons (pe_lst pa_nil) (pa_cons (pe_disp (pps_cons pe_str pe_bl pps_nil) rfl rfl (by simp) (by simp)) pa_nil)))) (pg_tup (by rfl) (pgs_cons (pg_name (i := 9) sc_law.nd rfl (Or.inr rfl)) (pgs_cons (pg_name (i := 2) sc_law.nd rfl (Or.inl rfl)) (pgs_cons (pg_name (i := 3) sc_law.nd rfl (Or.inl rfl)) pgs_nil)))))
    (pss_cons (ps_for PassesOwn.never rfl (pi_list (pe_slice sl_list (pe_lst (pa_cons pe_str (pa_cons pe_str (pa_cons pe_str pa_nil)))) po_none (po_some (pe_cal Z.taken hr1 pass0 (pa_cons (pv 1) (pa_cons pe_int pa_nil)))))) (pg_name (i := 4) sc_law.nd rfl (Or.inl rfl))
      (pss_one (ps_expr (pe_bm PySem.F.plainAttrs_list PySem.F.slot_list_append PySem.F.type_list_append mt_append (pv 2) (pa_cons (pe_tup (pa_cons (pv 4) (pa_cons (pe_cal Z.things hr9 pass0 (pa_cons (pv 1) (pa_cons (pe_lc (own := [("_law_one", 11), ("_law_things_here", 5)]) (g := gTup K 2 (gCons (gName 11) (gCons (gName 5) gNil))) (tt := tYes) rfl sc_law.nd (pi_list (pv 2)) (blkOk_by (N := Nlaw) (sc := defScope slaw) (by decide +kernel)) (fun _ _ _ _ _ => pg_tup (by rfl) (pgs_cons (pg_name (i := 11) sc_law.nd rfl (Or.inl rfl)) (pgs_cons (pg_name (i := 5) sc_law.nd rfl (Or.inl rfl)) pgs_nil))) (fun _ _ _ _ _ => pts_nil) (fun _ _ _ _ _ => pv 11)) (pa_cons (pv 9) (pa_cons pe_int pa_nil))))) pa_nil))) pa_nil)))))
    (pss_cons (ps_set (i := 6) sc_law.nd rfl (Or.inl rfl) (pe_cal Z.things hr9 pass0 (pa_cons (pv 1) (pa_cons (pe_lc (own := [("_law_one", 11), ("_law_things_here", 5)]) (g := gTup K 2 (gCons (gName 11) (gCons (gName 5) gNil))) (tt := tYes) rfl sc_law.nd (pi_list (pv 2)) (blkOk_by (N := Nlaw) (sc := defScope slaw) (by decide +kernel)) (fun _ _ _ _ _ => pg_tup (by rfl) (pgs_cons (pg_name (i := 11) sc_law.nd rfl (Or.inl rfl)) (pgs_cons (pg_name (i := 5) sc_law.nd rfl (Or.inl rfl)) pgs_nil))) (fun _ _ _ _ _ => pts_nil) (fun _ _ _ _ _ => pv 11)) (pa_cons (pv 9) (pa_cons pe_int pa_nil))))))
    (pss_cons (ps_set (i := 10) sc_law.nd rfl (Or.inr rfl) (pe_op op_add_str (pe_join pe_str (pe_lc (own := [("_law_name", 4), ("_law_things_here", 5)]) (g := gTup K 2 (gCons (gName 4) (gCons (gName 5) gNil))) (tt := tYes) rfl sc_law.nd (pi_list (pv 2)) (blkOk_by (N := Nlaw) (sc := defScope slaw) (by decide +kernel)) (fun _ _ _ _ _ => pg_tup (by rfl) (pgs_cons (pg_name (i := 4) sc_law.nd rfl (Or.inl rfl)) (pgs_cons (pg_name (i := 5) sc_law.nd rfl (Or.inl rfl)) pgs_nil))) (fun _ _ _ _ _ => pts_nil) (fun _ _ _ _ _ => pe_op op_add_str (pe_op op_add_str (pe_op op_add_str (pv 4) pe_str) (pe_cal Z.ttext hr20 pass0 (pa_cons (pv 5) pa_nil))) pe_str))) (pe_cal Z.ttext hr20 pass0 (pa_cons (pv 6) pa_nil))))
    (pss_cons (ps_if (pt_cmpR op_gt (pe_callB call_len_str (by rfl) T.len PySem.boot_len (pa_cons (pv 10) pa_nil)) pe_int (nomark _)) (pss_one (ps_ret pe_bl)) pss_nil)
    (pss_cons (ps_for PassesOwn.never rfl (pi_list (pe_lst (pa_cons (pv 10) (pa_cons (pe_cal Z.loose hr3 pass0 (pa_cons (pv 1) (pa_cons (pv 10) pa_nil))) (pa_cons (pe_ifExp (PW.pt (pw_and (pt_cmpR (op_eq0 hr.units0) (pv 2) (pe_lst pa_nil) (nomark _)) (pw_and1 (pt_cmpR op_eq (pe_callB call_len_seq (by rfl) T.len PySem.boot_len (pa_cons (pv 6) pa_nil)) pe_int (nomark _))))) (pe_op op_add_str (pe_op op_add_str pe_str (pv 10)) pe_str) (pv 10)) pa_nil))))) (pg_name (i := 7) sc_law.nd rfl (Or.inl rfl))
      (pss_one (ps_if (pt_cmpR op_ne (pe_cal Z.printed hr18 pass0 (pa_cons (pv 7) pa_nil)) (pv 10) (nomark _)) pss_never pss_nil)))
    (pss_cons (ps_for PassesOwn.never rfl (pi_list (pv 2)) (pg_tup (by rfl) (pgs_cons (pg_name (i := 4) sc_law.nd rfl (Or.inl rfl)) (pgs_cons (pg_name (i := 5) sc_law.nd rfl (Or.inl rfl)) pgs_nil)))
      (pss_one (ps_dput (hu_of hr) (pv 3) (pv 4) (pe_cal Z.rows hr16 pass0 (pa_cons (pv 3) (pa_cons (pv 5) pa_nil))) (by rfl))))
    (pss_cons (ps_set (i := 8) sc_law.nd rfl (Or.inl rfl) (pe_cal Z.rows hr16 pass0 (pa_cons (pv 3) (pa_cons (pv 6) pa_nil))))
    (pss_cons (ps_if (pt_cmpR (op_neD hr.units) (pe_lamcall (T := [(Pt, _)]) (TT := TErr CT) (a := "_law_call") (Ng := ["_law_call", "e"]) (k := 22) (t := fun E => tCall (spRowOf CT 16) [] E (tCons (tVar 9) (tCons (tVar 10) tNil))) (by rfl) mE kpE lkE hcE bE sc_lerr rfl (.inl rfl) (err_gives Z.X) TB rfl (List.mem_singleton.mpr rfl) (fun p hp _ => congrArg Prod.snd (List.mem_singleton.mp hp)) hr24 (show LamS (defScope slaw) _ from lamS_by (by decide +kernel)) rfl (fun _ _ _ _ _ => rfl)
      (fun A outer s H E f c' hr => pe_cal Z.rowof hr (passes_call (W := fun cls d _ H => E cls d H) (takes_of rfl rfl rfl rfl) (fun _ _ _ _ h => h)) (pa_cons (pv 9) (pa_cons (pv 10) pa_nil)))) (pe_ifExp (pt_val (pe_dget (hu_of hr) (pv 3) pe_str (fun _ _ => rfl))) (pe_tup (pa_cons pe_str (pa_cons pe_int pa_nil))) pe_str) (nomark _)) pss_never pss_nil)
    (pss_one (ps_ret (pe_or (pe_dget (hu_of hr) (pv 3) pe_str (fun _ _ => rfl)) (pe_one (pe_and (pe_cal Z.alike hr2 pass0 (pa_cons (pe_cal Z.rowof hr22 passL (pa_cons (pv 9) (pa_cons (pv 10) pa_nil))) (pa_cons (pv 8) pa_nil))) (pe_one (pe_cmpR (op_eqD hr.units) (pe_cal Z.rowof hr22 passL (pa_cons (pv 9) (pa_cons (pe_cal Z.loose hr3 pass0 (pa_cons (pv 1) (pa_cons (pv 10) pa_nil))) pa_nil))) (pv 8) (nomark _))))))))))))))))), ?_⟩
  -- the state at the start
  refine ⟨_, rfl, line_ge (by show 4 ≤ 16777216; decide), fun r hr0 => ?_⟩
  have b0 : But r H (upd H r (.lst [.ref a, .int 0, .int 7302, .int 0])) := But.upd _
  have L0 : LR K (upd H r (.lst [.ref a, .int 0, .int 7302, .int 0])) r a ns := ⟨0, 7302, 0, upd_same, (SqX.of hS hr0).keep b0, by decide, by decide, by decide⟩
  have hPt0 : upd H r (.lst [.ref a, .int 0, .int 7302, .int 0]) Pt = some (.tbl #[]) := b0 _ _ hPt (ne_of_none hPt hr0)
  generalize upd H r (.lst [.ref a, .int 0, .int 7302, .int 0]) = H1 at b0 L0 hPt0
  dsimp only [gName]
  refine jnX (fun σ' H' => ∃ (lt pl : Addr) (n : Nat), 1 ≤ n ∧ n ≤ 6 ∧ σ' = [some (.ref a), some (.ref r), some (.ref lt), some (.ref pl), none, none, none, none, none, some (.int (n : Int)), none, none] ∧ LS K r a lt pl Pt ns [] [] H') ?_ fun fin => ?_
  rotate_left
  · refine ⟨_, rfl, r, a, ns, 6, rfl, by decide, by decide, L0, fun H3 j hj L3 b3 => ⟨_, _, rfl, rfl, Nat.zero_le _, fun lt hlt => fun pl hpl => ?_⟩⟩
    have s4 := Same.new hlt (.lst [])
    have dk := L3.fresh hlt
    have L4 := L3.same s4
    have dkp := L4.fresh hpl
    have hPt3 : H3 Pt = some (.tbl #[]) := b3 _ _ hPt0 (L0.ne hPt0 fun xs e => by cases e)
    refine ⟨upd_same, [(Sum.inr (Str.ofString ""), .bl false)], rfl, by decide, line3, fun t ht => ?_⟩
    have L5 := L4.same (Same.new hpl (.dK []))
    have L6 := L5.upd dkp (.dK (mergeK [] [(Sum.inr (Str.ofString ""), V.bl false)]))
    have st := Same.new ht (.tup [.int (1 + (j : Int)), .ref lt, .ref pl])
    have hlt4 : upd H3 lt (.lst []) lt = some (.lst []) := upd_same
    have nlt : lt ≠ pl := ne_of_none hlt4 hpl
    have nPt : Pt ≠ pl := ne_of_none (s4 _ _ hPt3) hpl
    have ej : (1 : Int) + (j : Int) = ((j + 1 : Nat) : Int) := by omega
    refine ⟨t, _, rfl, SqT.of upd_same, rfl, _, _, rfl, _, _, rfl, _, _, rfl, rfl, fin _ _ ⟨lt, pl, j + 1, by omega, by omega, by rw [← ej]; rfl, L6.same st, dk, st _ _ ?_, rfl, st _ _ ?_, st _ _ ?_⟩⟩
    · rw [upd_ne nlt, upd_ne nlt]
      exact hlt4
    · rw [upd_same, empty_is]
      rfl
    · rw [upd_ne nPt, upd_ne nPt]
      exact s4 _ _ hPt3
  rintro σ' H2 ⟨lt, pl, n, hn1, hn2, rfl, S2⟩
  -- the names' loop
  refine jnX (fun σ' H' => ∃ (x4 : Option V) (told : Told) (uu : List V), σ' = [some (.ref a), some (.ref r), some (.ref lt), some (.ref pl), x4, none, none, none, none, some (.int (n : Int)), none, none] ∧ TG n told ∧ LS K r a lt pl Pt ns told uu H') ?_ fun fin => ?_
  rotate_left
  · refine ⟨line_ge (by show 3 ≤ 16777216; decide), fun L9 hL9 => ⟨_, rfl, r, a, ns, 4, rfl, by decide, by decide, S2.lr.same (Same.new hL9 _), fun H3 j hj L3 b3 => ⟨_, rfl, L9, _, rfl, SqL.of (b3 _ _ upd_same (S2.lr.fresh hL9).1), fun p hp => ?_⟩⟩⟩
    have S3 := (S2.same (Same.new hL9 (.lst [.str "a", .str "long", .str "b"]))).but b3 L3
    have ecut : cutV [V.str "a", .str "long", .str "b"] none (some (j : Int)) = (nm3.map fun z => V.str (mk z)).take j := by
      rw [← nm3_v]
      exact cut_to _ j
    have pr := (S3.lr.fresh hp).1
    have pl2 : lt ≠ p := ne_of_none S3.ht hp
    have S4 := S3.same (Same.new hp (.lst (cutV [V.str "a", .str "long", .str "b"] none (some (j : Int)))))
    refine ⟨p, rfl, ⟨_, SqL.of upd_same⟩, for_list (K := K) (a := p) (xs := cutV [V.str "a", .str "long", .str "b"] none (some (j : Int))) (fun i σ' H' => ∃ (x4 : Option V) (told : Told) (uu : List V), σ' = [some (.ref a), some (.ref r), some (.ref lt), some (.ref pl), x4, none, none, none, none, some (.int (n : Int)), none, none] ∧ TG n told ∧ told.map (·.1) = nm3.take i ∧ LS K r a lt pl Pt ns told uu H' ∧ H' p = some (.lst (cutV [V.str "a", .str "long", .str "b"] none (some (j : Int)))))
      ⟨none, [], [], rfl, ⟨by simp only [chkW, vOks], fun p hp => (by cases hp), Nat.zero_le _⟩, rfl, S4, upd_same⟩ (fun i σ' H' _ ⟨_, _, _, _, _, _, _, h⟩ => SqL.of h) ?_ ?_⟩
    · rintro i x σ' H' hx ⟨x4, told, uu, rfl, G, hm, S, hpl⟩
      obtain ⟨z, hz, rfl⟩ : ∃ z, nm3[i]? = some z ∧ x = V.str (mk z) := by
        rw [ecut, List.getElem?_take] at hx
        split at hx
        · rw [List.getElem?_map] at hx
          cases e : nm3[i]? with
          | none => rw [e] at hx; cases hx
          | some z =>
            rw [e] at hx
            exact ⟨z, rfl, (Option.some.inj hx).symm⟩
        · cases hx
      have hi3 : i < 3 := (List.getElem?_eq_some_iff.mp hz).1
      have hzm := List.mem_of_getElem? hz
      have hlen : told.length = i := by
        have e := congrArg List.length hm
        rw [List.length_map, List.length_take] at e
        have : nm3.length = 3 := rfl
        omega
      refine ⟨_, rfl, .inl ⟨rfl, _, SqL.of S.ht⟩, _, rfl, _, rfl, lc_names S.ht S.da (by omega) fun H4 D s4 hDn hD => ⟨_, rfl, r, a, D, ns, told.map (·.1), n, 1, rfl, S.lr.same s4, hD, (S.lr.fresh hDn).1, ?_, by rw [List.length_map]; omega, hn1, by omega, by decide, fun H5 v ts L5 b5 hts hg => ⟨line2, fun t ht => ?_⟩⟩⟩
      · intro s hs
        obtain ⟨q, hq, rfl⟩ := List.mem_map.mp hs
        exact (G.ok q hq).1
      have S5 := ((S.same s4).but b5 L5).same (Same.new ht (.tup [V.str (mk z), v]))
      have dA : DAt (upd H5 t (.tup [V.str (mk z), v])) (.ref t) (z, ts) := ⟨t, v, rfl, upd_same, hts.keep (Same.tk (Same.new ht _))⟩
      have p5 : (upd H5 t (.tup [V.str (mk z), v])) p = some (.lst (cutV [V.str "a", .str "long", .str "b"] none (some (j : Int)))) := Same.new ht _ _ _ (b5 _ _ (s4 _ _ hpl) pr)
      have ul := DsAt.len _ _ S.da
      refine ⟨lt, uu, .ref t, rfl, rfl, S5.ht, small1000 (by omega), some (.str (mk z)), told ++ [(z, ts)], uu ++ [.ref t], rfl, ⟨?_, ?_, ?_⟩, ?_, S5.snoc dA, ?_⟩
      · refine chkW_snoc told [] G.ch ?_ ?_
        · rw [List.nil_append, hm]
          exact nm3_nd hz
        · rw [List.nil_append]
          exact hg.vo
      · intro q hq
        rcases List.mem_append.mp hq with h | h
        · exact G.ok q h
        · rw [List.mem_singleton.mp h]
          exact ⟨nm3_ok z hzm, _, hg⟩
      · rw [List.length_append, List.length_singleton]
        omega
      · rw [List.map_append, hm, List.take_add_one, hz]
        rfl
      · rw [upd_ne pl2.symm]
        exact p5
    · rintro σ' H' ⟨x4, told, uu, rfl, G, hm, S, hpl⟩
      exact fin _ _ ⟨x4, told, uu, rfl, G, S⟩
  rintro σ' H3 ⟨x4, told, uu, rfl, G3, S3⟩
  have hdl := DsAt.len told uu S3.da
  have nmO : ∀ s ∈ told.map (·.1), nameOk s := fun s hs => by
    obtain ⟨q, hq, rfl⟩ := List.mem_map.mp hs
    exact (G3.ok q hq).1
  have tl3 := G3.ln
  refine ⟨_, rfl, lc_names S3.ht S3.da (by omega) fun H4 D s4 hDn hD => ⟨_, rfl, r, a, D, ns, told.map (·.1), n, 2, rfl, S3.lr.same s4, hD, (S3.lr.fresh hDn).1, nmO, by rw [List.length_map]; omega, hn1, by omega, by decide, fun H5 v last L5 b5 hla hg => ?_⟩⟩
  have S5 := (S3.same s4).but b5 L5
  clear s4 b5 L5 hDn hD S3
  have hcB1 : cB 1 = 94 := by decide
  have hcB2 : cB 2 = 610 := by decide
  have tdl : ∀ p ∈ told, (textD p).length ≤ 400 := fun p hp => by
    obtain ⟨h1, N2, h2⟩ := G3.ok p hp
    have e1 := h2.tx
    have e2 := h1.2.1
    rw [hcB1] at e1
    unfold textD
    simp only [List.length_append, List.length_cons, List.length_nil]
    omega
  have hlx := hg.tx
  rw [hcB2] at hlx
  have tfl : (told.flatMap textD).length ≤ 1200 := by
    have e := flat_le told 400 tdl
    have : told.length * 400 ≤ 3 * 400 := Nat.mul_le_mul_right _ tl3
    omega
  dsimp only [gName]
  refine jnX (fun σ' H' => σ' = [some (.ref a), some (.ref r), some (.ref lt), some (.ref pl), x4, none, some v, none, none, some (.int (n : Int)), some (.str (mk (textW told last))), none] ∧ LS K r a lt pl Pt ns told uu H' ∧ TsA H' v last) ?_ fun fin => ?_
  rotate_left
  · refine ⟨⟨_, rfl⟩, _, rfl, lt, rfl, ⟨uu, SqL.of S5.ht⟩, fun D hDn => lc_list (K := K) (a := lt) (xs := uu) (fun i H' => But D H5 H' ∧ H' D = some (.lst ((told.take i).map fun p => V.str (mk (textD p)))))
      ⟨But.upd _, upd_same⟩ (fun i H' _ ⟨s2, _⟩ => SqL.of (s2 _ _ S5.ht (ne_of_none S5.ht hDn))) ?_ ?_⟩
    · rintro i x H' hx ⟨s2, hLd⟩
      obtain ⟨p, hp, o5, u5, rfl, h5, h6⟩ := DsAt.get told uu S5.da i x hx
      have hm := List.mem_of_getElem? hp
      obtain ⟨h1, N2, h2⟩ := G3.ok p hm
      have gl := tdl p hm
      have tk2 : TK H5 H' := s2.tk fun xs e => by rw [hDn] at e; cases e
      have glen : (textD p).length = p.1.length + 3 + (texts p.2).length + 2 := by
        unfold textD
        simp
        omega
      have hn8 := h1.2.1
      have i1 := h2.hg
      have i2 := h2.ln
      have i3 := h2.wi
      refine ⟨o5, _, rfl, SqT.of (tk2 _ _ h5), rfl, _, _, rfl, _, _, rfl, rfl, rfl, ?_⟩
      refine ⟨_, rfl, _, _, rfl, rfl, ?_, ?_⟩
      · rw [k326132]
        exact add_str (by simp only [List.length_cons, List.length_nil]; omega)
      rw [k326132, mk_app]
      refine ⟨_, rfl, u5, p.2, rfl, h6.keep tk2, h2.po, by omega, by omega, by omega, by omega, fun H6 s6 => ⟨_, _, rfl, rfl, ?_, _, _, rfl, rfl, ?_, _, s6 _ _ hLd, ?_, (s2.trans (Same.but s6)).trans (But.upd _), ?_⟩⟩
      · exact add_str (by simp only [List.length_append, List.length_cons, List.length_nil]; omega)
      · rw [k5932, mk_app]
        exact add_str (by simp only [List.length_append, List.length_cons, List.length_nil]; omega)
      · rw [List.length_map, List.length_take]
        exact Nat.lt_of_le_of_lt (Nat.min_le_right _ _) (small1000 (by omega))
      · rw [upd_same, List.take_add_one, hp, List.map_append, mk_app, k5932, mk_app]
        rfl
    · rintro H' ⟨s2, hLd⟩
      rw [hdl, List.take_length] at hLd
      have sm := sum_told told
      have sD : Same H5 H' := fun b o e => s2 _ _ e (ne_of_none e hDn)
      have i1 := hg.hg
      have i2 := hg.ln
      have i3 := hg.wi
      refine ⟨_, D, told.map fun p => mk (textD p), rfl, rfl, .inl (SqL.of (by rw [hLd, List.map_map]; rfl)), ?_, ?_⟩
      · rw [sm, empty_is]
        have : (mk []).length = 0 := rfl
        rw [this]
        omega
      · rw [empty_is, join_told]
        refine ⟨_, rfl, v, last, rfl, hla.keep (Same.tk sD), hg.po, by omega, by omega, by omega, by omega, fun H6 s6 => ⟨_, _, rfl, rfl, add_str (by omega), ?_⟩⟩
        rw [mk_app]
        have sall := sD.trans s6
        exact fin _ _ ⟨rfl, S5.same sall, hla.keep (Same.tk sall)⟩
  rintro σ' H6 ⟨rfl, S6, hla6⟩
  have htw : (textW told last).length ≤ 1000000 := by
    unfold textW
    rw [List.length_append]
    omega
  have hG := chkW_norm told [] (chkW_last told [] G3.ch (by rw [List.nil_append]; exact hg.vo))
  have hO := textW_ok4 G3 hg
  have hX := lex_text G3 hg
  have hW := prW_of G3 hg htw
  have hTW : textW (told.map normD) (norms last) = textW told last := textW_norm told last
  clear S5 hla tdl
  generalize hz : textW told last = z at *
  obtain ⟨vb, vu, rfl, hvb, hvt⟩ := hla6
  have hvl := TsAt.len last vu hvt
  have hzl : (mk z).length ≤ sizeLine := line_ge (by rw [mk_len]; omega)
  refine ⟨_, rfl, mk z, rfl, hzl, _, _, rfl, rfl, _, rfl, ?_⟩
  rw [mk_len]
  by_cases h900 : 900 < z.length
  · rw [decide_eq_true (by omega : (900 : Int) < ((z.length : Nat) : Int))]
    exact iteT (q _)
  rw [decide_eq_false (by omega : ¬ (900 : Int) < ((z.length : Nat) : Int))]
  refine iteF ?_
  dsimp only [tNext]
  have h900 : z.length ≤ 900 := by omega
  -- the three values
  refine jnX (fun σ' H' => ∃ x7 : Option V, σ' = [some (.ref a), some (.ref r), some (.ref lt), some (.ref pl), x4, none, some (.ref vb), x7, none, some (.int (n : Int)), some (.str (mk z)), none] ∧ LS K r a lt pl Pt ns told uu H' ∧ TsA H' (.ref vb) last) ?_ fun fin => ?_
  rotate_left
  · refine ⟨_, rfl, _, rfl, _, rfl, r, a, ns, z, rfl, S6.lr, h900, fun H7 z2 L7 b7 hlo => ?_⟩
    have S7 := S6.but b7 L7
    have hvb7 := S6.lr.tk b7 _ _ hvb
    have hvt7 := TsAt.keep (S6.lr.tk b7) _ _ hvt
    obtain ⟨f1, f2, f3⟩ := looseOk_facts hlo hO h900
    have v1 : VP n z (.str (mk z)) := ⟨z, _, _, rfl, by omega, hO, hX, hW, hG, hTW⟩
    have v2 : VP n z (.str (mk z2)) := ⟨z2, _, _, rfl, f1, f2, f3.trans hX, hW, hG, hTW⟩
    refine jnIf (fun x H8 => VP n z x ∧ LS K r a lt pl Pt ns told uu H8 ∧ TsA H8 (.ref vb) last) ?_ fun fi2 => ?_
    rotate_left
    · refine ⟨_, rfl, Nat.zero_le _, fun e he => ⟨lt, e, uu, rfl, rfl, SqL.of (Same.new he _ _ _ S7.ht), SqL.of upd_same, _, rfl, ?_⟩⟩
      have se := Same.new he (.lst [])
      have la8 : TsA (upd H7 e (.lst [])) (.ref vb) last := ⟨vb, vu, rfl, se _ _ hvb7, TsAt.keep (Same.tk se) _ _ hvt7⟩
      by_cases e0 : uu = []
      · rw [decide_eq_true e0]
        refine iteT ⟨_, rfl, vb, _, rfl, .inr (SqT.of (se _ _ hvb7)), rfl, _, rfl, ?_⟩
        by_cases e1 : last.len = 1
        · rw [show decide (V.int ((vu.length : Nat) : Int) = V.int 1) = true from decide_eq_true (by rw [hvl, e1]; rfl)]
          have t0 : told = [] := by
            rw [e0] at hdl
            exact List.eq_nil_of_length_eq_zero hdl.symm
          subst t0
          have hz2 : texts last = z := by
            rw [← hz]
            rfl
          obtain ⟨g1, g2, g3, g4⟩ := brack hg e1 (by rw [hz2]; exact h900)
          rw [hz2] at g1 g3 g4
          have hG2 : vOks [] n (norms last) := hG
          refine iteT ⟨_, rfl, _, _, rfl, rfl, ?_, _, _, rfl, rfl, ?_, ?_⟩
          · rw [k40]
            exact add_str (by show 1 + z.length ≤ 16000000; omega)
          · rw [k40, mk_app, k41]
            exact add_str (by rw [List.length_append]; show 1 + z.length + 1 ≤ 16000000; omega)
          · rw [k40, mk_app, k41, mk_app]
            refine fi2 _ _ ⟨⟨_, [], _, rfl, ?_, g4, g1, g2, ?_, g3⟩, S7.same se, la8⟩
            · rw [List.length_append, List.length_append]
              show 1 + z.length + 1 ≤ 2000
              omega
            · simp only [chkW, vOks, vOk]
              exact ⟨hG2, trivial⟩
        · rw [show decide (V.int ((vu.length : Nat) : Int) = V.int 1) = false from decide_eq_false (by intro w; rw [hvl] at w; exact e1 (by have := V.int.inj w; omega))]
          exact iteF ⟨_, rfl, fi2 _ _ ⟨v1, S7.same se, la8⟩⟩
      · rw [decide_eq_false e0]
        exact iteF (iteF ⟨_, rfl, fi2 _ _ ⟨v1, S7.same se, la8⟩⟩)
    rintro x H8 ⟨v3, S8, hla8⟩
    refine ⟨line3, fun L9 hL9 => ?_⟩
    have s9 := Same.new hL9 (.lst [.str (mk z), .str (mk z2), x])
    refine ⟨L9, rfl, ⟨_, SqL.of upd_same⟩, for_list (K := K) (a := L9) (xs := [.str (mk z), .str (mk z2), x]) (fun i σ' H' => ∃ x7 : Option V, σ' = [some (.ref a), some (.ref r), some (.ref lt), some (.ref pl), x4, none, some (.ref vb), x7, none, some (.int (n : Int)), some (.str (mk z)), none] ∧ LS K r a lt pl Pt ns told uu H' ∧ TsA H' (.ref vb) last ∧ H' L9 = some (.lst [.str (mk z), .str (mk z2), x]))
      ⟨none, rfl, S8.same s9, hla8.keep (Same.tk s9), upd_same⟩ (fun i σ' H' _ ⟨_, _, _, _, h⟩ => SqL.of h) ?_ ?_⟩
    · rintro i y σ' H' hy ⟨x7, rfl, S, hl, h9⟩
      have vy : VP n z y := by
        have hm := List.mem_of_getElem? hy
        rcases List.mem_cons.mp hm with e | hm
        · rw [e]; exact v1
        rcases List.mem_cons.mp hm with e | hm
        · rw [e]; exact v2
        rw [List.mem_singleton.mp hm]
        exact v3
      obtain ⟨y9, told9, last9, rfl, g1, g2, g3, g4, g5, g6⟩ := vy
      refine ⟨_, rfl, y9, n, told9, last9, rfl, g1, g2, g3, g4, g5, fun H' s' => ⟨_, rfl, rfl, _, rfl, ?_⟩⟩
      rw [g6, show (!decide (V.str (mk z) = V.str (mk z))) = false from by rw [decide_eq_true rfl]; rfl]
      exact iteF ⟨some (.str (mk y9)), rfl, S.same s', hl.keep (Same.tk s'), s' _ _ h9⟩
    · rintro σ' H' ⟨x7, rfl, S, hl, h9⟩
      exact fin _ _ ⟨x7, rfl, S, hl⟩
  rintro σ' H7 ⟨x7, rfl, S7, hla7⟩
  clear S6 hvb hvt hvl
  -- the rows that are due
  have nmN : ∀ s ∈ told.map (·.1), s ≠ [] := fun s hs => (nmO s hs).1
  refine jnX (fun σ' H' => ∃ (x4 x5 : Option V) (env : Envr) (g : Bool), σ' = [some (.ref a), some (.ref r), some (.ref lt), some (.ref pl), x4, x5, some (.ref vb), x7, none, some (.int (n : Int)), some (.str (mk z)), none] ∧ LR K H' r a ns ∧ PlAt H' pl (told.map (·.1)) env g ∧ EB env ∧ (g = false → rowW env0 told last = rowTs env last) ∧ (g = true → rowW env0 told last = none) ∧ TsA H' (.ref vb) last ∧ H' Pt = some (.tbl #[])) ?_ fun fin => ?_
  rotate_left
  · have npl : ∀ {b : Addr} {o : HO}, H7 b = some o → (∀ kvs, o ≠ .dK kvs) → b ≠ pl := fun e no w => by
      rw [w, S7.hp] at e
      exact no _ (Option.some.inj e).symm
    have tkb : ∀ {H' : Hp}, But pl H7 H' → TK H7 H' := fun b => b.tk fun xs e => by rw [S7.hp] at e; cases e
    refine ⟨_, rfl, lt, rfl, ⟨uu, SqL.of S7.ht⟩, for_list (K := K) (a := lt) (xs := uu) (fun i σ' H' => ∃ (x4 x5 : Option V) (env : Envr) (g : Bool), σ' = [some (.ref a), some (.ref r), some (.ref lt), some (.ref pl), x4, x5, some (.ref vb), x7, none, some (.int (n : Int)), some (.str (mk z)), none] ∧ But pl H7 H' ∧ PlAt H' pl ((told.take i).map (·.1)) env g ∧ EB env ∧ (g = false → rowW env0 told last = rowW env (told.drop i) last) ∧ (g = true → rowW env0 told last = none))
      ⟨x4, none, env0, false, rfl, But.refl _ _, ⟨_, S7.hp, ⟨Nat.le_refl 1, Nat.zero_le _⟩, rfl, fun s hs => (by cases hs)⟩, fun s r h => (by cases h), fun _ => rfl, fun w => (by cases w)⟩ (fun i σ' H' _ ⟨_, _, _, _, _, b, _⟩ => SqL.of (b _ _ S7.ht (npl S7.ht fun kvs e => by cases e))) ?_ ?_⟩
    · rintro i y σ' H' hy ⟨x4, x5, env, g, rfl, b, hP, hE, w1, w2⟩
      obtain ⟨p, hp, o5, u5, rfl, h5, h6⟩ := DsAt.get told uu S7.da i y hy
      have hm := List.mem_of_getElem? hp
      have hlt3 : i < told.length := (List.getElem?_eq_some_iff.mp hp).1
      obtain ⟨h1, N2, h2⟩ := G3.ok p hm
      have i1 := h2.hg
      have i2 := h2.ln
      have i3 := h2.wi
      have tk2 := tkb b
      have hsp : told = told.take i ++ p :: told.drop (i + 1) := by
        have e := (List.take_append_drop i told).symm
        rw [drop_of hp] at e
        exact e
      have ch := chkW_split (told.take i) (p :: told.drop (i + 1)) [] (by rw [← hsp]; exact G3.ch)
      rw [List.nil_append] at ch
      have nm9 : ∀ s ∈ (told.take i).map (·.1), s ≠ [] := fun s hs => by
        obtain ⟨q9, hq9, rfl⟩ := List.mem_map.mp hs
        exact (G3.ok q9 (List.mem_of_mem_take hq9)).1.1
      refine ⟨o5, _, rfl, SqT.of (tk2 _ _ h5), rfl, _, _, rfl, _, _, rfl, rfl, ?_⟩
      refine ⟨_, rfl, _, rfl, pl, u5, (told.take i).map (·.1), env, g, n, p.2, rfl, hP, nm9, hE, h6.keep tk2, ch.2.1, h2.po, by omega, by omega, by omega, fun H9 a2 xs g2 b9 hP9 ha2 hxl hre => ?_⟩
      have hx2 : g2 = false → xs.length ≤ 200 := fun e => by
        cases g with
        | true => rw [hre.1 rfl] at e; cases e
        | false => exact rowTs_le ((hre.2 rfl).1 e)
      obtain ⟨H10, d10, b10, hP10⟩ := pl_set (s := p.1) hP9 ha2 hxl hx2 (by rw [List.length_map, List.length_take]; omega) h1.1
      refine ⟨_, rfl, _, rfl, pl, H10, rfl, d10, some (.str (mk p.1)), some u5, setE env p.1 (xs.take 200), g2, rfl, (b.trans b9).trans b10, ?_, setE_le hE (by rw [List.length_take]; omega), fun e => ?_, fun e => ?_⟩
      · rw [List.take_add_one, hp, List.map_append]
        exact hP10
      · cases g with
        | true => rw [hre.1 rfl] at e; cases e
        | false =>
          have e3 := (hre.2 rfl).1 e
          rw [w1 rfl, drop_of hp]
          show (rowTs env p.2).bind _ = _
          rw [e3, List.take_of_length_le (hx2 e)]
          rfl
      · cases g with
        | true => exact w2 rfl
        | false =>
          have e3 := (hre.2 rfl).2 e
          rw [w1 rfl, drop_of hp]
          show (rowTs env p.2).bind _ = _
          rw [e3]
          rfl
    · rintro σ' H' ⟨x4, x5, env, g, rfl, b, hP, hE, w1, w2⟩
      rw [hdl, List.drop_length] at w1
      rw [hdl, List.take_length] at hP
      exact fin _ _ ⟨x4, x5, env, g, rfl, lr_dict S7.lr b S7.hp, hP, hE, w1, w2, hla7.keep (tkb b), b _ _ S7.tb (npl S7.tb fun kvs e => by cases e)⟩
  rintro σ' H8 ⟨x4, x5, env, g8, rfl, L8, hP8, hE, w1, w2, hla8, hPt8⟩
  have hgo := hg.hg
  have hgl := hg.ln
  have hgw := hg.wi
  refine ⟨_, rfl, _, rfl, pl, .ref vb, told.map (·.1), env, g8, n, last, rfl, hP8, nmN, hE, hla8, hg.vo, hg.po, by omega, by omega, by omega, fun H9 ad xs g b9 hP9 had hxl hre => ?_⟩
  obtain ⟨kv8, hk8⟩ := hP8.dict
  have L9 := lr_dict L8 b9 hk8
  have hPt9 : H9 Pt = some (.tbl #[]) := b9 _ _ hPt8 (fun e => by rw [e, hk8] at hPt8; cases hPt8)
  have good : g = false → rowW env0 told last = some xs ∧ xs.length ≤ 200 := fun e => by
    cases g8 with
    | true => rw [hre.1 rfl] at e; cases e
    | false =>
      have e3 := (hre.2 rfl).1 e
      exact ⟨by rw [w1 rfl, e3], rowTs_le e3⟩
  have bad : g = true → rowW env0 told last = none := fun e => by
    cases g8 with
    | true => exact w2 rfl
    | false => rw [w1 rfl, (hre.2 rfl).2 e]
  have nrm : rowW env0 (told.map normD) (norms last) = rowW env0 told last := norm_rowW told last env0 fun s r h => by cases h
  have tl9 : (told.map normD).length ≤ 900 := by rw [List.length_map]; omega
  clear hre w1 w2 hP8 L8 hPt8 S7
  dsimp only [gName]
  -- the error
  refine jnX (fun σ' H' => σ' = [some (.ref a), some (.ref r), some (.ref lt), some (.ref pl), x4, x5, some (.ref vb), x7, some (.ref ad), some (.int (n : Int)), some (.str (mk z)), none] ∧ LR K H' r a ns ∧ PlAt H' pl (told.map (·.1)) env g ∧ H' ad = some (.tup (rowL xs))) ?_ fun fin => ?_
  rotate_left
  · refine ⟨fun p hp => (by rw [List.mem_singleton.mp hp]; exact TabS.nil hPt9), fun H10 eN _ => ?_⟩
    have L10 := lr_ext L9 eN
    have P10 := pl_ext hP9 eN
    have ad10 := eN _ _ had (fun ps w => by cases w)
    refine ⟨_, rfl, _, rfl, n, z, told.map normD, norms last, rfl, hn1, hn2, by omega, hO, hX, hW, hG, tl9, fun r9 H11 t9 hr9 s11 ht9 => ?_, fun hno => ?_⟩
    · have hgf : g = false := by
        cases hg9 : g with
        | false => rfl
        | true =>
          rw [nrm, bad hg9] at hr9
          cases hr9
      subst hgf
      refine ⟨_, rfl, pl, .bl false, rfl, by rw [empty_is]; exact (P10.same s11).get, false, rfl, iteF ⟨_, _, .str _, .str _, str0_shaped, str0_shaped, _, rfl, ?_⟩⟩
      rw [str0_eqv]
      exact iteF (fin _ _ ⟨rfl, L10.same s11, P10.same s11, s11 _ _ ad10⟩)
    · have hgt : g = true := by
        cases hg9 : g with
        | true => rfl
        | false =>
          rw [nrm, (good hg9).1] at hno
          cases hno
      subst hgt
      intro d H12 s12 hd
      refine ⟨rfl, d, rfl, hd, fun H13 t s13 ht => ?_⟩
      have sA := s12.trans s13
      refine ⟨_, rfl, pl, .bl true, rfl, by rw [empty_is]; exact (P10.same sA).get, true, rfl, iteT ⟨line2, fun t2 ht2 => ?_⟩⟩
      have s14 := Same.new ht2 (.tup [.str "TooLong", .int 200])
      refine ⟨_, _, dp_err (s14 _ _ ht), dp_err upd_same, err_shaped, err_shaped, _, rfl, ?_⟩
      rw [err_eqv]
      have sB := sA.trans s14
      exact iteF (fin _ _ ⟨rfl, L10.same sB, P10.same sB, sB _ _ ad10⟩)
  rintro σ' H10 ⟨rfl, L10, P10, ad10⟩
  refine ⟨_, rfl, pl, .bl g, rfl, by rw [empty_is]; exact P10.get, g, rfl, ?_⟩
  cases g with
  | true => exact iteT (q _)
  | false =>
    obtain ⟨hrow, hx200⟩ := good rfl
    have hrow2 : rowW env0 (told.map normD) (norms last) = some xs := nrm.trans hrow
    refine iteF ⟨_, rfl, _, rfl, n, z, told.map normD, norms last, rfl, hn1, hn2, by omega, hO, hX, hW, hG, tl9, fun r9 H11 t9 hr9 s11 ht9 => ?_, fun hno => ?_⟩
    rotate_left
    · rw [hrow2] at hno
      cases hno
    rw [hrow2] at hr9
    obtain rfl := Option.some.inj hr9
    refine ⟨_, rfl, .inr ⟨rfl, t9, ad, xs, rfl, ht9, s11 _ _ ad10, by omega, fun H12 s12 => ⟨true, rfl, iteT ?_⟩⟩⟩
    have sA := s11.trans s12
    refine ⟨_, rfl, _, rfl, _, rfl, r, a, ns, z, rfl, L10.same sA, h900, fun H13 z3 L13 b13 hlo => ?_⟩
    obtain ⟨f1, f2, f3⟩ := looseOk_facts hlo hO h900
    have ad13 := (L10.same sA).tk b13 _ _ (sA _ _ ad10)
    refine ⟨n, z3, told.map normD, norms last, rfl, hn1, hn2, f1, f2, f3.trans hX, hW, hG, tl9, fun r9 H14 t9 hr9 s14 ht9 => ?_, fun hno => ?_⟩
    rotate_left
    · rw [hrow2] at hno
      cases hno
    rw [hrow2] at hr9
    obtain rfl := Option.some.inj hr9
    refine ⟨_, rfl, _, _, dp_rowD ht9, dp_rowD (s14 _ _ ad13), row_shaped _, row_shaped _, ?_⟩
    rw [row_eqv]
    exact q _
end
end KW
set_option Elab.async false
set_option linter.all false
set_option maxRecDepth 100000
set_option maxHeartbeats 4000000
/-! TooLong's own __init__: super().__init__(most); self.most = most. -/
namespace KW
open PySem PySem.Spec PyProof.Rows L2 KM LamX PySem.W PySem.Calls
abbrev mTL : Stmt := inClass (top 8) 0
abbrev fnTL (cc cda : Addr) (kV doc pm : Value) (an : Option Addr) (ct : Value) : FuncData := fnX "__init__" "TooLong.__init__" (defArgs mTL) (defBody mTL) (defScope mTL) [("__class__", cc)] .none kV doc pm an (.ref cda) ct
/-- what the written part says of TooLong, at C, and of its __init__, at fI -/
structure TLT (P : Program) (K : PySem.W.Frag) (mg : Str → Option Value) (C fI cc cda : Addr) : Prop where
  gC : mg "TooLong" = some (.ref C)
  sup : mg "super" = none
  cls : ∃ nm q N bs bm sn sub ab col dd k0 k1 k2 k3 k5, K.lookup C = some (excClassObj nm q C N bs bm true sn sub ab col dd k0 k1 k2 k3 k5 "ValueError.__new__") ∧ HandSPX.refsVE bm = true
  sa : findIn K (.ref C) "__setattr__" = some (some (.builtin "object.__setattr__"))
  noN : findIn K (.ref C) "most" = some none
  iC : findIn K (.ref C) "__init__" = some (some (.ref fI))
  tC : typeIn K (.ref fI) = some (.type "function")
  kC : keepIn K (.ref C) = true
  exC : subIn K (.ref C) (.type "BaseException") = some true
  tyC : typeIn K (.ref C) = some (.type "type")
  st : nsIn K cStatics "thirdparty.any" = some none
  su : ks_superIn K C C "__init__" = some (some (.builtin "ValueError.__init__"))
  isV : subIn K (.ref C) (.type "ValueError") = some true
  me : mroIn K C (.ref C) = some true
  cell : ∃ cl cld csl, K.lookup cc = some ⟨cl, cld, .cell (some (.ref C)), csl⟩
  code : ∃ ccl cdd vs ccs file tf, K.lookup cda = some ⟨ccl, cdd, .fields vs, ccs⟩ ∧ (vs[2]? : Option Value) = some (.str file tf) ∧ ((P.main.file : Str) == file) = true
  top : (P.main.scope.names.lookup ("super" : Str)).isSome = false
  fn : ∃ (oc : Value) (od : Option Addr) (kV doc pm : Value) (an : Option Addr) (ct : Value) (osl : Array (Option Value)), K.lookup fI = some ⟨oc, od, .func (fnTL cc cda kV doc pm an ct), osl⟩ ∧ codeIn K (.ref cda) "TooLong.__init__" = true
/-- what __init__ leaves of a fresh exception at x -/
structure TLEnd (h h' : Heap) (x C dx t1 : Addr) (v : Value) : Prop where
  keep : ∀ b o, b ≠ x → h.get? b = some o → h'.get? b = some o
  obj : h'.get? x = some { cls := .ref C, dict := some dx, data := .fields #[.ref t1, .none, .none, .none, .bool false, .none] }
  dbig : h.objs.size ≤ dx
  dne : dx ≠ x
  ns : h'.Ns1 dx (fun y => if y = "most" then some v else none)
section
variable {prog : Program} {w : World} {A : Around} {E : Value → Shared → Prop} {h : Heap} {g : Array GenState} {d : Drawn} {t : Nat} {os : OsState}
variable {nm q : Str} {C N : Addr} {bs bm : List Value} {hdct : Bool} {sn : List Str} {sub : List Value} {ab : Bool} {col : Option Bool} {dd : Option Addr} {k0 k1 k2 k3 k5 : Option Value}
theorem call_mwV {u e t0 : Addr} {rest : List Value} {Q : Value → Shared → Prop}
    (hC : h.get? C = some (excClassObj nm q C N bs bm hdct sn sub ab col dd k0 k1 k2 k3 k5 "ValueError.__new__")) (he : h.get? e = some (HandSPX.excO C t0)) (hu : h.get? u = some (kxs_mw "ValueError.__init__" e)) (hrest : rest.length ≤ sizeLine)
    (hq : ∀ h' t1, (∀ b o, b ≠ e → h.get? b = some o → h'.get? b = some o) → h'.get? e = some (HandSPX.excO C t1) → Q .none ⟨h', g, d, t, os⟩) :
    wpAny (model prog w) A (call (.ref u) rest) Q E ⟨h, g, d, t, os⟩ := by
  refine wpAny_call (codeAny_of_tree ?_)
  show wpAny _ A.in1 (callAny (.ref u) ⟨rest, []⟩) _ _ _
  simp only [callAny]
  refine wpAny_bind (wpAny_load hu ?_)
  simp only [kxs_mw, show (Value.type "method-wrapper" == Value.type "method" || Value.type "method-wrapper" == Value.type "builtin_function_or_method" || Value.type "method-wrapper" == Value.type "method-wrapper") = true by decide, if_true]
  refine KFB.if_so (by decide) ?_
  refine wpAny_bind (ESX.check_bound F.excBase_ValueError hC he rfl ?_)
  refine wpAny_bind (wpAny_pure (wpAny_pure ?_))
  refine ⟨plainId_quiet F.excBase_ValueError.init.plain _, codeAny_builtin F.excBase_ValueError.initEntry ?_⟩
  exact exc_init_tree (cls := .ref C) (t0 := t0) (dv := none) (c2 := .none) (c3 := .none) (b4 := .bool false) he hrest fun h' k e' _ => hq h' _ k e'
end
end KW
set_option Elab.async false
set_option linter.all false
set_option maxRecDepth 100000
set_option maxHeartbeats 4000000
/-! TooLong's own __init__ run. -/
namespace KW
open PySem PySem.Spec PyProof.Rows L2 KM LamX PySem.W PySem.Calls
section
variable {P : Program} {w : World} {A : Around} {E : Value → Shared → Prop} {R : Result → Shared → Prop} {s : Shared} {K : Frag} {mg mb : Str → Option Value} {C fI cc cda : Addr}
theorem tl_init (T : TLT P K mg C fI cc cda) {x t0 : Addr} {v : Value} (X : K.In s.heap) (hlim : s.heap.NoLimit) (G : s.heap.Ns mainGlobals mg) (B : s.heap.Ns builtinsNs mb) (hbb : ∀ x : Str, x ≠ "__name__" → mb x = bootBuiltins x)
    (hx : s.heap.get? x = some (HandSPX.excO C t0)) (hnx : K.lookup x = none) (hroom : A.depth < recursionLimit)
    (hq : ∀ h' tk dx t1, TLEnd s.heap h' x C dx t1 v → R (.ok (.ret .none)) { s with heap := h', toks := tk }) :
    codeAny (model P w) A (.call (.ref fI) ⟨[.ref x, v], []⟩) R s := by
  obtain ⟨oc, od, kV, doc, pm, an, ct, osl, ho, hcd⟩ := T.fn
  obtain ⟨nm, q, N, bs, bm, sn, sub, ab, col, dd, k0, k1, k2, k3, k5, hC, hbm⟩ := T.cls
  obtain ⟨cl, cld, csl, hcell⟩ := T.cell
  obtain ⟨ccl, cdd, vs, ccs, file, tf, hcode, hvs, hfile⟩ := T.code
  have hcl : clsIn K C = some { name := nm, bases := bs, mro := .ref C :: bm, ns := N, qualname := q, hasDict := true, slotNames := sn, subclasses := sub, abstract := ab, collection := col, hasDel := false } := by unfold clsIn; rw [hC] <;> rfl
  refine ks_codeAny_call_defAt (fd := fnTL cc cda kV doc pm an ct) (body := defBody mTL) (binds := [("self", .ref x), ("most", v)]) hroom (X _ _ ho) rfl hlim (codeRec_of X hcd) rfl (BindsTo.of_eq (by first | rfl | with_unfolding_all rfl)) (show ∀ y ∈ (defScope mTL).names, y.2 ≠ .cell by decide +kernel) (fun y hy => ?_) (fun h₁ hns₁ kp₁ => ?_) rfl rfl rfl
  · rcases List.mem_cons.mp hy with rfl | hy
    · show (defScope mTL).names.lookup ("self" : Str) = some .local
      decide +kernel
    · rw [List.mem_singleton.mp hy]
      show (defScope mTL).names.lookup ("most" : Str) = some .local
      decide +kernel
  have X₁ : K.In h₁ := X.keeps kp₁
  have hx₁ := kp₁ _ _ hx
  refine ks_wpAt_execs_cons (ks_wpAt_Expr_any (ks_wpAt_MethodCall ?_))
  refine ks_wpAt_super_base (f := fI) (cc := cda) (fd := fnTL cc cda kV doc pm an ct) (by rfl) (by rfl) (by decide +kernel) rfl (X₁ _ _ ho) rfl (by rfl) rfl (X₁ _ _ hcode) rfl hvs hfile T.top ?_
  refine ks_loadName_global (by rfl) (by rfl) (loadGlobal_builtin (G.keeps kp₁) T.sup (B.keeps kp₁) ((hbb _ (by decide +kernel)).trans (by decide +kernel : bootBuiltins "super" = some (.type "super"))) ⟨rfl, ?_⟩)
  refine wpAny_loadName_free (by rfl) (by rfl) (by rfl) ⟨_, X₁ _ _ hcell, rfl⟩ ?_
  refine wpAny_loadName_local (by rfl) (by rfl) hns₁ (by first | rfl | with_unfolding_all rfl) ?_
  refine ks_wpAny_isType_cls (X₁ _ _ hC) rfl ⟨rfl, ?_⟩
  have I₁ : InstAt h₁ x (HandSPX.excO C t0) C none := ⟨hx₁, rfl, rfl, trivial⟩
  refine ks_wpAny_call_super (X₁ _ _ hC) rfl hx₁ rfl (fun c e => by cases e) (looks_mroIn X₁ T.me) (fun h₂ e₂ kp₂ => ?_)
  have X₂ : K.In h₂ := X₁.keeps kp₂
  have hx₂ := kp₂ _ _ hx₁
  have I₂ : InstAt h₂ x (HandSPX.excO C t0) C none := ⟨hx₂, rfl, rfl, trivial⟩
  have hI : Looks (model P w) h₂ (isInstance (.ref x) (.type "ValueError")) true := I₂.type.andThen (looks_subIn X₂ T.isV)
  have hf : alongIn K "__init__" (((Value.ref C :: bm).dropWhile (· != .ref C)).drop 1) = some (some (.builtin "ValueError.__init__")) := by
    have e := T.su
    unfold ks_superIn at e
    rw [hcl] at e
    exact e
  refine kxs_getMethod kxs_ValueError e₂ (looks_opaque X₂ T.st) (fun A Q E s k q => wpAny_bind ((looks_clsIn X₂ hcl) A _ E s k (wpAny_pure q))) rfl X₂ hf hI (ks_ne X₂ I₂ hcl) (by decide +kernel) ?_
  have kp₃ : ∀ b o, h₂.get? b = some o → (h₂.push (kxs_mw "ValueError.__init__" x)).get? b = some o := fun b o e => Heap.get?_push_of_some _ e
  have kp₁₃ : ∀ b o, h₁.get? b = some o → (h₂.push (kxs_mw "ValueError.__init__" x)).get? b = some o := fun b o e => kp₃ b o (kp₂ b o e)
  have hns₃ := hns₁.keeps kp₁₃
  have X₃ : K.In (h₂.push (kxs_mw "ValueError.__init__" x)) := X₂.keeps kp₃
  have hu : (h₂.push (kxs_mw "ValueError.__init__" x)).get? h₂.objs.size = some (kxs_mw "ValueError.__init__" x) := Heap.get?_push_size _ rfl
  refine kxs_callWith (i := "ValueError.__init__") (x := x) (by rfl) (Calls.evalArgs_plain ?_)
  refine Calls.spliced_cons (wpAny_Name (wpAny_loadName_local (v := v) (by rfl) (by rfl) hns₃ (by first | rfl | with_unfolding_all rfl) ?_) (by decide +kernel))
  refine Calls.spliced_nil ⟨hu, ?_⟩
  refine call_mwV (X₃ _ _ hC) (kp₃ _ _ hx₂) hu (by show 1 ≤ sizeLine; decide) (fun h₄ t1 kp₄ hx₄ => ?_)
  -- self.most = most
  have ne₄ : ∀ b o, b ≠ x → h₁.get? b = some o → h₄.get? b = some o := fun b o hb e => kp₄ b o hb (kp₁₃ b o e)
  have X₄ : K.In h₄ := fun b o e => kp₄ b o (fun z => by rw [z, hnx] at e; cases e) (X₃ b o e)
  have hxL : s.heap.objs.size ≠ x := Nat.ne_of_gt (Heap.lt_size hx)
  have hns₄ : h₄.Ns s.heap.objs.size (fun y => ([(("self" : Str), Value.ref x), (("most" : Str), v)] : List (Str × Value)).reverse.lookup y) := by
    obtain ⟨oL, es, ep, e, r⟩ := hns₁
    exact ⟨oL, es, ep, ne₄ _ oL hxL e, r⟩
  refine wpAt_of_wpAny ?_
  refine wpAny_execs_cons (plainObj_wpAny_Assign_Attribute ?_)
  refine wpAny_Name (wpAny_loadName_local (v := v) (by rfl) (by rfl) hns₄ (by first | rfl | with_unfolding_all rfl) ?_) (by decide +kernel)
  refine wpAny_Name (wpAny_loadName_local (v := .ref x) (by rfl) (by rfl) hns₄ (by first | rfl | with_unfolding_all rfl) ?_) (by decide +kernel)
  refine set_plain X₄ (ox := HandSPX.excO C t1) (od := none) ⟨hx₄, rfl, rfl, trivial⟩ T.sa ?_
  refine HandSPX.exc_osa X₄ hx₄ hcl (show HandSPX.refsVE (.ref C :: bm) = true from hbm) rfl T.noN (fun h₆ tk₆ dx kp₆ dn dne hx₆ hn₆ => ?_)
  show wpAny _ _ (execs _ _) _ _ _
  refine wpAny_execs_nil (hq h₆ tk₆ dx t1 ⟨fun b o hb e => kp₆ b o hb (ne₄ b o hb (kp₁ b o e)), hx₆, ?_, dne, hn₆⟩)
  have z : s.heap.objs.size < h₄.objs.size := hns₄.lt
  exact Nat.le_of_lt (Nat.lt_of_lt_of_le z dn)
/-- a made TooLong -/
structure TLMade (h h' : Heap) (e C d : Addr) (v : Value) : Prop where
  keep : ∀ b o, h.get? b = some o → h'.get? b = some o
  new : h.objs.size ≤ e
  obj : ∃ oe vs, h'.get? e = some oe ∧ oe.cls = .ref C ∧ oe.dict = some d ∧ oe.data = .fields vs ∧ (vs[1]? : Option Value) = some .none
  dbig : h.objs.size ≤ d
  dne : d ≠ e
  ns : h'.Ns1 d (fun y => if y = "most" then some v else none)
theorem tl_made (T : TLT P K mg C fI cc cda) {v : Value} (X : K.In s.heap) (hlim : s.heap.NoLimit) (G : s.heap.Ns mainGlobals mg) (B : s.heap.Ns builtinsNs mb) (hbb : ∀ x : Str, x ≠ "__name__" → mb x = bootBuiltins x) (hroom : A.depth + 1 < recursionLimit)
    (hq : ∀ h' tk e d, TLMade s.heap h' e C d v → R (.ok (.ret (.ref e))) { s with heap := h', toks := tk }) :
    codeAny (model P w) A (.call (.ref C) ⟨[v], []⟩) R s := by
  obtain ⟨nm, q, N, bs, bm, sn, sub, ab, col, dd, k0, k1, k2, k3, k5, hC, hbm⟩ := T.cls
  obtain ⟨hp, g, dr, tk, os⟩ := s
  have k : ∀ b o, hp.get? b = some o → ((hp.push (kdv_tup [v])).push (HandSPX.excO C hp.objs.size)).get? b = some o := fun b o e => Heap.get?_push_of_some _ (Heap.get?_push_of_some _ e)
  have hget : ((hp.push (kdv_tup [v])).push (HandSPX.excO C hp.objs.size)).get? (hp.objs.size + 1) = some (HandSPX.excO C hp.objs.size) := by heap_get
  have hnx : K.lookup (hp.objs.size + 1) = none := by
    cases e : K.lookup (hp.objs.size + 1) with
    | none => rfl
    | some o =>
      have z : hp.get? (hp.objs.size + 1) = some o := X _ _ e
      exact absurd (Nat.lt_of_succ_lt (Heap.lt_size z)) (Nat.lt_irrefl _)
  refine HandSPX.call_own F.excBase_ValueError (fun X => HandSPX.refsVE_contains X bm hbm) (X _ _ hC) (looks_findIn X T.iC) (fun self => bind_fn X self T.tC) (by show 1 ≤ sizeLine; decide) ?_
  refine tl_init (s := ⟨(hp.push (kdv_tup [v])).push (HandSPX.excO C hp.objs.size), g, dr, tk, os⟩) T (X.keeps k) (hlim.keeps k) (G.keeps k) (B.keeps k) hbb hget hnx ?_ fun h' tk' dx t1 ⟨k', hx, dn, dne, hns⟩ => ?_
  · show A.depth + 1 < recursionLimit
    exact hroom
  · have old : ∀ b o, hp.get? b = some o → h'.get? b = some o := fun b o e => k' b o (Nat.ne_of_lt (Nat.lt_succ_of_lt (Heap.lt_size e))) (k b o e)
    have z : hp.objs.size ≤ dx := by
      have z2 : ((hp.push (kdv_tup [v])).push (HandSPX.excO C hp.objs.size)).objs.size ≤ dx := dn
      rw [Heap.size_push, Heap.size_push] at z2
      exact Nat.le_trans (Nat.le_trans (Nat.le_succ _) (Nat.le_succ _)) z2
    exact ⟨rfl, hq h' tk' (hp.objs.size + 1) dx ⟨old, Nat.le_succ _, ⟨_, _, hx, rfl, rfl, rfl, rfl⟩, z, dne, hns⟩⟩
end
theorem relO_most {v : V} {v' : Value} (r : L2.RelV v v') (f : Str) : RelO (List.lookup f [(("most" : Str), v)]) (if f = "most" then some v' else none) := by
  by_cases hw : f = "most"
  · rw [if_pos hw, show List.lookup f [(("most" : Str), v)] = some v from by rw [hw]; simp [List.lookup]]
    exact r
  · have qw : (f == ("most" : Str)) = false := by simpa using hw
    rw [if_neg hw, show List.lookup f [(("most" : Str), v)] = none from by simp [List.lookup, qw]]
    trivial
theorem tl_ok {P : Program} {w : World} {K : Frag} {mg : Str → Option Value} {base : Heap} {C fI cc cda : Addr} (T : TLT P K mg C fI cc cda) : TLOk P w K mg base C := by
  intro X hP hw hK hm hb hr a ta p pos ha hg he hpl
  subst hP hw hK hm
  intro pins s σ H Q I h
  refine wpAny_Call_Name_kw (ld_glob I hg T.gC ?_)
  refine PySem.W.callWith_K (h₀ := X.base) I.ok.mod.kin T.kC (thn (ha.run pos pins s σ H _ I h) fun us s1 hh => ?_) he hpl
  obtain ⟨vs, H1, I1, r1, v, ev, q1⟩ := hh
  subst ev
  refine ⟨I1.kIn, ?_⟩
  cases r1 with
  | cons rv rn =>
    rename_i v' us'
    cases rn
    show wpAny _ _ (call (.ref C) [v']) _ _ _
    have hlim := I1.nolimit
    obtain ⟨mb, hB, hbb⟩ := I.mod.blt
    have hG := I1.mod.glob.keeps I1.bk
    have hBk := hB.keeps I1.bk
    obtain ⟨hp, g, dr, tk, os⟩ := s1
    refine wpAny_call (tl_made T I1.kIn hlim hG hBk hbb (by have := hr.dp; omega) fun h' tk' e d M => ?_)
    show MkP X pins σ Q (.ref e) ⟨h', g, dr, tk', os⟩
    obtain ⟨oe, fv, hoe, hc, hd, hdat, h1⟩ := M.obj
    have hns := M.ns
    obtain ⟨G', g1, g2⟩ := restrict h' fun b => decide (b ≠ e)
    have gk : ∀ b, b ≠ e → G'.get? b = h'.get? b := fun b hb => g1 b (decide_eq_true hb)
    have ge : G'.get? e = none := g2 e (by simp)
    have old : ∀ b o, hp.get? b = some o → G'.get? b = some o := fun b o q => (gk b (Nat.ne_of_lt (Nat.lt_of_lt_of_le (Heap.lt_size q) M.new))).trans (M.keep b o q)
    have ob : ObjOk X.prog X.w (upd H1 d (.xd [(("most" : Str), v)])) G' d (.xd [(("most" : Str), v)]) :=
      ⟨_, hns.at (fun o q => (gk d M.dne).trans q), fun f => relO_most rv f⟩
    have J : Inv X pins σ (upd H1 d (.xd [(("most" : Str), v)])) ⟨G', g, dr, tk', os⟩ := I1.laid (t' := tk') old M.dbig ob
    refine ⟨e, oe, fv, ⟨G', g, dr, tk', os⟩, _, .ref C, some d, rfl, J, fun b o q => ?_, ge, hoe, ⟨hc, hd⟩, hdat, h1, ?_, rfl, I1.bare, raises_own T.exC T.tyC, q1 d (I1.hok.fresh M.dbig)⟩
    · by_cases hb : b = e
      · have q' : G'.get? b = some o := q
        rw [hb, ge] at q'; cases q'
      · exact (gk b hb).symm.trans q
    · rw [upd_ne (Ne.symm M.dne)]
      exact I1.hok.fresh M.new
end KW
set_option Elab.async false
set_option linter.all false
set_option maxRecDepth 100000
set_option maxHeartbeats 4000000
/-! What the head tells: the names' facts, TooLong's, the law's table. -/
namespace KW
open PySem PySem.Spec PyProof.Rows L2 KM LamX PySem.W
def asY (g : Addr → Option Obj) (n : Nat) : List Addr := He.asD g n ++ [cStatics]
/-! ### TooLong -/
def tC9 (K : Frag) : Addr := He.ga K "TooLong"
def tI9 (K : Frag) : Addr := He.ma K (tC9 K) "__init__"
def fdAt (K : Frag) (f : Addr) : Option FuncData := match K.lookup f with
  | some ⟨_, _, .func fd, _⟩ => some fd
  | _ => none
def tc9 (K : Frag) : Addr := match fdAt K (tI9 K) with
  | some fd => (match fd.closure with
    | (_, a) :: _ => a
    | _ => 0)
  | none => 0
def td9 (K : Frag) : Addr := match fdAt K (tI9 K) with
  | some fd => (match fd.code with
    | .ref a => a
    | _ => 0)
  | none => 0
abbrev TW : Type := Option (Str × Str × Arguments × FuncBody × Scope × Addr × Addr)
def tW (K : Frag) : TW := match fdAt K (tI9 K) with
  | some fd => some (fd.name, fd.qualname, fd.params, fd.body, fd.scope, fd.globals, fd.builtins)
  | none => none
def tV : TW := some ("__init__", "TooLong.__init__", defArgs mTL, .stmts (defBody mTL), defScope mTL, mainGlobals, builtinsNs)
def clsB (K : Frag) (C : Addr) : Bool := match K.lookup C with
  | some ⟨.type c, _, .cls cd, sl⟩ => decide (c = "type") && ((match cd.mro with
    | .ref C' :: bm => decide (C' = C) && HandSPX.refsVE bm
    | _ => false) && (cd.hasDict && (!cd.hasDel && (match sl.toList with
    | [_, _, _, _, some (.builtin n), _] => decide (n = "ValueError.__new__")
    | _ => false))))
  | _ => false
theorem clsB_ok {K : Frag} {C : Addr} (h : clsB K C = true) : ∃ nm q N bs bm sn sub ab col dd k0 k1 k2 k3 k5, K.lookup C = some (excClassObj nm q C N bs bm true sn sub ab col dd k0 k1 k2 k3 k5 "ValueError.__new__") ∧ HandSPX.refsVE bm = true := by
  unfold clsB at h
  cases q : K.lookup C with
  | none => rw [q] at h; cases h
  | some o =>
    obtain ⟨oc, od, dt, sl⟩ := o
    rw [q] at h
    cases oc with
    | type c =>
      cases dt with
      | cls cd =>
        obtain ⟨nm, bs, mro, ns, qn, hd, sn, sub, ab, col, del⟩ := cd
        obtain ⟨sl⟩ := sl
        have h2 := He.ba h
        obtain ⟨h1, h2⟩ := h2
        obtain ⟨h3, h4⟩ := He.ba h2
        obtain ⟨h5, h6⟩ := He.ba h4
        obtain ⟨h7, h8⟩ := He.ba h6
        dsimp only at h3 h5 h7 h8
        have e1 : c = "type" := of_decide_eq_true h1
        subst e1 h5
        have e7 : del = false := by simpa using h7
        subst e7
        split at h3
        · rename_i C' bm
          obtain ⟨g1, g2⟩ := He.ba h3
          have e2 : C' = C := of_decide_eq_true g1
          subst e2
          split at h8
          · rename_i k0 k1 k2 k3 n k5
            have e3 : n = "ValueError.__new__" := of_decide_eq_true h8
            subst e3
            exact ⟨nm, qn, ns, bs, bm, sn, sub, ab, col, od, k0, k1, k2, k3, k5, rfl, g2⟩
          · cases h8
        · cases h3
      | _ => cases h
    | _ => cases dt <;> cases h
def cellB (K : Frag) (c C : Addr) : Bool := match K.lookup c with
  | some ⟨_, _, .cell (some (.ref D)), _⟩ => decide (D = C)
  | _ => false
theorem cellB_ok {K : Frag} {c C : Addr} (h : cellB K c C = true) : ∃ cl cld csl, K.lookup c = some ⟨cl, cld, .cell (some (.ref C)), csl⟩ := by
  unfold cellB at h
  split at h
  · rename_i cl cld D csl q
    have e : D = C := of_decide_eq_true h
    subst e
    exact ⟨cl, cld, csl, q⟩
  · cases h
def fileB (K : Frag) (c : Addr) (file : Str) : Bool := match K.lookup c with
  | some ⟨_, _, .fields vs, _⟩ => (match (vs[2]? : Option Value) with
    | some (.str f _) => file == f
    | _ => false)
  | _ => false
theorem fileB_ok {K : Frag} {c : Addr} {file : Str} (h : fileB K c file = true) : ∃ ccl cdd vs ccs f tf, K.lookup c = some ⟨ccl, cdd, .fields vs, ccs⟩ ∧ (vs[2]? : Option Value) = some (.str f tf) ∧ (file == f) = true := by
  unfold fileB at h
  split at h
  · rename_i ccl cdd vs ccs q
    split at h
    · rename_i f tf q2
      exact ⟨ccl, cdd, vs, ccs, f, tf, q, q2, h⟩
    · cases h
  · cases h
def fnB (K : Frag) : Bool := match fdAt K (tI9 K) with
  | some fd => decide (fd.closure = [(("__class__" : Str), tc9 K)]) && (decide (fd.defaults = .none) && (decide (fd.code = .ref (td9 K)) && codeIn K fd.code "TooLong.__init__"))
  | none => false
theorem fn_ok {K : Frag} (e : tW K = tV) (h : fnB K = true) : ∃ (oc : Value) (od : Option Addr) (kV doc pm : Value) (an : Option Addr) (ct : Value) (osl : Array (Option Value)), K.lookup (tI9 K) = some ⟨oc, od, .func (fnTL (tc9 K) (td9 K) kV doc pm an ct), osl⟩ ∧ codeIn K (.ref (td9 K)) "TooLong.__init__" = true := by
  unfold fnB at h
  unfold tW at e
  cases q : fdAt K (tI9 K) with
  | none => rw [q] at h; cases h
  | some fd =>
    rw [q] at h e
    obtain ⟨h1, h2⟩ := He.ba h
    obtain ⟨h3, h4⟩ := He.ba h2
    obtain ⟨h5, h6⟩ := He.ba h4
    have e1 := of_decide_eq_true h1
    have e3 := of_decide_eq_true h3
    have e5 := of_decide_eq_true h5
    obtain ⟨n1, n2, n3, n4, n5, n6, n7, n8, n9, n10, n11, n12, n13, n14, n15⟩ := fd
    dsimp only at e1 e3 e5 h6
    subst e1 e3 e5
    have e9 : some (n1, n2, n3, n4, n5, n6, n15) = tV := e
    unfold tV at e9
    injection e9 with e9
    simp only [Prod.mk.injEq] at e9
    obtain ⟨a1, a2, a3, a4, a5, a6, a7⟩ := e9
    subst a1 a2 a3 a4 a5 a6 a7
    unfold fdAt at q
    split at q
    · rename_i oc od fd osl lk
      injection q with q
      subst q
      exact ⟨oc, od, n9, n10, n11, n12, n14, osl, lk, h6⟩
    · cases q
/-- all of TooLong's facts, as one Bool -/
def exL (file : Str) (K : Frag) : List Bool := [
  clsB K (tC9 K), He.eqO (findIn K (.ref (tC9 K)) "__setattr__") (some (some (.builtin "object.__setattr__"))), He.eqO (findIn K (.ref (tC9 K)) "most") (some none),
  He.eqO (findIn K (.ref (tC9 K)) "__init__") (some (some (.ref (tI9 K)))), decide (typeIn K (.ref (tI9 K)) = some (.type "function")), keepIn K (.ref (tC9 K)),
  decide (subIn K (.ref (tC9 K)) (.type "BaseException") = some true), decide (typeIn K (.ref (tC9 K)) = some (.type "type")), He.eqO (nsIn K cStatics "thirdparty.any") (some none),
  He.eqO (ks_superIn K (tC9 K) (tC9 K) "__init__") (some (some (.builtin "ValueError.__init__"))), decide (subIn K (.ref (tC9 K)) (.type "ValueError") = some true), decide (mroIn K (tC9 K) (.ref (tC9 K)) = some true),
  cellB K (tc9 K) (tC9 K), fileB K (td9 K) file, fnB K,
  decide (exmOne K (.ref (tC9 K)) (.ref (tC9 K)) = some true), isClsIn K (tC9 K), xfB K (tC9 K), decide (kitOne K (.ref (tC9 K)) (.type "ValueError") = some true),
  He.eqO (findIn K (.ref (tC9 K)) "__getattribute__") (some (some (.builtin "BaseException.__getattribute__"))), He.eqO (findIn K (.ref (tC9 K)) "__getattr__") (some none), hasDictIn K (tC9 K),
  He.eqO (findIn K (.ref (tC9 K)) "__class__") (some (some (.builtin "object.__class__"))), He.eqO (specialIn K (.builtin "object.__class__") "__get__") (some (some (.builtin "getset_descriptor.__get__"))),
  decide (takesIn K (.builtin "object.__class__") = some true), decide (mroIn K (tC9 K) (.type "object") = some true)]
def exY (file : Str) (K : Frag) : Bool := (exL file K).all id
theorem exY_get {file : Str} {K : Frag} (h : exY file K = true) (i : Nat) {b : Bool} (e : (exL file K)[i]? = some b) : b = true := List.all_eq_true.mp h b (List.mem_of_getElem? e)
theorem tlt_of {P : Program} {K : Frag} {mg : Str → Option Value} (h : exY P.main.file K = true) (e : tW K = tV) (gC : mg "TooLong" = some (.ref (tC9 K))) (sup : mg "super" = none) (top : (P.main.scope.names.lookup ("super" : Str)).isSome = false) :
    TLT P K mg (tC9 K) (tI9 K) (tc9 K) (td9 K) where
  gC := gC
  sup := sup
  cls := clsB_ok (exY_get h 0 rfl)
  sa := He.eqO_ok (exY_get h 1 rfl)
  noN := He.eqO_ok (exY_get h 2 rfl)
  iC := He.eqO_ok (exY_get h 3 rfl)
  tC := of_decide_eq_true (exY_get h 4 rfl)
  kC := exY_get h 5 rfl
  exC := of_decide_eq_true (exY_get h 6 rfl)
  tyC := of_decide_eq_true (exY_get h 7 rfl)
  st := He.eqO_ok (exY_get h 8 rfl)
  su := He.eqO_ok (exY_get h 9 rfl)
  isV := of_decide_eq_true (exY_get h 10 rfl)
  me := of_decide_eq_true (exY_get h 11 rfl)
  cell := cellB_ok (exY_get h 12 rfl)
  code := fileB_ok (exY_get h 13 rfl)
  top := top
  fn := fn_ok e (exY_get h 14 rfl)
theorem tlx_of {file : Str} {K : Frag} {mg : Str → Option Value} (h : exY file K = true) (gC : mg "TooLong" = some (.ref (tC9 K))) (isi : mg "isinstance" = none) (VE : mg "ValueError" = none) : TLx K mg (tC9 K) where
  gC := gC
  te := of_decide_eq_true (exY_get h 15 rfl)
  ex := ⟨He.eqO_ok (exY_get h 19 rfl), He.eqO_ok (exY_get h 20 rfl), of_decide_eq_true (exY_get h 6 rfl), exY_get h 21 rfl, He.eqO_ok (exY_get h 22 rfl), He.eqO_ok (exY_get h 23 rfl), of_decide_eq_true (exY_get h 24 rfl), of_decide_eq_true (exY_get h 25 rfl)⟩
  ic := exY_get h 16 rfl
  xf := xfB_ok (exY_get h 17 rfl)
  nm := He.eqO_ok (exY_get h 2 rfl)
  ve := of_decide_eq_true (exY_get h 18 rfl)
  isi := isi
  VE := VE
/-! ### the Hook -/
abbrev AlY : Type := He.AlX × TW
def obsY (file : Str) (fa : List He.Fa) (fn : List He.DefD) (tf : List He.Defn) (g : Addr → Option Obj) : AlY :=
  ((He.obsT fa fn [] (He.frT g (asY g 5)), exY file (He.frT g (asY g 5)) && He.tabsB g tf (He.frT g (asY g 5))), tW (He.frT g (asY g 5)))
def valY (fn : List He.DefD) (w : World) : AlY := (He.valX fn [] w, tV)
theorem saysY_of {file : Str} {fa : List He.Fa} {fn : List He.DefD} {tf : List He.Defn} {w : World} {h : Heap} (e : obsY file fa fn tf h.get? = valY fn w) :
    He.SaysX fa fn [] tf (exY file) w h (He.frT h.get? (asY h.get? 5)) ∧ tW (He.frT h.get? (asY h.get? 5)) = tV := by
  have e0 : tW (He.frT h.get? (asY h.get? 5)) = tV := congrArg (fun z : AlY => z.2) e
  have e1 : He.obsT fa fn [] (He.frT h.get? (asY h.get? 5)) = He.valT fn [] w := congrArg (fun z : AlY => z.1.1) e
  have e2 : (exY file (He.frT h.get? (asY h.get? 5)) && He.tabsB h.get? tf (He.frT h.get? (asY h.get? 5))) = true := congrArg (fun z : AlY => z.1.2) e
  generalize hK : He.frT h.get? (asY h.get? 5) = K at e0 e1 e2
  obtain ⟨h1, h2⟩ := He.ba e2
  have key : ∀ p ∈ tf, codeHdIn K (He.cT K p).1 (He.cT K p).2 = true ∧ ∃ o, h.get? (He.cT K p).2 = some o ∧ He.emptyTab o = true := fun p hp => by
    obtain ⟨h3, h4⟩ := He.ba (List.all_eq_true.mp h2 p hp)
    refine ⟨h3, ?_⟩
    cases q : h.get? (He.cT K p).2 with
    | none =>
      rw [q] at h4
      cases h4
    | some o =>
      rw [q] at h4
      exact ⟨o, rfl, h4⟩
  refine ⟨⟨e1, h1, fun p hp => (key p hp).1, fun p hp => ?_, fun p hp => ?_⟩, e0⟩
  · obtain ⟨_, o, q, z⟩ := key p hp
    rw [← hK] at q ⊢
    exact He.frT_none q z
  · obtain ⟨_, o, q, z⟩ := key p hp
    rw [q, He.emptyTab_eq z]
def hookY (file : Str) (fa : List He.Fa) (fn : List He.DefD) (tf : List He.Defn) : PySem.W.Hook where
  α := AlY
  obs := fun s => obsY file fa fn tf s.heap.get?
  val := fun w => valY fn w
  says := fun w h => ∃ K : Frag, K.In h ∧ He.SaysX fa fn [] tf (exY file) w h K ∧ tW K = tV
  of := fun _ _ e => ⟨_, He.frT_in, saysY_of e⟩
  keeps := fun _ _ _ ⟨K, hK, c, c2⟩ k => ⟨K, PySem.W.Frag.In.keeps hK k, ⟨c.t, c.more, c.hd, c.out, fun p hp => k _ _ (c.empty p hp)⟩, c2⟩
theorem obsY_eq {file : Str} {fa : List He.Fa} {fn : List He.DefD} {tf : List He.Defn} {g : Addr → Option Obj} {s : Shared} (h : ∀ a, g a = s.heap.get? a) : obsY file fa fn tf g = (hookY file fa fn tf).obs s := by
  have e : g = s.heap.get? := funext h
  rw [e] <;> rfl
end KW
set_option Elab.async false
set_option linter.all false
set_option maxRecDepth 100000
set_option maxHeartbeats 0
/-! The head's run. -/
namespace KW
open PySem PySem.Spec PyProof.Rows L2
def fa0 : List He.Fa := [.glo "WebError", .glo "BadCount", .glo "NotText", .glo "InvalidText", .glo "Twice", .glo "Unknown", .glo "NoSuchNode", .glo "TooLong", .glo "is_integer", .glo "is_from", .glo "need_count", .glo "words_of", .glo "is_name", .glo "is_number", .glo "Reading", .glo "need_things", .glo "need_thing", .glo "tree_of", .glo "short", .glo "row_of_thing", .glo "row_of_things", .glo "row_of", .glo "thing_text", .glo "things_text", .glo "printed", .glo "_law_taken", .glo "_law_pick", .glo "_law_alike", .glo "_law_thing", .glo "_law_things"]
def fa1 : List He.Fa := [.glo "_law_thing_text", .glo "_law_things_text", .glo "_law_thing_row", .glo "_law_things_row", .glo "_law_error", .glo "_law_loose", .glo "law", .free "len", .free "isinstance", .free "int", .free "str", .free "bool", .free "list", .free "tuple", .free "dict", .free "range", .free "sorted", .free "enumerate", .free "ValueError", .free "super", .int "MOST_NODES" 6, .int "MOST_TURNS" 200, .int "MOST_SIGNS" 2000, .int "MOST_DEEP" 30, .str "LETTERS" "abcdefghijklmnopqrstuvwxyz", .str "FIGURES" "0123456789", .str "SINGLE" "()[],;=^~", .cls "Reading", .mkr "Reading", .noat "Reading" "words"]
def fa2 : List He.Fa := [.noat "Reading" "at", .noat "Reading" "deep", .meth "Reading" "word", .meth "Reading" "wrong", .meth "Reading" "take", .meth "Reading" "need", .meth "Reading" "enter", .meth "Reading" "leave", .meth "Reading" "things", .meth "Reading" "thing", .meth "Reading" "plain", .meth "Reading" "whole"]
def fa : List He.Fa := fa0 ++ fa1 ++ fa2
def loose0 : List PySem.Str := ["WebError", "BadCount", "NotText", "InvalidText", "Twice", "Unknown", "NoSuchNode", "TooLong", "is_integer", "is_from", "need_count", "words_of", "is_name", "is_number", "Reading", "need_things", "need_thing", "tree_of", "short", "row_of_thing", "row_of_things", "row_of", "thing_text", "things_text", "printed", "_law_taken", "_law_pick", "_law_alike", "_law_thing", "_law_things"]
def loose1 : List PySem.Str := ["_law_thing_text", "_law_things_text", "_law_thing_row", "_law_things_row", "_law_error", "_law_loose", "MOST_NODES", "MOST_TURNS", "MOST_SIGNS", "MOST_DEEP", "LETTERS", "FIGURES", "SINGLE"]
def loose : List PySem.Str := loose0 ++ loose1

def tf : List He.Defn := [("law", none)]
abbrev R : PySem.W.OpenRow := PySem.W.OpenLaw.row PySem.Challenge.rw_dartwebs_k02_whole_row_texts
abbrev Pr : Program := (PySem.Challenge.rw_dartwebs_k02_whole_row_texts).prog
def fl : Str := Pr.main.file
abbrev hk : PySem.W.Hook := hookY fl fa dfs tf
def ob (s : PySem.W.SharedT) : AlY := obsY fl fa dfs tf (HandSHeadRun.getT s)
theorem ob_eq (s : PySem.W.SharedT) : ob s = hk.obs s.abs := obsY_eq (HandSHeadRun.getT_eq s)
theorem run (w : World) : HandSHeadRun.RunEq R (PySem.W.view R.prog [47]) hk ob 6000 loose w := by
  intro os
  kernel_rfl
end KW
set_option Elab.async false
set_option linter.all false
set_option maxRecDepth 100000
set_option maxHeartbeats 4000000
/-! All that law calls, from what the head tells. -/
namespace KW
open PySem PySem.Spec PyProof.Rows L2 KM LamX
section
variable {P : Program} {w : World} {K : PySem.W.Frag} {mg : Str → Option Value} {base h : Heap}
theorem def_of {st : Stmt} {x : Str} {ps : List Str} (X : K.In h) (G : h.Ns mainGlobals mg) (c : He.SaysD fa dfs K) (i j : Nat) (hd : dfs[i]? = some ⟨(x, none), x, x, defArgs st, defBody st, defScope st, [], []⟩) (hg : fa[j]? = some (.glo x))
    (hb : ∀ (kV doc pm : Value) (an : Option Addr) (cdv ct : Value) (us : List Value), us.length = ps.length → bindArgs (PySem.W.fnOf x x (defArgs st) (defBody st) (defScope st) .none kV doc pm an cdv ct) ⟨us, []⟩ = pure (ps.zip us)) :
    ∃ fd, Fun K x x st (He.ga K x) fd ∧ mg x = some (.ref (He.ga K x)) ∧ Binds K fd ps [] := by
  obtain ⟨fd, F⟩ := c.def_ i hd
  have F2 : Fun K x x st (He.ga K x) fd := He5.fun_of F
  exact ⟨fd, F2, He.glo_ok X G (c.fact j hg), F2.binds hb⟩
theorem meth_of {st : Stmt} {m q : Str} {ps : List Str} (c : He.SaysD fa dfs K) (i : Nat) (hd : dfs[i]? = some ⟨("Reading", some m), m, q, defArgs st, defBody st, defScope st, [], []⟩)
    (hb : ∀ (kV doc pm : Value) (an : Option Addr) (cdv ct : Value) (us : List Value), us.length = ps.length → bindArgs (PySem.W.fnOf m q (defArgs st) (defBody st) (defScope st) .none kV doc pm an cdv ct) ⟨us, []⟩ = pure (ps.zip us)) :
    ∃ fd, Fun K m q st (He.ma K (He.ga K "Reading") m) fd ∧ Binds K fd ps [] := by
  obtain ⟨fd, F⟩ := c.def_ i hd
  have F2 : Fun K m q st (He.ma K (He.ga K "Reading") m) fd := He5.fun_of F
  exact ⟨fd, F2, F2.binds hb⟩
theorem tx_of (X : K.In h) (G : h.Ns mainGlobals mg) (c : He.SaysD fa dfs K) : TX K mg (He.ga K "Reading") where
  len := He.free_ok X G (c.fact 37 (f := .free "len") rfl)
  int := He.free_ok X G (c.fact 39 (f := .free "int") rfl)
  str := He.free_ok X G (c.fact 40 (f := .free "str") rfl)
  bool := He.free_ok X G (c.fact 41 (f := .free "bool") rfl)
  list := He.free_ok X G (c.fact 42 (f := .free "list") rfl)
  tuple := He.free_ok X G (c.fact 43 (f := .free "tuple") rfl)
  dict := He.free_ok X G (c.fact 44 (f := .free "dict") rfl)
  range := He.free_ok X G (c.fact 45 (f := .free "range") rfl)
  sorted := He.free_ok X G (c.fact 46 (f := .free "sorted") rfl)
  enum := He.free_ok X G (c.fact 47 (f := .free "enumerate") rfl)
  isi := He.free_ok X G (c.fact 38 (f := .free "isinstance") rfl)
  VE := He.free_ok X G (c.fact 48 (f := .free "ValueError") rfl)
  LET := He.str_ok X G (c.fact 54 (f := .str "LETTERS" "abcdefghijklmnopqrstuvwxyz") rfl)
  FIG := He.str_ok X G (c.fact 55 (f := .str "FIGURES" "0123456789") rfl)
  SIN := He.str_ok X G (c.fact 56 (f := .str "SINGLE" "()[],;=^~") rfl)
  nodes := He.int_ok X G (c.fact 50 (f := .int "MOST_NODES" 6) rfl)
  turns := He.int_ok X G (c.fact 51 (f := .int "MOST_TURNS" 200) rfl)
  signs := He.int_ok X G (c.fact 52 (f := .int "MOST_SIGNS" 2000) rfl)
  deep := He.int_ok X G (c.fact 53 (f := .int "MOST_DEEP" 30) rfl)
  cl := He.cls_ok (c.fact 57 (f := .cls "Reading") rfl)
  nW := He.noat_ok (c.fact 59 (f := .noat "Reading" "words") rfl)
  nA := He.noat_ok (c.fact 60 (f := .noat "Reading" "at") rfl)
  nD := He.noat_ok (c.fact 61 (f := .noat "Reading" "deep") rfl)
  mgC := He.glo_ok X G (c.fact 14 (f := .glo "Reading") rfl)
theorem kit_of (X : K.In h) (G : h.Ns mainGlobals mg) (c : He.SaysD fa dfs K) (hY : exY P.main.file K = true) (hW : tW K = tV) (htop : (P.main.scope.names.lookup ("super" : Str)).isSome = false) : Kit P w K mg base (He.ga K "Reading") (tC9 K) := by
  have T := tx_of X G c
  obtain ⟨d_is_integer, F_is_integer, m_is_integer, b_is_integer⟩ := def_of (st := sis_integer) (x := "is_integer") (ps := ["value"]) X G c 0 8 rfl rfl (fun _ _ _ _ _ _ us hl => match us, hl with | [_], _ => rfl)
  obtain ⟨d_is_from, F_is_from, m_is_from, b_is_from⟩ := def_of (st := sis_from) (x := "is_from") (ps := ["value", "low", "high"]) X G c 1 9 rfl rfl (fun _ _ _ _ _ _ us hl => match us, hl with | [_, _, _], _ => rfl)
  obtain ⟨d_need_count, F_need_count, m_need_count, b_need_count⟩ := def_of (st := sneed_count) (x := "need_count") (ps := ["value"]) X G c 2 10 rfl rfl (fun _ _ _ _ _ _ us hl => match us, hl with | [_], _ => rfl)
  obtain ⟨d_words_of, F_words_of, m_words_of, b_words_of⟩ := def_of (st := swords_of) (x := "words_of") (ps := ["text"]) X G c 3 11 rfl rfl (fun _ _ _ _ _ _ us hl => match us, hl with | [_], _ => rfl)
  obtain ⟨d_is_name, F_is_name, m_is_name, b_is_name⟩ := def_of (st := sis_name) (x := "is_name") (ps := ["word"]) X G c 4 12 rfl rfl (fun _ _ _ _ _ _ us hl => match us, hl with | [_], _ => rfl)
  obtain ⟨d_is_number, F_is_number, m_is_number, b_is_number⟩ := def_of (st := sis_number) (x := "is_number") (ps := ["word"]) X G c 5 13 rfl rfl (fun _ _ _ _ _ _ us hl => match us, hl with | [_], _ => rfl)
  obtain ⟨d_need_things, F_need_things, m_need_things, b_need_things⟩ := def_of (st := sneed_things) (x := "need_things") (ps := ["names", "n", "things"]) X G c 6 15 rfl rfl (fun _ _ _ _ _ _ us hl => match us, hl with | [_, _, _], _ => rfl)
  obtain ⟨d_need_thing, F_need_thing, m_need_thing, b_need_thing⟩ := def_of (st := sneed_thing) (x := "need_thing") (ps := ["names", "n", "thing"]) X G c 7 16 rfl rfl (fun _ _ _ _ _ _ us hl => match us, hl with | [_, _, _], _ => rfl)
  obtain ⟨d_tree_of, F_tree_of, m_tree_of, b_tree_of⟩ := def_of (st := stree_of) (x := "tree_of") (ps := ["text", "n"]) X G c 8 17 rfl rfl (fun _ _ _ _ _ _ us hl => match us, hl with | [_, _], _ => rfl)
  obtain ⟨d_short, F_short, m_short, b_short⟩ := def_of (st := sshort) (x := "short") (ps := ["row"]) X G c 9 18 rfl rfl (fun _ _ _ _ _ _ us hl => match us, hl with | [_], _ => rfl)
  obtain ⟨d_row_of_thing, F_row_of_thing, m_row_of_thing, b_row_of_thing⟩ := def_of (st := srow_of_thing) (x := "row_of_thing") (ps := ["known", "thing"]) X G c 10 19 rfl rfl (fun _ _ _ _ _ _ us hl => match us, hl with | [_, _], _ => rfl)
  obtain ⟨d_row_of_things, F_row_of_things, m_row_of_things, b_row_of_things⟩ := def_of (st := srow_of_things) (x := "row_of_things") (ps := ["known", "things"]) X G c 11 20 rfl rfl (fun _ _ _ _ _ _ us hl => match us, hl with | [_, _], _ => rfl)
  obtain ⟨d_row_of, F_row_of, m_row_of, b_row_of⟩ := def_of (st := srow_of) (x := "row_of") (ps := ["n", "text"]) X G c 12 21 rfl rfl (fun _ _ _ _ _ _ us hl => match us, hl with | [_, _], _ => rfl)
  obtain ⟨d_thing_text, F_thing_text, m_thing_text, b_thing_text⟩ := def_of (st := sthing_text) (x := "thing_text") (ps := ["thing"]) X G c 13 22 rfl rfl (fun _ _ _ _ _ _ us hl => match us, hl with | [_], _ => rfl)
  obtain ⟨d_things_text, F_things_text, m_things_text, b_things_text⟩ := def_of (st := sthings_text) (x := "things_text") (ps := ["things"]) X G c 14 23 rfl rfl (fun _ _ _ _ _ _ us hl => match us, hl with | [_], _ => rfl)
  obtain ⟨d_printed, F_printed, m_printed, b_printed⟩ := def_of (st := sprinted) (x := "printed") (ps := ["text"]) X G c 15 24 rfl rfl (fun _ _ _ _ _ _ us hl => match us, hl with | [_], _ => rfl)
  obtain ⟨d_l_taken, F_l_taken, m_l_taken, b_l_taken⟩ := def_of (st := s_law_taken) (x := "_law_taken") (ps := ["_law_row", "_law_many"]) X G c 16 25 rfl rfl (fun _ _ _ _ _ _ us hl => match us, hl with | [_, _], _ => rfl)
  obtain ⟨d_l_pick, F_l_pick, m_l_pick, b_l_pick⟩ := def_of (st := s_law_pick) (x := "_law_pick") (ps := ["_law_row", "_law_things_here"]) X G c 17 26 rfl rfl (fun _ _ _ _ _ _ us hl => match us, hl with | [_, _], _ => rfl)
  obtain ⟨d_l_alike, F_l_alike, m_l_alike, b_l_alike⟩ := def_of (st := s_law_alike) (x := "_law_alike") (ps := ["_law_found", "_law_due"]) X G c 18 27 rfl rfl (fun _ _ _ _ _ _ us hl => match us, hl with | [_, _], _ => rfl)
  obtain ⟨d_l_thing, F_l_thing, m_l_thing, b_l_thing⟩ := def_of (st := s_law_thing) (x := "_law_thing") (ps := ["_law_row", "_law_names", "_law_n", "_law_deep"]) X G c 19 28 rfl rfl (fun _ _ _ _ _ _ us hl => match us, hl with | [_, _, _, _], _ => rfl)
  obtain ⟨d_l_things, F_l_things, m_l_things, b_l_things⟩ := def_of (st := s_law_things) (x := "_law_things") (ps := ["_law_row", "_law_names", "_law_n", "_law_deep"]) X G c 20 29 rfl rfl (fun _ _ _ _ _ _ us hl => match us, hl with | [_, _, _, _], _ => rfl)
  obtain ⟨d_l_thing_text, F_l_thing_text, m_l_thing_text, b_l_thing_text⟩ := def_of (st := s_law_thing_text) (x := "_law_thing_text") (ps := ["_law_thing_here"]) X G c 21 30 rfl rfl (fun _ _ _ _ _ _ us hl => match us, hl with | [_], _ => rfl)
  obtain ⟨d_l_things_text, F_l_things_text, m_l_things_text, b_l_things_text⟩ := def_of (st := s_law_things_text) (x := "_law_things_text") (ps := ["_law_things_here"]) X G c 22 31 rfl rfl (fun _ _ _ _ _ _ us hl => match us, hl with | [_], _ => rfl)
  obtain ⟨d_l_thing_row, F_l_thing_row, m_l_thing_row, b_l_thing_row⟩ := def_of (st := s_law_thing_row) (x := "_law_thing_row") (ps := ["_law_place", "_law_thing_here"]) X G c 23 32 rfl rfl (fun _ _ _ _ _ _ us hl => match us, hl with | [_, _], _ => rfl)
  obtain ⟨d_l_things_row, F_l_things_row, m_l_things_row, b_l_things_row⟩ := def_of (st := s_law_things_row) (x := "_law_things_row") (ps := ["_law_place", "_law_things_here"]) X G c 24 33 rfl rfl (fun _ _ _ _ _ _ us hl => match us, hl with | [_, _], _ => rfl)
  obtain ⟨d_l_error, F_l_error, m_l_error, b_l_error⟩ := def_of (st := s_law_error) (x := "_law_error") (ps := ["_law_call"]) X G c 25 34 rfl rfl (fun _ _ _ _ _ _ us hl => match us, hl with | [_], _ => rfl)
  obtain ⟨d_l_loose, F_l_loose, m_l_loose, b_l_loose⟩ := def_of (st := s_law_loose) (x := "_law_loose") (ps := ["_law_row", "_law_text"]) X G c 26 35 rfl rfl (fun _ _ _ _ _ _ us hl => match us, hl with | [_, _], _ => rfl)
  obtain ⟨e_init, E_init, c_init⟩ := meth_of (st := minit) (m := "__init__") (q := "Reading.__init__") (ps := ["self", "text"]) c 28 rfl (fun _ _ _ _ _ _ us hl => match us, hl with | [_, _], _ => rfl)
  obtain ⟨e_word, E_word, c_word⟩ := meth_of (st := mword) (m := "word") (q := "Reading.word") (ps := ["self"]) c 29 rfl (fun _ _ _ _ _ _ us hl => match us, hl with | [_], _ => rfl)
  have M_word := He.meth_ok (c.fact 62 (f := .meth "Reading" "word") rfl)
  obtain ⟨e_take, E_take, c_take⟩ := meth_of (st := mtake) (m := "take") (q := "Reading.take") (ps := ["self"]) c 31 rfl (fun _ _ _ _ _ _ us hl => match us, hl with | [_], _ => rfl)
  have M_take := He.meth_ok (c.fact 64 (f := .meth "Reading" "take") rfl)
  obtain ⟨e_need, E_need, c_need⟩ := meth_of (st := mneed) (m := "need") (q := "Reading.need") (ps := ["self", "word"]) c 32 rfl (fun _ _ _ _ _ _ us hl => match us, hl with | [_, _], _ => rfl)
  have M_need := He.meth_ok (c.fact 65 (f := .meth "Reading" "need") rfl)
  obtain ⟨e_enter, E_enter, c_enter⟩ := meth_of (st := menter) (m := "enter") (q := "Reading.enter") (ps := ["self"]) c 33 rfl (fun _ _ _ _ _ _ us hl => match us, hl with | [_], _ => rfl)
  have M_enter := He.meth_ok (c.fact 66 (f := .meth "Reading" "enter") rfl)
  obtain ⟨e_leave, E_leave, c_leave⟩ := meth_of (st := mleave) (m := "leave") (q := "Reading.leave") (ps := ["self", "word"]) c 34 rfl (fun _ _ _ _ _ _ us hl => match us, hl with | [_, _], _ => rfl)
  have M_leave := He.meth_ok (c.fact 67 (f := .meth "Reading" "leave") rfl)
  obtain ⟨e_things, E_things, c_things⟩ := meth_of (st := mthings) (m := "things") (q := "Reading.things") (ps := ["self"]) c 35 rfl (fun _ _ _ _ _ _ us hl => match us, hl with | [_], _ => rfl)
  have M_things := He.meth_ok (c.fact 68 (f := .meth "Reading" "things") rfl)
  obtain ⟨e_thing, E_thing, c_thing⟩ := meth_of (st := mthing) (m := "thing") (q := "Reading.thing") (ps := ["self"]) c 36 rfl (fun _ _ _ _ _ _ us hl => match us, hl with | [_], _ => rfl)
  have M_thing := He.meth_ok (c.fact 69 (f := .meth "Reading" "thing") rfl)
  obtain ⟨e_plain, E_plain, c_plain⟩ := meth_of (st := mplain) (m := "plain") (q := "Reading.plain") (ps := ["self"]) c 37 rfl (fun _ _ _ _ _ _ us hl => match us, hl with | [_], _ => rfl)
  have M_plain := He.meth_ok (c.fact 70 (f := .meth "Reading" "plain") rfl)
  obtain ⟨e_whole, E_whole, c_whole⟩ := meth_of (st := mwhole) (m := "whole") (q := "Reading.whole") (ps := ["self"]) c 38 rfl (fun _ _ _ _ _ _ us hl => match us, hl with | [_], _ => rfl)
  have M_whole := He.meth_ok (c.fact 71 (f := .meth "Reading" "whole") rfl)
  have MK := He.mkr_ok (c.fact 58 (f := .mkr "Reading") rfl)
  have gTL := He.glo_ok X G (c.fact 7 (f := .glo "TooLong") rfl)
  have gSu := He.free_ok X G (c.fact 49 (f := .free "super") rfl)
  have TL := tlt_of (P := P) hY hW gTL gSu htop
  have cInt : Cal P w K mg base CX0 "is_integer" 1 ["value"] spIsInt := ⟨_, _, ok_isint F_is_integer T, m_is_integer, F_is_integer.kp, b_is_integer⟩
  have cFrom : Cal P w K mg base CX0 "is_from" 2 ["value", "low", "high"] spIsFrom := ⟨_, _, ok_isfrom F_is_from cInt, m_is_from, F_is_from.kp, b_is_from⟩
  have cNeed : Cal P w K mg base CX0 "need_count" 3 ["value"] spNeedC := ⟨_, _, ok_needc F_need_count T cFrom, m_need_count, F_need_count.kp, b_need_count⟩
  have cName : Cal P w K mg base CX0 "is_name" 1 ["word"] spIsName := ⟨_, _, ok_is_name F_is_name T, m_is_name, F_is_name.kp, b_is_name⟩
  have cNum : Cal P w K mg base CX0 "is_number" 1 ["word"] spIsNum := ⟨_, _, ok_is_number F_is_number T, m_is_number, F_is_number.kp, b_is_number⟩
  have cWords : Cal P w K mg base CX0 "words_of" 1 ["text"] spWords := ⟨_, _, ok_words_of F_words_of T, m_words_of, F_words_of.kp, b_words_of⟩
  have cWord : Calm P w K mg base CX0 (He.ga K "Reading") "word" 1 ["self"] (spWord _) := ⟨_, _, ok_word E_word T, M_word, c_word⟩
  have cTake : Calm P w K mg base CX0 (He.ga K "Reading") "take" 1 ["self"] (spTake _) := ⟨_, _, ok_take E_take T, M_take, c_take⟩
  have cNd : Calm P w K mg base CX0 (He.ga K "Reading") "need" 2 ["self", "word"] (spNeed _) := ⟨_, _, ok_need E_need T cWord, M_need, c_need⟩
  have cEn : Calm P w K mg base CX0 (He.ga K "Reading") "enter" 1 ["self"] (spEnter _) := ⟨_, _, ok_enter E_enter T, M_enter, c_enter⟩
  have cLe : Calm P w K mg base CX0 (He.ga K "Reading") "leave" 3 ["self", "word"] (spLeave _) := ⟨_, _, ok_leave E_leave T cNd, M_leave, c_leave⟩
  have S : Small P w K mg base (He.ga K "Reading") := ⟨cWord, cTake, cNd, cEn, cLe, cName, cNum⟩
  have GI : FnOk P w K mg base CX0 2 _ e_init ["self", "text"] (spInit (He.ga K "Reading")) := ok_init E_init T cWords
  have cThings := read_all (P := P) (w := w) (base := base) T S E_plain M_plain c_plain E_thing M_thing c_thing E_things M_things c_things 4
  have cWhole : Calm P w K mg base CX0 (He.ga K "Reading") "whole" 16 ["self"] (spWhole _) := ⟨_, _, ok_whole E_whole T S cThings, M_whole, c_whole⟩
  have cNT := (need_all (P := P) (w := w) (base := base) F_need_thing m_need_thing b_need_thing F_need_things m_need_things b_need_things 16).2
  have cTree : Cal P w K mg base CX0 "tree_of" 17 ["text", "n"] (spTree 16) := ⟨_, _, ok_tree_of F_tree_of T MK GI c_init cWhole cNT (Nat.le_refl 16), m_tree_of, F_tree_of.kp, b_tree_of⟩
  have cTx := (text_all (P := P) (w := w) (base := base) T F_thing_text m_thing_text b_thing_text F_things_text m_things_text b_things_text 16).2
  have cPr : Cal P w K mg base CX0 "printed" 18 ["text"] (spPrinted 16) := ⟨_, _, ok_printed F_printed cTree cTx, m_printed, F_printed.kp, b_printed⟩
  have cSh : Cal P w K mg base (L2.CX P w) "short" 5 ["row"] (spShort (tC9 K)) := ⟨_, _, ok_short F_short T (tl_ok TL), m_short, F_short.kp, b_short⟩
  have cRows := (row_all cSh F_row_of_thing m_row_of_thing b_row_of_thing F_row_of_things m_row_of_things b_row_of_things 16).2
  have cRow : Cal P w K mg base (L2.CX P w) "row_of" 22 ["n", "text"] (spRowOf (tC9 K) 16) := ⟨_, _, ok_row_of F_row_of T cNeed cTree cRows, m_row_of, F_row_of.kp, b_row_of⟩
  have cTaken : Cal P w K mg base CX0 "_law_taken" 1 ["_law_row", "_law_many"] (spTaken K) := ⟨_, _, ok_taken F_l_taken T, m_l_taken, F_l_taken.kp, b_l_taken⟩
  have cPick : Cal P w K mg base CX0 "_law_pick" 2 ["_law_row", "_law_things_here"] (spPick K) := ⟨_, _, ok_pick F_l_pick T cTaken, m_l_pick, F_l_pick.kp, b_l_pick⟩
  have cLoose : Cal P w K mg base CX0 "_law_loose" 3 ["_law_row", "_law_text"] (spLoose K) := ⟨_, _, ok_loose F_l_loose T cPick, m_l_loose, F_l_loose.kp, b_l_loose⟩
  exact {
    T := T
    X := tlx_of hY gTL T.isi T.VE
    taken := cTaken
    things := draw_all T cTaken cPick F_l_thing m_l_thing b_l_thing F_l_things m_l_things b_l_things 3
    ttext := (ltext_all T F_l_thing_text m_l_thing_text b_l_thing_text F_l_things_text m_l_things_text b_l_things_text 20).2
    loose := cLoose
    printed := cPr
    rows := (lrow_all T F_l_thing_row m_l_thing_row b_l_thing_row F_l_things_row m_l_things_row b_l_things_row 16).2
    alike := cal_alike F_l_alike T m_l_alike b_l_alike
    rowof := cRow
    err := ⟨_, _, F_l_error, m_l_error, b_l_error⟩ }
end
theorem law_at {w : World} {K : PySem.W.Frag} {mg : Str → Option Value} {fa9 : Addr} {h : Heap} (X : K.In h) (G : h.Ns mainGlobals mg) (hfa : mg ("law" : Str) = some (.ref fa9)) (c : He.SaysX fa dfs [] tf (exY fl) w h K) (hW : tW K = tV) :
    LawAtS PySem.Challenge.rw_dartwebs_k02_whole_row_texts w K CX0 31 63 "_law_script" mg fa9 h := by
  have cD : He.SaysD fa dfs K := congrArg (fun z : He.AlT => z.1) c.t
  obtain ⟨fd, F, m, b⟩ := def_of (st := slaw) (x := "law") (ps := ["_law_script"]) X G cD 27 36 rfl rfl (fun _ _ _ _ _ _ us hl => match us, hl with | [_], _ => rfl)
  have e := hfa.symm.trans m
  cases e
  obtain ⟨oc, od, kV, doc, pm, an, cdv, ct, osl, e, lk, hcd⟩ := F.ex
  obtain ⟨cL, rfl⟩ := He.codeIn_ref hcd
  have hcL : fd.code = .ref cL := by rw [e] <;> rfl
  have hco : He.codeOf K ("law", none) = cL := He.codeOf_eq (p := ("law", none)) lk hcL
  have mem : (("law", none) : He.Defn) ∈ tf := List.mem_singleton.mpr rfl
  refine ⟨fd, [He.cT K ("law", none)], spLaw K (He.cT K ("law", none)).2, fun p hp => ?_, fun p hp => ?_, fun p hp => ?_, fun s u => (by rw [e]; exact BindsTo.of_eq rfl), fun H a ns _ _ hT hS => ⟨a, ns, rfl, hS, hT _ (List.mem_singleton.mpr rfl), fun _ => rfl⟩, fun base hK hG hTB => ?_⟩
  · rw [List.mem_singleton.mp hp]
    exact c.empty _ mem
  · rw [List.mem_singleton.mp hp]
    exact c.out _ mem
  · rw [List.mem_singleton.mp hp]
    exact PySem.W.codeHd_of_K X (c.hd _ mem)
  · have tb := hTB _ (List.mem_singleton.mpr rfl)
    have tb2 : TabB base mg cL (He.cT K ("law", none)).2 := by
      have e9 : (He.cT K ("law", none)).1 = cL := hco
      rw [← e9]
      exact tb
    exact ok_law F hcL tb2 (kit_of X G cD c.more hW (by decide +kernel))
end KW
set_option Elab.async false
set_option linter.all false
set_option maxRecDepth 100000
set_option maxHeartbeats 0
/-! The end. -/
open PySem PySem.W PySem.Calls PyProof.Rows
theorem PySem.Challenge.cw_dartwebs_k02_whole_row_texts_holds : PySem.Challenge.rw_dartwebs_k02_whole_row_texts.Holds := by
  w_on; o_law
  refine HandSHeadRun.head_any (r := OpenLaw.row PySem.Challenge.rw_dartwebs_k02_whole_row_texts) (q := view (OpenLaw.row PySem.Challenge.rw_dartwebs_k02_whole_row_texts).prog [47]) (H := KW.hk) (ob := KW.ob) (M := 6000) (loose := KW.loose) (d := HandSHeadRun.topDef (OpenLaw.row PySem.Challenge.rw_dartwebs_k02_whole_row_texts).prog 47) (kwd := []) KW.ob_eq
    (by kernel_rfl) (fun s => by kernel_rfl) KW.run (by kernel_rfl) (by kernel_rfl) (by kernel_rfl) (by rfl) (by first | assumption | decide +kernel) (by decide +kernel) ⟨rfl, rfl, rfl, rfl, rfl, by decide +kernel⟩ ?hw ?hc
  case hw => w_witness2
  case hc =>
    refine LamX.walk_ofTsE (l := PySem.Challenge.rw_dartwebs_k02_whole_row_texts) (n := 63) (k := 31) (x := "_law_script") (CX := fun _ => L2.CX0) rfl (by decide) (by kernel_rfl) ⟨rfl, by decide, by decide⟩ ?F (fun _ _ _ _ _ z => z)
    intro w mg fa9 h Y G hmg0
    obtain ⟨K, KX, c, hW⟩ := Y
    have hmg : mg ("law" : PySem.Str) = some (.ref fa9) := by
      have e : (HandSHeadRun.topDef (OpenLaw.row PySem.Challenge.rw_dartwebs_k02_whole_row_texts).prog 47).name = ("law" : PySem.Str) := by kernel_rfl
      rw [← e]
      exact hmg0
    exact ⟨K, KX, KW.law_at KX G hmg c hW⟩
#print axioms PySem.Challenge.cw_dartwebs_k02_whole_row_texts_holds
