import PyProof.Rows.All
import Wide.All
import OpenK.AllK
import Wide.FinOn
import HandS.ForMost
import HandS.StrMore
import KE.KStateDown
import HandS.Exc
import HandS.Defaults
import HandS.Head0
import HandS.Head1
import HandS.Head2
import HandS.HeadEnd
import HandS.HeadHook1
import HandS.HeadHook2
import HandS.HeadHook3
import HandS.HeadHook4
import PySem.Challenge.RW_ownglass_k35_listers
import HandS.IsInst
import HandS.Flow
import HandS.More
import HandS.Walk
import KE.GoesNew
import KE.GoesEnum
import HandS.Text
import HandS.MakeKwOnly
import HandS.NoneIn
import HandS.TupAny
import Lean
section
set_option Elab.async false
set_option linter.all false
/-! The first language: values, expressions, programs; what they are worth; the stack machine. -/
namespace K35
open PySem
/-- a value of the first language: a word or a list -/
inductive T where
  | w (x : Str) | l (xs : List T)
noncomputable instance : DecidableEq T := fun a b => Classical.propDecidable (a = b)
abbrev T.nil : T := .l []
abbrev T.yes : T := .w "yes"
def T.isW : T → Bool
  | .w _ => true
  | .l _ => false
def T.items : T → List T
  | .w _ => []
  | .l xs => xs
def T.hd : T → T
  | .l (x :: _) => x
  | _ => .nil
def T.tl : T → T
  | .l (_ :: xs) => .l xs
  | _ => .nil
def T.cons (a b : T) : T := .l (a :: b.items)
mutual
/-- at least the depth, at least one more than the length, in every part -/
def T.rank : T → Nat
  | .w _ => 0
  | .l xs => max (xs.length + 1) (T.ranks xs + 1)
def T.ranks : List T → Nat
  | [] => 0
  | x :: xs => max x.rank (T.ranks xs)
end
mutual
def T.depth : T → Nat
  | .w _ => 0
  | .l xs => T.depths xs + 1
def T.depths : List T → Nat
  | [] => 0
  | x :: xs => max x.depth (T.depths xs)
end
mutual
def T.parts : T → Nat
  | .w _ => 1
  | .l xs => T.partss xs + 1
def T.partss : List T → Nat
  | [] => 0
  | x :: xs => x.parts + T.partss xs
end
mutual
/-- its words are texts of signs that there are -/
def T.ok : T → Bool
  | .w x => PyData.strOk x
  | .l xs => T.oks xs
def T.oks : List T → Bool
  | [] => true
  | x :: xs => x.ok && T.oks xs
end
theorem T.parts_pos : ∀ t : T, 0 < t.parts
  | .w _ => by simp [T.parts]
  | .l xs => by simp [T.parts]
mutual
theorem T.depth_le : ∀ t : T, t.depth ≤ t.rank
  | .w _ => by simp [T.depth, T.rank]
  | .l xs => by
    have := T.depths_le xs
    simp only [T.depth, T.rank]
    omega
theorem T.depths_le : ∀ xs : List T, T.depths xs ≤ T.ranks xs
  | [] => by simp [T.depths, T.ranks]
  | x :: xs => by
    have h1 := T.depth_le x
    have h2 := T.depths_le xs
    simp only [T.depths, T.ranks]
    omega
end
theorem T.len_le (xs : List T) : xs.length + 1 ≤ (T.l xs).rank := by
  simp only [T.rank]
  omega
theorem T.ranks_mem : ∀ {xs : List T} {x : T}, x ∈ xs → x.rank ≤ T.ranks xs
  | y :: ys, x, h => by
    simp only [T.ranks]
    rcases List.mem_cons.mp h with e | h
    · subst e
      omega
    · have := T.ranks_mem h
      omega
theorem T.oks_mem : ∀ {xs : List T} {x : T}, T.oks xs = true → x ∈ xs → x.ok = true
  | y :: ys, x, o, h => by
    simp only [T.oks, Bool.and_eq_true] at o
    rcases List.mem_cons.mp h with e | h
    · subst e
      exact o.1
    · exact T.oks_mem o.2 h
theorem T.oks_all : ∀ {xs : List T}, (∀ x ∈ xs, x.ok = true) → T.oks xs = true
  | [], _ => rfl
  | x :: xs, h => by
    simp only [T.oks, Bool.and_eq_true]
    exact ⟨h x (List.mem_cons_self ..), T.oks_all fun y hy => h y (List.mem_cons_of_mem _ hy)⟩
theorem T.ranks_all : ∀ {xs : List T} {r : Nat}, (∀ x ∈ xs, x.rank ≤ r) → T.ranks xs ≤ r
  | [], _, _ => Nat.zero_le _
  | x :: xs, r, h => by
    have h1 := h x (List.mem_cons_self ..)
    have h2 := T.ranks_all (xs := xs) (r := r) fun y hy => h y (List.mem_cons_of_mem _ hy)
    simp only [T.ranks]
    omega
/-- a value that is ok and within a bound -/
def T.fine (R : Nat) (t : T) : Prop := t.ok = true ∧ t.rank ≤ R
theorem T.fine.mono {R R' : Nat} {t : T} (h : t.fine R) (l : R ≤ R') : t.fine R' := ⟨h.1, Nat.le_trans h.2 l⟩
theorem T.fine_nil {R : Nat} (h : 1 ≤ R) : T.nil.fine R := ⟨rfl, by simp only [T.rank, T.ranks, List.length_nil]; omega⟩
theorem T.yes_ok : T.yes.ok = true := by decide +kernel
theorem T.fine_yes {R : Nat} : T.yes.fine R := ⟨T.yes_ok, by simp [T.rank]⟩
theorem T.fine_hd {R : Nat} {t : T} (h : t.fine R) (hR : 1 ≤ R) : t.hd.fine R := by
  cases t with
  | w x => exact T.fine_nil hR
  | l xs => cases xs with
    | nil => exact T.fine_nil hR
    | cons x xs =>
      obtain ⟨h1, h2⟩ := h
      simp only [T.ok, T.oks, Bool.and_eq_true] at h1
      simp only [T.rank, T.ranks, List.length_cons] at h2
      exact ⟨h1.1, show x.rank ≤ R by omega⟩
theorem T.fine_tl {R : Nat} {t : T} (h : t.fine R) (hR : 1 ≤ R) : t.tl.fine R := by
  cases t with
  | w x => exact T.fine_nil hR
  | l xs => cases xs with
    | nil => exact T.fine_nil hR
    | cons x xs =>
      obtain ⟨h1, h2⟩ := h
      simp only [T.ok, T.oks, Bool.and_eq_true] at h1
      simp only [T.rank, T.ranks, List.length_cons] at h2
      refine ⟨h1.2, ?_⟩
      show (T.l xs).rank ≤ R
      simp only [T.rank]
      omega
theorem T.fine_cons {R : Nat} {a b : T} (ha : a.fine R) (hb : b.fine R) (hR : 1 ≤ R) : (T.cons a b).fine (R + 1) := by
  cases b with
  | w x =>
    refine ⟨by simp [T.cons, T.items, T.ok, T.oks, ha.1], ?_⟩
    have := ha.2
    simp only [T.cons, T.items, T.rank, T.ranks, List.length_cons, List.length_nil]
    omega
  | l xs =>
    obtain ⟨h1, h2⟩ := hb
    refine ⟨by simp only [T.cons, T.items, T.ok, T.oks, ha.1, Bool.true_and]; exact h1, ?_⟩
    have := ha.2
    simp only [T.rank] at h2
    simp only [T.cons, T.items, T.rank, T.ranks, List.length_cons]
    omega

/-! ### expressions and programs -/
inductive E where
  | var (x : Str) | quo (v : T) | ite (a b c : E) | app (w : Str) (as : List E)
mutual
def E.enc : E → T
  | .var x => .w x
  | .quo v => .l [.w "quote", v]
  | .ite a b c => .l [.w "if", a.enc, b.enc, c.enc]
  | .app w as => .l (.w w :: E.encs as)
def E.encs : List E → List T
  | [] => []
  | e :: es => e.enc :: E.encs es
end
mutual
/-- how many parts it has, a quote one -/
def E.nodes : E → Nat
  | .var _ => 1
  | .quo _ => 1
  | .ite a b c => 1 + a.nodes + b.nodes + c.nodes
  | .app _ as => 1 + E.nodess as
def E.nodess : List E → Nat
  | [] => 0
  | e :: es => e.nodes + E.nodess es
end
theorem E.encs_map : ∀ es : List E, E.encs es = es.map E.enc
  | [] => rfl
  | e :: es => by simp [E.encs, E.encs_map es]
theorem E.encs_length (es : List E) : (E.encs es).length = es.length := by rw [E.encs_map, List.length_map]
theorem E.nodes_pos : ∀ e : E, 0 < e.nodes
  | .var _ => by simp [E.nodes]
  | .quo _ => by simp [E.nodes]
  | .ite .. => by simp only [E.nodes]; omega
  | .app .. => by simp only [E.nodes]; omega
structure Fn where
  name : Str
  ps : List Str
  body : E
def Fn.enc (f : Fn) : T := .l [.w f.name, .l (f.ps.map T.w), f.body.enc]
def encP (p : List Fn) : T := .l (p.map Fn.enc)
def plainsL : List Str := ["same", "word", "head", "tail", "join"]
def specialsL : List Str := ["quote", "if", "same", "word", "head", "tail", "join"]
def arity (w : Str) : Nat := if w = "same" ∨ w = "join" then 2 else 1
def isPlain (w : Str) : Bool := plainsL.contains w
def isSpecial (w : Str) : Bool := specialsL.contains w
noncomputable def prim (w : Str) (vs : List T) : T := match vs with
  | [a] => if w = "word" then (if a.isW then .yes else .nil) else if w = "head" then a.hd else a.tl
  | [a, b] => if w = "same" then (if a = b then .yes else .nil) else T.cons a b
  | _ => .nil
abbrev Bs := List (Str × T)
def lk : Bs → Str → Option T
  | [], _ => none
  | (y, v) :: r, x => if y = x then some v else lk r x
def fnd : List Fn → Str → Option Fn
  | [], _ => none
  | f :: r, x => if f.name = x then some f else fnd r x
theorem lk_mem : ∀ {env : Bs} {x : Str} {v : T}, lk env x = some v → (x, v) ∈ env
  | (y, u) :: r, x, v, h => by
    unfold lk at h
    by_cases e : y = x
    · rw [if_pos e] at h
      cases h
      rw [e]
      exact List.mem_cons_self ..
    · rw [if_neg e] at h
      exact List.mem_cons_of_mem _ (lk_mem h)
theorem lk_some : ∀ {env : Bs} {x : Str}, x ∈ env.map (·.1) → ∃ v, lk env x = some v
  | (y, u) :: r, x, h => by
    unfold lk
    by_cases e : y = x
    · exact ⟨u, if_pos e⟩
    · rw [if_neg e]
      rw [List.map_cons] at h
      rcases List.mem_cons.mp h with q | q
      · exact absurd q.symm e
      · exact lk_some q
theorem fnd_mem : ∀ {p : List Fn} {x : Str} {f : Fn}, fnd p x = some f → f ∈ p ∧ f.name = x
  | g :: r, x, f, h => by
    unfold fnd at h
    by_cases e : g.name = x
    · rw [if_pos e] at h
      cases h
      exact ⟨List.mem_cons_self .., e⟩
    · rw [if_neg e] at h
      have := fnd_mem h
      exact ⟨List.mem_cons_of_mem _ this.1, this.2⟩
theorem fnd_some : ∀ {p : List Fn} {f : Fn}, (p.map (·.name)).Nodup → f ∈ p → fnd p f.name = some f
  | g :: r, f, hn, h => by
    unfold fnd
    rw [List.map_cons, List.nodup_cons] at hn
    rcases List.mem_cons.mp h with q | q
    · rw [q, if_pos rfl]
    · have : g.name ≠ f.name := fun e => hn.1 (e ▸ List.mem_map_of_mem q)
      rw [if_neg this]
      exact fnd_some hn.2 q

/-- expressions in a row: what each is worth, and the steps of all -/
inductive EvL (p : List Fn) : Bs → List E → List T → Nat → Prop
  | nil {env} : EvL p env [] [] 0
  | var {env x v es vs k} : lk env x = some v → EvL p env es vs k → EvL p env (.var x :: es) (v :: vs) (1 + k)
  | quo {env v es vs k} : EvL p env es vs k → EvL p env (.quo v :: es) (v :: vs) (1 + k)
  | ite {env a b c u v es vs n m k} : EvL p env [a] [u] n → EvL p env [if u = T.nil then c else b] [v] m → EvL p env es vs k → EvL p env (.ite a b c :: es) (v :: vs) (1 + n + m + k)
  | prim {env w as us es vs n k} : isPlain w = true → EvL p env as us n → EvL p env es vs k → EvL p env (.app w as :: es) (prim w us :: vs) (1 + n + k)
  | call {env w as us f v es vs n m k} : isPlain w = false → fnd p w = some f → EvL p env as us n → EvL p (f.ps.zip us) [f.body] [v] m → EvL p env es vs k → EvL p env (.app w as :: es) (v :: vs) (1 + n + m + k)
theorem EvL.length {p : List Fn} {env : Bs} {es : List E} {vs : List T} {n : Nat} (h : EvL p env es vs n) : es.length = vs.length := by
  induction h with
  | nil => rfl
  | var _ _ ih => simp [ih]
  | quo _ ih => simp [ih]
  | ite _ _ _ _ _ ih => simp [ih]
  | prim _ _ _ _ ih => simp [ih]
  | call _ _ _ _ _ _ _ ih => simp [ih]
/-- one ahead of others -/
theorem EvL.app {p : List Fn} {env : Bs} {e : E} {v : T} {es : List E} {vs : List T} {n k : Nat} (h : EvL p env [e] [v] n) (hr : EvL p env es vs k) : EvL p env (e :: es) (v :: vs) (n + k) := by
  cases h with
  | var h1 h2 =>
    cases h2
    exact EvL.var h1 hr
  | quo h2 =>
    cases h2
    exact EvL.quo hr
  | ite h1 h2 h3 =>
    cases h3
    exact EvL.ite h1 h2 hr
  | prim h1 h2 h3 =>
    cases h3
    exact EvL.prim h1 h2 hr
  | call h1 h2 h3 h4 h5 =>
    cases h5
    exact EvL.call h1 h2 h3 h4 hr
end K35
end

section
set_option Elab.async false
set_option linter.all false
/-! The stack machine of the first language, and what its runs are worth. -/
namespace K35
open PySem
abbrev Sig := List (Str × Nat)
def sig (p : List Fn) : Sig := p.map fun f => (f.name, f.ps.length)
mutual
/-- an expression with these parameters and these functions; its quotes within a bound -/
def WfE (cs : Sig) (R : Nat) (ps : List Str) : E → Prop
  | .var x => x ∈ ps
  | .quo v => v.fine R
  | .ite a b c => WfE cs R ps a ∧ WfE cs R ps b ∧ WfE cs R ps c
  | .app w as => as.length ≤ 12 ∧ ((isPlain w = true ∧ as.length = arity w) ∨ (isSpecial w = false ∧ (w, as.length) ∈ cs)) ∧ WfEs cs R ps as
def WfEs (cs : Sig) (R : Nat) (ps : List Str) : List E → Prop
  | [] => True
  | e :: es => WfE cs R ps e ∧ WfEs cs R ps es
end
theorem WfEs.mem {cs : Sig} {R : Nat} {ps : List Str} : ∀ {es : List E} {e : E}, WfEs cs R ps es → e ∈ es → WfE cs R ps e
  | x :: es, e, h, m => by
    rcases List.mem_cons.mp m with q | q
    · rw [q]
      exact h.1
    · exact WfEs.mem h.2 q
theorem WfEs.all {cs : Sig} {R : Nat} {ps : List Str} : ∀ {es : List E}, (∀ e ∈ es, WfE cs R ps e) → WfEs cs R ps es
  | [], _ => trivial
  | x :: es, h => ⟨h x (List.mem_cons_self ..), WfEs.all fun e q => h e (List.mem_cons_of_mem _ q)⟩
mutual
theorem WfE.mono {cs cs' : Sig} {R R' : Nat} {ps ps' : List Str} (hc : ∀ q ∈ cs, q ∈ cs') (hR : R ≤ R') (hp : ∀ x ∈ ps, x ∈ ps') : ∀ e : E, WfE cs R ps e → WfE cs' R' ps' e
  | .var x, h => hp x h
  | .quo v, h => T.fine.mono h hR
  | .ite a b c, h => ⟨WfE.mono hc hR hp a h.1, WfE.mono hc hR hp b h.2.1, WfE.mono hc hR hp c h.2.2⟩
  | .app w as, h => ⟨h.1, h.2.1.imp id fun q => ⟨q.1, hc _ q.2⟩, WfEs.mono hc hR hp as h.2.2⟩
theorem WfEs.mono {cs cs' : Sig} {R R' : Nat} {ps ps' : List Str} (hc : ∀ q ∈ cs, q ∈ cs') (hR : R ≤ R') (hp : ∀ x ∈ ps, x ∈ ps') : ∀ es : List E, WfEs cs R ps es → WfEs cs' R' ps' es
  | [], _ => trivial
  | e :: es, h => ⟨WfE.mono hc hR hp e h.1, WfEs.mono hc hR hp es h.2⟩
end
structure WfP (p : List Fn) (R : Nat) : Prop where
  nd : (p.map (·.name)).Nodup
  ok : ∀ f ∈ p, f.ps.length ≤ 12 ∧ WfE (sig p) R f.ps f.body
theorem plain_special {w : Str} (h : isSpecial w = false) : isPlain w = false := by
  unfold isSpecial specialsL at h
  unfold isPlain plainsL
  simp only [List.contains_eq_mem, List.mem_cons, List.not_mem_nil, or_false, decide_eq_false_iff_not, not_or] at h ⊢
  exact ⟨h.2.2.1, h.2.2.2.1, h.2.2.2.2.1, h.2.2.2.2.2.1, h.2.2.2.2.2.2⟩
theorem WfP.fnd {p : List Fn} {R : Nat} (W : WfP p R) {w : Str} {n : Nat} (h : (w, n) ∈ sig p) : ∃ g, fnd p w = some g ∧ g ∈ p ∧ g.ps.length = n := by
  obtain ⟨f, hf, e⟩ := List.mem_map.mp h
  injection e with e1 e2
  exact ⟨f, e1 ▸ fnd_some W.nd hf, hf, e2⟩

/-! ### the machine -/
inductive Task where
  | ev (e : E) (env : Bs) | ite (a b : E) (env : Bs) | doo (w : Str) | call (w : Str)
structure MS where
  todo : List Task
  found : List T
  steps : Nat
noncomputable def mstep (p : List Fn) : MS → MS
  | ⟨[], f, n⟩ => ⟨[], f, n⟩
  | ⟨.ev (.var x) env :: r, f, n⟩ => ⟨r, (lk env x).getD .nil :: f, n + 1⟩
  | ⟨.ev (.quo v) _ :: r, f, n⟩ => ⟨r, v :: f, n + 1⟩
  | ⟨.ev (.ite a b c) env :: r, f, n⟩ => ⟨.ev a env :: .ite b c env :: r, f, n + 1⟩
  | ⟨.ev (.app w as) env :: r, f, n⟩ => ⟨as.map (Task.ev · env) ++ (if isPlain w then .doo w else .call w) :: r, f, n + 1⟩
  | ⟨.ite b c env :: r, f, n⟩ => ⟨.ev (if f.headD .nil = T.nil then c else b) env :: r, f.tail, n⟩
  | ⟨.doo w :: r, f, n⟩ => ⟨r, prim w (f.take (arity w)).reverse :: f.drop (arity w), n⟩
  | ⟨.call w :: r, f, n⟩ => match fnd p w with
    | some g => ⟨.ev g.body (g.ps.zip (f.take g.ps.length).reverse) :: r, f.drop g.ps.length, n⟩
    | none => ⟨r, f, n⟩
noncomputable def mit (p : List Fn) : Nat → MS → MS
  | 0, s => s
  | k + 1, s => mit p k (mstep p s)
theorem mit_add (p : List Fn) : ∀ (a b : Nat) (s : MS), mit p (a + b) s = mit p b (mit p a s)
  | 0, b, s => by rw [Nat.zero_add]; rfl
  | a + 1, b, s => by
    rw [show a + 1 + b = (a + b) + 1 by omega]
    show mit p (a + b) (mstep p s) = mit p b (mit p a (mstep p s))
    exact mit_add p a b _
theorem mit_succ (p : List Fn) (k : Nat) (s : MS) : mit p (k + 1) s = mstep p (mit p k s) := mit_add p k 1 s
theorem mit_end (p : List Fn) : ∀ (k : Nat) (f : List T) (n : Nat), mit p k ⟨[], f, n⟩ = ⟨[], f, n⟩
  | 0, _, _ => rfl
  | k + 1, f, n => mit_end p k f n
/-- steps never fall -/
theorem mstep_steps (p : List Fn) (s : MS) : s.steps ≤ (mstep p s).steps ∧ (mstep p s).steps ≤ s.steps + 1 := by
  obtain ⟨todo, f, n⟩ := s
  cases todo with
  | nil => exact ⟨Nat.le_refl _, Nat.le_succ _⟩
  | cons t r =>
    cases t with
    | ev e env => cases e <;> exact ⟨Nat.le_succ _, Nat.le_refl _⟩
    | ite b c env => exact ⟨Nat.le_refl _, Nat.le_succ _⟩
    | doo w => exact ⟨Nat.le_refl _, Nat.le_succ _⟩
    | call w =>
      have hs : (mstep p ⟨.call w :: r, f, n⟩).steps = n := by
        show (match fnd p w with
          | some g => (⟨.ev g.body (g.ps.zip (f.take g.ps.length).reverse) :: r, f.drop g.ps.length, n⟩ : MS)
          | none => ⟨r, f, n⟩).steps = n
        cases fnd p w <;> rfl
      rw [hs]
      exact ⟨Nat.le_refl _, Nat.le_succ _⟩
theorem mit_steps (p : List Fn) : ∀ (k : Nat) (s : MS), s.steps ≤ (mit p k s).steps
  | 0, _ => Nat.le_refl _
  | k + 1, s => Nat.le_trans (mstep_steps p s).1 (mit_steps p k _)
theorem mstep_ev (p : List Fn) {e : E} {env : Bs} {r : List Task} {f : List T} {n : Nat} : (mstep p ⟨.ev e env :: r, f, n⟩).steps = n + 1 := by
  cases e <;> rfl

/-! ### from worth to runs -/
theorem run_of {p : List Fn} {env : Bs} {es : List E} {vs : List T} {n : Nat} (h : EvL p env es vs n) {R : Nat} (P : WfP p R) : WfEs (sig p) R (env.map (·.1)) es →
    ∀ (r : List Task) (f : List T) (m : Nat), ∃ k, k ≤ 2 * n ∧ mit p k ⟨es.map (Task.ev · env) ++ r, f, m⟩ = ⟨r, vs.reverse ++ f, m + n⟩ := by
  induction h with
  | nil => exact fun _ r f m => ⟨0, Nat.le_refl _, rfl⟩
  | @var env x v es vs k h1 h2 ih =>
    intro w r f m
    obtain ⟨j, hj, e⟩ := ih w.2 r (v :: f) (m + 1)
    refine ⟨j + 1, by omega, ?_⟩
    show mit p j (mstep p ⟨.ev (.var x) env :: (es.map (Task.ev · env) ++ r), f, m⟩) = _
    show mit p j ⟨es.map (Task.ev · env) ++ r, (lk env x).getD .nil :: f, m + 1⟩ = _
    rw [h1]
    show mit p j ⟨es.map (Task.ev · env) ++ r, v :: f, m + 1⟩ = _
    rw [e, List.reverse_cons, List.append_assoc, show m + 1 + k = m + (1 + k) by omega]
    rfl
  | @quo env v es vs k h2 ih =>
    intro w r f m
    obtain ⟨j, hj, e⟩ := ih w.2 r (v :: f) (m + 1)
    refine ⟨j + 1, by omega, ?_⟩
    show mit p j ⟨es.map (Task.ev · env) ++ r, v :: f, m + 1⟩ = _
    rw [e, List.reverse_cons, List.append_assoc, show m + 1 + k = m + (1 + k) by omega]
    rfl
  | @ite env a b c u v es vs n m' k h1 h2 h3 ih1 ih2 ih3 =>
    intro w r f m
    obtain ⟨j1, hj1, e1⟩ := ih1 ⟨w.1.1, trivial⟩ (.ite b c env :: (es.map (Task.ev · env) ++ r)) f (m + 1)
    obtain ⟨j2, hj2, e2⟩ := ih2 ⟨by split; exact w.1.2.2; exact w.1.2.1, trivial⟩ (es.map (Task.ev · env) ++ r) f (m + 1 + n)
    obtain ⟨j3, hj3, e3⟩ := ih3 w.2 r (v :: f) (m + 1 + n + m')
    refine ⟨1 + j1 + 1 + j2 + j3, by omega, ?_⟩
    rw [mit_add, mit_add, mit_add, mit_add]
    show mit p j3 (mit p j2 (mit p 1 (mit p j1 ⟨.ev a env :: .ite b c env :: (es.map (Task.ev · env) ++ r), f, m + 1⟩))) = _
    rw [show (.ev a env :: .ite b c env :: (es.map (Task.ev · env) ++ r) : List Task) = [a].map (Task.ev · env) ++ (.ite b c env :: (es.map (Task.ev · env) ++ r)) from rfl, e1]
    show mit p j3 (mit p j2 ⟨.ev (if u = T.nil then c else b) env :: (es.map (Task.ev · env) ++ r), f, m + 1 + n⟩) = _
    rw [show (.ev (if u = T.nil then c else b) env :: (es.map (Task.ev · env) ++ r) : List Task) = [if u = T.nil then c else b].map (Task.ev · env) ++ (es.map (Task.ev · env) ++ r) from rfl, e2]
    show mit p j3 ⟨es.map (Task.ev · env) ++ r, v :: f, m + 1 + n + m'⟩ = _
    rw [e3, List.reverse_cons, List.append_assoc, show m + 1 + n + m' + k = m + (1 + n + m' + k) by omega]
    rfl
  | @prim env w as us es vs n k hp h1 h2 ih1 ih2 =>
    intro wf r f m
    obtain ⟨j1, hj1, e1⟩ := ih1 wf.1.2.2 (.doo w :: (es.map (Task.ev · env) ++ r)) f (m + 1)
    obtain ⟨j2, hj2, e2⟩ := ih2 wf.2 r (prim w us :: f) (m + 1 + n)
    have hl : us.length = arity w := by
      have q := h1.length
      rcases wf.1.2.1 with ⟨_, e⟩ | ⟨e, _⟩
      · omega
      · rw [plain_special e] at hp
        cases hp
    refine ⟨1 + j1 + 1 + j2, by omega, ?_⟩
    rw [mit_add, mit_add, mit_add]
    show mit p j2 (mit p 1 (mit p j1 ⟨as.map (Task.ev · env) ++ (if isPlain w then Task.doo w else .call w) :: (es.map (Task.ev · env) ++ r), f, m + 1⟩)) = _
    rw [if_pos hp, e1]
    show mit p j2 ⟨es.map (Task.ev · env) ++ r, prim w ((us.reverse ++ f).take (arity w)).reverse :: (us.reverse ++ f).drop (arity w), m + 1 + n⟩ = _
    rw [List.take_left' (by rw [List.length_reverse, hl]), List.drop_left' (by rw [List.length_reverse, hl]), List.reverse_reverse, e2, List.reverse_cons, List.append_assoc, show m + 1 + n + k = m + (1 + n + k) by omega]
    rfl
  | @call env w as us g v es vs n m' k hp hg h1 h2 h3 ih1 ih2 ih3 =>
    intro wf r f m
    obtain ⟨j1, hj1, e1⟩ := ih1 wf.1.2.2 (.call w :: (es.map (Task.ev · env) ++ r)) f (m + 1)
    have hl : us.length = g.ps.length := by
      have q := h1.length
      rcases wf.1.2.1 with ⟨e, _⟩ | ⟨_, e⟩
      · rw [hp] at e
        cases e
      · obtain ⟨g', e1, _, e3⟩ := P.fnd e
        rw [hg] at e1
        cases e1
        omega
    have hz : (g.ps.zip us).map (·.1) = g.ps := List.map_fst_zip (by omega)
    obtain ⟨j2, hj2, e2⟩ := ih2 ⟨by rw [hz]; exact (P.ok g (fnd_mem hg).1).2, trivial⟩ (es.map (Task.ev · env) ++ r) f (m + 1 + n)
    obtain ⟨j3, hj3, e3⟩ := ih3 wf.2 r (v :: f) (m + 1 + n + m')
    refine ⟨1 + j1 + 1 + j2 + j3, by omega, ?_⟩
    rw [mit_add, mit_add, mit_add, mit_add]
    show mit p j3 (mit p j2 (mit p 1 (mit p j1 ⟨as.map (Task.ev · env) ++ (if isPlain w then Task.doo w else .call w) :: (es.map (Task.ev · env) ++ r), f, m + 1⟩))) = _
    rw [if_neg (by rw [hp]; decide), e1]
    show mit p j3 (mit p j2 (mstep p ⟨.call w :: (es.map (Task.ev · env) ++ r), us.reverse ++ f, m + 1 + n⟩)) = _
    have hs : mstep p ⟨.call w :: (es.map (Task.ev · env) ++ r), us.reverse ++ f, m + 1 + n⟩ = ⟨.ev g.body (g.ps.zip us) :: (es.map (Task.ev · env) ++ r), f, m + 1 + n⟩ := by
      show (match fnd p w with
        | some g => (⟨.ev g.body (g.ps.zip ((us.reverse ++ f).take g.ps.length).reverse) :: (es.map (Task.ev · env) ++ r), (us.reverse ++ f).drop g.ps.length, m + 1 + n⟩ : MS)
        | none => ⟨(es.map (Task.ev · env) ++ r), us.reverse ++ f, m + 1 + n⟩) = _
      rw [hg]
      dsimp only
      rw [List.take_left' (by rw [List.length_reverse, hl]), List.drop_left' (by rw [List.length_reverse, hl]), List.reverse_reverse]
    rw [hs]
    rw [show (.ev g.body (g.ps.zip us) :: (es.map (Task.ev · env) ++ r) : List Task) = [g.body].map (Task.ev · (g.ps.zip us)) ++ (es.map (Task.ev · env) ++ r) from rfl, e2]
    show mit p j3 ⟨es.map (Task.ev · env) ++ r, v :: f, m + 1 + n + m'⟩ = _
    rw [e3, List.reverse_cons, List.append_assoc, show m + 1 + n + m' + k = m + (1 + n + m' + k) by omega]
    rfl

/-! ### from runs to worth -/
theorem mit_todo (p : List Fn) {t : Task} {r : List Task} {f : List T} {n : Nat} {k : Nat} {f' : List T} {n' : Nat} (h : mit p k ⟨t :: r, f, n⟩ = ⟨[], f', n'⟩) : ∃ j, k = j + 1 ∧ mit p j (mstep p ⟨t :: r, f, n⟩) = ⟨[], f', n'⟩ := by
  cases k with
  | zero =>
    injection h with h1
    cases h1
  | succ j => exact ⟨j, rfl, h⟩
theorem worth_of {p : List Fn} {R : Nat} (P : WfP p R) {f' : List T} {n' : Nat} : ∀ (k : Nat) (es : List E) (env : Bs) (r : List Task) (f : List T) (m : Nat), WfEs (sig p) R (env.map (·.1)) es → mit p k ⟨es.map (Task.ev · env) ++ r, f, m⟩ = ⟨[], f', n'⟩ →
    ∃ vs n j, EvL p env es vs n ∧ j ≤ k ∧ mit p j ⟨r, vs.reverse ++ f, m + n⟩ = ⟨[], f', n'⟩ := by
  intro k
  induction k using Nat.strongRecOn with
  | ind k ih =>
    intro es env r f m wf h
    cases es with
    | nil => exact ⟨[], 0, k, .nil, Nat.le_refl _, h⟩
    | cons e es =>
      obtain ⟨j, rfl, h1⟩ := mit_todo p h
      cases e with
      | var x =>
        obtain ⟨v, hv⟩ := lk_some (show x ∈ env.map (·.1) from wf.1)
        have h2 : mit p j ⟨es.map (Task.ev · env) ++ r, (lk env x).getD .nil :: f, m + 1⟩ = ⟨[], f', n'⟩ := h1
        rw [hv] at h2
        obtain ⟨vs, n, i, a, b, c⟩ := ih j (Nat.lt_succ_self _) es env r (v :: f) (m + 1) wf.2 h2
        refine ⟨v :: vs, 1 + n, i, .var hv a, by omega, ?_⟩
        rw [List.reverse_cons, List.append_assoc, show m + (1 + n) = m + 1 + n by omega]
        exact c
      | quo v =>
        have h2 : mit p j ⟨es.map (Task.ev · env) ++ r, v :: f, m + 1⟩ = ⟨[], f', n'⟩ := h1
        obtain ⟨vs, n, i, a, b, c⟩ := ih j (Nat.lt_succ_self _) es env r (v :: f) (m + 1) wf.2 h2
        refine ⟨v :: vs, 1 + n, i, .quo a, by omega, ?_⟩
        rw [List.reverse_cons, List.append_assoc, show m + (1 + n) = m + 1 + n by omega]
        exact c
      | ite a b c =>
        have h2 : mit p j ⟨[a].map (Task.ev · env) ++ (.ite b c env :: (es.map (Task.ev · env) ++ r)), f, m + 1⟩ = ⟨[], f', n'⟩ := h1
        obtain ⟨us, n1, i1, a1, b1, c1⟩ := ih j (Nat.lt_succ_self _) [a] env _ f (m + 1) ⟨wf.1.1, trivial⟩ h2
        obtain ⟨u, rfl⟩ : ∃ u, us = [u] := by
          have q := a1.length
          match us, q with
          | [u], _ => exact ⟨u, rfl⟩
        obtain ⟨i2, rfl, h3⟩ := mit_todo p c1
        have h4 : mit p i2 ⟨[if u = T.nil then c else b].map (Task.ev · env) ++ (es.map (Task.ev · env) ++ r), f, m + 1 + n1⟩ = ⟨[], f', n'⟩ := h3
        obtain ⟨ws, n2, i3, a2, b2, c2⟩ := ih i2 (by omega) [if u = T.nil then c else b] env _ f (m + 1 + n1) ⟨by split; exact wf.1.2.2; exact wf.1.2.1, trivial⟩ h4
        obtain ⟨v, rfl⟩ : ∃ u, ws = [u] := by
          have q := a2.length
          match ws, q with
          | [u], _ => exact ⟨u, rfl⟩
        obtain ⟨vs, n3, i4, a3, b3, c3⟩ := ih i3 (by omega) es env r (v :: f) (m + 1 + n1 + n2) wf.2 c2
        refine ⟨v :: vs, 1 + n1 + n2 + n3, i4, .ite a1 a2 a3, by omega, ?_⟩
        rw [List.reverse_cons, List.append_assoc, show m + (1 + n1 + n2 + n3) = m + 1 + n1 + n2 + n3 by omega]
        exact c3
      | app w as =>
        have h2 : mit p j ⟨as.map (Task.ev · env) ++ ((if isPlain w then Task.doo w else .call w) :: (es.map (Task.ev · env) ++ r)), f, m + 1⟩ = ⟨[], f', n'⟩ := h1
        obtain ⟨us, n1, i1, a1, b1, c1⟩ := ih j (Nat.lt_succ_self _) as env _ f (m + 1) wf.1.2.2 h2
        obtain ⟨i2, rfl, h3⟩ := mit_todo p c1
        have q := a1.length
        rcases wf.1.2.1 with ⟨hp, e⟩ | ⟨hs, e⟩
        · rw [if_pos hp] at h3
          have h4 : mit p i2 ⟨es.map (Task.ev · env) ++ r, prim w ((us.reverse ++ f).take (arity w)).reverse :: (us.reverse ++ f).drop (arity w), m + 1 + n1⟩ = ⟨[], f', n'⟩ := h3
          rw [List.take_left' (by rw [List.length_reverse]; omega), List.drop_left' (by rw [List.length_reverse]; omega), List.reverse_reverse] at h4
          obtain ⟨vs, n3, i4, a3, b3, c3⟩ := ih i2 (by omega) es env r (prim w us :: f) (m + 1 + n1) wf.2 h4
          refine ⟨prim w us :: vs, 1 + n1 + n3, i4, .prim hp a1 a3, by omega, ?_⟩
          rw [List.reverse_cons, List.append_assoc, show m + (1 + n1 + n3) = m + 1 + n1 + n3 by omega]
          exact c3
        · have hp := plain_special hs
          rw [if_neg (by rw [hp]; decide)] at h3
          obtain ⟨g, hg, hm, hl⟩ := P.fnd e
          have h4 : mit p i2 (match fnd p w with
            | some g => (⟨.ev g.body (g.ps.zip ((us.reverse ++ f).take g.ps.length).reverse) :: (es.map (Task.ev · env) ++ r), (us.reverse ++ f).drop g.ps.length, m + 1 + n1⟩ : MS)
            | none => ⟨(es.map (Task.ev · env) ++ r), us.reverse ++ f, m + 1 + n1⟩) = ⟨[], f', n'⟩ := h3
          rw [hg] at h4
          dsimp only at h4
          rw [List.take_left' (by rw [List.length_reverse]; omega), List.drop_left' (by rw [List.length_reverse]; omega), List.reverse_reverse] at h4
          have hz : (g.ps.zip us).map (·.1) = g.ps := List.map_fst_zip (by omega)
          obtain ⟨ws, n2, i3, a2, b2, c2⟩ := ih i2 (by omega) [g.body] (g.ps.zip us) (es.map (Task.ev · env) ++ r) f (m + 1 + n1) ⟨by rw [hz]; exact (P.ok g hm).2, trivial⟩ h4
          obtain ⟨v, rfl⟩ : ∃ u, ws = [u] := by
            have q := a2.length
            match ws, q with
            | [u], _ => exact ⟨u, rfl⟩
          obtain ⟨vs, n3, i4, a3, b3, c3⟩ := ih i3 (by omega) es env r (v :: f) (m + 1 + n1 + n2) wf.2 c2
          refine ⟨v :: vs, 1 + n1 + n2 + n3, i4, .call hp hg a1 a2 a3, by omega, ?_⟩
          rw [List.reverse_cons, List.append_assoc, show m + (1 + n1 + n2 + n3) = m + 1 + n1 + n2 + n3 by omega]
          exact c3

/-! ### what holds of every state -/
def envFine (R : Nat) (env : Bs) : Prop := ∀ q ∈ env, q.2.fine R
def WfTk (p : List Fn) (R0 R : Nat) : Task → Prop
  | .ev e env => WfE (sig p) R0 (env.map (·.1)) e ∧ envFine R env
  | .ite b c env => WfE (sig p) R0 (env.map (·.1)) b ∧ WfE (sig p) R0 (env.map (·.1)) c ∧ envFine R env
  | .doo w => isPlain w = true
  | .call w => isPlain w = false
/-- so many values stand, and in the end one -/
def Fits (p : List Fn) : List Task → Nat → Prop
  | [], k => k = 1
  | .ev _ _ :: r, k => Fits p r (k + 1)
  | .ite _ _ _ :: r, k => 1 ≤ k ∧ Fits p r k
  | .doo w :: r, k => arity w ≤ k ∧ Fits p r (k - arity w + 1)
  | .call w :: r, k => ∃ g, fnd p w = some g ∧ g.ps.length ≤ k ∧ Fits p r (k - g.ps.length + 1)
structure WfS (p : List Fn) (R0 R : Nat) (s : MS) : Prop where
  tasks : ∀ t ∈ s.todo, WfTk p R0 R t
  found : ∀ v ∈ s.found, v.fine R
  fits : Fits p s.todo s.found.length
theorem WfTk.mono {p : List Fn} {R0 R R' : Nat} (h : R ≤ R') : ∀ {t : Task}, WfTk p R0 R t → WfTk p R0 R' t
  | .ev _ _, w => ⟨w.1, fun q m => (w.2 q m).mono h⟩
  | .ite _ _ _, w => ⟨w.1, w.2.1, fun q m => (w.2.2 q m).mono h⟩
  | .doo _, w => w
  | .call _, w => w
theorem arity_le (w : Str) : 1 ≤ arity w ∧ arity w ≤ 2 := by
  unfold arity
  split <;> omega
theorem prim_fine {R : Nat} (hR : 1 ≤ R) (w : Str) {vs : List T} (h : ∀ v ∈ vs, v.fine R) : (prim w vs).fine (R + 1) := by
  unfold prim
  split
  · rename_i a
    have ha := h a (by simp)
    split
    · split
      · exact T.fine_yes
      · exact T.fine_nil (by omega)
    · split
      · exact (T.fine_hd ha hR).mono (by omega)
      · exact (T.fine_tl ha hR).mono (by omega)
  · rename_i a b
    have ha := h a (by simp)
    have hb := h b (by simp)
    split
    · split
      · exact T.fine_yes
      · exact T.fine_nil (by omega)
    · exact T.fine_cons ha hb hR
  · exact T.fine_nil (by omega)
theorem fits_evs {p : List Fn} {env : Bs} : ∀ (as : List E) (r : List Task) (k : Nat), Fits p (as.map (Task.ev · env) ++ r) k ↔ Fits p r (k + as.length)
  | [], r, k => Iff.rfl
  | a :: as, r, k => by
    show Fits p (as.map (Task.ev · env) ++ r) (k + 1) ↔ _
    rw [fits_evs as r (k + 1), List.length_cons, show k + 1 + as.length = k + (as.length + 1) by omega]
theorem envFine_zip {R : Nat} {ps : List Str} {us : List T} (h : ∀ v ∈ us, v.fine R) : envFine R (ps.zip us) := fun q m => h q.2 (List.of_mem_zip m).2
theorem WfS.step {p : List Fn} {R0 R : Nat} (P : WfP p R0) (h0 : R0 ≤ R) (hR : 1 ≤ R) {s : MS} (W : WfS p R0 R s) : WfS p R0 (R + 1) (mstep p s) := by
  obtain ⟨todo, f, n⟩ := s
  obtain ⟨w1, w2, w3⟩ := W
  cases todo with
  | nil => exact ⟨fun t m => (List.not_mem_nil m).elim, fun v m => (w2 v m).mono (Nat.le_succ _), w3⟩
  | cons t r =>
    have ht := w1 t (List.mem_cons_self ..)
    have hr : ∀ t ∈ r, WfTk p R0 (R + 1) t := fun t m => (w1 t (List.mem_cons_of_mem _ m)).mono (Nat.le_succ _)
    have hf : ∀ v ∈ f, v.fine (R + 1) := fun v m => (w2 v m).mono (Nat.le_succ _)
    cases t with
    | ev e env =>
      have he : envFine (R + 1) env := fun q m => (ht.2 q m).mono (Nat.le_succ _)
      cases e with
      | var x =>
        obtain ⟨v, hv⟩ := lk_some (show x ∈ env.map (·.1) from ht.1)
        refine ⟨hr, fun u m => ?_, w3⟩
        rcases List.mem_cons.mp (show u ∈ (lk env x).getD .nil :: f from m) with q | q
        · rw [q, hv]
          exact he (x, v) (lk_mem hv)
        · exact hf u q
      | quo v =>
        refine ⟨hr, fun u m => ?_, w3⟩
        rcases List.mem_cons.mp (show u ∈ v :: f from m) with q | q
        · rw [q]
          exact T.fine.mono (show v.fine R0 from ht.1) (by omega)
        · exact hf u q
      | ite a b c =>
        refine ⟨fun t m => ?_, hf, ?_⟩
        · rcases List.mem_cons.mp (show t ∈ Task.ev a env :: .ite b c env :: r from m) with q | q
          · rw [q]
            exact ⟨ht.1.1, he⟩
          · rcases List.mem_cons.mp q with q | q
            · rw [q]
              exact ⟨ht.1.2.1, ht.1.2.2, he⟩
            · exact hr t q
        · show 1 ≤ f.length + 1 ∧ Fits p r (f.length + 1)
          exact ⟨by omega, w3⟩
      | app w as =>
        obtain ⟨_, wa, wes⟩ := ht.1
        refine ⟨fun t m => ?_, hf, ?_⟩
        · rcases List.mem_append.mp (show t ∈ as.map (Task.ev · env) ++ (if isPlain w then .doo w else .call w) :: r from m) with q | q
          · obtain ⟨e, hm, rfl⟩ := List.mem_map.mp q
            exact ⟨wes.mem hm, he⟩
          · rcases List.mem_cons.mp q with q | q
            · rw [q]
              cases hp : isPlain w with
              | true => exact hp
              | false => exact hp
            · exact hr t q
        · show Fits p (as.map (Task.ev · env) ++ (if isPlain w then .doo w else .call w) :: r) f.length
          rw [fits_evs]
          have w3' : Fits p r (f.length + 1) := w3
          rcases wa with ⟨hp, e⟩ | ⟨hs, e⟩
          · rw [if_pos hp]
            show arity w ≤ f.length + as.length ∧ Fits p r (f.length + as.length - arity w + 1)
            exact ⟨by omega, by rw [show f.length + as.length - arity w + 1 = f.length + 1 by omega]; exact w3'⟩
          · rw [if_neg (by rw [plain_special hs]; decide)]
            obtain ⟨g, hg, _, hl⟩ := P.fnd e
            exact ⟨g, hg, by omega, by rw [show f.length + as.length - g.ps.length + 1 = f.length + 1 by omega]; exact w3'⟩
    | ite b c env =>
      have he : envFine (R + 1) env := fun q m => (ht.2.2 q m).mono (Nat.le_succ _)
      have w4 : 1 ≤ f.length ∧ Fits p r f.length := w3
      refine ⟨fun t m => ?_, fun v m => hf v (List.mem_of_mem_tail m), ?_⟩
      · rcases List.mem_cons.mp (show t ∈ Task.ev (if f.headD .nil = T.nil then c else b) env :: r from m) with q | q
        · rw [q]
          exact ⟨by split; exact ht.2.1; exact ht.1, he⟩
        · exact hr t q
      · show Fits p r (f.tail.length + 1)
        rw [List.length_tail, show f.length - 1 + 1 = f.length by omega]
        exact w4.2
    | doo w =>
      have w4 : arity w ≤ f.length ∧ Fits p r (f.length - arity w + 1) := w3
      refine ⟨hr, fun u m => ?_, ?_⟩
      · rcases List.mem_cons.mp (show u ∈ prim w (f.take (arity w)).reverse :: f.drop (arity w) from m) with q | q
        · rw [q]
          exact prim_fine hR w fun v m => w2 v (List.mem_of_mem_take (List.mem_reverse.mp m))
        · exact hf u (List.mem_of_mem_drop q)
      · show Fits p r ((f.drop (arity w)).length + 1)
        rw [List.length_drop]
        exact w4.2
    | call w =>
      obtain ⟨g, hg, hl, w4⟩ : ∃ g, fnd p w = some g ∧ g.ps.length ≤ f.length ∧ Fits p r (f.length - g.ps.length + 1) := w3
      have hs : mstep p ⟨.call w :: r, f, n⟩ = ⟨.ev g.body (g.ps.zip (f.take g.ps.length).reverse) :: r, f.drop g.ps.length, n⟩ := by
        show (match fnd p w with
          | some g => (⟨.ev g.body (g.ps.zip (f.take g.ps.length).reverse) :: r, f.drop g.ps.length, n⟩ : MS)
          | none => ⟨r, f, n⟩) = _
        rw [hg]
      rw [hs]
      have hz : (g.ps.zip (f.take g.ps.length).reverse).map (·.1) = g.ps := List.map_fst_zip (by rw [List.length_reverse, List.length_take]; omega)
      refine ⟨fun t m => ?_, fun u m => hf u (List.mem_of_mem_drop m), ?_⟩
      · rcases List.mem_cons.mp m with q | q
        · rw [q]
          exact ⟨by rw [hz]; exact (P.ok g (fnd_mem hg).1).2, envFine_zip fun v m => hf v (List.mem_of_mem_take (List.mem_reverse.mp m))⟩
        · exact hr t q
      · show Fits p r ((f.drop g.ps.length).length + 1)
        rw [List.length_drop]
        exact w4
theorem WfS.iter {p : List Fn} {R0 R : Nat} (P : WfP p R0) (h0 : R0 ≤ R) (hR : 1 ≤ R) {s : MS} (W : WfS p R0 R s) : ∀ k, WfS p R0 (R + k) (mit p k s)
  | 0 => W
  | k + 1 => by
    rw [mit_succ]
    exact (WfS.iter P h0 hR W k).step P (by omega) (by omega)
/-- the lengths -/
theorem mstep_len {p : List Fn} {R0 R : Nat} {s : MS} (W : WfS p R0 R s) : (mstep p s).todo.length ≤ s.todo.length + 12 ∧ (mstep p s).found.length ≤ s.found.length + 1 := by
  obtain ⟨todo, f, n⟩ := s
  obtain ⟨w1, w2, w3⟩ := W
  cases todo with
  | nil => exact ⟨by show 0 ≤ _; omega, by show f.length ≤ _; simp⟩
  | cons t r =>
    have ht := w1 t (List.mem_cons_self ..)
    cases t with
    | ev e env =>
      cases e with
      | var x => exact ⟨by show r.length ≤ r.length + 1 + 12; omega, Nat.le_refl _⟩
      | quo v => exact ⟨by show r.length ≤ r.length + 1 + 12; omega, Nat.le_refl _⟩
      | ite a b c => exact ⟨by show r.length + 1 + 1 ≤ r.length + 1 + 12; omega, Nat.le_succ _⟩
      | app w as =>
        have := ht.1.1
        refine ⟨?_, Nat.le_succ _⟩
        show (as.map (Task.ev · env) ++ (if isPlain w then .doo w else .call w) :: r).length ≤ r.length + 1 + 12
        rw [List.length_append, List.length_map, List.length_cons]
        omega
    | ite b c env => exact ⟨by show r.length + 1 ≤ r.length + 1 + 12; omega, by show f.tail.length ≤ f.length + 1; rw [List.length_tail]; omega⟩
    | doo w => exact ⟨by show r.length ≤ r.length + 1 + 12; omega, by show (f.drop (arity w)).length + 1 ≤ f.length + 1; rw [List.length_drop]; omega⟩
    | call w =>
      obtain ⟨g, hg, hl, w4⟩ : ∃ g, fnd p w = some g ∧ g.ps.length ≤ f.length ∧ Fits p r (f.length - g.ps.length + 1) := w3
      have hs : mstep p ⟨.call w :: r, f, n⟩ = ⟨.ev g.body (g.ps.zip (f.take g.ps.length).reverse) :: r, f.drop g.ps.length, n⟩ := by
        show (match fnd p w with
          | some g => (⟨.ev g.body (g.ps.zip (f.take g.ps.length).reverse) :: r, f.drop g.ps.length, n⟩ : MS)
          | none => ⟨r, f, n⟩) = _
        rw [hg]
      rw [hs]
      exact ⟨by show r.length + 1 ≤ r.length + 1 + 12; omega, by show (f.drop g.ps.length).length ≤ f.length + 1; rw [List.length_drop]; omega⟩
end K35
end

section
set_option Elab.async false
set_option linter.all false
/-! The program that runs programs. -/
namespace K35
open PySem
def Bd (q : List Fn) (env : Bs) (e : E) (v : T) (b : Nat) : Prop := ∃ n, EvL q env [e] [v] n ∧ n ≤ b
def Bds (q : List Fn) (env : Bs) (es : List E) (vs : List T) (b : Nat) : Prop := ∃ n, EvL q env es vs n ∧ n ≤ b
section
variable {q : List Fn} {env : Bs} {a b c e : E} {u v x y : T} {es : List E} {vs us : List T} {n m k : Nat} {w : Str}
theorem Bd.mono (h : Bd q env e v n) (l : n ≤ m) : Bd q env e v m := by
  obtain ⟨j, h1, h2⟩ := h
  exact ⟨j, h1, by omega⟩
theorem bds_nil : Bds q env [] [] 0 := ⟨0, .nil, Nat.le_refl _⟩
theorem bds_cons (h : Bd q env e v n) (hr : Bds q env es vs m) : Bds q env (e :: es) (v :: vs) (n + m) := by
  obtain ⟨j, h1, h2⟩ := h
  obtain ⟨i, h3, h4⟩ := hr
  exact ⟨j + i, h1.app h3, by omega⟩
theorem bd_var {x : Str} (h : lk env x = some v) : Bd q env (.var x) v 1 := ⟨1, .var h .nil, Nat.le_refl _⟩
theorem bd_quo : Bd q env (.quo v) v 1 := ⟨1, .quo .nil, Nat.le_refl _⟩
theorem bd_iteF (h : Bd q env a u n) (hu : u = T.nil) (hc : Bd q env c v m) : Bd q env (.ite a b c) v (1 + n + m) := by
  obtain ⟨j, h1, h2⟩ := h
  obtain ⟨i, h3, h4⟩ := hc
  refine ⟨1 + j + i + 0, .ite h1 (by rw [if_pos hu]; exact h3) .nil, by omega⟩
theorem bd_iteT (h : Bd q env a u n) (hu : u ≠ T.nil) (hb : Bd q env b v m) : Bd q env (.ite a b c) v (1 + n + m) := by
  obtain ⟨j, h1, h2⟩ := h
  obtain ⟨i, h3, h4⟩ := hb
  refine ⟨1 + j + i + 0, .ite h1 (by rw [if_neg hu]; exact h3) .nil, by omega⟩
theorem bd_p1 (hp : isPlain w = true) (h : Bd q env a u n) (e : prim w [u] = v) : Bd q env (.app w [a]) v (1 + n) := by
  obtain ⟨j, h1, h2⟩ := h
  exact ⟨1 + j + 0, e ▸ .prim hp h1 .nil, by omega⟩
theorem bd_p2 (hp : isPlain w = true) (h : Bd q env a x n) (h' : Bd q env b y m) (e : prim w [x, y] = v) : Bd q env (.app w [a, b]) v (1 + n + m) := by
  obtain ⟨i, h3, h4⟩ := bds_cons h (bds_cons h' (bds_nil (q := q) (env := env)))
  exact ⟨1 + i + 0, e ▸ .prim hp h3 .nil, by omega⟩
theorem bd_call {f : Fn} (hf : fnd q w = some f) (hp : isPlain w = false) (h : Bds q env es us n) (hb : Bd q (f.ps.zip us) f.body v m) : Bd q env (.app w es) v (1 + n + m) := by
  obtain ⟨j, h1, h2⟩ := h
  obtain ⟨i, h3, h4⟩ := hb
  exact ⟨1 + j + i + 0, .call hp hf h1 h3 .nil, by omega⟩
end
theorem prim_head (u : T) : prim "head" [u] = u.hd := by
  unfold prim
  dsimp only
  rw [if_neg (by decide +kernel), if_pos rfl]
theorem prim_tail (u : T) : prim "tail" [u] = u.tl := by
  unfold prim
  dsimp only
  rw [if_neg (by decide +kernel), if_neg (by decide +kernel)]
theorem prim_word (u : T) : prim "word" [u] = if u.isW then .yes else .nil := by
  unfold prim
  dsimp only
  rw [if_pos rfl]
theorem prim_same (u v : T) : prim "same" [u, v] = if u = v then .yes else .nil := by
  unfold prim
  dsimp only
  rw [if_pos rfl]
theorem prim_join (u v : T) : prim "join" [u, v] = T.cons u v := by
  unfold prim
  dsimp only
  rw [if_neg (by decide +kernel)]
theorem yes_ne : T.yes ≠ T.nil := fun h => by cases h
section
variable {q : List Fn} {env : Bs} {a b c e : E} {u v x y : T} {n m : Nat}
theorem bd_head (h : Bd q env a u n) (e : u.hd = v) : Bd q env (.app "head" [a]) v (1 + n) := bd_p1 (by decide +kernel) h (by rw [prim_head, e])
theorem bd_tail (h : Bd q env a u n) (e : u.tl = v) : Bd q env (.app "tail" [a]) v (1 + n) := bd_p1 (by decide +kernel) h (by rw [prim_tail, e])
theorem bd_word (h : Bd q env a u n) : Bd q env (.app "word" [a]) (if u.isW then .yes else .nil) (1 + n) := bd_p1 (by decide +kernel) h (prim_word u)
theorem bd_same (h : Bd q env a x n) (h' : Bd q env b y m) : Bd q env (.app "same" [a, b]) (if x = y then .yes else .nil) (1 + n + m) := bd_p2 (by decide +kernel) h h' (prim_same x y)
theorem bd_join (h : Bd q env a x n) (h' : Bd q env b y m) (e : T.cons x y = v) : Bd q env (.app "join" [a, b]) v (1 + n + m) := bd_p2 (by decide +kernel) h h' (by rw [prim_join, e])
/-- if a word is this one -/
theorem bd_isT (h : Bd q env a x n) (h' : Bd q env b y m) (e : x = y) {k : Nat} {d : E} (hc : Bd q env c v k) : Bd q env (.ite (.app "same" [a, b]) c d) v (1 + (1 + n + m) + k) :=
  bd_iteT (bd_same h h') (by rw [if_pos e]; exact yes_ne) hc
theorem bd_isF (h : Bd q env a x n) (h' : Bd q env b y m) (e : x ≠ y) {k : Nat} {d : E} (hc : Bd q env d v k) : Bd q env (.ite (.app "same" [a, b]) c d) v (1 + (1 + n + m) + k) :=
  bd_iteF (bd_same h h') (by rw [if_neg e]) hc
end

/-! ### its functions -/
abbrev Vr (x : String) : E := .var (Str.ofString x)
abbrev C1 (w : String) (a : E) : E := .app (Str.ofString w) [a]
abbrev C2 (w : String) (a b : E) : E := .app (Str.ofString w) [a, b]
abbrev C3 (w : String) (a b c : E) : E := .app (Str.ofString w) [a, b, c]
abbrev C4 (w : String) (a b c d : E) : E := .app (Str.ofString w) [a, b, c, d]
abbrev C5 (w : String) (a b c d e : E) : E := .app (Str.ofString w) [a, b, c, d, e]
abbrev QW (x : String) : E := .quo (.w (Str.ofString x))
/-- with names for its functions -/
def uniWith (n0 n1 n2 n3 n4 n5 n6 n7 n8 n9 n10 : String) : List Fn := [
  ⟨n0, ["p", "xs"], C3 n1 (C1 "head" (Vr "p")) (Vr "xs") (Vr "p")⟩,
  ⟨n1, ["f", "vs", "p"], C4 n5 (C1 n3 (Vr "f")) (C1 n2 (Vr "f")) (Vr "vs") (Vr "p")⟩,
  ⟨n2, ["l"], C1 "head" (C1 "tail" (Vr "l"))⟩,
  ⟨n3, ["l"], C1 "head" (C1 "tail" (C1 "tail" (Vr "l")))⟩,
  ⟨n4, ["l"], C1 "head" (C1 "tail" (C1 "tail" (C1 "tail" (Vr "l"))))⟩,
  ⟨n5, ["e", "ns", "vs", "p"], .ite (C1 "word" (Vr "e")) (C3 n6 (Vr "e") (Vr "ns") (Vr "vs")) (C5 n7 (C1 "head" (Vr "e")) (Vr "e") (Vr "ns") (Vr "vs") (Vr "p"))⟩,
  ⟨n6, ["e", "ns", "vs"], .ite (C2 "same" (Vr "e") (C1 "head" (Vr "ns"))) (C1 "head" (Vr "vs")) (C3 n6 (Vr "e") (C1 "tail" (Vr "ns")) (C1 "tail" (Vr "vs")))⟩,
  ⟨n7, ["w", "e", "ns", "vs", "p"], .ite (C2 "same" (Vr "w") (QW "quote")) (C1 n2 (Vr "e")) (.ite (C2 "same" (Vr "w") (QW "if"))
    (.ite (C4 n5 (C1 n2 (Vr "e")) (Vr "ns") (Vr "vs") (Vr "p")) (C4 n5 (C1 n3 (Vr "e")) (Vr "ns") (Vr "vs") (Vr "p")) (C4 n5 (C1 n4 (Vr "e")) (Vr "ns") (Vr "vs") (Vr "p")))
    (C3 n9 (Vr "w") (C4 n8 (C1 "tail" (Vr "e")) (Vr "ns") (Vr "vs") (Vr "p")) (Vr "p")))⟩,
  ⟨n8, ["es", "ns", "vs", "p"], .ite (Vr "es") (C2 "join" (C4 n5 (C1 "head" (Vr "es")) (Vr "ns") (Vr "vs") (Vr "p")) (C4 n8 (C1 "tail" (Vr "es")) (Vr "ns") (Vr "vs") (Vr "p"))) (.quo .nil)⟩,
  ⟨n9, ["w", "ys", "p"], .ite (C2 "same" (Vr "w") (QW "same")) (C2 "same" (C1 "head" (Vr "ys")) (C1 n2 (Vr "ys"))) (.ite (C2 "same" (Vr "w") (QW "word")) (C1 "word" (C1 "head" (Vr "ys")))
    (.ite (C2 "same" (Vr "w") (QW "head")) (C1 "head" (C1 "head" (Vr "ys"))) (.ite (C2 "same" (Vr "w") (QW "tail")) (C1 "tail" (C1 "head" (Vr "ys")))
    (.ite (C2 "same" (Vr "w") (QW "join")) (C2 "join" (C1 "head" (Vr "ys")) (C1 n2 (Vr "ys"))) (C3 n1 (C2 n10 (Vr "w") (Vr "p")) (Vr "ys") (Vr "p"))))))⟩,
  ⟨n10, ["w", "p"], .ite (C2 "same" (Vr "w") (C1 "head" (C1 "head" (Vr "p")))) (C1 "head" (Vr "p")) (C2 n10 (Vr "w") (C1 "tail" (Vr "p")))⟩]
def uniP : List Fn := uniWith "main" "apply" "second" "third" "fourth" "ev" "look" "evlist" "evs" "evcall" "find"
def uniR : List Fn := uniWith "f0" "f1" "f2" "f3" "f4" "f5" "f6" "f7" "f8" "f9" "f10"
def uf (i : Nat) : Fn := uniR.getD i ⟨"", [], .quo .nil⟩
structure HasU (q : List Fn) : Prop where
  h0 : fnd q "f0" = some (uf 0)
  h1 : fnd q "f1" = some (uf 1)
  h2 : fnd q "f2" = some (uf 2)
  h3 : fnd q "f3" = some (uf 3)
  h4 : fnd q "f4" = some (uf 4)
  h5 : fnd q "f5" = some (uf 5)
  h6 : fnd q "f6" = some (uf 6)
  h7 : fnd q "f7" = some (uf 7)
  h8 : fnd q "f8" = some (uf 8)
  h9 : fnd q "f9" = some (uf 9)
  h10 : fnd q "f10" = some (uf 10)
section
variable {q : List Fn} {env : Bs} {a b c d e : E} {u v x y z : T} {n m k j : Nat} (U : HasU q)
theorem np (w : String) (h : isPlain (Str.ofString w) = false := by decide +kernel) : isPlain (Str.ofString w) = false := h
include U
theorem u_second (h : Bd q env a u n) (e : u.tl.hd = v) : Bd q env (C1 "f2" a) v (n + 4) :=
  (bd_call (f := uf 2) U.h2 (np "f2") (bds_cons h bds_nil) (bd_head (bd_tail (bd_var rfl) rfl) e)).mono (by omega)
theorem u_third (h : Bd q env a u n) (e : u.tl.tl.hd = v) : Bd q env (C1 "f3" a) v (n + 5) :=
  (bd_call (f := uf 3) U.h3 (np "f3") (bds_cons h bds_nil) (bd_head (bd_tail (bd_tail (bd_var rfl) rfl) rfl) e)).mono (by omega)
theorem u_fourth (h : Bd q env a u n) (e : u.tl.tl.tl.hd = v) : Bd q env (C1 "f4" a) v (n + 6) :=
  (bd_call (f := uf 4) U.h4 (np "f4") (bds_cons h bds_nil) (bd_head (bd_tail (bd_tail (bd_tail (bd_var rfl) rfl) rfl) rfl) e)).mono (by omega)
end

/-! ### what it does with a program -/
def nsT (env : Bs) : T := .l (env.map fun z => T.w z.1)
def vsT (env : Bs) : T := .l (env.map fun z => z.2)
def evEnv (e : T) (env : Bs) (p : T) : Bs := (uf 5).ps.zip [e, nsT env, vsT env, p]
section
variable {q : List Fn} (U : HasU q)
include U
theorem u_look {x : Str} {v : T} : ∀ {env : Bs}, lk env x = some v → Bd q ((uf 6).ps.zip [.w x, nsT env, vsT env]) (uf 6).body v (11 * env.length)
  | (y, u) :: r, h => by
    unfold lk at h
    by_cases e : y = x
    · rw [if_pos e] at h
      cases h
      refine (bd_isT (y := .w y) (bd_var rfl) (bd_head (bd_var rfl) rfl) (by rw [e]) (bd_head (u := vsT ((y, v) :: r)) (bd_var rfl) rfl)).mono ?_
      rw [List.length_cons]
      omega
    · rw [if_neg e] at h
      refine (bd_isF (y := .w y) (bd_var rfl) (bd_head (bd_var rfl) rfl) (fun z => e (T.w.inj z).symm) (bd_call (f := uf 6) U.h6 (np "f6")
        (bds_cons (bd_var rfl) (bds_cons (bd_tail (u := nsT ((y, u) :: r)) (v := nsT r) (bd_var rfl) rfl) (bds_cons (bd_tail (u := vsT ((y, u) :: r)) (v := vsT r) (bd_var rfl) rfl) bds_nil))) (u_look h))).mono ?_
      rw [List.length_cons]
      omega
theorem u_find {x : Str} {f : Fn} : ∀ {p : List Fn}, fnd p x = some f → Bd q ((uf 10).ps.zip [.w x, encP p]) (uf 10).body f.enc (10 * p.length)
  | g :: r, h => by
    unfold fnd at h
    by_cases e : g.name = x
    · rw [if_pos e] at h
      cases h
      refine (bd_isT (y := .w f.name) (bd_var rfl) (bd_head (bd_head (u := encP (f :: r)) (bd_var rfl) rfl) rfl) (by rw [e]) (bd_head (u := encP (f :: r)) (bd_var rfl) rfl)).mono ?_
      rw [List.length_cons]
      omega
    · rw [if_neg e] at h
      refine (bd_isF (y := .w g.name) (bd_var rfl) (bd_head (bd_head (u := encP (g :: r)) (bd_var rfl) rfl) rfl) (fun z => e (T.w.inj z).symm) (bd_call (f := uf 10) U.h10 (np "f10")
        (bds_cons (bd_var rfl) (bds_cons (bd_tail (u := encP (g :: r)) (v := encP r) (bd_var rfl) rfl) bds_nil)) (u_find h))).mono ?_
      rw [List.length_cons]
      omega
end
inductive SimL (q : List Fn) (p : T) (env : Bs) : List E → List T → Nat → Prop
  | nil : SimL q p env [] [] 0
  | cons {e v es vs b k} : Bd q (evEnv e.enc env p) (uf 5).body v b → SimL q p env es vs k → SimL q p env (e :: es) (v :: vs) (b + k)
theorem SimL.one {q : List Fn} {p : T} {env : Bs} {e : E} {v : T} {b : Nat} (h : SimL q p env [e] [v] b) : Bd q (evEnv e.enc env p) (uf 5).body v b := by
  cases h with
  | cons h1 h2 =>
    cases h2
    exact h1
section
variable {q : List Fn} (U : HasU q)
include U
theorem u_evs {p : T} {env : Bs} {es : List E} {vs : List T} {b : Nat} (h : SimL q p env es vs b) : Bd q ((uf 8).ps.zip [.l (E.encs es), nsT env, vsT env, p]) (uf 8).body (.l vs) (b + 15 * es.length + 3) := by
  induction h with
  | nil => exact (bd_iteF (bd_var rfl) rfl bd_quo).mono (by simp)
  | @cons e v es vs b k h1 h2 ih =>
    refine (bd_iteT (u := .l (E.encs (e :: es))) (bd_var rfl) (fun z => by cases z) (bd_join (x := v) (y := .l vs)
      (bd_call (f := uf 5) U.h5 (np "f5") (bds_cons (bd_head (u := .l (E.encs (e :: es))) (v := e.enc) (bd_var rfl) rfl) (bds_cons (bd_var rfl) (bds_cons (bd_var rfl) (bds_cons (bd_var rfl) bds_nil)))) h1)
      (bd_call (f := uf 8) U.h8 (np "f8") (bds_cons (bd_tail (u := .l (E.encs (e :: es))) (v := .l (E.encs es)) (bd_var rfl) rfl) (bds_cons (bd_var rfl) (bds_cons (bd_var rfl) (bds_cons (bd_var rfl) bds_nil)))) ih) rfl)).mono ?_
    rw [List.length_cons]
    omega
/-- what a list with a first word goes to -/
theorem u_list {p : T} {env : Bs} {w : Str} {xs : List T} {v : T} {b : Nat} (h : Bd q ((uf 7).ps.zip [.w w, .l (.w w :: xs), nsT env, vsT env, p]) (uf 7).body v b) : Bd q (evEnv (.l (.w w :: xs)) env p) (uf 5).body v (b + 10) :=
  (bd_iteF (bd_word (u := .l (.w w :: xs)) (bd_var rfl)) rfl (bd_call (f := uf 7) U.h7 (np "f7") (bds_cons (bd_head (u := .l (.w w :: xs)) (v := .w w) (bd_var rfl) rfl) (bds_cons (bd_var rfl) (bds_cons (bd_var rfl) (bds_cons (bd_var rfl) (bds_cons (bd_var rfl) bds_nil))))) h)).mono (by omega)
theorem ww {a b : Str} (h : a ≠ b) : T.w a ≠ T.w b := fun z => h (T.w.inj z)
omit U in
theorem ww' {a b : Str} (h : a ≠ b) : T.w a ≠ T.w b := fun z => h (T.w.inj z)
theorem u_app {p : T} {env : Bs} {w : Str} {as : List E} {us : List T} {v : T} {b k : Nat} (h1 : w ≠ "quote") (h2 : w ≠ "if") (hs : SimL q p env as us b) (hb : Bd q ((uf 9).ps.zip [.w w, .l us, p]) (uf 9).body v k) :
    Bd q (evEnv (E.app w as).enc env p) (uf 5).body v (b + 15 * as.length + k + 30) := by
  refine (u_list U (bd_isF (bd_var rfl) bd_quo (ww' h1) (bd_isF (bd_var rfl) bd_quo (ww' h2) (bd_call (f := uf 9) U.h9 (np "f9")
    (bds_cons (bd_var rfl) (bds_cons (bd_call (f := uf 8) U.h8 (np "f8") (bds_cons (bd_tail (u := (E.app w as).enc) (v := .l (E.encs as)) (bd_var rfl) rfl) (bds_cons (bd_var rfl) (bds_cons (bd_var rfl) (bds_cons (bd_var rfl) bds_nil)))) (u_evs U hs)) (bds_cons (bd_var rfl) bds_nil))) hb)))).mono ?_
  omega
end
theorem plain_cases {w : Str} (h : isPlain w = true) : w = "same" ∨ w = "word" ∨ w = "head" ∨ w = "tail" ∨ w = "join" := by
  unfold isPlain plainsL at h
  simpa [List.contains_eq_mem] using h
theorem special_ne {w : Str} (h : isSpecial w = false) : w ≠ "quote" ∧ w ≠ "if" ∧ w ≠ "same" ∧ w ≠ "word" ∧ w ≠ "head" ∧ w ≠ "tail" ∧ w ≠ "join" := by
  unfold isSpecial specialsL at h
  simpa [List.contains_eq_mem] using h
theorem len1 {us : List T} (h : us.length = 1) : ∃ a, us = [a] := by
  match us, h with
  | [a], _ => exact ⟨a, rfl⟩
theorem len2 {us : List T} (h : us.length = 2) : ∃ a b, us = [a, b] := by
  match us, h with
  | [a, b], _ => exact ⟨a, b, rfl⟩
section
variable {q : List Fn} (U : HasU q)
include U
theorem u_prim {p : T} {w : Str} {us : List T} (hp : isPlain w = true) (hl : us.length = arity w) : Bd q ((uf 9).ps.zip [.w w, .l us, p]) (uf 9).body (prim w us) 28 := by
  rcases plain_cases hp with rfl | rfl | rfl | rfl | rfl
  · obtain ⟨x, y, rfl⟩ := len2 (us := us) (by rw [hl]; decide +kernel)
    rw [show prim (Str.ofString "same") [x, y] = _ from prim_same x y]
    exact (bd_isT (bd_var rfl) bd_quo rfl (bd_same (x := x) (y := y) (bd_head (u := .l [x, y]) (bd_var rfl) rfl) (u_second U (u := .l [x, y]) (bd_var rfl) rfl))).mono (by omega)
  · obtain ⟨x, rfl⟩ := len1 (us := us) (by rw [hl]; decide +kernel)
    rw [show prim (Str.ofString "word") [x] = _ from prim_word x]
    exact (bd_isF (bd_var rfl) bd_quo (ww' (by decide +kernel)) (bd_isT (bd_var rfl) bd_quo rfl (bd_word (u := x) (bd_head (u := .l [x]) (bd_var rfl) rfl)))).mono (by omega)
  · obtain ⟨x, rfl⟩ := len1 (us := us) (by rw [hl]; decide +kernel)
    rw [show prim (Str.ofString "head") [x] = _ from prim_head x]
    exact (bd_isF (bd_var rfl) bd_quo (ww' (by decide +kernel)) (bd_isF (bd_var rfl) bd_quo (ww' (by decide +kernel)) (bd_isT (bd_var rfl) bd_quo rfl (bd_head (u := x) (bd_head (u := .l [x]) (bd_var rfl) rfl) rfl)))).mono (by omega)
  · obtain ⟨x, rfl⟩ := len1 (us := us) (by rw [hl]; decide +kernel)
    rw [show prim (Str.ofString "tail") [x] = _ from prim_tail x]
    exact (bd_isF (bd_var rfl) bd_quo (ww' (by decide +kernel)) (bd_isF (bd_var rfl) bd_quo (ww' (by decide +kernel)) (bd_isF (bd_var rfl) bd_quo (ww' (by decide +kernel)) (bd_isT (bd_var rfl) bd_quo rfl (bd_tail (u := x) (bd_head (u := .l [x]) (bd_var rfl) rfl) rfl))))).mono (by omega)
  · obtain ⟨x, y, rfl⟩ := len2 (us := us) (by rw [hl]; decide +kernel)
    rw [show prim (Str.ofString "join") [x, y] = _ from prim_join x y]
    exact (bd_isF (bd_var rfl) bd_quo (ww' (by decide +kernel)) (bd_isF (bd_var rfl) bd_quo (ww' (by decide +kernel)) (bd_isF (bd_var rfl) bd_quo (ww' (by decide +kernel)) (bd_isF (bd_var rfl) bd_quo (ww' (by decide +kernel))
      (bd_isT (bd_var rfl) bd_quo rfl (bd_join (x := x) (y := y) (bd_head (u := .l [x, y]) (bd_var rfl) rfl) (u_second U (u := .l [x, y]) (bd_var rfl) rfl) rfl)))))).mono (by omega)
theorem u_call {p : List Fn} {w : Str} {us : List T} {f : Fn} {v : T} {k : Nat} (hs : isSpecial w = false) (hf : fnd p w = some f) (hl : us.length = f.ps.length) (hb : Bd q (evEnv f.body.enc (f.ps.zip us) (encP p)) (uf 5).body v k) :
    Bd q ((uf 9).ps.zip [.w w, .l us, encP p]) (uf 9).body v (k + 10 * p.length + 40) := by
  obtain ⟨_, _, n3, n4, n5, n6, n7⟩ := special_ne hs
  have e1 : vsT (f.ps.zip us) = .l us := by
    unfold vsT
    rw [List.map_snd_zip (by omega)]
  have e2 : nsT (f.ps.zip us) = .l (f.ps.map T.w) := by
    unfold nsT
    have q : (f.ps.zip us).map (·.1) = f.ps := List.map_fst_zip (by omega)
    have r : (f.ps.zip us).map (fun z => T.w z.1) = ((f.ps.zip us).map (·.1)).map T.w := by rw [List.map_map]; rfl
    rw [r, q]
  unfold evEnv at hb
  rw [e1, e2] at hb
  refine (bd_isF (bd_var rfl) bd_quo (ww' n3) (bd_isF (bd_var rfl) bd_quo (ww' n4) (bd_isF (bd_var rfl) bd_quo (ww' n5) (bd_isF (bd_var rfl) bd_quo (ww' n6) (bd_isF (bd_var rfl) bd_quo (ww' n7)
    (bd_call (f := uf 1) U.h1 (np "f1") (bds_cons (bd_call (f := uf 10) U.h10 (np "f10") (bds_cons (bd_var rfl) (bds_cons (bd_var rfl) bds_nil)) (u_find U hf)) (bds_cons (bd_var rfl) (bds_cons (bd_var rfl) bds_nil)))
      (bd_call (f := uf 5) U.h5 (np "f5") (bds_cons (u_third U (u := f.enc) (v := f.body.enc) (bd_var rfl) rfl) (bds_cons (u_second U (u := f.enc) (v := .l (f.ps.map T.w)) (bd_var rfl) rfl) (bds_cons (bd_var rfl) (bds_cons (bd_var rfl) bds_nil)))) hb))))))).mono ?_
  omega
theorem u_sim {p : List Fn} {R : Nat} (P : WfP p R) (hp : p.length ≤ 5) (h3 : ∀ f ∈ p, f.ps.length ≤ 3) {env : Bs} {es : List E} {vs : List T} {n : Nat} (h : EvL p env es vs n) : WfEs (sig p) R (env.map (·.1)) es → env.length ≤ 3 →
    ∃ b, b ≤ 170 * n ∧ SimL q (encP p) env es vs b := by
  induction h with
  | nil => exact fun _ _ => ⟨0, Nat.le_refl _, .nil⟩
  | @var env x v es vs k h1 h2 ih =>
    intro wf hl
    obtain ⟨b, hb, s⟩ := ih wf.2 hl
    refine ⟨(11 * env.length + 7) + b, by omega, .cons ?_ s⟩
    exact (bd_iteT (bd_word (u := .w x) (bd_var rfl)) yes_ne (bd_call (f := uf 6) U.h6 (np "f6") (bds_cons (bd_var rfl) (bds_cons (bd_var rfl) (bds_cons (bd_var rfl) bds_nil))) (u_look U h1))).mono (by omega)
  | @quo env v es vs k h2 ih =>
    intro wf hl
    obtain ⟨b, hb, s⟩ := ih wf.2 hl
    refine ⟨19 + b, by omega, .cons ?_ s⟩
    exact (u_list U (bd_isT (bd_var rfl) bd_quo rfl (u_second U (u := (E.quo v).enc) (v := v) (bd_var rfl) rfl))).mono (by omega)
  | @ite env a b c u v es vs n m k h1 h2 h4 ih1 ih2 ih3 =>
    intro wf hl
    obtain ⟨b1, hb1, s1⟩ := ih1 ⟨wf.1.1, trivial⟩ hl
    obtain ⟨b2, hb2, s2⟩ := ih2 ⟨by split; exact wf.1.2.2; exact wf.1.2.1, trivial⟩ hl
    obtain ⟨b3, hb3, s3⟩ := ih3 wf.2 hl
    refine ⟨(b1 + b2 + 39) + b3, by omega, .cons ?_ s3⟩
    have s1' := s1.one
    have s2' := s2.one
    have hT : Bd q ((uf 7).ps.zip [.w "if", (E.ite a b c).enc, nsT env, vsT env, encP p]) (C4 "f5" (C1 "f2" (Vr "e")) (Vr "ns") (Vr "vs") (Vr "p")) u (b1 + 9) :=
      (bd_call (f := uf 5) U.h5 (np "f5") (bds_cons (u_second U (u := (E.ite a b c).enc) (v := a.enc) (bd_var rfl) rfl) (bds_cons (bd_var rfl) (bds_cons (bd_var rfl) (bds_cons (bd_var rfl) bds_nil)))) s1').mono (by omega)
    refine (u_list U (v := v) (b := b1 + b2 + 29) ?_).mono (by omega)
    refine (bd_isF (bd_var rfl) bd_quo (ww' (by decide +kernel)) (bd_isT (bd_var rfl) bd_quo rfl (k := b1 + b2 + 21) ?_)).mono (by omega)
    by_cases e : u = T.nil
    · rw [if_pos e] at s2'
      exact (bd_iteF hT e (bd_call (f := uf 5) U.h5 (np "f5") (bds_cons (u_fourth U (u := (E.ite a b c).enc) (v := c.enc) (bd_var rfl) rfl) (bds_cons (bd_var rfl) (bds_cons (bd_var rfl) (bds_cons (bd_var rfl) bds_nil)))) s2')).mono (by omega)
    · rw [if_neg e] at s2'
      exact (bd_iteT hT e (bd_call (f := uf 5) U.h5 (np "f5") (bds_cons (u_third U (u := (E.ite a b c).enc) (v := b.enc) (bd_var rfl) rfl) (bds_cons (bd_var rfl) (bds_cons (bd_var rfl) (bds_cons (bd_var rfl) bds_nil)))) s2')).mono (by omega)
  | @prim env w as us es vs n k hp' h1 h2 ih1 ih2 =>
    intro wf hl
    obtain ⟨b1, hb1, s1⟩ := ih1 wf.1.2.2 hl
    obtain ⟨b2, hb2, s2⟩ := ih2 wf.2 hl
    have la : as.length = arity w := by
      rcases wf.1.2.1 with ⟨_, e⟩ | ⟨e, _⟩
      · exact e
      · rw [plain_special e] at hp'
        cases hp'
    have := h1.length
    have := arity_le w
    have n12 : w ≠ "quote" ∧ w ≠ "if" := by rcases plain_cases hp' with rfl | rfl | rfl | rfl | rfl <;> decide +kernel
    exact ⟨(b1 + 15 * as.length + 28 + 30) + b2, by omega, .cons (u_app U n12.1 n12.2 s1 (u_prim U hp' (by omega))) s2⟩
  | @call env w as us g v es vs n m k hp' hg h1 h2 h4 ih1 ih2 ih3 =>
    intro wf hl
    have hs : isSpecial w = false ∧ as.length = g.ps.length := by
      rcases wf.1.2.1 with ⟨e, _⟩ | ⟨e, e'⟩
      · rw [hp'] at e
        cases e
      · obtain ⟨g', e1, _, e3⟩ := P.fnd e'
        rw [hg] at e1
        cases e1
        exact ⟨e, e3.symm⟩
    have l1 := h1.length
    have l3 := h3 g (fnd_mem hg).1
    have hz : (g.ps.zip us).map (·.1) = g.ps := List.map_fst_zip (by omega)
    have hzl : (g.ps.zip us).length ≤ 3 := by rw [List.length_zip]; omega
    obtain ⟨b1, hb1, s1⟩ := ih1 wf.1.2.2 hl
    obtain ⟨b2, hb2, s2⟩ := ih2 ⟨by rw [hz]; exact (P.ok g (fnd_mem hg).1).2, trivial⟩ hzl
    obtain ⟨b3, hb3, s3⟩ := ih3 wf.2 hl
    obtain ⟨n1, n2, _⟩ := special_ne hs.1
    exact ⟨(b1 + 15 * as.length + (b2 + 10 * p.length + 40) + 30) + b3, by omega, .cons (u_app U n1 n2 s1 (u_call U hs.1 hg (by omega) s2.one)) s3⟩
/-- the whole: a program's main function on one value -/
theorem u_main {p : List Fn} {R : Nat} (P : WfP p R) (hp : p.length ≤ 5) (h3 : ∀ f ∈ p, f.ps.length ≤ 3) {f : Fn} {r : List Fn} (e : p = f :: r) {x : Str} (hx : f.ps = [x]) {u v : T} {n : Nat} (h : EvL p [(x, u)] [f.body] [v] n)
    {env : Bs} {a b : E} {i j : Nat} (ha : Bd q env a (encP p) i) (hb : Bd q env b (.l [u]) j) : Bd q env (C2 "f0" a b) v (i + j + 170 * n + 20) := by
  obtain ⟨k, hk, s⟩ := u_sim U P hp h3 h ⟨by
    have := (P.ok f (by rw [e]; exact List.mem_cons_self ..)).2
    rw [hx] at this
    exact this, trivial⟩ (by simp)
  have s' := s.one
  have e2 : nsT [(x, u)] = .l (f.ps.map T.w) := by rw [hx]; rfl
  unfold evEnv at s'
  rw [e2] at s'
  have e3 : (encP p).hd = f.enc := by rw [e]; rfl
  refine (bd_call (f := uf 0) U.h0 (np "f0") (bds_cons ha (bds_cons hb bds_nil)) (bd_call (f := uf 1) U.h1 (np "f1") (bds_cons (bd_head (v := f.enc) (bd_var rfl) e3) (bds_cons (bd_var rfl) (bds_cons (bd_var rfl) bds_nil)))
    (bd_call (f := uf 5) U.h5 (np "f5") (bds_cons (u_third U (u := f.enc) (v := f.body.enc) (bd_var rfl) rfl) (bds_cons (u_second U (u := f.enc) (v := .l (f.ps.map T.w)) (bd_var rfl) rfl) (bds_cons (bd_var rfl) (bds_cons (bd_var rfl) bds_nil)))) s'))).mono ?_
  omega
end
end K35
end

section
set_option Elab.async false
set_option linter.all false
set_option maxRecDepth 100000
/-! Good programs, renamed ones, the lister and the program that is made of it. -/
namespace K35
open PySem PySem.Spec PyProof.Rows L2
/-! ### names that fit -/
def figs (x : Str) : Str := cutS x (some 1) none
structure NameFits (x : Str) (many : Nat) : Prop where
  sign : ∃ c, atI x.cps.toList 0 = some c ∧ (c = 102 → figs x = "" ∨ Txt.stripChars (figs x) "0123456789" ≠ "" ∨ (Txt.stripChars (figs x) "0123456789" = "" ∧ figs x ≠ "" ∧ ∃ d n, atI (figs x).cps.toList 0 = some d ∧ (figs x = "0" ∨ d ≠ 48) ∧ intText? (figs x) = some n ∧ n < many))
  len : x.length ≤ 100
/-- shown by computing -/
def nameFitsB (x : Str) (many : Nat) : Bool := match atI x.cps.toList 0 with
  | some c => decide (x.length ≤ 100) && (decide (c ≠ 102) || decide (figs x = "") || decide (Txt.stripChars (figs x) "0123456789" ≠ "") || (match atI (figs x).cps.toList 0, intText? (figs x) with
    | some d, some n => decide (Txt.stripChars (figs x) "0123456789" = "") && decide (figs x ≠ "") && (decide (figs x = "0") || decide (d ≠ 48)) && decide (n < many)
    | _, _ => false))
  | none => false
theorem nameFits_of {x : Str} {many : Nat} (h : nameFitsB x many = true) : NameFits x many := by
  unfold nameFitsB at h
  split at h
  · rename_i c hc
    simp only [Bool.and_eq_true, Bool.or_eq_true, decide_eq_true_eq] at h
    refine ⟨⟨c, hc, fun ec => ?_⟩, h.1⟩
    rcases h.2 with ((q | q) | q) | q
    · exact absurd ec q
    · exact .inl q
    · exact .inr (.inl q)
    · split at q
      · rename_i d n hd hn
        simp only [Bool.and_eq_true, Bool.or_eq_true, decide_eq_true_eq] at q
        exact .inr (.inr ⟨q.1.1.1, q.1.1.2, d, n, hd, q.1.2, hn, q.2⟩)
      · cases q
  · cases h
structure Good (p : List Fn) (R : Nat) : Prop where
  ne : p ≠ []
  wf : WfP p R
  fits : ∀ f ∈ p, NameFits f.name p.length ∧ isSpecial f.name = false
  pars : ∀ f ∈ p, f.ps.Nodup ∧ ∀ x ∈ f.ps, isSpecial x = false
theorem Good.mono {p : List Fn} {R R' : Nat} (G : Good p R) (h : R ≤ R') : Good p R' :=
  ⟨G.ne, ⟨G.wf.nd, fun f hf => ⟨(G.wf.ok f hf).1, WfE.mono (fun _ q => q) h (fun _ q => q) _ (G.wf.ok f hf).2⟩⟩, G.fits, G.pars⟩
/-! ### renamed -/
def mkName (n : Nat) : Str := ("f" : Str) ++ (Str.ofString (toString (n : Int)))
def place : List Fn → Str → Nat
  | [], _ => 0
  | f :: r, x => if f.name = x then 0 else place r x + 1
mutual
def E.ren (ρ : Str → Str) : E → E
  | .var x => .var x
  | .quo v => .quo v
  | .ite a b c => .ite (a.ren ρ) (b.ren ρ) (c.ren ρ)
  | .app w as => .app (if isSpecial w then w else ρ w) (E.rens ρ as)
def E.rens (ρ : Str → Str) : List E → List E
  | [] => []
  | e :: es => e.ren ρ :: E.rens ρ es
end
theorem E.rens_map (ρ : Str → Str) : ∀ es : List E, E.rens ρ es = es.map (E.ren ρ)
  | [] => rfl
  | e :: es => by simp [E.rens, E.rens_map ρ es]
def Fn.ren (ρ : Str → Str) (f : Fn) : Fn := ⟨ρ f.name, f.ps, f.body.ren ρ⟩
def renP (p : List Fn) (s : Nat) : List Fn := p.map (Fn.ren fun x => mkName (s + place p x))
theorem ren_uni : renP uniP 0 = uniR := by rfl
mutual
theorem ren_free {R : Nat} {ps : List Str} (ρ : Str → Str) : ∀ e : E, WfE [] R ps e → e.ren ρ = e
  | .var _, _ => rfl
  | .quo _, _ => rfl
  | .ite a b c, h => by simp only [E.ren, ren_free ρ a h.1, ren_free ρ b h.2.1, ren_free ρ c h.2.2]
  | .app w as, h => by
    have hs : isSpecial w = true := by
      rcases h.2.1 with ⟨hp, _⟩ | ⟨_, e⟩
      · rcases plain_cases hp with rfl | rfl | rfl | rfl | rfl <;> decide +kernel
      · cases e
    simp only [E.ren, if_pos hs, rens_free ρ as h.2.2]
theorem rens_free {R : Nat} {ps : List Str} (ρ : Str → Str) : ∀ es : List E, WfEs [] R ps es → E.rens ρ es = es
  | [], _ => rfl
  | e :: es, h => by simp only [E.rens, ren_free ρ e h.1, rens_free ρ es h.2]
end
/-- without calls the program does not matter -/
theorem ev_free {p q : List Fn} {R : Nat} {env : Bs} {es : List E} {vs : List T} {n : Nat} (h : EvL p env es vs n) : WfEs [] R (env.map (·.1)) es → EvL q env es vs n := by
  induction h with
  | nil => exact fun _ => .nil
  | var h1 _ ih => exact fun w => .var h1 (ih w.2)
  | quo _ ih => exact fun w => .quo (ih w.2)
  | @ite env a b c u v es vs n m k _ _ _ ih1 ih2 ih3 => exact fun w => .ite (ih1 ⟨w.1.1, trivial⟩) (ih2 ⟨by split; exact w.1.2.2; exact w.1.2.1, trivial⟩) (ih3 w.2)
  | prim hp _ _ ih1 ih2 => exact fun w => .prim hp (ih1 w.1.2.2) (ih2 w.2)
  | call hp _ _ _ _ _ _ _ =>
    intro w
    rcases w.1.2.1 with ⟨e, _⟩ | ⟨_, e⟩
    · rw [hp] at e
      cases e
    · cases e
mutual
theorem ev_total {p : List Fn} {R : Nat} {env : Bs} : ∀ e : E, WfE [] R (env.map (·.1)) e → ∃ v n, EvL p env [e] [v] n ∧ n ≤ e.nodes
  | .var x, h => by
    obtain ⟨v, hv⟩ := lk_some (show x ∈ env.map (·.1) from h)
    exact ⟨v, 1, .var hv .nil, by simp [E.nodes]⟩
  | .quo v, _ => ⟨v, 1, .quo .nil, by simp [E.nodes]⟩
  | .ite a b c, h => by
    obtain ⟨u, n, h1, l1⟩ := ev_total a h.1
    by_cases e : u = T.nil
    · obtain ⟨v, m, h2, l2⟩ := ev_total c h.2.2
      exact ⟨v, 1 + n + m + 0, .ite h1 (by rw [if_pos e]; exact h2) .nil, by simp only [E.nodes]; omega⟩
    · obtain ⟨v, m, h2, l2⟩ := ev_total b h.2.1
      exact ⟨v, 1 + n + m + 0, .ite h1 (by rw [if_neg e]; exact h2) .nil, by simp only [E.nodes]; omega⟩
  | .app w as, h => by
    obtain ⟨us, n, h1, l1⟩ := evs_total as h.2.2
    rcases h.2.1 with ⟨hp, _⟩ | ⟨_, e⟩
    · exact ⟨prim w us, 1 + n + 0, .prim hp h1 .nil, by simp only [E.nodes]; omega⟩
    · cases e
theorem evs_total {p : List Fn} {R : Nat} {env : Bs} : ∀ es : List E, WfEs [] R (env.map (·.1)) es → ∃ vs n, EvL p env es vs n ∧ n ≤ E.nodess es
  | [], _ => ⟨[], 0, .nil, by simp [E.nodess]⟩
  | e :: es, h => by
    obtain ⟨v, n, h1, l1⟩ := ev_total e h.1
    obtain ⟨vs, m, h2, l2⟩ := evs_total es h.2
    exact ⟨v :: vs, n + m, h1.app h2, by simp only [E.nodess]; omega⟩
end
/-! ### sizes -/
mutual
theorem T.rank_parts : ∀ t : T, t.rank ≤ t.parts
  | .w _ => by simp [T.rank]
  | .l xs => by
    have := T.ranks_parts xs
    simp only [T.rank, T.parts]
    omega
theorem T.ranks_parts : ∀ xs : List T, T.ranks xs ≤ T.partss xs ∧ xs.length ≤ T.partss xs
  | [] => by simp [T.ranks]
  | x :: xs => by
    have h1 := T.rank_parts x
    have h2 := T.ranks_parts xs
    have h3 := x.parts_pos
    simp only [T.ranks, T.partss, List.length_cons]
    omega
end
mutual
theorem E.nodes_parts : ∀ e : E, e.nodes ≤ e.enc.parts
  | .var _ => by simp [E.nodes, E.enc, T.parts]
  | .quo v => by simp only [E.nodes, E.enc, T.parts, T.partss]; omega
  | .ite a b c => by
    have h1 := E.nodes_parts a
    have h2 := E.nodes_parts b
    have h3 := E.nodes_parts c
    simp only [E.nodes, E.enc, T.parts, T.partss]
    omega
  | .app w as => by
    have h1 := E.nodess_parts as
    simp only [E.nodes, E.enc, T.parts, T.partss]
    omega
theorem E.nodess_parts : ∀ es : List E, E.nodess es ≤ T.partss (E.encs es)
  | [] => by simp [E.nodess]
  | e :: es => by
    have h1 := E.nodes_parts e
    have h2 := E.nodess_parts es
    simp only [E.nodess, E.encs, T.partss]
    omega
end
theorem partss_mem : ∀ {xs : List T} {x : T}, x ∈ xs → x.parts ≤ T.partss xs
  | y :: ys, x, h => by
    simp only [T.partss]
    rcases List.mem_cons.mp h with e | h
    · subst e
      omega
    · have := partss_mem h
      omega
theorem fn_parts {p : List Fn} {f : Fn} (h : f ∈ p) : f.enc.parts < (encP p).parts := by
  have := partss_mem (xs := p.map Fn.enc) (List.mem_map_of_mem h)
  simp only [encP, T.parts]
  omega
theorem body_parts (f : Fn) : f.body.enc.parts < f.enc.parts := by
  simp only [Fn.enc, T.parts, T.partss]
  omega

/-- what a run gives is fine -/
theorem ev_fine {p : List Fn} {R0 : Nat} (P : WfP p R0) {env : Bs} {es : List E} {vs : List T} {n : Nat} (h : EvL p env es vs n) : ∀ R, R0 ≤ R → 1 ≤ R → WfEs (sig p) R0 (env.map (·.1)) es → envFine R env → ∀ v ∈ vs, v.fine (R + n) := by
  induction h with
  | nil => exact fun _ _ _ _ _ v hv => (List.not_mem_nil hv).elim
  | @var env x v es vs k h1 h2 ih =>
    intro R h0 hR w he u hu
    rcases List.mem_cons.mp hu with e | hu
    · rw [e]
      exact (he (x, v) (lk_mem h1)).mono (by omega)
    · exact (ih R h0 hR w.2 he u hu).mono (by omega)
  | @quo env v es vs k h2 ih =>
    intro R h0 hR w he u hu
    rcases List.mem_cons.mp hu with e | hu
    · rw [e]
      exact T.fine.mono (show v.fine R0 from w.1) (by omega)
    · exact (ih R h0 hR w.2 he u hu).mono (by omega)
  | @ite env a b c u' v es vs n m k _ _ _ ih1 ih2 ih3 =>
    intro R h0 hR w he u hu
    rcases List.mem_cons.mp hu with e | hu
    · rw [e]
      exact (ih2 R h0 hR ⟨by split; exact w.1.2.2; exact w.1.2.1, trivial⟩ he v (List.mem_cons_self ..)).mono (by omega)
    · exact (ih3 R h0 hR w.2 he u hu).mono (by omega)
  | @prim env w' as us es vs n k hp _ _ ih1 ih2 =>
    intro R h0 hR w he u hu
    rcases List.mem_cons.mp hu with e | hu
    · rw [e]
      exact (prim_fine (by omega) w' fun v hv => ih1 R h0 hR w.1.2.2 he v hv).mono (by omega)
    · exact (ih2 R h0 hR w.2 he u hu).mono (by omega)
  | @call env w' as us f v es vs n m k hp hf h1 _ _ ih1 ih2 ih3 =>
    intro R h0 hR w he u hu
    rcases List.mem_cons.mp hu with e | hu
    · rw [e]
      have l1 := h1.length
      have hl : us.length = f.ps.length := by
        rcases w.1.2.1 with ⟨e, _⟩ | ⟨_, e⟩
        · rw [hp] at e
          cases e
        · obtain ⟨g', e1, _, e3⟩ := P.fnd e
          rw [hf] at e1
          cases e1
          omega
      have hz : (f.ps.zip us).map (·.1) = f.ps := List.map_fst_zip (by omega)
      exact (ih2 (R + n) (by omega) (by omega) ⟨by rw [hz]; exact (P.ok f (fnd_mem hf).1).2, trivial⟩ (envFine_zip fun v hv => ih1 R h0 hR w.1.2.2 he v hv) v (List.mem_cons_self ..)).mono (by omega)
    · exact (ih3 R h0 hR w.2 he u hu).mono (by omega)
/-! ### well-formed by computing -/
mutual
def wfEB (cs : Sig) (R : Nat) (ps : List Str) : E → Bool
  | .var x => decide (x ∈ ps)
  | .quo v => v.ok && decide (v.rank ≤ R)
  | .ite a b c => wfEB cs R ps a && (wfEB cs R ps b && wfEB cs R ps c)
  | .app w as => decide (as.length ≤ 12) && (((isPlain w && decide (as.length = arity w)) || (!isSpecial w && decide ((w, as.length) ∈ cs))) && wfEsB cs R ps as)
def wfEsB (cs : Sig) (R : Nat) (ps : List Str) : List E → Bool
  | [] => true
  | e :: es => wfEB cs R ps e && wfEsB cs R ps es
end
mutual
theorem wfEB_ok {cs : Sig} {R : Nat} {ps : List Str} : ∀ e : E, wfEB cs R ps e = true → WfE cs R ps e
  | .var x, h => by
    show x ∈ ps
    exact of_decide_eq_true h
  | .quo v, h => by
    simp only [wfEB, Bool.and_eq_true, decide_eq_true_eq] at h
    exact h
  | .ite a b c, h => by
    simp only [wfEB, Bool.and_eq_true] at h
    exact ⟨wfEB_ok a h.1, wfEB_ok b h.2.1, wfEB_ok c h.2.2⟩
  | .app w as, h => by
    simp only [wfEB, Bool.and_eq_true, Bool.or_eq_true, decide_eq_true_eq, Bool.not_eq_true'] at h
    exact ⟨h.1, h.2.1, wfEsB_ok as h.2.2⟩
theorem wfEsB_ok {cs : Sig} {R : Nat} {ps : List Str} : ∀ es : List E, wfEsB cs R ps es = true → WfEs cs R ps es
  | [], _ => trivial
  | e :: es, h => by
    simp only [wfEsB, Bool.and_eq_true] at h
    exact ⟨wfEB_ok e h.1, wfEsB_ok es h.2⟩
end
def fnsB (cs : Sig) (R : Nat) (p : List Fn) : Bool := p.all fun f => decide (f.ps.length ≤ 12) && (decide (f.ps.Nodup) && (f.ps.all fun x => !isSpecial x) && wfEB cs R f.ps f.body)
theorem fnsB_ok {cs : Sig} {R : Nat} {p : List Fn} (h : fnsB cs R p = true) : ∀ f ∈ p, f.ps.length ≤ 12 ∧ f.ps.Nodup ∧ (∀ x ∈ f.ps, isSpecial x = false) ∧ WfE cs R f.ps f.body := by
  intro f hf
  have q := List.all_eq_true.mp h f hf
  simp only [Bool.and_eq_true, decide_eq_true_eq, List.all_eq_true, Bool.not_eq_true'] at q
  exact ⟨q.1, q.2.1.1, q.2.1.2, wfEB_ok _ q.2.2⟩
theorem uni_fns : fnsB (sig uniR) 5 uniR = true := by decide +kernel
theorem uniP_fns : fnsB (sig uniP) 5 uniP = true := by decide +kernel
def namesB (ns : List Str) (many : Nat) : Bool := decide ns.Nodup && ns.all fun x => nameFitsB x many && !isSpecial x
theorem good_of {p : List Fn} {R : Nat} (ne : p ≠ []) (h1 : namesB (p.map (·.name)) p.length = true) (h2 : ∀ f ∈ p, f.ps.length ≤ 12 ∧ f.ps.Nodup ∧ (∀ x ∈ f.ps, isSpecial x = false) ∧ WfE (sig p) R f.ps f.body) : Good p R := by
  unfold namesB at h1
  simp only [Bool.and_eq_true, decide_eq_true_eq, List.all_eq_true, Bool.not_eq_true'] at h1
  exact ⟨ne, ⟨h1.1, fun f hf => ⟨(h2 f hf).1, (h2 f hf).2.2.2⟩⟩, fun f hf => ⟨nameFits_of (h1.2 f.name (List.mem_map_of_mem hf)).1, (h1.2 f.name (List.mem_map_of_mem hf)).2⟩, fun f hf => ⟨(h2 f hf).2.1, (h2 f hf).2.2.1⟩⟩
theorem uniP_good : Good uniP 5 := good_of (by intro h; cases h) (by decide +kernel) (fnsB_ok uniP_fns)
theorem uniP_parts : (encP uniP).parts ≤ 1000 := by decide +kernel
theorem uniR_parts : (encP uniR).parts ≤ 1000 := by decide +kernel
/-! ### the listers -/
/-- what is drawn: a program of one input -/
structure Drawn (p : List Fn) : Prop where
  good : Good p 5
  len : p.length ≤ 5
  ps3 : ∀ f ∈ p, f.ps.length ≤ 3
  head : ∃ (f : Fn) (r : List Fn), p = f :: r ∧ f.ps = [Str.ofString "x"]
  parts : (encP p).parts ≤ 1000
  ok : (encP p).ok = true
def bodyL (test : E) (A B : List Fn) : E := .ite test (.quo (encP A)) (.quo (encP B))
def listerP (two : Bool) (test : E) (A B : List Fn) : List Fn := match two with
  | true => [⟨"main", ["n"], .app "apply" [.var "n"]⟩, ⟨"apply", ["n"], bodyL test A B⟩]
  | false => [⟨"lister", ["n"], bodyL test A B⟩]
def lmain (two : Bool) (test : E) (A B : List Fn) : E := match two with
  | true => .app "apply" [.var "n"]
  | false => bodyL test A B
def listR (two : Bool) (test : E) (A B : List Fn) : List Fn := match two with
  | true => [⟨"f11", ["n"], .app "f12" [.var "n"]⟩, ⟨"f12", ["n"], bodyL test A B⟩]
  | false => [⟨"f11", ["n"], bodyL test A B⟩]
def mainN (two : Bool) : Str := match two with
  | true => "f13"
  | false => "f12"
def mbody : E := C2 "join" (QW "x") (C2 "f0" (C1 "f11" (Vr "x1")) (C2 "join" (Vr "x1") (.quo .nil)))
def madeP (two : Bool) (test : E) (A B : List Fn) : List Fn := ⟨mainN two, ["x1"], mbody⟩ :: (uniR ++ listR two test A B)
theorem n11 : mkName (11 + 0) = "f11" := by decide +kernel
theorem n12 : mkName (11 + 1) = "f12" := by decide +kernel
theorem n_ok : ([Str.ofString "n"]).length ≤ 12 ∧ ([Str.ofString "n"]).Nodup ∧ ∀ x ∈ [Str.ofString "n"], isSpecial x = false := by decide +kernel
section
variable {two : Bool} {test : E} {A B : List Fn} (ht : WfE [] 5 ["n"] test) (hA : Drawn A) (hB : Drawn B)
include ht
theorem ren_list : renP (listerP two test A B) 11 = listR two test A B := by
  cases two with
  | true =>
    have p1 : place (listerP true test A B) "main" = 0 := if_pos rfl
    have p2 : place (listerP true test A B) "apply" = 1 := (if_neg (by decide +kernel)).trans (congrArg (· + 1) (if_pos rfl))
    show [Fn.ren _ _, Fn.ren _ _] = _
    simp only [Fn.ren, bodyL, E.ren, E.rens, ren_free _ test ht]
    rw [p1, p2, n11, n12, if_neg (by decide +kernel)]
    rfl
  | false =>
    have p1 : place (listerP false test A B) "lister" = 0 := if_pos rfl
    show [Fn.ren _ _] = _
    simp only [Fn.ren, bodyL, E.ren, E.rens, ren_free _ test ht]
    rw [p1, n11]
    rfl
include hA hB
theorem bodyL_wf (cs : Sig) : WfE cs 1000 ["n"] (bodyL test A B) :=
  ⟨WfE.mono (fun _ q => (List.not_mem_nil q).elim) (by omega) (fun _ q => q) _ ht, ⟨hA.ok, Nat.le_trans (T.rank_parts _) hA.parts⟩, ⟨hB.ok, Nat.le_trans (T.rank_parts _) hB.parts⟩⟩
theorem lister_good : Good (listerP two test A B) 1000 := by
  cases two with
  | true =>
    refine good_of (fun h => nomatch h) (by show namesB ["main", "apply"] 2 = true; decide +kernel) fun f hf => ?_
    rcases List.mem_cons.mp hf with rfl | hf
    · exact ⟨by decide, by decide +kernel, by decide +kernel, by
        show WfE [("main", 1), ("apply", 1)] 1000 ["n"] (.app "apply" [.var "n"])
        exact wfEB_ok _ (by decide +kernel)⟩
    · rcases List.mem_cons.mp hf with rfl | hf
      · exact ⟨n_ok.1, n_ok.2.1, n_ok.2.2, bodyL_wf ht hA hB _⟩
      · cases hf
  | false =>
    refine good_of (fun h => nomatch h) (by show namesB ["lister"] 1 = true; decide +kernel) fun f hf => ?_
    rcases List.mem_cons.mp hf with rfl | hf
    · exact ⟨n_ok.1, n_ok.2.1, n_ok.2.2, bodyL_wf ht hA hB _⟩
    · cases hf
theorem made_good : Good (madeP two test A B) 1000 := by
  have hu := fnsB_ok uni_fns
  have mono : ∀ {cs : Sig} {f : Fn}, (∀ z ∈ sig uniR, z ∈ cs) → f ∈ uniR → f.ps.length ≤ 12 ∧ f.ps.Nodup ∧ (∀ x ∈ f.ps, isSpecial x = false) ∧ WfE cs 1000 f.ps f.body := fun {cs f} hs hf =>
    ⟨(hu f hf).1, (hu f hf).2.1, (hu f hf).2.2.1, WfE.mono hs (by omega) (fun _ q => q) _ (hu f hf).2.2.2⟩
  have hin : ∀ z ∈ sig uniR, z ∈ sig (madeP two test A B) := fun z hz => by
    unfold madeP sig
    rw [List.map_cons, List.map_append]
    exact List.mem_cons_of_mem _ (List.mem_append_left _ hz)
  cases two with
  | true =>
    refine good_of (fun h => nomatch h) (by show namesB ["f13", "f0", "f1", "f2", "f3", "f4", "f5", "f6", "f7", "f8", "f9", "f10", "f11", "f12"] 14 = true; decide +kernel) fun f hf => ?_
    rcases List.mem_cons.mp hf with rfl | hf
    · exact ⟨by decide, by decide +kernel, by decide +kernel, by
        show WfE [("f13", 1), ("f0", 2), ("f1", 3), ("f2", 1), ("f3", 1), ("f4", 1), ("f5", 4), ("f6", 3), ("f7", 5), ("f8", 4), ("f9", 3), ("f10", 2), ("f11", 1), ("f12", 1)] 1000 ["x1"] mbody
        exact wfEB_ok _ (by decide +kernel)⟩
    · rcases List.mem_append.mp hf with hf | hf
      · exact mono hin hf
      · rcases List.mem_cons.mp hf with rfl | hf
        · exact ⟨by decide, by decide +kernel, by decide +kernel, by
            show WfE [("f13", 1), ("f0", 2), ("f1", 3), ("f2", 1), ("f3", 1), ("f4", 1), ("f5", 4), ("f6", 3), ("f7", 5), ("f8", 4), ("f9", 3), ("f10", 2), ("f11", 1), ("f12", 1)] 1000 ["n"] (.app "f12" [.var "n"])
            exact wfEB_ok _ (by decide +kernel)⟩
        · rcases List.mem_cons.mp hf with rfl | hf
          · exact ⟨n_ok.1, n_ok.2.1, n_ok.2.2, bodyL_wf ht hA hB _⟩
          · cases hf
  | false =>
    refine good_of (fun h => nomatch h) (by show namesB ["f12", "f0", "f1", "f2", "f3", "f4", "f5", "f6", "f7", "f8", "f9", "f10", "f11"] 13 = true; decide +kernel) fun f hf => ?_
    rcases List.mem_cons.mp hf with rfl | hf
    · exact ⟨by decide, by decide +kernel, by decide +kernel, by
        show WfE [("f12", 1), ("f0", 2), ("f1", 3), ("f2", 1), ("f3", 1), ("f4", 1), ("f5", 4), ("f6", 3), ("f7", 5), ("f8", 4), ("f9", 3), ("f10", 2), ("f11", 1)] 1000 ["x1"] mbody
        exact wfEB_ok _ (by decide +kernel)⟩
    · rcases List.mem_append.mp hf with hf | hf
      · exact mono hin hf
      · rcases List.mem_cons.mp hf with rfl | hf
        · exact ⟨n_ok.1, n_ok.2.1, n_ok.2.2, bodyL_wf ht hA hB _⟩
        · cases hf
omit hA hB
/-- what the lister gives for a value: one of the two, in its own run and in that of the made program -/
theorem lister_runs (x : T) : ∃ C, (C = A ∨ C = B) ∧ (∃ n, EvL (listerP two test A B) [("n", x)] [lmain two test A B] [encP C] n ∧ n ≤ test.nodes + 5) ∧
    ∀ {env : Bs} {a : E} {i : Nat}, Bd (madeP two test A B) env a x i → Bd (madeP two test A B) env (C1 "f11" a) (encP C) (i + test.nodes + 10) := by
  obtain ⟨u, n, h1, l1⟩ := ev_total (p := []) (env := [("n", x)]) test ht
  have key : ∀ q : List Fn, ∃ k, EvL q [("n", x)] [bodyL test A B] [encP (if u = T.nil then B else A)] k ∧ k ≤ test.nodes + 2 := fun q => by
    refine ⟨1 + n + 1 + 0, .ite (ev_free h1 ⟨ht, trivial⟩) ?_ .nil, by omega⟩
    by_cases e : u = T.nil
    · rw [if_pos e, if_pos e]
      exact .quo .nil
    · rw [if_neg e, if_neg e]
      exact .quo .nil
  refine ⟨if u = T.nil then B else A, by split; exact .inr rfl; exact .inl rfl, ?_, fun {env a i} ha => ?_⟩
  · obtain ⟨k, hk, lk⟩ := key (listerP two test A B)
    cases two with
    | true =>
      refine ⟨1 + 1 + k + 0, .call (f := ⟨"apply", ["n"], bodyL test A B⟩) (by decide +kernel) rfl (.var rfl .nil) hk .nil, by omega⟩
    | false => exact ⟨k, hk, by omega⟩
  · obtain ⟨k, hk, lk⟩ := key (madeP two test A B)
    have hb : Bd (madeP two test A B) [("n", x)] (bodyL test A B) (encP (if u = T.nil then B else A)) (test.nodes + 2) := ⟨k, hk, lk⟩
    cases two with
    | true =>
      exact (bd_call (f := ⟨"f11", ["n"], .app "f12" [.var "n"]⟩) rfl (by decide +kernel) (bds_cons ha bds_nil) (bd_call (f := ⟨"f12", ["n"], bodyL test A B⟩) rfl (by decide +kernel) (bds_cons (bd_var rfl) bds_nil) hb)).mono (by omega)
    | false => exact (bd_call (f := ⟨"f11", ["n"], bodyL test A B⟩) rfl (by decide +kernel) (bds_cons ha bds_nil) hb).mono (by omega)
omit ht
theorem made_uni : HasU (madeP two test A B) := by
  cases two with
  | true => exact ⟨rfl, rfl, rfl, rfl, rfl, rfl, rfl, rfl, rfl, rfl, rfl⟩
  | false => exact ⟨rfl, rfl, rfl, rfl, rfl, rfl, rfl, rfl, rfl, rfl, rfl⟩
/-- the made program on a value: x ahead of what the listed program gives -/
theorem made_runs {x : T} {C : List Fn} (hC : Drawn C) {i : Nat} (hl : Bd (madeP two test A B) [("x1", x)] (C1 "f11" (Vr "x1")) (encP C) i) {f : Fn} {r : List Fn} (e : C = f :: r) {v : T} {n : Nat} (h : EvL C [("x", x)] [f.body] [v] n) :
    Bd (madeP two test A B) [("x1", x)] mbody (T.cons (.w "x") v) (i + 170 * n + 30) := by
  have hx : f.ps = [Str.ofString "x"] := by
    obtain ⟨f', r', e', h'⟩ := hC.head
    rw [e] at e'
    injection e' with e1 _
    rw [e1, h']
  exact (bd_join (x := .w "x") (y := v) bd_quo (u_main made_uni hC.good.wf hC.len hC.ps3 e hx h hl (bd_join (x := x) (y := T.nil) (bd_var rfl) bd_quo rfl)) rfl).mono (by omega)
end
end K35
end

section
set_option Elab.async false
set_option linter.all false
set_option maxRecDepth 100000
/-! The places of the defs in the row; what the head tells of each. -/
namespace K35
open PySem PySem.Spec PyProof.Rows L2
def top (i : Nat) : Stmt := PySem.Challenge.pw_ownglass_k35_listers.main.body.getD i (.Pass ⟨0, 0, 0, 0⟩)
abbrev s_is_word : Stmt := top 8
abbrev s_has_head : Stmt := top 9
abbrev s_counts_of : Stmt := top 10
abbrev s_name_fits : Stmt := top 11
abbrev s_parameters_fit : Stmt := top 12
abbrev s_body_fits : Stmt := top 13
abbrev s_check_program : Stmt := top 14
abbrev s_inputs_of : Stmt := top 15
abbrev s_made_name : Stmt := top 19
abbrev s_check_inputs : Stmt := top 20
abbrev s_renamed_expression : Stmt := top 21
abbrev s_renamed : Stmt := top 22
abbrev s_joined : Stmt := top 23
abbrev s_with_main : Stmt := top 24
abbrev s_universal : Stmt := top 27
abbrev s_lister_refuted : Stmt := top 29
abbrev s_started : Stmt := top 39
abbrev s_run_program : Stmt := top 40
abbrev s_refute_list : Stmt := top 42
abbrev s_law_draws : Stmt := top 44
abbrev s_law_take : Stmt := top 45
abbrev s_law_value : Stmt := top 46
abbrev s_law_expression : Stmt := top 47
abbrev s_law_library : Stmt := top 48
abbrev s_law_program : Stmt := top 49
abbrev s_law_do : Stmt := top 50
abbrev s_law_small : Stmt := top 51
abbrev s_law_run : Stmt := top 52
abbrev s_law : Stmt := top 53
abbrev s_Store_init : Stmt := inClass (top 34) 0
abbrev s_Store_number_of : Stmt := inClass (top 34) 1
abbrev s_Store_is_word : Stmt := inClass (top 34) 2
abbrev s_Store_first : Stmt := inClass (top 34) 3
abbrev s_Store_rest : Stmt := inClass (top 34) 4
abbrev s_Store_pair_up : Stmt := inClass (top 34) 5
abbrev s_Store_put : Stmt := inClass (top 34) 6
abbrev s_Store_items_of : Stmt := inClass (top 34) 7
abbrev s_Store_value_of : Stmt := inClass (top 34) 8
abbrev s_Run_init : Stmt := inClass (top 37) 0
abbrev s_Machine_init : Stmt := inClass (top 38) 0
abbrev s_Machine_begin : Stmt := inClass (top 38) 1
abbrev s_Machine_is_done : Stmt := inClass (top 38) 2
abbrev s_Machine_go_on : Stmt := inClass (top 38) 3
abbrev s_Machine_evaluate : Stmt := inClass (top 38) 4
abbrev s_Machine_do : Stmt := inClass (top 38) 5
abbrev s_Machine_is_great : Stmt := inClass (top 38) 6
abbrev s_Machine_result : Stmt := inClass (top 38) 7
mutual
/-- the written part holds this value -/
def T.inK (K : PySem.W.Frag) : T → Value → Bool
  | .w x, .str y _ => decide (x = y)
  | .l xs, .ref a => (match K.lookup a with
    | some ⟨.type c, _, .seq its _, _⟩ => decide (c = "tuple") && (decide (its.size ≤ sizeLine) && T.insK K xs its.toList)
    | _ => false)
  | _, _ => false
def T.insK (K : PySem.W.Frag) : List T → List Value → Bool
  | [], [] => true
  | x :: xs, u :: us => T.inK K x u && T.insK K xs us
  | _, _ => false
end
/-- the tuples below a value, to a depth -/
def tupAs (g : Addr → Option Obj) : Nat → Value → List Addr
  | 0, _ => []
  | n + 1, .ref a => a :: (match g a with
    | some ⟨_, _, .seq its _, _⟩ => its.toList.flatMap (tupAs g n)
    | _ => [])
  | _ + 1, _ => []
def d_is_word : He.DefD := ⟨("is_word", none), "is_word", "is_word", defArgs s_is_word, defBody s_is_word, defScope s_is_word, [], []⟩
def d_has_head : He.DefD := ⟨("has_head", none), "has_head", "has_head", defArgs s_has_head, defBody s_has_head, defScope s_has_head, [], []⟩
def d_counts_of : He.DefD := ⟨("counts_of", none), "counts_of", "counts_of", defArgs s_counts_of, defBody s_counts_of, defScope s_counts_of, [], []⟩
def d_name_fits : He.DefD := ⟨("name_fits", none), "name_fits", "name_fits", defArgs s_name_fits, defBody s_name_fits, defScope s_name_fits, [], []⟩
def d_parameters_fit : He.DefD := ⟨("parameters_fit", none), "parameters_fit", "parameters_fit", defArgs s_parameters_fit, defBody s_parameters_fit, defScope s_parameters_fit, [], []⟩
def d_body_fits : He.DefD := ⟨("body_fits", none), "body_fits", "body_fits", defArgs s_body_fits, defBody s_body_fits, defScope s_body_fits, [], []⟩
def d_check_program : He.DefD := ⟨("check_program", none), "check_program", "check_program", defArgs s_check_program, defBody s_check_program, defScope s_check_program, [], []⟩
def d_inputs_of : He.DefD := ⟨("inputs_of", none), "inputs_of", "inputs_of", defArgs s_inputs_of, defBody s_inputs_of, defScope s_inputs_of, [], []⟩
def d_made_name : He.DefD := ⟨("made_name", none), "made_name", "made_name", defArgs s_made_name, defBody s_made_name, defScope s_made_name, [], []⟩
def d_check_inputs : He.DefD := ⟨("check_inputs", none), "check_inputs", "check_inputs", defArgs s_check_inputs, defBody s_check_inputs, defScope s_check_inputs, [], []⟩
def d_renamed_expression : He.DefD := ⟨("renamed_expression", none), "renamed_expression", "renamed_expression", defArgs s_renamed_expression, defBody s_renamed_expression, defScope s_renamed_expression, [], []⟩
def d_renamed : He.DefD := ⟨("renamed", none), "renamed", "renamed", defArgs s_renamed, defBody s_renamed, defScope s_renamed, [], []⟩
def d_joined : He.DefD := ⟨("joined", none), "joined", "joined", defArgs s_joined, defBody s_joined, defScope s_joined, [], []⟩
def d_with_main : He.DefD := ⟨("with_main", none), "with_main", "with_main", defArgs s_with_main, defBody s_with_main, defScope s_with_main, [], []⟩
def d_universal : He.DefD := ⟨("universal", none), "universal", "universal", defArgs s_universal, defBody s_universal, defScope s_universal, [], []⟩
def d_lister_refuted : He.DefD := ⟨("lister_refuted", none), "lister_refuted", "lister_refuted", defArgs s_lister_refuted, defBody s_lister_refuted, defScope s_lister_refuted, [], []⟩
def d_started : He.DefD := ⟨("started", none), "started", "started", defArgs s_started, defBody s_started, defScope s_started, [], []⟩
def d_run_program : He.DefD := ⟨("run_program", none), "run_program", "run_program", defArgs s_run_program, defBody s_run_program, defScope s_run_program, [], []⟩
def d_refute_list : He.DefD := ⟨("refute_list", none), "refute_list", "refute_list", defArgs s_refute_list, defBody s_refute_list, defScope s_refute_list, [], []⟩
def d_law_draws : He.DefD := ⟨("_law_draws", none), "_law_draws", "_law_draws", defArgs s_law_draws, defBody s_law_draws, defScope s_law_draws, [], []⟩
def d_law_take : He.DefD := ⟨("_law_take", none), "_law_take", "_law_take", defArgs s_law_take, defBody s_law_take, defScope s_law_take, [], []⟩
def d_law_value : He.DefD := ⟨("_law_value", none), "_law_value", "_law_value", defArgs s_law_value, defBody s_law_value, defScope s_law_value, [], []⟩
def d_law_expression : He.DefD := ⟨("_law_expression", none), "_law_expression", "_law_expression", defArgs s_law_expression, defBody s_law_expression, defScope s_law_expression, [], []⟩
def d_law_library : He.DefD := ⟨("_law_library", none), "_law_library", "_law_library", defArgs s_law_library, defBody s_law_library, defScope s_law_library, [], []⟩
def d_law_program : He.DefD := ⟨("_law_program", none), "_law_program", "_law_program", defArgs s_law_program, defBody s_law_program, defScope s_law_program, [], []⟩
def d_law_do : He.DefD := ⟨("_law_do", none), "_law_do", "_law_do", defArgs s_law_do, defBody s_law_do, defScope s_law_do, [], []⟩
def d_law_small : He.DefD := ⟨("_law_small", none), "_law_small", "_law_small", defArgs s_law_small, defBody s_law_small, defScope s_law_small, [], []⟩
def d_law_run : He.DefD := ⟨("_law_run", none), "_law_run", "_law_run", defArgs s_law_run, defBody s_law_run, defScope s_law_run, [], []⟩
def d_law : He.DefD := ⟨("law", none), "law", "law", defArgs s_law, defBody s_law, defScope s_law, [], []⟩
def d_Store_init : He.DefD := ⟨("Store", some "__init__"), "__init__", "Store.__init__", defArgs s_Store_init, defBody s_Store_init, defScope s_Store_init, [], []⟩
def d_Store_number_of : He.DefD := ⟨("Store", some "number_of"), "number_of", "Store.number_of", defArgs s_Store_number_of, defBody s_Store_number_of, defScope s_Store_number_of, [], []⟩
def d_Store_is_word : He.DefD := ⟨("Store", some "is_word"), "is_word", "Store.is_word", defArgs s_Store_is_word, defBody s_Store_is_word, defScope s_Store_is_word, [], []⟩
def d_Store_first : He.DefD := ⟨("Store", some "first"), "first", "Store.first", defArgs s_Store_first, defBody s_Store_first, defScope s_Store_first, [], []⟩
def d_Store_rest : He.DefD := ⟨("Store", some "rest"), "rest", "Store.rest", defArgs s_Store_rest, defBody s_Store_rest, defScope s_Store_rest, [], []⟩
def d_Store_pair_up : He.DefD := ⟨("Store", some "pair_up"), "pair_up", "Store.pair_up", defArgs s_Store_pair_up, defBody s_Store_pair_up, defScope s_Store_pair_up, [], []⟩
def d_Store_put : He.DefD := ⟨("Store", some "put"), "put", "Store.put", defArgs s_Store_put, defBody s_Store_put, defScope s_Store_put, [], []⟩
def d_Store_items_of : He.DefD := ⟨("Store", some "items_of"), "items_of", "Store.items_of", defArgs s_Store_items_of, defBody s_Store_items_of, defScope s_Store_items_of, [], []⟩
def d_Store_value_of : He.DefD := ⟨("Store", some "value_of"), "value_of", "Store.value_of", defArgs s_Store_value_of, defBody s_Store_value_of, defScope s_Store_value_of, [], []⟩
def d_Run_init : He.DefD := ⟨("Run", some "__init__"), "__init__", "Run.__init__", defArgs s_Run_init, defBody s_Run_init, defScope s_Run_init, [], []⟩
def d_Machine_init : He.DefD := ⟨("Machine", some "__init__"), "__init__", "Machine.__init__", defArgs s_Machine_init, defBody s_Machine_init, defScope s_Machine_init, [], [("keeping", .bl false)]⟩
def d_Machine_begin : He.DefD := ⟨("Machine", some "begin"), "begin", "Machine.begin", defArgs s_Machine_begin, defBody s_Machine_begin, defScope s_Machine_begin, [], []⟩
def d_Machine_is_done : He.DefD := ⟨("Machine", some "is_done"), "is_done", "Machine.is_done", defArgs s_Machine_is_done, defBody s_Machine_is_done, defScope s_Machine_is_done, [], []⟩
def d_Machine_go_on : He.DefD := ⟨("Machine", some "go_on"), "go_on", "Machine.go_on", defArgs s_Machine_go_on, defBody s_Machine_go_on, defScope s_Machine_go_on, [], []⟩
def d_Machine_evaluate : He.DefD := ⟨("Machine", some "evaluate"), "evaluate", "Machine.evaluate", defArgs s_Machine_evaluate, defBody s_Machine_evaluate, defScope s_Machine_evaluate, [], []⟩
def d_Machine_do : He.DefD := ⟨("Machine", some "do"), "do", "Machine.do", defArgs s_Machine_do, defBody s_Machine_do, defScope s_Machine_do, [], []⟩
def d_Machine_is_great : He.DefD := ⟨("Machine", some "is_great"), "is_great", "Machine.is_great", defArgs s_Machine_is_great, defBody s_Machine_is_great, defScope s_Machine_is_great, [], []⟩
def d_Machine_result : He.DefD := ⟨("Machine", some "result"), "result", "Machine.result", defArgs s_Machine_result, defBody s_Machine_result, defScope s_Machine_result, [], []⟩
def fnA : List He.DefD := [d_is_word, d_has_head, d_counts_of, d_name_fits, d_parameters_fit, d_body_fits, d_check_program, d_inputs_of, d_made_name, d_check_inputs, d_renamed_expression, d_renamed, d_joined, d_with_main, d_universal, d_lister_refuted, d_started, d_run_program, d_refute_list, d_law_draws, d_law_take, d_law_value, d_law_expression, d_law_library, d_law_program, d_law_do, d_law_small, d_law_run, d_law, d_Store_init]
def fnB : List He.DefD := [d_Store_number_of, d_Store_is_word, d_Store_first, d_Store_rest, d_Store_pair_up, d_Store_put, d_Store_items_of, d_Store_value_of, d_Run_init, d_Machine_init, d_Machine_begin, d_Machine_is_done, d_Machine_go_on, d_Machine_evaluate, d_Machine_do, d_Machine_is_great, d_Machine_result]
def fn : List He.DefD := fnA ++ fnB
def fa0 : List He.Fa := [.glo "is_word", .glo "has_head", .glo "counts_of", .glo "name_fits", .glo "parameters_fit", .glo "body_fits", .glo "check_program", .glo "inputs_of", .glo "made_name", .glo "check_inputs", .glo "renamed_expression", .glo "renamed", .glo "joined", .glo "with_main", .glo "universal", .glo "lister_refuted", .glo "started", .glo "run_program", .glo "refute_list", .glo "_law_draws", .glo "_law_take", .glo "_law_value", .glo "_law_expression", .glo "_law_library", .glo "_law_program", .glo "_law_do", .glo "_law_small", .glo "_law_run", .glo "law", .free "isinstance", .free "len", .free "dict", .free "int", .free "tuple", .free "enumerate"]
def fa1 : List He.Fa := [.free "range", .free "str", .free "min", .free "max", .free "reversed", .free "zip", .free "abs", .int "MOST_PARAMETERS" 12, .int "MOST_INPUTS" 8, .int "EMPTY" 0, .int "MOST_PARTS" 200000, .int "MOST_DEPTH" 200, .str "FIGURES" "0123456789", .glo "SPECIAL", .glo "UNIVERSAL", .glo "PLAIN", .glo "SPECIAL_WORDS", .glo "Store", .cls "Store", .mkr "Store", .noat "Store" "entries", .noat "Store" "numbers", .noat "Store" "sizes", .noat "Store" "depths", .meth "Store" "number_of", .meth "Store" "is_word", .meth "Store" "first", .meth "Store" "rest", .meth "Store" "pair_up", .meth "Store" "put", .meth "Store" "items_of", .meth "Store" "value_of", .glo "Run", .cls "Run", .mkr "Run"]
def fa2 : List He.Fa := [.noat "Run" "kind", .noat "Run" "value", .noat "Run" "steps", .glo "Machine", .cls "Machine", .mkr "Machine", .noat "Machine" "store", .noat "Machine" "yes", .noat "Machine" "functions", .noat "Machine" "keeping", .noat "Machine" "kept", .noat "Machine" "pair", .noat "Machine" "steps", .noat "Machine" "found", .noat "Machine" "todo", .meth "Machine" "begin", .meth "Machine" "is_done", .meth "Machine" "go_on", .meth "Machine" "evaluate", .meth "Machine" "do", .meth "Machine" "is_great", .meth "Machine" "result"]
def fa : List He.Fa := fa0 ++ fa1 ++ fa2
def specials : List Str := ["quote", "if", "same", "word", "head", "tail", "join"]
def plains : List Str := ["same", "word", "head", "tail", "join"]
def specialCounts : List (Str × He.Dv) := [("quote", .int 1), ("if", .int 3), ("same", .int 2), ("word", .int 1), ("head", .int 1), ("tail", .int 1), ("join", .int 2)]
def ts : List He.Tab := [((fun K => He.ga K "SPECIAL_WORDS"), specials)]
def ex (K : PySem.W.Frag) : Bool := He.tupB K "SPECIAL" (specials.map He.Dv.str) && (He.tupB K "PLAIN" (plains.map He.Dv.str) && (He.valsB K (He.ga K "SPECIAL_WORDS") specialCounts && (encP uniP).inK K (.ref (He.ga K "UNIVERSAL"))))
/-- what is looked at: what the module's names reach, and the tuples of UNIVERSAL -/
def asU (g : Addr → Option Obj) : List Addr := He.asD g 5 ++ tupAs g 14 (.ref (He.ga (He.frG g [mainGlobals]) "UNIVERSAL"))
abbrev AlU : Type := He.AlT × Bool
def obsU (g : Addr → Option Obj) : AlU := (He.obsT fa fn ts (He.frG g (asU g)), ex (He.frG g (asU g)))
def valU (w : World) : AlU := (He.valT fn ts w, true)
structure SaysU (w : World) (K : PySem.W.Frag) : Prop where
  t : He.SaysT fa fn ts w K
  more : ex K = true
theorem saysU_of {w : World} {g : Addr → Option Obj} (e : obsU g = valU w) : SaysU w (He.frG g (asU g)) := by
  have e1 : (He.obsT fa fn ts (He.frG g (asU g)), ex (He.frG g (asU g))) = (He.valT fn ts w, true) := e
  obtain ⟨h1, h2⟩ := Prod.mk.inj e1
  exact ⟨h1, h2⟩
def hookU : PySem.W.Hook where
  α := AlU
  obs := fun s => obsU s.heap.get?
  val := valU
  says := fun w h => ∃ K : PySem.W.Frag, K.In h ∧ SaysU w K
  of := fun w s e => ⟨He.frG s.heap.get? (asU s.heap.get?), He.frG_in, saysU_of e⟩
  keeps := fun _ _ _ ⟨K, hK, c⟩ k => ⟨K, PySem.W.Frag.In.keeps hK k, c⟩
def ob (s : PySem.W.SharedT) : AlU := obsU (HandSHeadRun.getT s)
theorem ob_eq (s : PySem.W.SharedT) : ob s = hookU.obs s.abs := by
  have e : HandSHeadRun.getT s = s.abs.heap.get? := funext fun a => HandSHeadRun.getT_eq s a
  show obsU (HandSHeadRun.getT s) = obsU s.abs.heap.get?
  rw [e]
def looseA : List Str := ["__name__", "GlassError", "BadProgram", "BadInputs", "SPECIAL_WORDS", "FIGURES", "MOST_PARAMETERS", "MOST_INPUTS", "SPECIAL", "UNIVERSAL", "EMPTY", "MOST_PARTS", "MOST_DEPTH", "Store", "PLAIN", "Run", "Machine", "is_word", "has_head", "counts_of", "name_fits", "parameters_fit"]
def looseB : List Str := ["body_fits", "check_program", "inputs_of", "made_name", "check_inputs", "renamed_expression", "renamed", "joined", "with_main", "universal", "lister_refuted", "started", "run_program", "refute_list", "_law_draws", "_law_take", "_law_value", "_law_expression", "_law_library", "_law_program", "_law_do", "_law_small", "_law_run"]
abbrev R : PySem.W.OpenRow := PySem.W.OpenLaw.row PySem.Challenge.rw_ownglass_k35_listers
/-- what a walk leans on: the written part, the module's names -/
structure Ctx (w : World) (K : PySem.W.Frag) (mg : Str → Option Value) : Prop where
  says : SaysU w K
  glob : ∃ h : Heap, K.In h ∧ h.Ns mainGlobals mg
section
variable {w : World} {K : PySem.W.Frag} {mg : Str → Option Value}
theorem Ctx.fa_ (C : Ctx w K mg) (i : Nat) {f : He.Fa} (h : fa[i]? = some f) : f.ok K = true := C.says.t.d.fact i h
theorem Ctx.glo (C : Ctx w K mg) {x : Str} (i : Nat) (h : fa[i]? = some (.glo x)) : mg x = some (.ref (He.ga K x)) := by
  obtain ⟨h', X, G⟩ := C.glob
  exact He.glo_ok X G (C.fa_ i h)
theorem Ctx.free (C : Ctx w K mg) {x : Str} (i : Nat) (h : fa[i]? = some (.free x)) : mg x = none := by
  obtain ⟨h', X, G⟩ := C.glob
  exact He.free_ok X G (C.fa_ i h)
theorem Ctx.int (C : Ctx w K mg) {x : Str} {z : Int} (i : Nat) (h : fa[i]? = some (.int x z)) : ∃ t, mg x = some (.int z t) := by
  obtain ⟨h', X, G⟩ := C.glob
  exact He.int_ok X G (C.fa_ i h)
theorem Ctx.str (C : Ctx w K mg) {x z : Str} (i : Nat) (h : fa[i]? = some (.str x z)) : ∃ t, mg x = some (.str z t) := by
  obtain ⟨h', X, G⟩ := C.glob
  exact He.str_ok X G (C.fa_ i h)
theorem Ctx.fn_ (C : Ctx w K mg) (i : Nat) {d : He.DefD} (h : fn[i]? = some d) : ∃ fd, L2.FunD K d.name d.qual d.params d.body d.scope (d.dvs K) (d.kws K) (He.fAd K d.at_) fd := C.says.t.d.def_ i h
theorem Ctx.g_is_word (C : Ctx w K mg) : mg "is_word" = some (.ref (He.ga K "is_word")) := C.glo 0 rfl
theorem Ctx.g_has_head (C : Ctx w K mg) : mg "has_head" = some (.ref (He.ga K "has_head")) := C.glo 1 rfl
theorem Ctx.g_counts_of (C : Ctx w K mg) : mg "counts_of" = some (.ref (He.ga K "counts_of")) := C.glo 2 rfl
theorem Ctx.g_name_fits (C : Ctx w K mg) : mg "name_fits" = some (.ref (He.ga K "name_fits")) := C.glo 3 rfl
theorem Ctx.g_parameters_fit (C : Ctx w K mg) : mg "parameters_fit" = some (.ref (He.ga K "parameters_fit")) := C.glo 4 rfl
theorem Ctx.g_body_fits (C : Ctx w K mg) : mg "body_fits" = some (.ref (He.ga K "body_fits")) := C.glo 5 rfl
theorem Ctx.g_check_program (C : Ctx w K mg) : mg "check_program" = some (.ref (He.ga K "check_program")) := C.glo 6 rfl
theorem Ctx.g_inputs_of (C : Ctx w K mg) : mg "inputs_of" = some (.ref (He.ga K "inputs_of")) := C.glo 7 rfl
theorem Ctx.g_made_name (C : Ctx w K mg) : mg "made_name" = some (.ref (He.ga K "made_name")) := C.glo 8 rfl
theorem Ctx.g_check_inputs (C : Ctx w K mg) : mg "check_inputs" = some (.ref (He.ga K "check_inputs")) := C.glo 9 rfl
theorem Ctx.g_renamed_expression (C : Ctx w K mg) : mg "renamed_expression" = some (.ref (He.ga K "renamed_expression")) := C.glo 10 rfl
theorem Ctx.g_renamed (C : Ctx w K mg) : mg "renamed" = some (.ref (He.ga K "renamed")) := C.glo 11 rfl
theorem Ctx.g_joined (C : Ctx w K mg) : mg "joined" = some (.ref (He.ga K "joined")) := C.glo 12 rfl
theorem Ctx.g_with_main (C : Ctx w K mg) : mg "with_main" = some (.ref (He.ga K "with_main")) := C.glo 13 rfl
theorem Ctx.g_universal (C : Ctx w K mg) : mg "universal" = some (.ref (He.ga K "universal")) := C.glo 14 rfl
theorem Ctx.g_lister_refuted (C : Ctx w K mg) : mg "lister_refuted" = some (.ref (He.ga K "lister_refuted")) := C.glo 15 rfl
theorem Ctx.g_started (C : Ctx w K mg) : mg "started" = some (.ref (He.ga K "started")) := C.glo 16 rfl
theorem Ctx.g_run_program (C : Ctx w K mg) : mg "run_program" = some (.ref (He.ga K "run_program")) := C.glo 17 rfl
theorem Ctx.g_refute_list (C : Ctx w K mg) : mg "refute_list" = some (.ref (He.ga K "refute_list")) := C.glo 18 rfl
theorem Ctx.g_law_draws (C : Ctx w K mg) : mg "_law_draws" = some (.ref (He.ga K "_law_draws")) := C.glo 19 rfl
theorem Ctx.g_law_take (C : Ctx w K mg) : mg "_law_take" = some (.ref (He.ga K "_law_take")) := C.glo 20 rfl
theorem Ctx.g_law_value (C : Ctx w K mg) : mg "_law_value" = some (.ref (He.ga K "_law_value")) := C.glo 21 rfl
theorem Ctx.g_law_expression (C : Ctx w K mg) : mg "_law_expression" = some (.ref (He.ga K "_law_expression")) := C.glo 22 rfl
theorem Ctx.g_law_library (C : Ctx w K mg) : mg "_law_library" = some (.ref (He.ga K "_law_library")) := C.glo 23 rfl
theorem Ctx.g_law_program (C : Ctx w K mg) : mg "_law_program" = some (.ref (He.ga K "_law_program")) := C.glo 24 rfl
theorem Ctx.g_law_do (C : Ctx w K mg) : mg "_law_do" = some (.ref (He.ga K "_law_do")) := C.glo 25 rfl
theorem Ctx.g_law_small (C : Ctx w K mg) : mg "_law_small" = some (.ref (He.ga K "_law_small")) := C.glo 26 rfl
theorem Ctx.g_law_run (C : Ctx w K mg) : mg "_law_run" = some (.ref (He.ga K "_law_run")) := C.glo 27 rfl
theorem Ctx.g_law (C : Ctx w K mg) : mg "law" = some (.ref (He.ga K "law")) := C.glo 28 rfl
theorem Ctx.z_isinstance (C : Ctx w K mg) : mg "isinstance" = none := C.free 29 rfl
theorem Ctx.z_len (C : Ctx w K mg) : mg "len" = none := C.free 30 rfl
theorem Ctx.z_dict (C : Ctx w K mg) : mg "dict" = none := C.free 31 rfl
theorem Ctx.z_int (C : Ctx w K mg) : mg "int" = none := C.free 32 rfl
theorem Ctx.z_tuple (C : Ctx w K mg) : mg "tuple" = none := C.free 33 rfl
theorem Ctx.z_enumerate (C : Ctx w K mg) : mg "enumerate" = none := C.free 34 rfl
theorem Ctx.z_range (C : Ctx w K mg) : mg "range" = none := C.free 35 rfl
theorem Ctx.z_str (C : Ctx w K mg) : mg "str" = none := C.free 36 rfl
theorem Ctx.z_min (C : Ctx w K mg) : mg "min" = none := C.free 37 rfl
theorem Ctx.z_max (C : Ctx w K mg) : mg "max" = none := C.free 38 rfl
theorem Ctx.z_reversed (C : Ctx w K mg) : mg "reversed" = none := C.free 39 rfl
theorem Ctx.z_zip (C : Ctx w K mg) : mg "zip" = none := C.free 40 rfl
theorem Ctx.z_abs (C : Ctx w K mg) : mg "abs" = none := C.free 41 rfl
theorem Ctx.i_MOST_PARAMETERS (C : Ctx w K mg) : ∃ t, mg "MOST_PARAMETERS" = some (.int 12 t) := C.int 42 rfl
theorem Ctx.i_MOST_INPUTS (C : Ctx w K mg) : ∃ t, mg "MOST_INPUTS" = some (.int 8 t) := C.int 43 rfl
theorem Ctx.i_EMPTY (C : Ctx w K mg) : ∃ t, mg "EMPTY" = some (.int 0 t) := C.int 44 rfl
theorem Ctx.i_MOST_PARTS (C : Ctx w K mg) : ∃ t, mg "MOST_PARTS" = some (.int 200000 t) := C.int 45 rfl
theorem Ctx.i_MOST_DEPTH (C : Ctx w K mg) : ∃ t, mg "MOST_DEPTH" = some (.int 200 t) := C.int 46 rfl
theorem Ctx.t_FIGURES (C : Ctx w K mg) : ∃ t, mg "FIGURES" = some (.str "0123456789" t) := C.str 47 rfl
theorem Ctx.g_SPECIAL (C : Ctx w K mg) : mg "SPECIAL" = some (.ref (He.ga K "SPECIAL")) := C.glo 48 rfl
theorem Ctx.g_UNIVERSAL (C : Ctx w K mg) : mg "UNIVERSAL" = some (.ref (He.ga K "UNIVERSAL")) := C.glo 49 rfl
theorem Ctx.g_PLAIN (C : Ctx w K mg) : mg "PLAIN" = some (.ref (He.ga K "PLAIN")) := C.glo 50 rfl
theorem Ctx.g_SPECIAL_WORDS (C : Ctx w K mg) : mg "SPECIAL_WORDS" = some (.ref (He.ga K "SPECIAL_WORDS")) := C.glo 51 rfl
theorem Ctx.g_Store (C : Ctx w K mg) : mg "Store" = some (.ref (He.ga K "Store")) := C.glo 52 rfl
theorem Ctx.c_Store (C : Ctx w K mg) : Cls K (He.ga K "Store") := He.cls_ok (C.fa_ 53 rfl)
theorem Ctx.m_Store (C : Ctx w K mg) : Mk K (He.ga K "Store") (He.ma K (He.ga K "Store") "__init__") := He.mkr_ok (C.fa_ 54 rfl)
theorem Ctx.n_Store_entries (C : Ctx w K mg) : NoAttr K (He.ga K "Store") "entries" := He.noat_ok (C.fa_ 55 rfl)
theorem Ctx.n_Store_numbers (C : Ctx w K mg) : NoAttr K (He.ga K "Store") "numbers" := He.noat_ok (C.fa_ 56 rfl)
theorem Ctx.n_Store_sizes (C : Ctx w K mg) : NoAttr K (He.ga K "Store") "sizes" := He.noat_ok (C.fa_ 57 rfl)
theorem Ctx.n_Store_depths (C : Ctx w K mg) : NoAttr K (He.ga K "Store") "depths" := He.noat_ok (C.fa_ 58 rfl)
theorem Ctx.h_Store_number_of (C : Ctx w K mg) : Meth K (He.ga K "Store") "number_of" (He.ma K (He.ga K "Store") "number_of") := He.meth_ok (C.fa_ 59 rfl)
theorem Ctx.h_Store_is_word (C : Ctx w K mg) : Meth K (He.ga K "Store") "is_word" (He.ma K (He.ga K "Store") "is_word") := He.meth_ok (C.fa_ 60 rfl)
theorem Ctx.h_Store_first (C : Ctx w K mg) : Meth K (He.ga K "Store") "first" (He.ma K (He.ga K "Store") "first") := He.meth_ok (C.fa_ 61 rfl)
theorem Ctx.h_Store_rest (C : Ctx w K mg) : Meth K (He.ga K "Store") "rest" (He.ma K (He.ga K "Store") "rest") := He.meth_ok (C.fa_ 62 rfl)
theorem Ctx.h_Store_pair_up (C : Ctx w K mg) : Meth K (He.ga K "Store") "pair_up" (He.ma K (He.ga K "Store") "pair_up") := He.meth_ok (C.fa_ 63 rfl)
theorem Ctx.h_Store_put (C : Ctx w K mg) : Meth K (He.ga K "Store") "put" (He.ma K (He.ga K "Store") "put") := He.meth_ok (C.fa_ 64 rfl)
theorem Ctx.h_Store_items_of (C : Ctx w K mg) : Meth K (He.ga K "Store") "items_of" (He.ma K (He.ga K "Store") "items_of") := He.meth_ok (C.fa_ 65 rfl)
theorem Ctx.h_Store_value_of (C : Ctx w K mg) : Meth K (He.ga K "Store") "value_of" (He.ma K (He.ga K "Store") "value_of") := He.meth_ok (C.fa_ 66 rfl)
theorem Ctx.g_Run (C : Ctx w K mg) : mg "Run" = some (.ref (He.ga K "Run")) := C.glo 67 rfl
theorem Ctx.c_Run (C : Ctx w K mg) : Cls K (He.ga K "Run") := He.cls_ok (C.fa_ 68 rfl)
theorem Ctx.m_Run (C : Ctx w K mg) : Mk K (He.ga K "Run") (He.ma K (He.ga K "Run") "__init__") := He.mkr_ok (C.fa_ 69 rfl)
theorem Ctx.n_Run_kind (C : Ctx w K mg) : NoAttr K (He.ga K "Run") "kind" := He.noat_ok (C.fa_ 70 rfl)
theorem Ctx.n_Run_value (C : Ctx w K mg) : NoAttr K (He.ga K "Run") "value" := He.noat_ok (C.fa_ 71 rfl)
theorem Ctx.n_Run_steps (C : Ctx w K mg) : NoAttr K (He.ga K "Run") "steps" := He.noat_ok (C.fa_ 72 rfl)
theorem Ctx.g_Machine (C : Ctx w K mg) : mg "Machine" = some (.ref (He.ga K "Machine")) := C.glo 73 rfl
theorem Ctx.c_Machine (C : Ctx w K mg) : Cls K (He.ga K "Machine") := He.cls_ok (C.fa_ 74 rfl)
theorem Ctx.m_Machine (C : Ctx w K mg) : Mk K (He.ga K "Machine") (He.ma K (He.ga K "Machine") "__init__") := He.mkr_ok (C.fa_ 75 rfl)
theorem Ctx.n_Machine_store (C : Ctx w K mg) : NoAttr K (He.ga K "Machine") "store" := He.noat_ok (C.fa_ 76 rfl)
theorem Ctx.n_Machine_yes (C : Ctx w K mg) : NoAttr K (He.ga K "Machine") "yes" := He.noat_ok (C.fa_ 77 rfl)
theorem Ctx.n_Machine_functions (C : Ctx w K mg) : NoAttr K (He.ga K "Machine") "functions" := He.noat_ok (C.fa_ 78 rfl)
theorem Ctx.n_Machine_keeping (C : Ctx w K mg) : NoAttr K (He.ga K "Machine") "keeping" := He.noat_ok (C.fa_ 79 rfl)
theorem Ctx.n_Machine_kept (C : Ctx w K mg) : NoAttr K (He.ga K "Machine") "kept" := He.noat_ok (C.fa_ 80 rfl)
theorem Ctx.n_Machine_pair (C : Ctx w K mg) : NoAttr K (He.ga K "Machine") "pair" := He.noat_ok (C.fa_ 81 rfl)
theorem Ctx.n_Machine_steps (C : Ctx w K mg) : NoAttr K (He.ga K "Machine") "steps" := He.noat_ok (C.fa_ 82 rfl)
theorem Ctx.n_Machine_found (C : Ctx w K mg) : NoAttr K (He.ga K "Machine") "found" := He.noat_ok (C.fa_ 83 rfl)
theorem Ctx.n_Machine_todo (C : Ctx w K mg) : NoAttr K (He.ga K "Machine") "todo" := He.noat_ok (C.fa_ 84 rfl)
theorem Ctx.h_Machine_begin (C : Ctx w K mg) : Meth K (He.ga K "Machine") "begin" (He.ma K (He.ga K "Machine") "begin") := He.meth_ok (C.fa_ 85 rfl)
theorem Ctx.h_Machine_is_done (C : Ctx w K mg) : Meth K (He.ga K "Machine") "is_done" (He.ma K (He.ga K "Machine") "is_done") := He.meth_ok (C.fa_ 86 rfl)
theorem Ctx.h_Machine_go_on (C : Ctx w K mg) : Meth K (He.ga K "Machine") "go_on" (He.ma K (He.ga K "Machine") "go_on") := He.meth_ok (C.fa_ 87 rfl)
theorem Ctx.h_Machine_evaluate (C : Ctx w K mg) : Meth K (He.ga K "Machine") "evaluate" (He.ma K (He.ga K "Machine") "evaluate") := He.meth_ok (C.fa_ 88 rfl)
theorem Ctx.h_Machine_do (C : Ctx w K mg) : Meth K (He.ga K "Machine") "do" (He.ma K (He.ga K "Machine") "do") := He.meth_ok (C.fa_ 89 rfl)
theorem Ctx.h_Machine_is_great (C : Ctx w K mg) : Meth K (He.ga K "Machine") "is_great" (He.ma K (He.ga K "Machine") "is_great") := He.meth_ok (C.fa_ 90 rfl)
theorem Ctx.h_Machine_result (C : Ctx w K mg) : Meth K (He.ga K "Machine") "result" (He.ma K (He.ga K "Machine") "result") := He.meth_ok (C.fa_ 91 rfl)
theorem Ctx.f_is_word (C : Ctx w K mg) : ∃ fd, L2.FunD K "is_word" "is_word" (defArgs s_is_word) (defBody s_is_word) (defScope s_is_word) [] [] (He.ga K "is_word") fd := C.fn_ 0 (d := d_is_word) rfl
theorem Ctx.f_has_head (C : Ctx w K mg) : ∃ fd, L2.FunD K "has_head" "has_head" (defArgs s_has_head) (defBody s_has_head) (defScope s_has_head) [] [] (He.ga K "has_head") fd := C.fn_ 1 (d := d_has_head) rfl
theorem Ctx.f_counts_of (C : Ctx w K mg) : ∃ fd, L2.FunD K "counts_of" "counts_of" (defArgs s_counts_of) (defBody s_counts_of) (defScope s_counts_of) [] [] (He.ga K "counts_of") fd := C.fn_ 2 (d := d_counts_of) rfl
theorem Ctx.f_name_fits (C : Ctx w K mg) : ∃ fd, L2.FunD K "name_fits" "name_fits" (defArgs s_name_fits) (defBody s_name_fits) (defScope s_name_fits) [] [] (He.ga K "name_fits") fd := C.fn_ 3 (d := d_name_fits) rfl
theorem Ctx.f_parameters_fit (C : Ctx w K mg) : ∃ fd, L2.FunD K "parameters_fit" "parameters_fit" (defArgs s_parameters_fit) (defBody s_parameters_fit) (defScope s_parameters_fit) [] [] (He.ga K "parameters_fit") fd := C.fn_ 4 (d := d_parameters_fit) rfl
theorem Ctx.f_body_fits (C : Ctx w K mg) : ∃ fd, L2.FunD K "body_fits" "body_fits" (defArgs s_body_fits) (defBody s_body_fits) (defScope s_body_fits) [] [] (He.ga K "body_fits") fd := C.fn_ 5 (d := d_body_fits) rfl
theorem Ctx.f_check_program (C : Ctx w K mg) : ∃ fd, L2.FunD K "check_program" "check_program" (defArgs s_check_program) (defBody s_check_program) (defScope s_check_program) [] [] (He.ga K "check_program") fd := C.fn_ 6 (d := d_check_program) rfl
theorem Ctx.f_inputs_of (C : Ctx w K mg) : ∃ fd, L2.FunD K "inputs_of" "inputs_of" (defArgs s_inputs_of) (defBody s_inputs_of) (defScope s_inputs_of) [] [] (He.ga K "inputs_of") fd := C.fn_ 7 (d := d_inputs_of) rfl
theorem Ctx.f_made_name (C : Ctx w K mg) : ∃ fd, L2.FunD K "made_name" "made_name" (defArgs s_made_name) (defBody s_made_name) (defScope s_made_name) [] [] (He.ga K "made_name") fd := C.fn_ 8 (d := d_made_name) rfl
theorem Ctx.f_check_inputs (C : Ctx w K mg) : ∃ fd, L2.FunD K "check_inputs" "check_inputs" (defArgs s_check_inputs) (defBody s_check_inputs) (defScope s_check_inputs) [] [] (He.ga K "check_inputs") fd := C.fn_ 9 (d := d_check_inputs) rfl
theorem Ctx.f_renamed_expression (C : Ctx w K mg) : ∃ fd, L2.FunD K "renamed_expression" "renamed_expression" (defArgs s_renamed_expression) (defBody s_renamed_expression) (defScope s_renamed_expression) [] [] (He.ga K "renamed_expression") fd := C.fn_ 10 (d := d_renamed_expression) rfl
theorem Ctx.f_renamed (C : Ctx w K mg) : ∃ fd, L2.FunD K "renamed" "renamed" (defArgs s_renamed) (defBody s_renamed) (defScope s_renamed) [] [] (He.ga K "renamed") fd := C.fn_ 11 (d := d_renamed) rfl
theorem Ctx.f_joined (C : Ctx w K mg) : ∃ fd, L2.FunD K "joined" "joined" (defArgs s_joined) (defBody s_joined) (defScope s_joined) [] [] (He.ga K "joined") fd := C.fn_ 12 (d := d_joined) rfl
theorem Ctx.f_with_main (C : Ctx w K mg) : ∃ fd, L2.FunD K "with_main" "with_main" (defArgs s_with_main) (defBody s_with_main) (defScope s_with_main) [] [] (He.ga K "with_main") fd := C.fn_ 13 (d := d_with_main) rfl
theorem Ctx.f_universal (C : Ctx w K mg) : ∃ fd, L2.FunD K "universal" "universal" (defArgs s_universal) (defBody s_universal) (defScope s_universal) [] [] (He.ga K "universal") fd := C.fn_ 14 (d := d_universal) rfl
theorem Ctx.f_lister_refuted (C : Ctx w K mg) : ∃ fd, L2.FunD K "lister_refuted" "lister_refuted" (defArgs s_lister_refuted) (defBody s_lister_refuted) (defScope s_lister_refuted) [] [] (He.ga K "lister_refuted") fd := C.fn_ 15 (d := d_lister_refuted) rfl
theorem Ctx.f_started (C : Ctx w K mg) : ∃ fd, L2.FunD K "started" "started" (defArgs s_started) (defBody s_started) (defScope s_started) [] [] (He.ga K "started") fd := C.fn_ 16 (d := d_started) rfl
theorem Ctx.f_run_program (C : Ctx w K mg) : ∃ fd, L2.FunD K "run_program" "run_program" (defArgs s_run_program) (defBody s_run_program) (defScope s_run_program) [] [] (He.ga K "run_program") fd := C.fn_ 17 (d := d_run_program) rfl
theorem Ctx.f_refute_list (C : Ctx w K mg) : ∃ fd, L2.FunD K "refute_list" "refute_list" (defArgs s_refute_list) (defBody s_refute_list) (defScope s_refute_list) [] [] (He.ga K "refute_list") fd := C.fn_ 18 (d := d_refute_list) rfl
theorem Ctx.f_law_draws (C : Ctx w K mg) : ∃ fd, L2.FunD K "_law_draws" "_law_draws" (defArgs s_law_draws) (defBody s_law_draws) (defScope s_law_draws) [] [] (He.ga K "_law_draws") fd := C.fn_ 19 (d := d_law_draws) rfl
theorem Ctx.f_law_take (C : Ctx w K mg) : ∃ fd, L2.FunD K "_law_take" "_law_take" (defArgs s_law_take) (defBody s_law_take) (defScope s_law_take) [] [] (He.ga K "_law_take") fd := C.fn_ 20 (d := d_law_take) rfl
theorem Ctx.f_law_value (C : Ctx w K mg) : ∃ fd, L2.FunD K "_law_value" "_law_value" (defArgs s_law_value) (defBody s_law_value) (defScope s_law_value) [] [] (He.ga K "_law_value") fd := C.fn_ 21 (d := d_law_value) rfl
theorem Ctx.f_law_expression (C : Ctx w K mg) : ∃ fd, L2.FunD K "_law_expression" "_law_expression" (defArgs s_law_expression) (defBody s_law_expression) (defScope s_law_expression) [] [] (He.ga K "_law_expression") fd := C.fn_ 22 (d := d_law_expression) rfl
theorem Ctx.f_law_library (C : Ctx w K mg) : ∃ fd, L2.FunD K "_law_library" "_law_library" (defArgs s_law_library) (defBody s_law_library) (defScope s_law_library) [] [] (He.ga K "_law_library") fd := C.fn_ 23 (d := d_law_library) rfl
theorem Ctx.f_law_program (C : Ctx w K mg) : ∃ fd, L2.FunD K "_law_program" "_law_program" (defArgs s_law_program) (defBody s_law_program) (defScope s_law_program) [] [] (He.ga K "_law_program") fd := C.fn_ 24 (d := d_law_program) rfl
theorem Ctx.f_law_do (C : Ctx w K mg) : ∃ fd, L2.FunD K "_law_do" "_law_do" (defArgs s_law_do) (defBody s_law_do) (defScope s_law_do) [] [] (He.ga K "_law_do") fd := C.fn_ 25 (d := d_law_do) rfl
theorem Ctx.f_law_small (C : Ctx w K mg) : ∃ fd, L2.FunD K "_law_small" "_law_small" (defArgs s_law_small) (defBody s_law_small) (defScope s_law_small) [] [] (He.ga K "_law_small") fd := C.fn_ 26 (d := d_law_small) rfl
theorem Ctx.f_law_run (C : Ctx w K mg) : ∃ fd, L2.FunD K "_law_run" "_law_run" (defArgs s_law_run) (defBody s_law_run) (defScope s_law_run) [] [] (He.ga K "_law_run") fd := C.fn_ 27 (d := d_law_run) rfl
theorem Ctx.f_law (C : Ctx w K mg) : ∃ fd, L2.FunD K "law" "law" (defArgs s_law) (defBody s_law) (defScope s_law) [] [] (He.ga K "law") fd := C.fn_ 28 (d := d_law) rfl
theorem Ctx.f_Store_init (C : Ctx w K mg) : ∃ fd, L2.FunD K "__init__" "Store.__init__" (defArgs s_Store_init) (defBody s_Store_init) (defScope s_Store_init) [] [] (He.ma K (He.ga K "Store") "__init__") fd := C.fn_ 29 (d := d_Store_init) rfl
theorem Ctx.f_Store_number_of (C : Ctx w K mg) : ∃ fd, L2.FunD K "number_of" "Store.number_of" (defArgs s_Store_number_of) (defBody s_Store_number_of) (defScope s_Store_number_of) [] [] (He.ma K (He.ga K "Store") "number_of") fd := C.fn_ 30 (d := d_Store_number_of) rfl
theorem Ctx.f_Store_is_word (C : Ctx w K mg) : ∃ fd, L2.FunD K "is_word" "Store.is_word" (defArgs s_Store_is_word) (defBody s_Store_is_word) (defScope s_Store_is_word) [] [] (He.ma K (He.ga K "Store") "is_word") fd := C.fn_ 31 (d := d_Store_is_word) rfl
theorem Ctx.f_Store_first (C : Ctx w K mg) : ∃ fd, L2.FunD K "first" "Store.first" (defArgs s_Store_first) (defBody s_Store_first) (defScope s_Store_first) [] [] (He.ma K (He.ga K "Store") "first") fd := C.fn_ 32 (d := d_Store_first) rfl
theorem Ctx.f_Store_rest (C : Ctx w K mg) : ∃ fd, L2.FunD K "rest" "Store.rest" (defArgs s_Store_rest) (defBody s_Store_rest) (defScope s_Store_rest) [] [] (He.ma K (He.ga K "Store") "rest") fd := C.fn_ 33 (d := d_Store_rest) rfl
theorem Ctx.f_Store_pair_up (C : Ctx w K mg) : ∃ fd, L2.FunD K "pair_up" "Store.pair_up" (defArgs s_Store_pair_up) (defBody s_Store_pair_up) (defScope s_Store_pair_up) [] [] (He.ma K (He.ga K "Store") "pair_up") fd := C.fn_ 34 (d := d_Store_pair_up) rfl
theorem Ctx.f_Store_put (C : Ctx w K mg) : ∃ fd, L2.FunD K "put" "Store.put" (defArgs s_Store_put) (defBody s_Store_put) (defScope s_Store_put) [] [] (He.ma K (He.ga K "Store") "put") fd := C.fn_ 35 (d := d_Store_put) rfl
theorem Ctx.f_Store_items_of (C : Ctx w K mg) : ∃ fd, L2.FunD K "items_of" "Store.items_of" (defArgs s_Store_items_of) (defBody s_Store_items_of) (defScope s_Store_items_of) [] [] (He.ma K (He.ga K "Store") "items_of") fd := C.fn_ 36 (d := d_Store_items_of) rfl
theorem Ctx.f_Store_value_of (C : Ctx w K mg) : ∃ fd, L2.FunD K "value_of" "Store.value_of" (defArgs s_Store_value_of) (defBody s_Store_value_of) (defScope s_Store_value_of) [] [] (He.ma K (He.ga K "Store") "value_of") fd := C.fn_ 37 (d := d_Store_value_of) rfl
theorem Ctx.f_Run_init (C : Ctx w K mg) : ∃ fd, L2.FunD K "__init__" "Run.__init__" (defArgs s_Run_init) (defBody s_Run_init) (defScope s_Run_init) [] [] (He.ma K (He.ga K "Run") "__init__") fd := C.fn_ 38 (d := d_Run_init) rfl
theorem Ctx.f_Machine_init (C : Ctx w K mg) : ∃ fd, L2.FunD K "__init__" "Machine.__init__" (defArgs s_Machine_init) (defBody s_Machine_init) (defScope s_Machine_init) [] [("keeping", .bl false)] (He.ma K (He.ga K "Machine") "__init__") fd := C.fn_ 39 (d := d_Machine_init) rfl
theorem Ctx.f_Machine_begin (C : Ctx w K mg) : ∃ fd, L2.FunD K "begin" "Machine.begin" (defArgs s_Machine_begin) (defBody s_Machine_begin) (defScope s_Machine_begin) [] [] (He.ma K (He.ga K "Machine") "begin") fd := C.fn_ 40 (d := d_Machine_begin) rfl
theorem Ctx.f_Machine_is_done (C : Ctx w K mg) : ∃ fd, L2.FunD K "is_done" "Machine.is_done" (defArgs s_Machine_is_done) (defBody s_Machine_is_done) (defScope s_Machine_is_done) [] [] (He.ma K (He.ga K "Machine") "is_done") fd := C.fn_ 41 (d := d_Machine_is_done) rfl
theorem Ctx.f_Machine_go_on (C : Ctx w K mg) : ∃ fd, L2.FunD K "go_on" "Machine.go_on" (defArgs s_Machine_go_on) (defBody s_Machine_go_on) (defScope s_Machine_go_on) [] [] (He.ma K (He.ga K "Machine") "go_on") fd := C.fn_ 42 (d := d_Machine_go_on) rfl
theorem Ctx.f_Machine_evaluate (C : Ctx w K mg) : ∃ fd, L2.FunD K "evaluate" "Machine.evaluate" (defArgs s_Machine_evaluate) (defBody s_Machine_evaluate) (defScope s_Machine_evaluate) [] [] (He.ma K (He.ga K "Machine") "evaluate") fd := C.fn_ 43 (d := d_Machine_evaluate) rfl
theorem Ctx.f_Machine_do (C : Ctx w K mg) : ∃ fd, L2.FunD K "do" "Machine.do" (defArgs s_Machine_do) (defBody s_Machine_do) (defScope s_Machine_do) [] [] (He.ma K (He.ga K "Machine") "do") fd := C.fn_ 44 (d := d_Machine_do) rfl
theorem Ctx.f_Machine_is_great (C : Ctx w K mg) : ∃ fd, L2.FunD K "is_great" "Machine.is_great" (defArgs s_Machine_is_great) (defBody s_Machine_is_great) (defScope s_Machine_is_great) [] [] (He.ma K (He.ga K "Machine") "is_great") fd := C.fn_ 45 (d := d_Machine_is_great) rfl
theorem Ctx.f_Machine_result (C : Ctx w K mg) : ∃ fd, L2.FunD K "result" "Machine.result" (defArgs s_Machine_result) (defBody s_Machine_result) (defScope s_Machine_result) [] [] (He.ma K (He.ga K "Machine") "result") fd := C.fn_ 46 (d := d_Machine_result) rfl
end
end K35
end

section
set_option Elab.async false
set_option linter.all false
set_option maxRecDepth 100000
namespace K35
open PySem PySem.Spec PyProof.Rows L2 PySem.W HandSHeadRun
set_option maxHeartbeats 0
abbrev RunP (w : World) : Prop := HandSHeadRun.RunEq R (PySem.W.view R.prog [53]) hookU ob 20000 (looseA ++ looseB) w
theorem run0 (w : World) : RunP (w.withFollow "special-get-raises" false) := by
  intro os
  kernel_rfl
theorem run1 (w : World) : RunP (w.withFollow "special-get-raises" true) := by
  intro os
  kernel_rfl
theorem run (w : World) : RunP w := PySem.W.byRow2 "special-get-raises" (P := RunP) run0 run1 w
end K35
end

section
set_option Elab.async false
set_option linter.all false
set_option maxRecDepth 100000
/-! Values of the first language on the heap; the calls of the program's own defs. -/
namespace K35
open PySem PySem.Spec PyProof.Rows L2
/-! ### values on the heap -/
mutual
def TV (K : PySem.W.Frag) (H : Hp) : T → L2.V → Prop
  | .w x, v => v = .str x
  | .l xs, v => ∃ a vs, v = .ref a ∧ SqT K H a vs ∧ TVs K H xs vs
def TVs (K : PySem.W.Frag) (H : Hp) : List T → List L2.V → Prop
  | [], vs => vs = []
  | x :: xs, vs => ∃ v r, vs = v :: r ∧ TV K H x v ∧ TVs K H xs r
end
/-- the tuples of H stand in H' -/
def Tk (H H' : Hp) : Prop := ∀ a xs, Rd H a (.tup xs) → Rd H' a (.tup xs)
theorem Tk.refl (H : Hp) : Tk H H := fun _ _ h => h
theorem Tk.trans {H H1 H2 : Hp} (a : Tk H H1) (b : Tk H1 H2) : Tk H H2 := fun p xs h => b p xs (a p xs h)
theorem Tk.same {H H' : Hp} (e : Same H H') : Tk H H' := fun a xs h => by
  rcases h with h | ⟨o, h⟩
  · exact .inl (e _ _ h)
  · exact .inr ⟨o, e _ _ h⟩
theorem Tk.new {H : Hp} {p : Addr} {o : HO} (h : H p = none) : Tk H (upd H p o) := Tk.same fun b u e => by
  rw [upd_ne (ne_of_none e h)]
  exact e
/-- p holds no tuple -/
def NoTup (o : Option HO) : Prop := ∀ xs, o ≠ some (.tup xs) ∧ ∀ b, o ≠ some (.frz b (.tup xs))
theorem NoTup.lst {xs : List L2.V} : NoTup (some (.lst xs)) := fun _ => ⟨fun h => (nomatch h), fun _ h => (nomatch h)⟩
theorem NoTup.dK {xs : List (Key × L2.V)} : NoTup (some (.dK xs)) := fun _ => ⟨fun h => (nomatch h), fun _ h => (nomatch h)⟩
theorem NoTup.ins {C dx : Addr} {fs : List (Str × L2.V)} : NoTup (some (.ins C dx fs)) := fun _ => ⟨fun h => (nomatch h), fun _ h => (nomatch h)⟩
theorem NoTup.ext {φ : Heap → Prop} : NoTup (some (.ext φ)) := fun _ => ⟨fun h => (nomatch h), fun _ h => (nomatch h)⟩
theorem NoTup.non : NoTup none := fun _ => ⟨fun h => (nomatch h), fun _ h => (nomatch h)⟩
theorem Tk.upd {H : Hp} {p : Addr} {o : HO} (h : NoTup (H p)) : Tk H (upd H p o) := fun a xs r => by
  have hne : a ≠ p := fun e => by
    subst e
    rcases r with r | ⟨b, r⟩
    · exact (h xs).1 r
    · exact (h xs).2 b r
  rcases r with r | ⟨b, r⟩
  · exact .inl (by rw [upd_ne hne]; exact r)
  · exact .inr ⟨b, by rw [upd_ne hne]; exact r⟩
section
variable {K : PySem.W.Frag} {H H' : Hp}
theorem Tk.sqt (k : Tk H H') {a : Addr} {xs : List L2.V} (h : SqT K H a xs) : SqT K H' a xs := by
  rcases h with h | h
  · exact .inl (k _ _ h)
  · exact .inr h
mutual
theorem TV.mono (k : Tk H H') : ∀ {t : T} {v : L2.V}, TV K H t v → TV K H' t v
  | .w _, _, h => h
  | .l _, _, ⟨a, vs, e, h, r⟩ => ⟨a, vs, e, k.sqt h, TVs.mono k r⟩
theorem TVs.mono (k : Tk H H') : ∀ {ts : List T} {vs : List L2.V}, TVs K H ts vs → TVs K H' ts vs
  | [], _, h => h
  | _ :: _, _, ⟨v, r, e, h, t⟩ => ⟨v, r, e, TV.mono k h, TVs.mono k t⟩
end
theorem TVs.length : ∀ {ts : List T} {vs : List L2.V}, TVs K H ts vs → vs.length = ts.length
  | [], _, h => by
    have e : _ = [] := h
    rw [e] <;> rfl
  | _ :: _, _, ⟨v, r, e, _, t⟩ => by
    rw [e, List.length_cons, List.length_cons, t.length]
theorem TVs.get : ∀ {ts : List T} {vs : List L2.V} {i : Nat} {t : T}, TVs K H ts vs → ts[i]? = some t → ∃ v, vs[i]? = some v ∧ TV K H t v
  | x :: _, _, 0, t, ⟨v, r, e, h, _⟩, q => by
    have q' : x = t := Option.some.inj q
    subst q'
    exact ⟨v, by rw [e] <;> rfl, h⟩
  | _ :: ts, _, i + 1, t, ⟨v, r, e, _, h⟩, q => by
    obtain ⟨u, h1, h2⟩ := TVs.get (i := i) h (show ts[i]? = some t from q)
    exact ⟨u, by rw [e]; exact h1, h2⟩
theorem TVs.getV : ∀ {ts : List T} {vs : List L2.V} {i : Nat} {v : L2.V}, TVs K H ts vs → vs[i]? = some v → ∃ t, ts[i]? = some t ∧ TV K H t v
  | [], _, i, v, h, q => by
    have e : _ = [] := h
    rw [e] at q
    simp at q
  | x :: _, _, 0, v, ⟨u, r, e, h, _⟩, q => by
    rw [e] at q
    have q' : u = v := Option.some.inj q
    subst q'
    exact ⟨x, rfl, h⟩
  | _ :: ts, _, i + 1, v, ⟨u, r, e, _, h⟩, q => by
    rw [e] at q
    exact TVs.getV (i := i) h (show r[i]? = some v from q)
theorem TVs.append : ∀ {ts us : List T} {vs ws : List L2.V}, TVs K H ts vs → TVs K H us ws → TVs K H (ts ++ us) (vs ++ ws)
  | [], _, _, _, h, g => by
    have e : _ = [] := h
    rw [e]
    exact g
  | _ :: _, _, _, ws, ⟨v, r, e, h, t⟩, g => ⟨v, r ++ ws, by rw [e] <;> rfl, h, t.append g⟩
theorem TVs.one {t : T} {v : L2.V} (h : TV K H t v) : TVs K H [t] [v] := ⟨v, [], rfl, h, rfl⟩
theorem TVs.snoc {ts : List T} {vs : List L2.V} {t : T} {v : L2.V} (h : TVs K H ts vs) (g : TV K H t v) : TVs K H (ts ++ [t]) (vs ++ [v]) := h.append (.one g)
theorem TVs.drop : ∀ {ts : List T} {vs : List L2.V} (n : Nat), TVs K H ts vs → TVs K H (ts.drop n) (vs.drop n)
  | _, _, 0, h => h
  | [], _, _ + 1, h => by
    have e : _ = [] := h
    rw [e]
    exact rfl
  | _ :: _, _, n + 1, ⟨v, r, e, _, t⟩ => by
    rw [e]
    exact t.drop n
theorem TVs.take : ∀ {ts : List T} {vs : List L2.V} (n : Nat), TVs K H ts vs → TVs K H (ts.take n) (vs.take n)
  | _, _, 0, h => rfl
  | [], _, _ + 1, h => by
    have e : _ = [] := h
    rw [e]
    exact rfl
  | _ :: _, _, n + 1, ⟨v, r, e, h, t⟩ => by
    rw [e]
    exact ⟨v, _, rfl, h, t.take n⟩
theorem TVs.nil : TVs K H [] [] := rfl
theorem TVs.cons {t : T} {v : L2.V} {ts : List T} {vs : List L2.V} (h : TV K H t v) (r : TVs K H ts vs) : TVs K H (t :: ts) (v :: vs) := ⟨v, vs, rfl, h, r⟩
theorem TVs.words : ∀ {xs : List Str} {vs : List L2.V}, TVs K H (xs.map T.w) vs → vs = xs.map L2.V.str
  | [], _, h => h
  | x :: xs, _, ⟨v, r, e, h, t⟩ => by
    have e1 : v = .str x := h
    rw [e, e1, TVs.words t] <;> rfl
theorem TVs.ofWords : ∀ xs : List Str, TVs K H (xs.map T.w) (xs.map L2.V.str)
  | [] => rfl
  | x :: xs => ⟨_, _, rfl, rfl, TVs.ofWords xs⟩
theorem TVs.reverse : ∀ {ts : List T} {vs : List L2.V}, TVs K H ts vs → TVs K H ts.reverse vs.reverse
  | [], _, h => by
    have e : _ = [] := h
    rw [e]
    exact rfl
  | _ :: _, _, ⟨v, r, e, h, t⟩ => by
    rw [e, List.reverse_cons, List.reverse_cons]
    exact t.reverse.snoc h
/-- a tuple of values -/
theorem TV.tup {xs : List T} {a : Addr} {vs : List L2.V} (h : SqT K H a vs) (r : TVs K H xs vs) : TV K H (.l xs) (.ref a) := ⟨a, vs, rfl, h, r⟩
mutual
theorem TV.ofK : ∀ {t : T} {u : Value} {v : L2.V}, t.inK K u = true → RelV v u → TV K H t v
  | .w x, .str y t, v, h, r => by
    have e : x = y := of_decide_eq_true h
    cases v with
    | str z =>
      obtain ⟨t', q⟩ := (show ∃ t', Value.str y t = Value.str z t' from r)
      injection q with q1 _
      show L2.V.str z = .str x
      rw [e, q1]
    | non => cases r
    | bl _ => cases r
    | int _ =>
      obtain ⟨_, q⟩ := r
      cases q
    | byt _ =>
      obtain ⟨_, q⟩ := r
      cases q
    | flt _ =>
      obtain ⟨_, q⟩ := r
      cases q
    | ref _ => cases r
    | ty _ => cases r
  | .l xs, .ref a, v, h, r => by
    have hv : v = .ref a := by
      cases v with
      | ref b => cases r; rfl
      | non => cases r
      | bl _ => cases r
      | int _ =>
        obtain ⟨_, q⟩ := r
        cases q
      | str _ =>
        obtain ⟨_, q⟩ := r
        cases q
      | byt _ =>
        obtain ⟨_, q⟩ := r
        cases q
      | flt _ =>
        obtain ⟨_, q⟩ := r
        cases q
      | ty _ => cases r
    subst hv
    unfold T.inK at h
    cases q : K.lookup a with
    | none =>
      rw [q] at h
      cases h
    | some o =>
      obtain ⟨oc, od, dt, osl⟩ := o
      rw [q] at h
      cases oc with
      | type c =>
        cases dt with
        | seq its n =>
          obtain ⟨h1, h2⟩ := He.ba h
          obtain ⟨h3, h4⟩ := He.ba h2
          obtain ⟨vs, rv, tv⟩ := TVs.ofK h4
          exact ⟨a, vs, rfl, .inr ⟨_, its, n, q, congrArg Value.type (of_decide_eq_true h1), rfl, of_decide_eq_true h3, rv⟩, tv⟩
        | _ => cases h
      | _ => cases dt <;> cases h
theorem TVs.ofK : ∀ {ts : List T} {us : List Value}, T.insK K ts us = true → ∃ vs, Vals vs us ∧ TVs K H ts vs
  | [], [], _ => ⟨[], .nil, rfl⟩
  | t :: ts, u :: us, h => by
    obtain ⟨h1, h2⟩ := He.ba h
    obtain ⟨vs, r, tv⟩ := TVs.ofK h2
    obtain ⟨v, rv⟩ : ∃ v, RelV v u := by
      cases t with
      | w x => cases u with
        | str y t => exact ⟨.str y, t, rfl⟩
        | _ => cases h1
      | l xs => cases u with
        | ref a => exact ⟨.ref a, rfl⟩
        | _ => cases h1
    exact ⟨v :: vs, .cons rv r, v, vs, rfl, TV.ofK h1 rv, tv⟩
end
end

/-! ### what the library knows of such values -/
mutual
def T.d : T → PyData
  | .w x => .str x
  | .l xs => .tuple (T.ds xs)
def T.ds : List T → List PyData
  | [] => []
  | x :: xs => x.d :: T.ds xs
end
mutual
theorem T.d_ok : ∀ t : T, t.d.canLay0 = t.ok
  | .w _ => rfl
  | .l xs => T.ds_ok xs
theorem T.ds_ok : ∀ xs : List T, PyData.canLayAll0 (T.ds xs) = T.oks xs
  | [] => rfl
  | x :: xs => by
    show (PyData.canLay0 x.d && PyData.canLayAll0 (T.ds xs)) = (x.ok && T.oks xs)
    rw [T.d_ok x, T.ds_ok xs]
end
mutual
theorem T.d_depth : ∀ t : T, t.d.depth = t.depth
  | .w _ => rfl
  | .l xs => by
    show PyData.depthAll (T.ds xs) + 1 = T.depths xs + 1
    rw [T.ds_depth xs]
theorem T.ds_depth : ∀ xs : List T, PyData.depthAll (T.ds xs) = T.depths xs
  | [] => rfl
  | x :: xs => by
    show max x.d.depth (PyData.depthAll (T.ds xs)) = max x.depth (T.depths xs)
    rw [T.d_depth x, T.ds_depth xs]
end
mutual
theorem T.d_eqv : ∀ s t : T, PyData.eqv s.d t.d = decide (s = t)
  | .w x, .w y => by
    show (x == y) = decide (T.w x = T.w y)
    by_cases e : x = y
    · subst e
      simp
    · rw [decide_eq_false (fun q => e (T.w.inj q))]
      exact beq_eq_false_iff_ne.mpr e
  | .w x, .l ys => (decide_eq_false fun q => nomatch q).symm
  | .l xs, .w y => (decide_eq_false fun q => nomatch q).symm
  | .l xs, .l ys => by
    show PyData.eqvAll (T.ds xs) (T.ds ys) = decide (T.l xs = T.l ys)
    rw [T.ds_eqv xs ys]
    by_cases e : xs = ys
    · subst e
      simp
    · rw [decide_eq_false e, decide_eq_false fun q => e (T.l.inj q)]
theorem T.ds_eqv : ∀ xs ys : List T, PyData.eqvAll (T.ds xs) (T.ds ys) = decide (xs = ys)
  | [], [] => by simp [T.ds, PyData.eqvAll]
  | [], _ :: _ => by
    rw [decide_eq_false fun q => nomatch q]
    rfl
  | _ :: _, [] => by
    rw [decide_eq_false fun q => nomatch q]
    rfl
  | x :: xs, y :: ys => by
    show (PyData.eqv x.d y.d && PyData.eqvAll (T.ds xs) (T.ds ys)) = decide (x :: xs = y :: ys)
    rw [T.d_eqv x y, T.ds_eqv xs ys]
    by_cases e : x = y
    · by_cases e2 : xs = ys
      · rw [decide_eq_true e, decide_eq_true e2, decide_eq_true (by rw [e, e2])] <;> rfl
      · rw [decide_eq_true e, decide_eq_false e2, decide_eq_false fun q => e2 (List.cons.inj q).2] <;> rfl
    · rw [decide_eq_false e, decide_eq_false fun q => e (List.cons.inj q).1] <;> rfl
end
mutual
theorem TV.dp {K : PySem.W.Frag} {H : Hp} : ∀ {t : T} {v : L2.V}, TV K H t v → Dp K H v t.d
  | .w x, v, h => by
    have e : v = .str x := h
    subst e
    exact .str x
  | .l xs, v, ⟨a, vs, e, h, r⟩ => by
    subst e
    exact .tup h (TVs.dp r)
theorem TVs.dp {K : PySem.W.Frag} {H : Hp} : ∀ {ts : List T} {vs : List L2.V}, TVs K H ts vs → DpAll K H vs (T.ds ts)
  | [], vs, h => by
    have e : vs = [] := h
    subst e
    exact .nil
  | t :: ts, vs, ⟨v, r, e, h, q⟩ => by
    subst e
    exact .cons (TV.dp h) (TVs.dp q)
end
section
variable {X : Cx}
/-- == of two values, one of them not too deep -/
def rEqT (K : PySem.W.Frag) (D : Nat) : R2 := fun x y H Q => ∃ s t, TV K H s x ∧ TV K H t y ∧ s.ok = true ∧ t.ok = true ∧ min s.depth t.depth ≤ D ∧ Q (.bl (decide (s = t))) H
def rNeT (K : PySem.W.Frag) (D : Nat) : R2 := fun x y H Q => ∃ s t, TV K H s x ∧ TV K H t y ∧ s.ok = true ∧ t.ok = true ∧ min s.depth t.depth ≤ D ∧ Q (.bl (!decide (s = t))) H
theorem op_eqT {k : Nat} (hr : Room k X.A) : OpR X (compareOp .Eq) (rEqT X.K (16 * k + 200)) := by
  intro pins s σ H x y v u Q I rx ry h
  obtain ⟨d, e, hd, he, sd, se, hm, q⟩ := h
  obtain ⟨as, r1⟩ := Dp.reads I d.d x v hd.dp rx
  obtain ⟨bs, r2⟩ := Dp.reads I e.d y u he.dp ry
  refine SeqAt.compareEq_reads r1 r2 (by rw [T.d_ok, sd]) (by rw [T.d_ok, se]) (by rw [T.d_depth, T.d_depth]; have := hr.un; omega) ⟨.bl _, H, I, rfl, ?_⟩
  rw [T.d_eqv]
  exact q
theorem op_neT {k : Nat} (hr : Room k X.A) : OpR X (compareOp .NotEq) (rNeT X.K (16 * k + 200)) := by
  intro pins s σ H x y v u Q I rx ry h
  obtain ⟨d, e, hd, he, sd, se, hm, q⟩ := h
  obtain ⟨as, r1⟩ := Dp.reads I d.d x v hd.dp rx
  obtain ⟨bs, r2⟩ := Dp.reads I e.d y u he.dp ry
  refine SeqAt.compareNe_reads r1 r2 (by rw [T.d_ok, sd]) (by rw [T.d_ok, se]) (by rw [T.d_depth, T.d_depth]; have := hr.un; omega) ⟨.bl _, H, I, rfl, ?_⟩
  rw [T.d_eqv]
  exact q
/-- its type -/
theorem TV.ty {K : PySem.W.Frag} {H : Hp} {t : T} {v : L2.V} (h : TV K H t v) : TyX K H v (.type (if t.isW then "str" else "tuple")) := by
  cases t with
  | w x =>
    have e : v = .str x := h
    subst e
    exact .base (.str x)
  | l xs =>
    obtain ⟨a, vs, e, q, _⟩ := h
    subst e
    rcases q with (q | ⟨o, q⟩) | ⟨o, its, n, q, c, _⟩
    · exact .base (.tup q)
    · exact .fTuple q
    · exact .kTuple q c
def rIsS (K : PySem.W.Frag) : List L2.V → Hp → VK → Prop := fun xs H Q => ∃ v t, xs = [v, .ty "str"] ∧ TV K H t v ∧ Q (.bl t.isW) H
def rIsU (K : PySem.W.Frag) : List L2.V → Hp → VK → Prop := fun xs H Q => ∃ v t, xs = [v, .ty "tuple"] ∧ TV K H t v ∧ Q (.bl (!t.isW)) H
theorem call_isS : CallR X (.builtin "isinstance") (rIsS X.K) := by
  intro pins s σ H xs us Q I r h
  obtain ⟨v, t, e, tv, q⟩ := h
  refine call_isi pins s σ H xs us Q I r ⟨v, .ty "str", _, _, t.isW, e, .ty "str", tv.ty, ?_, q⟩
  cases t with
  | w x => exact kit_ty (a := "str") (b := "str") (r := true) (by decide +kernel)
  | l xs => exact kit_ty (a := "tuple") (b := "str") (r := false) (by decide +kernel)
theorem call_isU : CallR X (.builtin "isinstance") (rIsU X.K) := by
  intro pins s σ H xs us Q I r h
  obtain ⟨v, t, e, tv, q⟩ := h
  refine call_isi pins s σ H xs us Q I r ⟨v, .ty "tuple", _, _, !t.isW, e, .ty "tuple", tv.ty, ?_, q⟩
  cases t with
  | w x => exact kit_ty (a := "str") (b := "tuple") (r := false) (by decide +kernel)
  | l xs => exact kit_ty (a := "tuple") (b := "tuple") (r := true) (by decide +kernel)
end
/-! ### calls of the program's own defs -/
/-- the module's name x is a def that keeps its promise -/
def FOk (P : Program) (w : World) (K : PySem.W.Frag) (mg : Str → Option Value) (base : Heap) (k : Nat) (x : Str) (ps : List Str) (sp : Sp) : Prop :=
  ∃ (f : Addr) (fd : FuncData), FnOk P w K mg base CX0 k f fd ps sp ∧ Binds K fd ps [] ∧ PySem.W.keepIn K (.ref f) = true ∧ mg x = some (.ref f)
/-- the class at C has the method m that keeps its promise -/
def MOk (P : Program) (w : World) (K : PySem.W.Frag) (mg : Str → Option Value) (base : Heap) (k : Nat) (C : Addr) (m : Str) (ps : List Str) (sp : Sp) : Prop :=
  ∃ (f : Addr) (fd : FuncData), FnOk P w K mg base CX0 k f fd ps sp ∧ Binds K fd ps [] ∧ Meth K C m f
section
variable {X : Cx} {x m : Str} {k : Nat} {ps : List Str} {sp : Sp} {e o : Expr} {es : List Expr} {p pos apos : Pos} {t : TA} {ta : TE} {C : Addr}
theorem pe_fn (F : FOk X.prog X.w X.K X.mg X.base k x ps sp) (hr : Room k X.A) (hg : Gl X x) (ha : PA X (e :: es) t) (hdb : (x == ("__debug__" : Str)) = false := by decide)
    (he : starEach (e :: es) X.env = (false, eval e X.env) :: starEach es X.env := by rfl) (hpl : (backTo pos (starEach es X.env)).any (·.1) = false := by rfl) : PE X (.Call (.Name x p) (e :: es) [] pos) (tCall sp [] E0 t) := by
  obtain ⟨f, fd, h1, hb, hk, hm⟩ := F
  exact pe_call h1 hr hg hm hk hb .nil pass0 ha hdb he hpl
theorem pe_fn0 (F : FOk X.prog X.w X.K X.mg X.base k x ps sp) (hr : Room k X.A) (hg : Gl X x) (hdb : (x == ("__debug__" : Str)) = false := by decide) : PE X (.Call (.Name x p) [] [] pos) (tCall sp [] E0 tNil) := by
  obtain ⟨f, fd, h1, hb, hk, hm⟩ := F
  exact pe_call0 h1 hr hg hm hk hb .nil pass0 hdb
theorem pe_mt {pl : Sem Bool} (he : PE X o ta) (c : Cls X.K C) (F : MOk X.prog X.w X.K X.mg X.base k C m ps sp) (hr : Room k X.A) (ha : PA X (e :: es) t)
    (hst : starEach (e :: es) X.env = (false, eval e X.env) :: starEach es X.env := by rfl) (hpl : (backTo pos (starEach es X.env)).any (·.1) = false := by rfl)
    (ht : eval (.Call (.Attribute o m apos) (e :: es) [] pos) X.env = (do
      let ov ← eval o X.env
      standAt apos.atName
      let (f, first) ← holding [ov] (getMethod ov m pl)
      callWith pos f first (backTo pos (starEach (e :: es) X.env)) (backToKw pos (keywordEach [] X.env))) := by rfl) :
    PE X (.Call (.Attribute o m apos) (e :: es) [] pos) (tMeth C m sp [] E0 ta t) := by
  obtain ⟨f, fd, h1, hb, hm⟩ := F
  exact pe_meth he c hm h1 hr hb .nil pass0 ha hst hpl ht
theorem pe_mt0 {pl : Sem Bool} (he : PE X o ta) (c : Cls X.K C) (F : MOk X.prog X.w X.K X.mg X.base k C m ps sp) (hr : Room k X.A)
    (ht : eval (.Call (.Attribute o m apos) [] [] pos) X.env = (do
      let ov ← eval o X.env
      standAt apos.atName
      let (f, first) ← holding [ov] (getMethod ov m pl)
      callWith pos f first (backTo pos (starEach [] X.env)) (backToKw pos (keywordEach [] X.env))) := by rfl) :
    PE X (.Call (.Attribute o m apos) [] [] pos) (tMeth C m sp [] E0 ta tNil) := by
  obtain ⟨f, fd, h1, hb, hm⟩ := F
  exact pe_meth0 he c hm h1 hr hb .nil pass0 ht
end
/-- a def of the module from its body -/
theorem fok {P : Program} {w : World} {K : PySem.W.Frag} {mg : Str → Option Value} {base : Heap} {x : Str} {st : Stmt} {N ps : List Str} {k : Nat} {sp : Sp} (F : ∃ fd, L2.FunD K x x (defArgs st) (defBody st) (defScope st) [] [] (He.ga K x) fd) (hm : mg x = some (.ref (He.ga K x)))
    (hb : ∀ (kV doc pm : Value) (an : Option Addr) (cdv ct : Value) (us : List Value), us.length = ps.length → bindArgs (PySem.W.fnOf x x (defArgs st) (defBody st) (defScope st) .none kV doc pm an cdv ct) ⟨us, []⟩ = pure (ps.zip us))
    (S : FnScope N ps (defScope st)) (len : ∀ vs H Q E, sp vs H Q E → vs.length = ps.length)
    (hbody : ∀ (f : Addr) (cdv : Value) (A : Around) (outer : List Env) (s : Shared) (H : Hp) (vs : List L2.V) (Q : VK) (E : XK), Room k (A.deeper (envOfC x (defScope st) s.heap.objs.size f cdv)) → sp vs H Q E →
      ∃ t, PSs (cxOf CX0 P w K mg base N x (defScope st) f cdv A outer s H E).nox (defBody st) t ∧ t { nx := fun _ H' => Q .non H', rt := Q } (start N vs) H) : FOk P w K mg base (k + 1) x ps sp := by
  obtain ⟨fd, F⟩ := F
  refine ⟨_, fd, F.ok S len fun cdv A outer s H vs Q E hr hsp => ?_, F.bindsN hb, F.kp, hm⟩
  obtain ⟨t, h, q⟩ := hbody _ cdv A outer s H vs Q E hr hsp
  exact ⟨t, h.nox, q⟩
/-- a method from its body -/
theorem mok {P : Program} {w : World} {K : PySem.W.Frag} {mg : Str → Option Value} {base : Heap} {c m qual : Str} {st : Stmt} {N ps : List Str} {k : Nat} {sp : Sp} (F : ∃ fd, L2.FunD K m qual (defArgs st) (defBody st) (defScope st) [] [] (He.ma K (He.ga K c) m) fd) (hm : Meth K (He.ga K c) m (He.ma K (He.ga K c) m))
    (hb : ∀ (kV doc pm : Value) (an : Option Addr) (cdv ct : Value) (us : List Value), us.length = ps.length → bindArgs (PySem.W.fnOf m qual (defArgs st) (defBody st) (defScope st) .none kV doc pm an cdv ct) ⟨us, []⟩ = pure (ps.zip us))
    (S : FnScope N ps (defScope st)) (len : ∀ vs H Q E, sp vs H Q E → vs.length = ps.length)
    (hbody : ∀ (f : Addr) (cdv : Value) (A : Around) (outer : List Env) (s : Shared) (H : Hp) (vs : List L2.V) (Q : VK) (E : XK), Room k (A.deeper (envOfC qual (defScope st) s.heap.objs.size f cdv)) → sp vs H Q E →
      ∃ t, PSs (cxOf CX0 P w K mg base N qual (defScope st) f cdv A outer s H E).nox (defBody st) t ∧ t { nx := fun _ H' => Q .non H', rt := Q } (start N vs) H) : MOk P w K mg base (k + 1) (He.ga K c) m ps sp := by
  obtain ⟨fd, F⟩ := F
  refine ⟨_, fd, F.ok S len fun cdv A outer s H vs Q E hr hsp => ?_, F.bindsN hb, hm⟩
  obtain ⟨t, h, q⟩ := hbody _ cdv A outer s H vs Q E hr hsp
  exact ⟨t, h.nox, q⟩
end K35
end

section
set_option Elab.async false
set_option linter.all false
set_option maxRecDepth 100000
/-! What the kit has not: for .. in enumerate(a tuple), for .. in zip(a list, a tuple). -/
namespace K35
open PySem PySem.Spec PyProof.Rows L2
set_option maxHeartbeats 1000000 in
theorem meets_enum1 {v : Value} {o : Obj} {Hh : Heap → Prop} (B : Begins v o Hh) :
    Meets (Builtin.«enumerate.__new__» ⟨[.type "enumerate", v], []⟩) (fun _ R s => Hh s.heap ∧
      R (.ok (.ret (.ref (s.heap.push o).objs.size))) { s with heap := (s.heap.push o).push { cls := .type "enumerate", data := .fields #[.none, .bool false, .ref s.heap.objs.size, rawInt 0, .none, .none] } }) :=
  .of_wp fun prog w A R s h => by
    obtain ⟨hp, g, d, tk, os⟩ := s
    obtain ⟨h1, h⟩ := h
    have hsub := sub_enumerate
    have go : ∀ {A' : Around} {E : Value → Shared → Prop} {Q : Value → Shared → Prop}, Q (.ref hp.objs.size) ⟨hp.push o, g, d, tk, os⟩ → wpAny (model prog w) A' (pyIter v) Q E ⟨hp, g, d, tk, os⟩ :=
      fun q => B.iter prog w _ _ ⟨hp, g, d, tk, os⟩ _ h1 q
    wp_walk using go
    refine wpAny_stack_any fun st => wpAny_pure ?_
    split
    · rename_i c _ _ _ _ _
      cases (c == Value.type "enumerate")
      all_goals (wp_walk using go; exact ⟨_, rfl, h⟩)
    · wp_walk using go
      exact ⟨_, rfl, h⟩
section
variable {prog : Program} {w : World} {A : Around} {E : Value → Shared → Prop} {s : Shared}
/-- enumerate(v): its two new cells -/
theorem enum_begins1 {v : Value} {o : Obj} {Hh : Heap → Prop} {Q : Value → Shared → Prop} (B : Begins v o Hh) (h1 : Hh s.heap)
    (h : ∀ h', IsEnum h' (s.heap.objs.size + 1) s.heap.objs.size 0 .none → h'.get? s.heap.objs.size = some o → (∀ b o, s.heap.get? b = some o → h'.get? b = some o) → Q (.ref (s.heap.objs.size + 1)) { s with heap := h' }) :
    wpAny (model prog w) A (call (.type "enumerate") [v]) Q E s := by
  refine callType_new F.called_enumerate (by decide) (F.typeCall_enumerate_1 _) (F.newCall_enumerate_1 _) (fun obj => F.args_object_init_2 obj _) F.entry_enumerate_new (meets_enum1 B) ⟨h1, ?_⟩
  have hz : (s.heap.push o).objs.size = s.heap.objs.size + 1 := Heap.size_push ..
  show _ ∧ _
  rw [hz]
  have he : IsEnum ((s.heap.push o).push { cls := .type "enumerate", data := .fields #[.none, .bool false, .ref s.heap.objs.size, rawInt 0, .none, .none] }) (s.heap.objs.size + 1) s.heap.objs.size 0 .none := by
    have q := Heap.get?_push_size (s.heap.push o) (o := { cls := .type "enumerate", data := .fields #[.none, .bool false, .ref s.heap.objs.size, rawInt 0, .none, .none] }) rfl
    rw [hz] at q
    exact q
  exact ⟨⟨_, he, rfl⟩, h _ he (Heap.get?_push_of_some _ (Heap.get?_push_size _ B.free)) fun b o x => Heap.get?_push_of_some _ (Heap.get?_push_of_some _ x)⟩
end
/-! ### enumerate(tuple) -/
def ItEt (K : PySem.W.Frag) (a : Addr) : It :=
  ⟨fun i H => ∃ (xs : List L2.V) (x : L2.V), SqT K H a xs ∧ xs[i]? = some x, fun i H v H' => ∃ T x, v = .ref T ∧ H T = none ∧ H' = upd H T (.tup [.int (i : Nat), x]) ∧ ∀ xs, SqT K H a xs → xs[i]? = some x, fun i H => ∃ xs : List L2.V, SqT K H a xs ∧ xs.length = i⟩
theorem IsTup.toIs {h : Heap} {a : Addr} {its : Array Value} (x : IsTup h a its) : h.IsTuple a its := x
theorem turn_enumT {P : Program} {w : World} {K : PySem.W.Frag} {elts : List Expr} {kk : Nat} {tpos : Pos} (a e it : Addr) :
    Turn P w K (.Tuple elts kk tpos) (ItEt K a) [e, it] e (fun i h => (∃ old, IsEnum h e it (0 + (i : Int)) old) ∧ h.IsTupleIter it a i ∧ e ≠ it) where
  mem := List.mem_cons_self ..
  obj := fun i h st b hb => by
    obtain ⟨⟨old, he⟩, ⟨o, ho, _, hd⟩, _⟩ := st
    rcases List.mem_cons.mp hb with z | hb
    · rw [z]
      exact ⟨_, he, fun v q => (nomatch q)⟩
    · rw [List.mem_singleton.mp hb]
      exact ⟨o, ho, fun v q => by rw [hd] at q; cases q⟩
  keep := fun i h h' st k => by
    obtain ⟨⟨old, he⟩, hi, hne⟩ := st
    exact ⟨⟨old, k e (List.mem_cons_self ..) _ he⟩, hi.at fun o q => k it (List.mem_cons_of_mem _ (List.mem_cons_self ..)) o q, hne⟩
  item := by
    intro X hP hw hK hc i pins s σ H E I hf st hg
    subst hP hw hK
    obtain ⟨he, hit, hne⟩ := st
    obtain ⟨xs, x, hq, hx⟩ := hg
    obtain ⟨its, rv, p, hz⟩ := I.tuple hq
    obtain ⟨u, hu, ru⟩ := rv.get hx
    have hia : a ≠ it := fun z => by
      obtain ⟨o, ho, hcl, _⟩ := hit
      obtain ⟨o', ho', hcl', _⟩ := id p
      rw [z, ho] at ho'
      cases ho'
      rw [hcl] at hcl'
      exact absurd hcl' (by decide)
    have hea : e ≠ a := fun z => by
      obtain ⟨old, q⟩ := he
      obtain ⟨o', ho', hcl', _⟩ := id p
      rw [← z, q] at ho'
      cases ho'
      exact absurd (show Value.type "enumerate" = Value.type "tuple" from hcl') (by decide)
    have hef : e ∉ [it, a] := fun z => by
      rcases List.mem_cons.mp z with z | z
      · exact hne z
      · exact hea (List.mem_singleton.mp z)
    have hi : i < its.toArray.size := by
      have q := (List.getElem?_eq_some_iff.mp hu).1
      simpa using q
    refine (GoesN.enumFrom (elts := elts) (x1 := kk) (pos := tpos) 0 (Draws.tuple (A := X.A.in1) (I.ok.hd hc) it a hia its.toArray) e hne hef (List.mem_cons_self ..)).goes i s _ _ hi ⟨he, hit, p⟩ fun v h' tk hY st' hk htk => ?_
    obtain ⟨T, t, y, rfl, hT, hy, o, ho, hcl, n, hd⟩ := hY
    have hy' : u = y := by
      have q : its[i]? = some y := by simpa using hy
      rw [hu] at q
      exact Option.some.inj q
    subst hy'
    have e0 : (0 : Int) + (i : Int) = ((i : Nat) : Int) := Int.zero_add _
    rw [e0] at hd
    have new : ObjOk X.prog X.w (upd H T (.tup [.int (i : Nat), x])) h' T (.tup [.int (i : Nat), x]) :=
      ⟨by show 2 ≤ sizeLine; decide, [.int i t, u], .cons ⟨_, rfl⟩ (.cons ru .nil), o, ho, hcl, n, hd⟩
    have I1 : Inv X pins σ (upd H T (.tup [.int (i : Nat), x])) { s with heap := h', toks := tk } := I.turnedNew (ch := [e, it]) hk hf hT new
    refine ⟨.ref T, _, I1, rfl, ⟨T, x, rfl, I.hok.fresh hT, rfl, fun ys hy => by rw [I.tuple_inj hy hq]; exact hx⟩, ⟨st'.1, st'.2.1, hne⟩, fun b hb => ?_⟩
    have hbl : b < s.heap.objs.size := by
      rcases List.mem_cons.mp hb with z | hb
      · obtain ⟨old, q⟩ := he
        rw [z]
        exact Heap.lt_size q
      · obtain ⟨o, q, _⟩ := hit
        rw [List.mem_singleton.mp hb]
        exact Heap.lt_size q
    rw [upd_ne (Nat.ne_of_lt (Nat.lt_of_lt_of_le hbl hT))]
    exact (hf b hb).1
  done := by
    intro X hP hw hK hc i pins s σ H E I hf st hg
    subst hP hw hK
    obtain ⟨⟨old, he⟩, hit, hne⟩ := st
    obtain ⟨xs, hq, hx⟩ := hg
    obtain ⟨its, rv, p, hz⟩ := I.tuple hq
    have hia : a ≠ it := fun z => by
      obtain ⟨o, ho, hcl, _⟩ := hit
      obtain ⟨o', ho', hcl', _⟩ := id p
      rw [z, ho] at ho'
      cases ho'
      rw [hcl] at hcl'
      exact absurd hcl' (by decide)
    have hi : its.toArray.size = i := by
      have q := rv.length
      rw [List.size_toArray]
      omega
    subst hi
    obtain ⟨f0, f1, f2, f3, f4, f5⟩ := hf it (List.mem_cons_of_mem _ (List.mem_cons_self ..))
    exact wpAny_pyNext_enum_endD (Draws.tuple (A := X.A.in1) (I.ok.hd hc) it a hia its.toArray) he ⟨hit, p⟩ fun h' eb => ⟨rfl, I.turned (t' := s.toks) (fun b o hb q => eb b o hb q) f0 f1 f3 f4 f5⟩
  self := fun A i s Q E st h => by
    obtain ⟨⟨_, he⟩, _⟩ := st
    exact wpAny_pyIter_enum he h
def iEnumT (K : PySem.W.Frag) (ta : TA) : TI := fun σ H R => ta σ H fun vs H1 => ∃ a xs, vs = [.ref a] ∧ SqT K H1 a xs ∧ R (ItEt K a) H1
theorem pi_enumT {X : Cx} {e : Expr} {ta : TA} {p pos tpos : Pos} {elts : List Expr} {kk : Nat} (hg : Gl X "enumerate") (hm : X.mg "enumerate" = none) (ha : PA X [e] ta) (hs : starEach [e] X.env = [(false, eval e X.env)] := by rfl) :
    PI X (.Tuple elts kk tpos) (.Call (.Name "enumerate" p) [e] [] pos) (iEnumT X.K ta) := by
  refine ⟨fun pins s σ H R I h => ?_⟩
  refine Call_ (ld_blt I hg hm boot_enumerate (PyProof.Rows.callWith_type1 (thn (ha.run pos pins s σ H _ I h) fun us s1 ⟨vs, H1, I1, r1, q1⟩ => ?_) hs rfl))
  obtain ⟨a, xs, ex, hq, q⟩ := q1
  subst ex
  obtain ⟨u, rfl, r⟩ := vals1 r1
  cases r
  obtain ⟨its, rv, p', hz⟩ := I1.tuple hq
  refine enum_begins1 (begins_tuple a its.toArray) p' fun h' he hit hk => wpAny_pyIter_enum he ?_
  have I2 : Inv X pins σ H1 { s1 with heap := h' } := I1.kept (t' := s1.toks) hk
  refine ⟨s1.heap.objs.size + 1, [s1.heap.objs.size + 1, s1.heap.objs.size], _, _, H1, rfl, I2, turn_enumT a (s1.heap.objs.size + 1) s1.heap.objs.size, ⟨⟨.none, he⟩, ⟨_, hit, rfl, rfl⟩, Nat.succ_ne_self _⟩, fun b hb => ?_, q⟩
  have hle : s1.heap.objs.size ≤ b := by
    rcases List.mem_cons.mp hb with z | hb
    · rw [z]
      exact Nat.le_add_right _ _
    · rw [List.mem_singleton.mp hb]
      exact Nat.le_refl _
  exact I1.fpOk hle (I1.hok.fresh hle)
theorem walk_enumT {K : PySem.W.Frag} {a : Addr} {xs : List L2.V} : Walk (ItEt K a) xs.length (fun H => SqT K H a xs) (YPair (fun i => some (.int (i : Nat))) (fun i => xs[i]?)) := by
  refine ⟨fun i _ hi q => ⟨xs, xs[i], q, by simp [hi]⟩, fun _ q => ⟨xs, q, rfl⟩, fun i H v H' _ q y => ?_⟩
  obtain ⟨T, x, h1, h2, h3, h4⟩ := y
  exact ⟨T, .int (i : Nat), x, h1, h2, h3, rfl, h4 xs q⟩
/-! ### zip(list, tuple) -/
def ItzX (K : PySem.W.Frag) (a b : Addr) : It :=
  ⟨fun i H => ∃ (xs ys : List L2.V) (x y : L2.V), SqL K H a xs ∧ SqT K H b ys ∧ xs[i]? = some x ∧ ys[i]? = some y,
    fun i H v H' => ∃ T x y, v = .ref T ∧ H T = none ∧ H' = upd H T (.tup [x, y]) ∧ (∀ xs, SqL K H a xs → xs[i]? = some x) ∧ ∀ ys, SqT K H b ys → ys[i]? = some y,
    fun i H => ∃ xs ys : List L2.V, SqL K H a xs ∧ SqT K H b ys ∧ xs.length = i ∧ ys.length = i⟩
theorem turn_zipX {P : Program} {w : World} {K : PySem.W.Frag} {elts : List Expr} {kk : Nat} {tpos : Pos} {a b z TI TO i1 i2 : Addr} (S : ZipSep2 z TI TO i1 i2 [i1, a] [i2, b]) :
    Turn P w K (.Tuple elts kk tpos) (ItzX K a b) [z, TI, TO, i1, i2] z (fun i h => IsZip h z TI TO .none ∧ IsTupOf2 h TI (.ref i1) (.ref i2) ∧ (∃ x y, IsTupOf2 h TO x y) ∧ h.IsListIter i1 a i ∧ h.IsTupleIter i2 b i) where
  mem := List.mem_cons_self ..
  obj := fun i h st c hc => by
    obtain ⟨hz, hTI, ⟨x, y, hTO⟩, ⟨o1, e1, _, d1⟩, ⟨o2, e2, _, d2⟩⟩ := st
    simp only [List.mem_cons, List.not_mem_nil, or_false] at hc
    rcases hc with rfl | rfl | rfl | rfl | rfl
    · exact ⟨_, hz, fun v q => (nomatch q)⟩
    · exact ⟨_, hTI, fun v q => (nomatch q)⟩
    · exact ⟨_, hTO, fun v q => (nomatch q)⟩
    · exact ⟨o1, e1, fun v q => by rw [d1] at q; cases q⟩
    · exact ⟨o2, e2, fun v q => by rw [d2] at q; cases q⟩
  keep := fun i h h' st k => by
    obtain ⟨hz, hTI, ⟨x, y, hTO⟩, h1, h2⟩ := st
    exact ⟨k z (by simp) _ hz, k TI (by simp) _ hTI, ⟨x, y, k TO (by simp) _ hTO⟩, h1.at fun o q => k i1 (by simp) o q, h2.at fun o q => k i2 (by simp) o q⟩
  item := by
    intro X hP hw hK hc i pins s σ H E I hf st hg
    subst hP hw hK
    obtain ⟨hz, hTI, hTO, h1, h2⟩ := st
    obtain ⟨xs, ys, x, y, hqx, hqy, hx, hy⟩ := hg
    obtain ⟨its, rv, p, _⟩ := I.list hqx
    obtain ⟨its2, rv2, p2, _⟩ := I.tuple hqy
    obtain ⟨u, hu, ru⟩ := rv.get hx
    obtain ⟨u2, hu2, ru2⟩ := rv2.get hy
    have n1 : a ≠ i1 := fun q => by
      obtain ⟨o, ho, hcl, _⟩ := h1
      obtain ⟨o', ho', hcl', _⟩ := p.isList
      rw [q, ho] at ho'
      cases ho'
      rw [hcl] at hcl'
      exact absurd hcl' (by decide)
    have n2 : b ≠ i2 := fun q => by
      obtain ⟨o, ho, hcl, _⟩ := h2
      obtain ⟨o', ho', hcl', _⟩ := id p2
      rw [q, ho] at ho'
      cases ho'
      rw [hcl] at hcl'
      exact absurd hcl' (by decide)
    have i1' : i < its.toArray.size := by
      have q := (List.getElem?_eq_some_iff.mp hu).1
      simpa using q
    have i2' : i < its2.toArray.size := by
      have q := (List.getElem?_eq_some_iff.mp hu2).1
      simpa using q
    refine (GoesN.zip2 (elts := elts) (x1 := kk) (pos := tpos) S (Draws.list (A := X.A.in1) (I.ok.hd hc) i1 a n1 its.toArray) (Draws.tuple (A := X.A.in1) (I.ok.hd hc) i2 b n2 its2.toArray)).goes i s _ _ (by omega) ⟨hz, hTI, hTO, ⟨h1, p.isList⟩, h2, p2⟩ fun v h' tk hY st' hk htk => ?_
    obtain ⟨T, x', y', rfl, hT, hx', hy', o, ho, hcl, n, hd⟩ := hY
    have ex : u = x' := by
      have q : its[i]? = some x' := by simpa using hx'
      rw [hu] at q
      exact Option.some.inj q
    have ey : u2 = y' := by
      have q : its2[i]? = some y' := by simpa using hy'
      rw [hu2] at q
      exact Option.some.inj q
    subst ex ey
    have new : ObjOk X.prog X.w (upd H T (.tup [x, y])) h' T (.tup [x, y]) := ⟨by show 2 ≤ sizeLine; decide, [u, u2], .cons ru (.cons ru2 .nil), o, ho, hcl, n, hd⟩
    have I1 : Inv X pins σ (upd H T (.tup [x, y])) { s with heap := h', toks := tk } := I.turnedNew (ch := [z, TI, TO, i1, i2]) (fun c o hb q => hk c o (fun w => hb (by
      simp only [List.mem_cons, List.not_mem_nil, or_false] at w ⊢
      rcases w with w | w | w | w <;> simp [w])) q) hf hT new
    refine ⟨.ref T, _, I1, rfl, ⟨T, x, y, rfl, I.hok.fresh hT, rfl, fun l hl => by rw [I.list_inj hl hqx]; exact hx, fun l hl => by rw [I.tuple_inj hl hqy]; exact hy⟩, ⟨st'.1, st'.2.1, st'.2.2.1, st'.2.2.2.1.1, st'.2.2.2.2.1⟩, fun c hcm => ?_⟩
    have hlt : c < s.heap.objs.size := by
      simp only [List.mem_cons, List.not_mem_nil, or_false] at hcm
      rcases hcm with rfl | rfl | rfl | rfl | rfl
      · exact Heap.lt_size hz
      · exact Heap.lt_size hTI
      · obtain ⟨_, _, q⟩ := hTO
        exact Heap.lt_size q
      · obtain ⟨_, q, _⟩ := h1
        exact Heap.lt_size q
      · obtain ⟨_, q, _⟩ := h2
        exact Heap.lt_size q
    rw [upd_ne (Nat.ne_of_lt (Nat.lt_of_lt_of_le hlt hT))]
    exact (hf c hcm).1
  done := by
    intro X hP hw hK hc i pins s σ H E I hf st hg
    subst hP hw hK
    obtain ⟨hz, hTI, hTO, h1, h2⟩ := st
    obtain ⟨xs, ys, hqx, hqy, lx, ly⟩ := hg
    obtain ⟨its, rv, p, _⟩ := I.list hqx
    obtain ⟨its2, rv2, p2, _⟩ := I.tuple hqy
    have n1 : a ≠ i1 := fun q => by
      obtain ⟨o, ho, hcl, _⟩ := h1
      obtain ⟨o', ho', hcl', _⟩ := p.isList
      rw [q, ho] at ho'
      cases ho'
      rw [hcl] at hcl'
      exact absurd hcl' (by decide)
    have n2 : b ≠ i2 := fun q => by
      obtain ⟨o, ho, hcl, _⟩ := h2
      obtain ⟨o', ho', hcl', _⟩ := id p2
      rw [q, ho] at ho'
      cases ho'
      rw [hcl] at hcl'
      exact absurd hcl' (by decide)
    have e1 : its.toArray.size = i := by
      have q := rv.length
      rw [List.size_toArray]
      omega
    have e2 : its2.toArray.size = i := by
      have q := rv2.length
      rw [List.size_toArray]
      omega
    have em : min its.toArray.size its2.toArray.size = i := by omega
    have G := GoesN.zip2 (prog := X.prog) (w := X.w) (elts := elts) (x1 := kk) (pos := tpos) S (Draws.list (A := X.A.in1) (I.ok.hd hc) i1 a n1 its.toArray) (Draws.tuple (A := X.A.in1) (I.ok.hd hc) i2 b n2 its2.toArray)
    rw [em] at G
    exact G.stops s (fun s1 => Inv X pins σ H s1) E ⟨hz, hTI, hTO, ⟨h1, p.isList⟩, h2, p2⟩ fun h' tk hk htk => I.turnedL (ch := [z, TI, TO, i1, i2]) (fun c o hb q => hk c o (fun w => hb (by
      simp only [List.mem_cons, List.not_mem_nil, or_false] at w ⊢
      rcases w with w | w | w | w <;> simp [w])) q) hf
  self := fun A i s Q E st h => wpAny_pyIter_zip st.1 h
def iZipX (K : PySem.W.Frag) (ta : TA) : TI := fun σ H R => ta σ H fun vs H1 => ∃ a b xs ys, vs = [.ref a, .ref b] ∧ SqL K H1 a xs ∧ SqT K H1 b ys ∧ R (ItzX K a b) H1
theorem pi_zipX {X : Cx} {e e2 : Expr} {ta : TA} {p pos tpos : Pos} {elts : List Expr} {kk : Nat} (hg : Gl X "zip") (hm : X.mg "zip" = none) (ha : PA X [e, e2] ta)
    (hs : starEach [e, e2] X.env = (false, eval e X.env) :: starEach [e2] X.env := by rfl) (hpl : (backTo pos (starEach [e2] X.env)).any (·.1) = false := by rfl) :
    PI X (.Tuple elts kk tpos) (.Call (.Name "zip" p) [e, e2] [] pos) (iZipX X.K ta) := by
  refine ⟨fun pins s σ H R I h => ?_⟩
  refine Call_ (ld_blt I hg hm PyProof.Rows.boot_zip (PyProof.Rows.callWith_type1 (thn (ha.run pos pins s σ H _ I h) fun us s1 ⟨vs, H1, I1, r1, q1⟩ => ?_) hs hpl))
  obtain ⟨a, b, xs, ys, ex, hqx, hqy, q⟩ := q1
  subst ex
  obtain ⟨u1, u2, rfl, r, r'⟩ := vals2 r1
  cases r
  cases r'
  obtain ⟨its, rv, p1, _⟩ := I1.list hqx
  obtain ⟨its2, rv2, p2, _⟩ := I1.tuple hqy
  have la : a < s1.heap.objs.size := p1.lt
  have lb : b < s1.heap.objs.size := by
    obtain ⟨o, ho, _⟩ := id p2
    exact Heap.lt_size ho
  refine zip_begins2 (begins_list a its.toArray) (begins_tuple b its2.toArray) p1.isList p2 fun h' hz hTI hTO h1 h2 hsz hk => wpAny_pyIter_zip hz ?_
  have I2 : Inv X pins σ H1 { s1 with heap := h' } := I1.kept (t' := s1.toks) hk
  refine ⟨s1.heap.objs.size + 4, [s1.heap.objs.size + 4, s1.heap.objs.size + 2, s1.heap.objs.size + 3, s1.heap.objs.size, s1.heap.objs.size + 1], _, _, H1, rfl, I2,
    turn_zipX (zip_sep2 (fp1 := [a]) (fp2 := [b]) (fun c hc => by rw [List.mem_singleton.mp hc]; exact la) (fun c hc => by rw [List.mem_singleton.mp hc]; exact lb)), ⟨hz, hTI, ⟨_, _, hTO⟩, ⟨_, h1, rfl, rfl⟩, ⟨_, h2, rfl, rfl⟩⟩, fun c hcm => ?_, q⟩
  have hle : s1.heap.objs.size ≤ c := by
    simp only [List.mem_cons, List.not_mem_nil, or_false] at hcm
    rcases hcm with z | z | z | z | z <;> rw [z]
    · exact Nat.le_add_right _ _
    · exact Nat.le_add_right _ _
    · exact Nat.le_add_right _ _
    · exact Nat.le_refl _
    · exact Nat.le_add_right _ _
  exact I1.fpOk hle (I1.hok.fresh hle)
theorem walk_zipX {K : PySem.W.Frag} {a b : Addr} {xs ys : List L2.V} (hl : xs.length = ys.length) : Walk (ItzX K a b) xs.length (fun H => SqL K H a xs ∧ SqT K H b ys) (YPair (fun i => xs[i]?) (fun i => ys[i]?)) := by
  refine ⟨fun i _ hi q => ⟨xs, ys, xs[i], ys[i]'(by omega), q.1, q.2, by simp [hi], by simp [show i < ys.length by omega]⟩, fun _ q => ⟨xs, ys, q.1, q.2, rfl, hl.symm⟩, fun i H v H' _ q y => ?_⟩
  obtain ⟨T, x, z, h1, h2, h3, h4, h5⟩ := y
  exact ⟨T, x, z, h1, h2, h3, h4 xs q.1, h5 ys q.2⟩
end K35
end

section
set_option Elab.async false
set_option linter.all false
set_option maxRecDepth 100000
/-! What the kit has not: a dict whose keys are texts and pairs of whole numbers. -/
namespace K35
open PySem PySem.Spec PyProof.Rows L2
inductive EK where
  | w (x : Str) | p (i j : Int)
  deriving DecidableEq
def EK.d : EK → PyData
  | .w x => .str x
  | .p i j => .tuple [.int i, .int j]
/-- the value v is this key -/
def EK.is (h : Heap) : EK → Value → Prop
  | .w x, v => PyData.strOk x = true ∧ ∃ t, v = .str x t
  | .p i j, v => ∃ a o n t u, v = .ref a ∧ h.get? a = some o ∧ o.cls = .type "tuple" ∧ o.data = .seq #[.int i t, .int j u] n
def EK.hash (P : Program) (w : World) : EK → Int
  | .w x => hashStr w x
  | .p i j => tupleKeyHash (intKind P w) [i, j]
theorem EK.is.reads {h : Heap} {k : EK} {v : Value} (x : k.is h v) : ∃ as, Reads h v k.d as := by
  cases k with
  | w y =>
    obtain ⟨_, t, rfl⟩ := x
    exact ⟨_, .str y t⟩
  | p i j =>
    obtain ⟨a, o, n, t, u, rfl, ho, hc, hd⟩ := x
    exact ⟨_, .tuple ho hc hd (.cons (.int i t) (.cons (.int j u) .nil))⟩
theorem EK.is.lay {h : Heap} {k : EK} {v : Value} (x : k.is h v) : k.d.canLay0 = true := by
  cases k with
  | w y => exact x.1
  | p i j => rfl
theorem EK.depth (k : EK) : k.d.depth ≤ 1 := by
  cases k with
  | w y => exact Nat.zero_le _
  | p i j => exact Nat.le_refl _
theorem EK.eqv (a b : EK) : PyData.eqv a.d b.d = decide (a = b) := by
  cases a with
  | w x => cases b with
    | w y =>
      show (x == y) = _
      by_cases e : x = y
      · subst e
        simp
      · rw [decide_eq_false fun q => e (EK.w.inj q)]
        exact beq_eq_false_iff_ne.mpr e
    | p i j => exact (decide_eq_false fun q => nomatch q).symm
  | p i j => cases b with
    | w y => exact (decide_eq_false fun q => nomatch q).symm
    | p i' j' =>
      show ((i == i') && ((j == j') && true)) = _
      by_cases e : i = i'
      · by_cases e2 : j = j'
        · subst e e2
          simp
        · rw [decide_eq_false fun q => e2 (EK.p.inj q).2, beq_eq_false_iff_ne.mpr e2]
          simp
      · rw [decide_eq_false fun q => e (EK.p.inj q).1, beq_eq_false_iff_ne.mpr e]
        simp
theorem EK.is.inj {h : Heap} {a b : EK} {v : Value} (x : a.is h v) (y : b.is h v) : a = b := by
  cases a with
  | w s => cases b with
    | w s' =>
      obtain ⟨_, t, rfl⟩ := x
      obtain ⟨_, t', e⟩ := y
      injection e with e1 _
      rw [e1]
    | p i j =>
      obtain ⟨_, t, rfl⟩ := x
      obtain ⟨a, o, n, t, u, e, _⟩ := y
      cases e
  | p i j => cases b with
    | w s' =>
      obtain ⟨_, t', rfl⟩ := y
      obtain ⟨a, o, n, t, u, e, _⟩ := x
      cases e
    | p i' j' =>
      obtain ⟨a, o, n, t, u, rfl, ho, _, hd⟩ := x
      obtain ⟨a', o', n', t', u', e, ho', _, hd'⟩ := y
      cases e
      rw [ho] at ho'
      cases ho'
      rw [hd] at hd'
      simp only [Data.seq.injEq, Array.mk.injEq, List.cons.injEq, Value.int.injEq, and_true] at hd'
      rw [hd'.1.1.1, hd'.1.2.1]
theorem EK.is.keeps {h h' : Heap} {k : EK} {v : Value} {d : Addr} {o : Obj} {es ep} (x : k.is h v) (ho : h.get? d = some o) (hd : o.data = .dict es ep) (hs : Heap.SameBut d h h') : k.is h' v := by
  cases k with
  | w y => exact x
  | p i j =>
    obtain ⟨a, oa, n, t, u, rfl, ha, hc, hda⟩ := x
    refine ⟨a, oa, n, t, u, rfl, (hs.2 a fun e => ?_).trans ha, hc, hda⟩
    rw [e, ho] at ha
    cases ha
    rw [hd] at hda
    cases hda
section
variable {P : Program} {w : World} {A : Around} {E : Value → Shared → Prop} {s : Shared}
theorem ek_eq {a b : EK} {u v : Value} {Q : Bool → Shared → Prop} (hu : A.units + 1 < cLine) (x : a.is s.heap u) (y : b.is s.heap v) (h : Q (decide (a = b)) s) : wpAny (model P w) A (eqBool u v) Q E s := by
  obtain ⟨as, r1⟩ := x.reads
  obtain ⟨bs, r2⟩ := y.reads
  refine SeqAt.eqBoolOverData P w A E s u v a.d b.d as bs Q r1 r2 x.lay y.lay ?_ (by rw [EK.eqv]; exact h)
  have := EK.depth a
  omega
theorem ek_tup {i j : Int} {h : Heap} {v : Value} (x : (EK.p i j).is h v) : ∃ a, v = .ref a ∧ IsTupleKey (intKind P w) h [i, j] a := by
  obtain ⟨a, o, n, t, u, rfl, ho, hc, hd⟩ := x
  refine ⟨a, rfl, o, _, n, ho, hc, hd, ?_⟩
  exact .cons (by simp [intKind, Value.isInt]) (.cons (by simp [intKind, Value.isInt]) .nil)
theorem ek_hash {k : EK} {v : Value} {Q : Int → Shared → Prop} (hu : A.units < cLine) (x : k.is s.heap v) (h : ∀ tk, Q (k.hash P w) { s with toks := tk }) : wpAny (model P w) A (pyHash v) Q E s := by
  cases k with
  | w y =>
    obtain ⟨_, t, rfl⟩ := x
    exact wpAny_pyHash_str (h _)
  | p i j =>
    obtain ⟨a, rfl, q⟩ := ek_tup (P := P) (w := w) x
    exact wpAny_pyHash_tuple hu q (h _)
theorem ek_quiet {k : EK} {v : Value} {Q : Bool → Shared → Prop} (x : k.is s.heap v) (h : Q true s) : wpAny (model P w) A (eqIsQuiet 8 v) Q E s := by
  cases k with
  | w y =>
    obtain ⟨_, t, rfl⟩ := x
    rw [eqIsQuiet_byValue 8 (show carriedByValue (.str y t) = true from rfl)]
    exact wpAny_pure h
  | p i j =>
    obtain ⟨a, rfl, q⟩ := ek_tup (P := P) (w := w) x
    exact wpAny_eqIsQuiet_tuple q h
end
/-! ### the search -/
abbrev EE := EK × Value × Value
def ent (P : Program) (w : World) (x : EE) : DictEntry := ⟨x.1.hash P w, x.2.1, x.2.2⟩
def atE (xs : List EE) (k : EK) : Option Nat := xs.findIdx? fun x => decide (x.1 = k)
theorem atE_some {xs : List EE} {k : EK} {j : Nat} (h : atE xs k = some j) : ∃ p, xs[j]? = some (k, p) := by
  obtain ⟨hl, hk, _⟩ := List.findIdx?_eq_some_iff_getElem.mp h
  have e : (xs[j]).1 = k := of_decide_eq_true hk
  refine ⟨(xs[j]).2, ?_⟩
  rw [List.getElem?_eq_getElem hl, ← e]
theorem atE_none {xs : List EE} {k : EK} (h : atE xs k = none) {j : Nat} {p : Value × Value} : xs[j]? ≠ some (k, p) := fun e => by
  have q := List.findIdx?_eq_none_iff.mp h (k, p) (List.mem_of_getElem? e)
  simp at q
theorem ee_one {xs : List EE} (hn : (xs.map (·.1)).Nodup) {k : EK} {i j : Nat} {p q : Value × Value} (hi : xs[i]? = some (k, p)) (hj : xs[j]? = some (k, q)) : i = j := by
  have h1 : (xs.map (·.1))[i]? = some k := by rw [List.getElem?_map, hi]; rfl
  have h2 : (xs.map (·.1))[j]? = some k := by rw [List.getElem?_map, hj]; rfl
  exact (List.getElem?_inj (List.getElem?_eq_some_iff.mp h1).1 hn).mp (h1.trans h2.symm)
theorem atE_of {xs : List EE} (hn : (xs.map (·.1)).Nodup) {k : EK} {j : Nat} {p : Value × Value} (h : xs[j]? = some (k, p)) : atE xs k = some j := by
  cases e : atE xs k with
  | none => exact absurd h (atE_none e)
  | some i =>
    obtain ⟨q, hq⟩ := atE_some e
    rw [ee_one hn hq h]
/-- the dict at d: its entries in the order of coming -/
def MixD (P : Program) (w : World) (h : Heap) (d : Addr) (xs : List EE) : Prop :=
  ∃ o es ep, h.get? d = some o ∧ o.ExactDict ∧ o.data = .dict es ep ∧ es.toList = xs.map (ent P w) ∧ (xs.map (·.1)).Nodup
theorem findIdx_congr {α : Type} {p q : α → Bool} : ∀ {l : List α}, (∀ y ∈ l, p y = q y) → l.findIdx? p = l.findIdx? q
  | [], _ => rfl
  | y :: l, h => by
    rw [List.findIdx?_cons, List.findIdx?_cons, h y (List.mem_cons_self ..), findIdx_congr fun z hz => h z (List.mem_cons_of_mem _ hz)]
theorem findIdx_map {α β : Type} {f : α → β} {p : β → Bool} : ∀ {l : List α}, (l.map f).findIdx? p = l.findIdx? fun y => p (f y)
  | [] => rfl
  | y :: l => by
    rw [List.map_cons, List.findIdx?_cons, List.findIdx?_cons, findIdx_map]
theorem ek_isStr {h : Heap} {k : EK} {v : Value} (x : k.is h v) (y : Str) : v.isStr y = decide (k = .w y) := by
  cases k with
  | w z =>
    obtain ⟨_, t, rfl⟩ := x
    by_cases e : z = y
    · subst e
      simp [Value.isStr]
    · rw [decide_eq_false fun q => e (EK.w.inj q)]
      simp [Value.isStr, e]
  | p i j =>
    obtain ⟨a, o, n, t, u, rfl, _⟩ := x
    exact (decide_eq_false fun q => nomatch q).symm
section
variable {P : Program} {w : World} {A : Around} {E : Value → Shared → Prop} {s : Shared} {d : Addr} {o : Obj} {es : Array DictEntry} {ep : Nat} {xs : List EE} {k : EK} {key : Value}
theorem mix_find {Q : Option Nat → Shared → Prop} (hu : A.units + 1 < cLine) (hkey : k.is s.heap key) (ho : s.heap.get? d = some o) (hd : o.data = .dict es ep) (he : es.toList = xs.map (ent P w))
    (his : ∀ x ∈ xs, x.1.is s.heap x.2.1) (hn : (xs.map (·.1)).Nodup) (h : Q (atE xs k) s) : wpAny (model P w) A (dictFind d key (k.hash P w)) Q E s := by
  have size : es.size = xs.length := by rw [← Array.length_toList, he, List.length_map]
  have at_ : ∀ j, es[j]? = (xs[j]?).map (ent P w) := fun j => by rw [← Array.getElem?_toList, he, List.getElem?_map]
  let pl := placesWithHash es.size (fun i => es[i]?.map (·.hash)) (k.hash P w)
  have pl_nd : pl.Nodup := List.Nodup.sublist List.filter_sublist List.nodup_range
  have pl_get : ∀ {j}, j ∈ pl → ∃ (k' : EK) (kv v : Value), xs[j]? = some (k', kv, v) ∧ es[j]? = some ⟨k.hash P w, kv, v⟩ ∧ k'.is s.heap kv := fun {j} hj => by
    obtain ⟨h1, h2⟩ := List.mem_filter.mp hj
    have hl : j < xs.length := by rw [← size]; exact List.mem_range.mp h1
    have e1 : xs[j]? = some xs[j] := List.getElem?_eq_getElem hl
    have e2 : es[j]? = some (ent P w xs[j]) := by rw [at_ j, e1]; rfl
    dsimp only at h2
    rw [e2] at h2
    have e3 : (xs[j]).1.hash P w = k.hash P w := by simpa [ent] using h2
    exact ⟨(xs[j]).1, (xs[j]).2.1, (xs[j]).2.2, e1, by rw [e2, ← e3]; rfl, his _ (List.mem_of_getElem? e1)⟩
  have pl_mem : ∀ {j p}, xs[j]? = some (k, p) → j ∈ pl := fun {j p} hj => by
    refine List.mem_filter.mpr ⟨List.mem_range.mpr ?_, ?_⟩
    · rw [size]
      exact (List.getElem?_eq_some_iff.mp hj).1
    · dsimp only
      rw [at_ j, hj]
      simp [ent]
  have missing : (∀ j ∈ pl, ∀ p, xs[j]? ≠ some (k, p)) → atE xs k = none := fun hm => by
    cases e : atE xs k with
    | none => rfl
    | some j =>
      obtain ⟨p, hp⟩ := atE_some e
      exact absurd hp (hm j (pl_mem hp) p)
  have stored : ∀ v ∈ pl.filterMap (fun i => es[i]?.map (·.key)), ∃ k', EK.is s.heap k' v := fun v hv => by
    obtain ⟨i, hi, hv⟩ := List.mem_filterMap.mp hv
    obtain ⟨k', kv, u, _, e2, e3⟩ := pl_get hi
    rw [e2] at hv
    cases hv
    exact ⟨k', e3⟩
  have tell : ∀ {st : List Value} {Q : Bool → Shared → Prop}, (∀ v ∈ st, ∃ k', EK.is s.heap k' v) → Q false s → wpAny (model P w) A (tableMayTell key st) Q E s := fun {st Q} hst hq => by
    unfold tableMayTell
    split
    · exact wpAny_pure hq
    · refine wpAny_bind (ek_quiet hkey ?_)
      rw [if_neg (by decide)]
      refine wpAny_bind (wpAny_forIn_list _ (fun r b s' => s' = s ∧ b = (none, ()) ∧ ∀ v ∈ r, ∃ k', EK.is s.heap k' v) _ ?_ ?_ _ _ ⟨rfl, rfl, hst⟩)
      · rintro x r b s' ⟨rfl, rfl, hr⟩
        obtain ⟨k', hk'⟩ := hr x (List.mem_cons_self ..)
        refine wpAny_bind (ek_quiet hk' ?_)
        rw [if_neg (by decide)]
        exact wpAny_pure ⟨rfl, rfl, fun v hv => hr v (List.mem_cons_of_mem _ hv)⟩
      · rintro b s' ⟨rfl, rfl, _⟩
        exact wpAny_pure hq
  have epoch : ∀ {Q : Nat → Shared → Prop}, Q ep s → wpAny (model P w) A (dictEpoch d (keyPart key)) Q E s := fun hq => wpAny_dictEpoch ho hd hq
  -- the loop that looks on behind a hit
  have loop : ∀ (f : Nat → Option (Option Nat) × Option Nat → Sem (ForInStep (Option (Option Nat) × Option Nat))),
      (∀ (x : Nat) (hit : Option Nat) (k' : EK) (kv v : Value), xs[x]? = some (k', kv, v) → es[x]? = some ⟨k.hash P w, kv, v⟩ → k'.is s.heap kv → (k' = k → hit = none) → ∀ (R : ForInStep (Option (Option Nat) × Option Nat) → Shared → Prop),
        (k' = k → R (.done (some (some x), hit)) s ∧ R (.yield (none, some x)) s) → (k' ≠ k → R (.yield (none, hit)) s) → wpAny (model P w) A (f x (none, hit)) R E s) →
      ∀ Q' : Option (Option Nat) × Option Nat → Shared → Prop, (∀ hit, Q' (some (atE xs k), hit) s) → Q' (none, atE xs k) s → wpAny (model P w) A (forIn pl (none, none) f) Q' E s := by
    intro f hf Q' q1 q2
    refine wpAny_forIn_list _ (fun r b s' => s' = s ∧ ∃ (hit : Option Nat) (dn : List Nat), b = (none, hit) ∧ pl = dn ++ r ∧ ((hit = none ∧ ∀ j ∈ dn, ∀ p, xs[j]? ≠ some (k, p)) ∨ ∃ j p, hit = some j ∧ j ∈ dn ∧ xs[j]? = some (k, p))) _ ?_ ?_ _ _
      ⟨rfl, none, [], rfl, rfl, .inl ⟨rfl, fun j hj => (List.not_mem_nil hj).elim⟩⟩
    · rintro x r b s' ⟨rfl, hit, dn, rfl, hp, hH⟩
      have hx : x ∈ pl := by rw [hp]; exact List.mem_append_right _ (List.mem_cons_self ..)
      obtain ⟨k', kv, v, h1, h2, h3⟩ := pl_get hx
      have fresh : k' = k → hit = none := fun e => by
        subst e
        rcases hH with ⟨q, _⟩ | ⟨j, p, _, hj, hjp⟩
        · exact q
        · have ej := ee_one hn hjp h1
          subst ej
          rw [hp] at pl_nd
          exact absurd rfl ((List.nodup_append.mp pl_nd).2.2 j hj j (List.mem_cons_self ..))
      refine hf x hit k' kv v h1 h2 h3 fresh _ (fun e => ?_) fun e => ?_
      · subst e
        refine ⟨?_, rfl, some x, dn ++ [x], rfl, by rw [hp, List.append_assoc]; rfl, .inr ⟨x, _, rfl, List.mem_append_right _ (List.mem_cons_self ..), h1⟩⟩
        have e := atE_of hn h1
        rw [← e]
        exact q1 hit
      · refine ⟨rfl, hit, dn ++ [x], rfl, by rw [hp, List.append_assoc]; rfl, ?_⟩
        rcases hH with ⟨q, hno⟩ | ⟨j, p, q, hj, hjp⟩
        · refine .inl ⟨q, fun j hj p hjp => ?_⟩
          rcases List.mem_append.mp hj with hj | hj
          · exact hno j hj p hjp
          · rw [List.mem_singleton.mp hj, h1] at hjp
            cases hjp
            exact e rfl
        · exact .inr ⟨j, p, q, List.mem_append_left _ hj, hjp⟩
    · rintro b s' ⟨rfl, hit, dn, rfl, hp, hH⟩
      rw [List.append_nil] at hp
      rcases hH with ⟨rfl, hno⟩ | ⟨j, p, rfl, _, hjp⟩
      · rw [missing fun j hj => hno j (hp ▸ hj)] at q2
        exact q2
      · rw [atE_of hn hjp] at q2
        exact q2
  unfold dictFind
  try with_reducible refine wpAny_holding ?_
  refine wpAny_bind (wpAny_dictEntries ho hd ?_)
  dsimp only
  cases k with
  | w x =>
    obtain ⟨hok, t, rfl⟩ := id hkey
    dsimp only
    by_cases hall : (es.all fun e => isExactStrKey e.key) = true
    · rw [if_pos hall]
      have hf : (es.findIdx? fun e => e.key.isStr x) = atE xs (.w x) := by
        have ee : es = (xs.map (ent P w)).toArray := by rw [← he]
        rw [ee, List.findIdx?_toArray, findIdx_map]
        exact findIdx_congr fun y hy => ek_isStr (his y hy) x
      unfold foundByValue
      rw [hf]
      cases hi : atE xs (.w x) with
      | none =>
        rw [hi] at h
        exact wpAny_pure h
      | some i =>
        rw [hi] at h
        obtain ⟨p, hp⟩ := atE_some hi
        have e1 : es[i]? = some (ent P w (.w x, p)) := by rw [at_ i, hp]; rfl
        dsimp only
        rw [e1]
        dsimp only
        refine wpAny_bind (epoch (wpAny_bind (ek_eq hu (his _ (List.mem_of_getElem? hp)) hkey (wpAny_bind (epoch ?_)))))
        rw [if_neg (by simp), decide_eq_true rfl, if_pos rfl]
        exact wpAny_bind (wpAny_rule (wpAny_pure h))
    · rw [if_neg hall]
      by_cases hst : ((Value.str x t :: pl.filterMap fun i => es[i]?.map (·.key)).all carriedByValue) = true
      · rw [if_pos hst]
        unfold dictWalkPlain
        refine wpAny_bind (wpAny_forIn_list _ (fun r b s' => s' = s ∧ b = (none, ()) ∧ ∃ dn : List Nat, pl = dn ++ r ∧ ∀ j ∈ dn, ∀ p, xs[j]? ≠ some (EK.w x, p)) _ ?_ ?_ _ _ ⟨rfl, rfl, [], rfl, fun j hj => (List.not_mem_nil hj).elim⟩)
        · rintro y r b s' ⟨rfl, rfl, dn, hp, hno⟩
          have hy : y ∈ pl := by rw [hp]; exact List.mem_append_right _ (List.mem_cons_self ..)
          obtain ⟨k', kv, v, h1, h2, h3⟩ := pl_get hy
          dsimp only
          rw [h2]
          dsimp only
          rw [if_pos (by simp)]
          refine wpAny_bind (epoch (wpAny_bind (ek_eq hu h3 hkey (wpAny_bind (epoch ?_)))))
          rw [if_neg (by simp)]
          by_cases e : k' = .w x
          · rw [decide_eq_true e, if_pos rfl]
            refine wpAny_bind (wpAny_rule (wpAny_pure ?_))
            subst e
            rw [atE_of hn h1] at h
            exact wpAny_pure h
          · rw [decide_eq_false e, if_neg (by decide)]
            refine wpAny_bind (wpAny_rule (wpAny_pure ⟨rfl, rfl, dn ++ [y], by rw [hp, List.append_assoc]; rfl, fun j hj p hjp => ?_⟩))
            rcases List.mem_append.mp hj with hj | hj
            · exact hno j hj p hjp
            · rw [List.mem_singleton.mp hj, h1] at hjp
              cases hjp
              exact e rfl
        · rintro b s' ⟨rfl, rfl, dn, hp, hno⟩
          rw [List.append_nil] at hp
          rw [missing fun j hj => hno j (hp ▸ hj)] at h
          exact wpAny_pure h
      · rw [if_neg hst]
        by_cases h1 : ((pl.filterMap fun i => es[i]?.map (·.key)) == [Value.str x t]) = true
        · rw [if_pos h1]
          refine wpAny_bind (wpAny_pure ?_)
          rw [if_neg (by simp)]
          refine wpAny_bind (loop _ (fun y hit k' kv v q1 q2 q3 fresh R r1 r2 => ?_) _ (fun _ => wpAny_pure h) (wpAny_pure h))
          dsimp only
          rw [q2]
          dsimp only
          rw [if_pos (by simp)]
          refine wpAny_bind (epoch (wpAny_bind (ek_eq hu q3 hkey (wpAny_bind (epoch ?_)))))
          rw [if_neg (by simp)]
          by_cases e : k' = .w x
          · rw [decide_eq_true e, if_pos rfl, fresh e, if_neg (by simp)]
            refine wpAny_bind (wpAny_rule ?_)
            split
            · rw [fresh e] at r1
              exact wpAny_pure (r1 e).1
            · exact wpAny_pure (r1 e).2
          · rw [decide_eq_false e, if_neg (by decide)]
            refine wpAny_bind (wpAny_rule ?_)
            rw [if_neg (by simp)]
            exact wpAny_pure (r2 e)
        · rw [if_neg h1]
          refine wpAny_bind (tell stored ?_)
          rw [if_neg (by simp)]
          refine wpAny_bind (loop _ (fun y hit k' kv v q1 q2 q3 fresh R r1 r2 => ?_) _ (fun _ => wpAny_pure h) (wpAny_pure h))
          dsimp only
          rw [q2]
          dsimp only
          rw [if_pos (by simp)]
          refine wpAny_bind (epoch (wpAny_bind (ek_eq hu q3 hkey (wpAny_bind (epoch ?_)))))
          rw [if_neg (by simp)]
          by_cases e : k' = .w x
          · rw [decide_eq_true e, if_pos rfl, fresh e, if_neg (by simp)]
            refine wpAny_bind (wpAny_rule ?_)
            split
            · rw [fresh e] at r1
              exact wpAny_pure (r1 e).1
            · exact wpAny_pure (r1 e).2
          · rw [decide_eq_false e, if_neg (by decide)]
            refine wpAny_bind (wpAny_rule ?_)
            rw [if_neg (by simp)]
            exact wpAny_pure (r2 e)
  | p i j =>
    obtain ⟨a, oa, n, t, u, rfl, hoa, hca, hda⟩ := id hkey
    dsimp only
    rw [if_neg (show ¬ ((Value.ref a :: pl.filterMap fun i => es[i]?.map (·.key)).all carriedByValue) = true by simp [carriedByValue])]
    have hany : ¬ (es.any fun e => e.key == Value.ref a && e.hash != EK.hash P w (.p i j)) = true := by
      rw [← Array.any_toList, he, List.any_eq_true]
      rintro ⟨e, hin, hc⟩
      obtain ⟨⟨k', kv, v⟩, hx, rfl⟩ := List.mem_map.mp hin
      simp only [ent, Bool.and_eq_true, beq_iff_eq, bne_iff_ne, ne_eq] at hc
      have q := his _ hx
      dsimp only at q
      rw [hc.1] at q
      exact hc.2 (by rw [q.inj hkey])
    rw [if_neg hany]
    by_cases h1 : ((pl.filterMap fun i => es[i]?.map (·.key)) == [Value.ref a]) = true
    · rw [if_pos h1]
      refine wpAny_bind (wpAny_pure ?_)
      rw [if_neg (by simp)]
      refine wpAny_bind (loop _ (fun y hit k' kv v q1 q2 q3 fresh R r1 r2 => ?_) _ (fun _ => wpAny_pure h) (wpAny_pure h))
      dsimp only
      rw [q2]
      dsimp only
      rw [if_pos (by simp)]
      refine wpAny_bind (epoch (wpAny_bind (ek_eq hu q3 hkey (wpAny_bind (epoch ?_)))))
      rw [if_neg (by simp)]
      by_cases e : k' = .p i j
      · rw [decide_eq_true e, if_pos rfl, fresh e, if_neg (by simp)]
        refine wpAny_bind (wpAny_rule ?_)
        split
        · rw [fresh e] at r1
          exact wpAny_pure (r1 e).1
        · exact wpAny_pure (r1 e).2
      · rw [decide_eq_false e, if_neg (by decide)]
        refine wpAny_bind (wpAny_rule ?_)
        rw [if_neg (by simp)]
        exact wpAny_pure (r2 e)
    · rw [if_neg h1]
      refine wpAny_bind (tell stored ?_)
      rw [if_neg (by simp)]
      refine wpAny_bind (loop _ (fun y hit k' kv v q1 q2 q3 fresh R r1 r2 => ?_) _ (fun _ => wpAny_pure h) (wpAny_pure h))
      dsimp only
      rw [q2]
      dsimp only
      rw [if_pos (by simp)]
      refine wpAny_bind (epoch (wpAny_bind (ek_eq hu q3 hkey (wpAny_bind (epoch ?_)))))
      rw [if_neg (by simp)]
      by_cases e : k' = .p i j
      · rw [decide_eq_true e, if_pos rfl, fresh e, if_neg (by simp)]
        refine wpAny_bind (wpAny_rule ?_)
        split
        · rw [fresh e] at r1
          exact wpAny_pure (r1 e).1
        · exact wpAny_pure (r1 e).2
      · rw [decide_eq_false e, if_neg (by decide)]
        refine wpAny_bind (wpAny_rule ?_)
        rw [if_neg (by simp)]
        exact wpAny_pure (r2 e)
theorem mix_get {Q : Option Value → Shared → Prop} (hu : A.units + 1 < cLine) (hkey : k.is s.heap key) (hm : MixD P w s.heap d xs) (his : ∀ x ∈ xs, x.1.is s.heap x.2.1)
    (h : ∀ tk, Q ((atE xs k).bind fun j => (xs[j]?).map (·.2.2)) { s with toks := tk }) : wpAny (model P w) A (dictGet d key) Q E s := by
  obtain ⟨o, es, ep, ho, _, hd, he, hn⟩ := hm
  unfold dictGet
  try with_reducible refine wpAny_holding ?_
  refine wpAny_bind (ek_hash (by omega) hkey fun tk => wpAny_bind (mix_find (s := { s with toks := tk }) hu hkey ho hd he his hn ?_))
  cases e : atE xs k with
  | none =>
    have q := h tk
    rw [e] at q
    exact wpAny_pure q
  | some j =>
    have q := h tk
    rw [e] at q
    refine wpAny_bind (wpAny_dictEntries (s := { s with toks := tk }) ho hd ?_)
    obtain ⟨p, hp⟩ := atE_some e
    have e1 : es[j]? = some (ent P w (k, p)) := by rw [← Array.getElem?_toList, he, List.getElem?_map, hp]; rfl
    have q2 : Q (some p.2) { s with toks := tk } := by
      have q3 : ((some j).bind fun j => (xs[j]?).map (·.2.2)) = some p.2 := by
        show (xs[j]?).map (·.2.2) = some p.2
        rw [hp] <;> rfl
      rw [q3] at q
      exact q
    rw [e1]
    exact wpAny_pure q2
theorem mix_notIn {Q : Value → Shared → Prop} (hu : A.units + 2 < cLine) (hkey : k.is s.heap key) (hd : (d == sysModules) = false) (hm : MixD P w s.heap d xs) (his : ∀ x ∈ xs, x.1.is s.heap x.2.1)
    (h : ∀ tk, Q (.bool (!(atE xs k).isSome)) { s with toks := tk }) : wpAny (model P w) A (compareOp .NotIn key (.ref d)) Q E s := by
  have ty : s.TypeIs (.ref d) "dict" := let ⟨o, _, _, ho, hc, _⟩ := hm; ⟨o, ho, hc.1⟩
  show wpAny _ _ (do return .bool (!(← contains (.ref d) key))) Q E s
  refine wpAny_bind ?_
  unfold contains
  try with_reducible refine wpAny_holding ?_
  refine wpAny_bind (wpAny_specialOf ty PySem.F.slot_dict_contains.lookup ?_)
  show wpAny _ _ (if (some (Value.builtin "dict.__contains__") == some Value.none) = true then _ else _) _ E s
  rw [if_neg (by rw [beq_builtin_none]; exact Bool.false_ne_true)]
  refine wpAny_bind (wpAny_callSpecialUnlessNone?_slot (name := Str.ofString "__contains__") ty PySem.F.slot_dict_contains (wpAny_call_entry PySem.F.slot_dict_contains ty PySem.F.entry_dict_contains ?_ (PySem.F.args_dict_contains_2 _ _)))
  show wpAny _ _ (dictGet d key >>= _) _ _ s
  refine wpAny_bind (mix_get (show A.units + 1 + 1 < cLine by omega) hkey hm his fun tk => ?_)
  have q := h tk
  cases e : atE xs k with
  | none =>
    rw [e] at q
    show wpAny _ _ (Builtin.Dict.pendingKey? d key >>= _) _ _ _
    exact wpAny_bind (wpAny_pendingKey_other hd (wpAny_pure ⟨_, rfl, wpAny_truthy_bool (wpAny_pure q)⟩))
  | some j =>
    rw [e] at q
    obtain ⟨p, hp⟩ := atE_some e
    have e2 : ((some j).bind fun j => (xs[j]?).map (·.2.2)) = some p.2 := by
      show (xs[j]?).map (·.2.2) = some p.2
      rw [hp] <;> rfl
    rw [e2]
    exact wpAny_pure ⟨_, rfl, wpAny_truthy_bool (wpAny_pure q)⟩
theorem mix_item {j : Nat} {p : Value × Value} {Q : Value → Shared → Prop} (hu : A.units + 2 < cLine) (hkey : k.is s.heap key) (hm : MixD P w s.heap d xs) (his : ∀ x ∈ xs, x.1.is s.heap x.2.1) (hp : xs[j]? = some (k, p))
    (h : ∀ tk, Q p.2 { s with toks := tk }) : wpAny (model P w) A (getItem (.ref d) key) Q E s := by
  have ty : s.TypeIs (.ref d) "dict" := let ⟨o, _, _, ho, hc, _⟩ := hm; ⟨o, ho, hc.1⟩
  have hn : (xs.map (·.1)).Nodup := let ⟨_, _, _, _, _, _, _, hn⟩ := hm; hn
  unfold getItem
  try with_reducible refine wpAny_holding ?_
  refine wpAny_bind (wpAny_sequenceKey ty (by decide) ?_)
  refine wpAny_bind (wpAny_callSpecial?_slot (name := Str.ofString "__getitem__") ty PySem.F.slot_dict_getitem (wpAny_call_entry PySem.F.slot_dict_getitem ty PySem.F.entry_dict_getitem ?_ (PySem.F.args_dict_getitem_2 _ _)))
  show wpAny _ _ (dictGet d key >>= _) _ _ s
  refine wpAny_bind (mix_get (show A.units + 1 + 1 < cLine by omega) hkey hm his fun tk => ?_)
  have e2 : ((atE xs k).bind fun j => (xs[j]?).map (·.2.2)) = some p.2 := by
    rw [atE_of hn hp]
    show (xs[j]?).map (·.2.2) = some p.2
    rw [hp] <;> rfl
  rw [e2]
  exact wpAny_pure ⟨p.2, rfl, wpAny_pure (h tk)⟩
/-- d[k] = v where k was not there -/
theorem mix_put {v : Value} {Q : Unit → Shared → Prop} (hu : A.units + 2 < cLine) (hkey : k.is s.heap key) (hm : MixD P w s.heap d xs) (his : ∀ x ∈ xs, x.1.is s.heap x.2.1) (hno : atE xs k = none) (hz : xs.length < sizeLine)
    (h : ∀ h' tk, MixD P w h' d (xs ++ [(k, key, v)]) → Heap.SameBut d s.heap h' → Q () { s with heap := h', toks := tk }) : wpAny (model P w) A (setItem (.ref d) key v) Q E s := by
  have ty : s.TypeIs (.ref d) "dict" := let ⟨o, _, _, ho, hc, _⟩ := hm; ⟨o, ho, hc.1⟩
  obtain ⟨o, es, ep, ho, hc, hd, he, hn⟩ := id hm
  unfold setItem
  try with_reducible refine wpAny_holding ?_
  refine wpAny_bind (wpAny_sequenceKey ty (by decide) ?_)
  refine wpAny_bind (wpAny_callSpecial?_slot (name := Str.ofString "__setitem__") ty PySem.F.slot_dict_setitem (wpAny_call_entry PySem.F.slot_dict_setitem ty PySem.F.entry_dict_setitem ?_ (PySem.F.args_dict_setitem_3 _ _ _)))
  show wpAny _ _ (Builtin.Dict.notOrdered "__setitem__" ⟨[.ref d, key, v], []⟩ >>= _) _ _ s
  refine wpAny_bind (wpAny_notOrdered_dict ty ?_)
  show wpAny _ _ (dictSet d key v >>= _) _ _ s
  refine wpAny_bind ?_
  unfold dictSet
  try with_reducible refine wpAny_holding ?_
  refine wpAny_bind (ek_hash (show A.units + 1 < cLine by omega) hkey fun tk => ?_)
  unfold dictSetHashed
  try with_reducible refine wpAny_holding ?_
  refine wpAny_bind (mix_find (s := { s with toks := tk }) (show A.units + 1 + 1 < cLine by omega) hkey ho hd he his hn ?_)
  rw [hno]
  have size : es.size = xs.length := by rw [← Array.length_toList, he, List.length_map]
  refine wpAny_bind (wpAny_rule (wpAny_updateDictKeys (hz := by omega) (s := { s with toks := tk }) ho hd (wpAny_pure ⟨.none, rfl, wpAny_pure (h _ tk ⟨_, _, ep + 1, Heap.get?_update_self _ ho (Obj.isFreed_of_dict (Obj.data_mapDictKeys hd _)), hc.mapDictKeys _, Obj.data_mapDictKeys hd _, ?_, ?_⟩ (Heap.SameBut.update ..))⟩)))
  · simp [he, ent]
  · rw [List.map_append, List.nodup_append]
    refine ⟨hn, by simp, fun x hx y hy => ?_⟩
    rw [List.map_cons, List.map_nil] at hy
    rw [List.mem_singleton.mp hy]
    rintro rfl
    obtain ⟨z, hz1, hz2⟩ := List.mem_map.mp hx
    obtain ⟨i, hi⟩ := List.mem_iff_getElem?.mp hz1
    exact atE_none hno (p := z.2) (by rw [hi, ← hz2])
end
end K35
end

section
set_option Elab.async false
set_option linter.all false
set_option maxRecDepth 100000
/-! The dict with text and pair keys, over the abstract heap. -/
namespace K35
open PySem PySem.Spec PyProof.Rows L2
abbrev ME := EK × L2.V × L2.V
def RelE (a : ME) (b : EE) : Prop := a.1 = b.1 ∧ RelV a.2.1 b.2.1 ∧ RelV a.2.2 b.2.2
/-- a dict of these entries at d -/
def mixHO (P : Program) (w : World) (d : Addr) (ks : List ME) : HO := .ext fun h => (d == sysModules) = false ∧ ∃ xs : List EE, Paired RelE ks xs ∧ MixD P w h d xs
/-- the key is there -/
def KeyIn (H : Hp) : EK → L2.V → Prop
  | .w x, v => v = .str x ∧ PyData.strOk x = true
  | .p i j, v => ∃ q, v = .ref q ∧ H q = some (.tup [.int i, .int j])
def KeysIn (H : Hp) (ks : List ME) : Prop := ∀ e ∈ ks, KeyIn H e.1 e.2.1
theorem KeyIn.mono {H H' : Hp} {k : EK} {v : L2.V} (x : KeyIn H k v) (t : ∀ b xs, H b = some (.tup xs) → H' b = some (.tup xs)) : KeyIn H' k v := by
  cases k with
  | w y => exact x
  | p i j =>
    obtain ⟨q, e, h⟩ := x
    exact ⟨q, e, t q _ h⟩
section
variable {X : Cx} {pins : List (Addr × Obj)} {σ : L2.St} {H : Hp} {s : Shared}
theorem KeyIn.is {k : EK} {v : L2.V} {u : Value} (I : Inv X pins σ H s) (x : KeyIn H k v) (r : RelV v u) : k.is s.heap u := by
  cases k with
  | w y =>
    obtain ⟨rfl, ok⟩ := x
    exact ⟨ok, r⟩
  | p i j =>
    obtain ⟨q, rfl, h⟩ := x
    cases (show u = Value.ref q from r)
    obtain ⟨_, its, rv, o, ho, hc, n, hd⟩ := (show ObjOk X.prog X.w H s.heap q (.tup [.int i, .int j]) from I.hok q _ h)
    obtain ⟨u1, u2, rfl, ⟨t1, rfl⟩, ⟨t2, rfl⟩⟩ := vals2 rv
    exact ⟨q, o, n, t1, t2, rfl, ho, hc, hd⟩
theorem keys_is (I : Inv X pins σ H s) : ∀ {ks : List ME} {xs : List EE}, Paired RelE ks xs → KeysIn H ks → ∀ x ∈ xs, x.1.is s.heap x.2.1
  | _, _, .nil, _, x, hx => (List.not_mem_nil hx).elim
  | a :: ks, b :: xs, .cons r t, h, x, hx => by
    rcases List.mem_cons.mp hx with rfl | hx
    · have q := KeyIn.is I (h a (List.mem_cons_self ..)) r.2.1
      rw [r.1] at q
      exact q
    · exact keys_is I t (fun e he => h e (List.mem_cons_of_mem _ he)) x hx
/-- where a key stands -/
def atM (ks : List ME) (k : EK) : Option Nat := ks.findIdx? fun e => decide (e.1 = k)
theorem atM_eq : ∀ {ks : List ME} {xs : List EE} (k : EK), Paired RelE ks xs → atM ks k = atE xs k
  | _, _, _, .nil => rfl
  | a :: ks, b :: xs, k, .cons r t => by
    unfold atM atE
    have e := atM_eq k t
    unfold atM atE at e
    rw [List.findIdx?_cons, List.findIdx?_cons, r.1, e]
theorem paired_get {α β : Type} {R : α → β → Prop} : ∀ {xs : List α} {ys : List β} {i : Nat} {x : α}, Paired R xs ys → xs[i]? = some x → ∃ y, ys[i]? = some y ∧ R x y
  | _, _, _, _, .nil, e => by simp at e
  | _, _, 0, _, .cons r _, e => by
    simp only [List.getElem?_cons_zero, Option.some.injEq] at e
    subst e
    exact ⟨_, rfl, r⟩
  | _, _, i + 1, x, .cons _ t, e => by
    obtain ⟨y, h1, h2⟩ := paired_get (i := i) (x := x) t (by simpa using e)
    exact ⟨y, by simpa using h1, h2⟩
theorem mix_of {d : Addr} {ks : List ME} (I : Inv X pins σ H s) (h : H d = some (mixHO X.prog X.w d ks)) : (d == sysModules) = false ∧ ∃ xs : List EE, Paired RelE ks xs ∧ MixD X.prog X.w s.heap d xs :=
  (show ObjOk X.prog X.w H s.heap d (mixHO X.prog X.w d ks) from I.hok d _ h).1
theorem mix_obj {P : Program} {w : World} {H : Hp} {h : Heap} {d : Addr} {ks : List ME} {xs : List EE} (hd : (d == sysModules) = false) (r : Paired RelE ks xs) (m : MixD P w h d xs) : ObjOk P w H h d (mixHO P w d ks) := by
  refine ⟨⟨hd, xs, r, m⟩, ?_, ?_⟩
  · obtain ⟨o, _, _, ho, _⟩ := m
    exact ⟨o, ho⟩
  · rintro h1 h2 ⟨_, xs', r', o, es, ep, ho, q⟩ k
    exact ⟨hd, xs', r', o, es, ep, k o ho, q⟩
/-- {} -/
def tNewM (P : Program) (w : World) : TE := fun _ H Q => ∀ p, H p = none → Q (.ref p) (upd H p (mixHO P w p []))
theorem pe_newM {pos : Pos} : PE X (.Dict [] [] pos) (tNewM X.prog X.w) := ⟨fun pins s σ H Q I h => by
  refine wpAny_Dict_empty ⟨.ref s.heap.objs.size, _, I.laid (a := s.heap.objs.size) (o := mixHO X.prog X.w s.heap.objs.size []) (t' := s.toks) (fun _ _ q => Heap.get?_push_of_some _ q) (Nat.le_refl _) ?_, rfl, h _ (I.hok.fresh (Nat.le_refl _))⟩
  exact mix_obj (beq_eq_false_iff_ne.mpr (Ne.symm (Nat.ne_of_lt I.big))) .nil ⟨_, #[], 0, Heap.get?_push_size _ rfl, ⟨rfl, rfl, rfl⟩, rfl, rfl, List.nodup_nil⟩⟩
/-- k not in d -/
def rNotM (P : Program) (w : World) : R2 := fun x y H Q => ∃ d ks k, y = .ref d ∧ H d = some (mixHO P w d ks) ∧ KeysIn H ks ∧ KeyIn H k x ∧ Q (.bl (!(atM ks k).isSome)) H
theorem op_notM (hu : X.A.units + 2 < cLine) : OpR X (compareOp .NotIn) (rNotM X.prog X.w) := by
  intro pins s σ H x y v u Q I rx ry h
  obtain ⟨d, ks, k, rfl, hd, hk, hx, q⟩ := h
  cases (show u = Value.ref d from ry)
  obtain ⟨hs, xs, r, m⟩ := mix_of I hd
  refine mix_notIn hu (hx.is I rx) hs m (keys_is I r hk) fun tk => ⟨.bl _, H, I.tok tk, rfl, ?_⟩
  rw [← atM_eq k r]
  exact q
/-- d[k] -/
def rGetM (P : Program) (w : World) : R2 := fun x y H Q => ∃ (d : Addr) (ks : List ME) (k : EK) (j : Nat) (kv v : L2.V), x = .ref d ∧ H d = some (mixHO P w d ks) ∧ KeysIn H ks ∧ KeyIn H k y ∧ ks[j]? = some (k, kv, v) ∧ Q v H
theorem pe_getM {o i : Expr} {td ty : TE} {pos : Pos} (hu : X.A.units + 2 < cLine) (ho : PE X o td) (hi : PE X i ty) (hs : NoSl i) : PE X (.Subscript o i pos) (tOp (rGetM X.prog X.w) td ty) := by
  refine ⟨fun pins s σ H Q I h => ?_⟩
  refine subD_of PySem.F.slot_dict_getitem.lookup hs (thn (ho.run pins s σ H _ I h) fun u s1 ⟨x, H1, I1, rx, q1⟩ => thn (hi.run pins s1 σ H1 _ I1 q1) fun iv s2 ⟨y, H2, I2, ry, q2⟩ => ?_)
  obtain ⟨d, ks, k, j, kv, v, rfl, hd, hk, hy, hj, q⟩ := q2
  cases (show u = Value.ref d from rx)
  obtain ⟨hs, xs, r, m⟩ := mix_of I2 hd
  obtain ⟨⟨k', kv', v'⟩, hj', e1, _, e3⟩ := paired_get r hj
  cases (show k = k' from e1)
  refine ⟨let ⟨o, _, _, ho, hc, _⟩ := m; ⟨o, ho, hc.1⟩, mix_item hu (hy.is I2 ry) m (keys_is I2 r hk) hj' fun tk => ⟨v, H2, I2.tok tk, e3, q⟩⟩
/-- d[k] = v, k not there before -/
def sPutM (P : Program) (w : World) : L2.V → L2.V → L2.V → Hp → (Hp → Prop) → Prop := fun o y v H Q => ∃ d ks k, o = .ref d ∧ H d = some (mixHO P w d ks) ∧ KeysIn H ks ∧ KeyIn H k y ∧ atM ks k = none ∧ ks.length < sizeLine ∧ Q (upd H d (mixHO P w d (ks ++ [(k, y, v)])))
theorem paired_snoc {α β : Type} {R : α → β → Prop} : ∀ {xs : List α} {ys : List β} {x : α} {y : β}, Paired R xs ys → R x y → Paired R (xs ++ [x]) (ys ++ [y])
  | _, _, _, _, .nil, h => .cons h .nil
  | _, _, _, _, .cons r t, h => .cons r (paired_snoc t h)
theorem set_mix (hu : X.A.units + 2 < cLine) : PSet X (sPutM X.prog X.w) := by
  intro pins s σ H o i v ov iv u Q I ro ri rv h
  obtain ⟨d, ks, k, rfl, hd, hk, hy, hno, hz, q⟩ := h
  cases (show ov = Value.ref d from ro)
  obtain ⟨hs, xs, r, m⟩ := mix_of I hd
  refine mix_put hu (hy.is I ri) m (keys_is I r hk) (by rw [← atM_eq k r]; exact hno) (by rw [← Paired.length r]; exact hz) fun h' tk m' sb => ⟨_, ?_, q⟩
  have he : ∃ q, h'.get? d = some q := let ⟨q, _, _, hq, _⟩ := m'; ⟨q, hq⟩
  exact d_write I (by rw [hd]; exact True.intro) sb he (mix_obj hs (paired_snoc r ⟨rfl, ri, rv⟩) m')
end
end K35
end

section
set_option Elab.async false
set_option linter.all false
set_option maxRecDepth 100000
/-! The table of values: numbers for words and pairs. -/
namespace K35
open PySem PySem.Spec PyProof.Rows L2
inductive Ent where
  | w (x : Str) | p (i j : Nat)
  deriving DecidableEq
def Ent.k : Ent → EK
  | .w x => .w x
  | .p i j => .p i j
theorem Ent.k_inj {a b : Ent} (h : a.k = b.k) : a = b := by
  cases a with
  | w x => cases b with
    | w y => rw [EK.w.inj h]
    | p i j => exact nomatch (show EK.w x = EK.p i j from h)
  | p i j => cases b with
    | w y => exact nomatch (show EK.p i j = EK.w y from h)
    | p i' j' =>
      obtain ⟨h1, h2⟩ := EK.p.inj (show EK.p i j = EK.p i' j' from h)
      rw [Int.ofNat.inj h1, Int.ofNat.inj h2]
/-- the number n is the value t (0 is the empty list, n + 1 the n-th entry) -/
inductive Den (S : List Ent) : Nat → T → Prop
  | nil : Den S 0 (.l [])
  | word {n x} : S[n]? = some (.w x) → Den S (n + 1) (.w x)
  | pair {n i j t ts} : S[n]? = some (.p i j) → Den S i t → Den S j (.l ts) → Den S (n + 1) (.l (t :: ts))
structure StoreWf (S : List Ent) : Prop where
  nd : S.Nodup
  ok : ∀ (n : Nat) (x : Str), S[n]? = some (Ent.w x) → PyData.strOk x = true
  pair : ∀ (n i j : Nat), S[n]? = some (Ent.p i j) → i ≤ n ∧ j ≤ n ∧ (∃ t, Den S i t) ∧ ∃ ts, Den S j (.l ts)
def ExtS (S S' : List Ent) : Prop := ∃ more, S' = S ++ more
theorem ExtS.refl (S : List Ent) : ExtS S S := ⟨[], (List.append_nil S).symm⟩
theorem ExtS.trans {S S1 S2 : List Ent} (a : ExtS S S1) (b : ExtS S1 S2) : ExtS S S2 := by
  obtain ⟨m, rfl⟩ := a
  obtain ⟨m', rfl⟩ := b
  exact ⟨m ++ m', List.append_assoc ..⟩
theorem ExtS.get {S S' : List Ent} (a : ExtS S S') {n : Nat} {e : Ent} (h : S[n]? = some e) : S'[n]? = some e := by
  obtain ⟨m, rfl⟩ := a
  rw [List.getElem?_append_left (List.getElem?_eq_some_iff.mp h).1, h]
theorem ExtS.len {S S' : List Ent} (a : ExtS S S') : S.length ≤ S'.length := by
  obtain ⟨m, rfl⟩ := a
  rw [List.length_append]
  omega
theorem Den.ext {S S' : List Ent} (a : ExtS S S') {n : Nat} {t : T} (h : Den S n t) : Den S' n t := by
  induction h with
  | nil => exact .nil
  | word h => exact .word (a.get h)
  | pair h _ _ ih1 ih2 => exact .pair (a.get h) ih1 ih2
theorem Den.le {S : List Ent} {n : Nat} {t : T} (h : Den S n t) : n ≤ S.length := by
  cases h with
  | nil => exact Nat.zero_le _
  | word h => exact (List.getElem?_eq_some_iff.mp h).1
  | pair h _ _ => exact (List.getElem?_eq_some_iff.mp h).1
theorem Den.func {S : List Ent} {n : Nat} {t : T} (h : Den S n t) : ∀ {t' : T}, Den S n t' → t = t' := by
  induction h with
  | nil =>
    intro t' h'
    cases h'
    rfl
  | word h =>
    intro t' h'
    cases h' with
    | word h2 =>
      rw [h] at h2
      cases h2
      rfl
    | pair h2 _ _ =>
      rw [h] at h2
      cases h2
  | pair h _ _ ih1 ih2 =>
    intro t' h'
    cases h' with
    | word h2 =>
      rw [h] at h2
      cases h2
    | pair h2 a b =>
      rw [h] at h2
      cases h2
      rw [ih1 a]
      have q := ih2 b
      injection q with q
      rw [q]
theorem nd_at {S : List Ent} (hn : S.Nodup) {i j : Nat} {e : Ent} (a : S[i]? = some e) (b : S[j]? = some e) : i = j := nd_ix hn a b
theorem Den.inj {S : List Ent} (W : StoreWf S) {n : Nat} {t : T} (h : Den S n t) : ∀ {m : Nat}, Den S m t → n = m := by
  induction h with
  | nil =>
    intro m h'
    cases h'
    rfl
  | word h =>
    intro m h'
    cases h' with
    | word h2 => rw [nd_at W.nd h h2]
  | pair h _ _ ih1 ih2 =>
    intro m h'
    cases h' with
    | pair h2 a b =>
      have e1 := ih1 a
      have e2 := ih2 b
      subst e1 e2
      rw [nd_at W.nd h h2]
theorem Den.total {S : List Ent} (W : StoreWf S) : ∀ {n : Nat}, n ≤ S.length → ∃ t, Den S n t
  | 0, _ => ⟨_, .nil⟩
  | n + 1, h => by
    have e : S[n]? = some S[n] := List.getElem?_eq_getElem h
    cases q : S[n] with
    | w x =>
      rw [q] at e
      exact ⟨_, .word e⟩
    | p i j =>
      rw [q] at e
      obtain ⟨_, _, ⟨t, ht⟩, ts, hts⟩ := W.pair n i j e
      exact ⟨_, .pair e ht hts⟩
theorem Den.ok {S : List Ent} (W : StoreWf S) {n : Nat} {t : T} (h : Den S n t) : t.ok = true := by
  induction h with
  | nil => rfl
  | word h => exact W.ok _ _ h
  | pair _ _ _ ih1 ih2 =>
    simp only [T.ok, T.oks, Bool.and_eq_true] at ih1 ih2 ⊢
    exact ⟨ih1, ih2⟩
/-- an entry that may be added -/
def EntOk (S : List Ent) : Ent → T → Prop
  | .w x, t => t = .w x ∧ PyData.strOk x = true
  | .p i j, t => ∃ a ts, t = .l (a :: ts) ∧ Den S i a ∧ Den S j (.l ts)
theorem StoreWf.add {S : List Ent} (W : StoreWf S) {e : Ent} {t : T} (h : EntOk S e t) (hn : e ∉ S) : StoreWf (S ++ [e]) ∧ Den (S ++ [e]) (S.length + 1) t := by
  have x : ExtS S (S ++ [e]) := ⟨[e], rfl⟩
  have at_ : (S ++ [e])[S.length]? = some e := by simp
  have old : ∀ {n u}, (S ++ [e])[n]? = some u → S[n]? = some u ∨ (n = S.length ∧ u = e) := fun {n u} q => by
    rcases Nat.lt_or_ge n S.length with l | l
    · rw [List.getElem?_append_left l] at q
      exact .inl q
    · rw [List.getElem?_append_right l] at q
      have l2 := (List.getElem?_eq_some_iff.mp q).1
      simp only [List.length_cons, List.length_nil] at l2
      have e0 : n = S.length := by omega
      subst e0
      rw [Nat.sub_self] at q
      exact .inr ⟨rfl, (Option.some.inj q).symm⟩
  refine ⟨⟨?_, fun n y q => ?_, fun n i j q => ?_⟩, ?_⟩
  · rw [List.nodup_append]
    refine ⟨W.nd, by simp, fun a ha b hb => ?_⟩
    rw [List.mem_singleton.mp hb]
    rintro rfl
    exact hn ha
  · rcases old q with q | ⟨_, q⟩
    · exact W.ok n y q
    · subst q
      exact h.2
  · rcases old q with q2 | ⟨rfl, q2⟩
    · obtain ⟨h1, h2, ⟨a, ha⟩, ts, hts⟩ := W.pair n i j q2
      exact ⟨h1, h2, ⟨a, ha.ext x⟩, ts, hts.ext x⟩
    · subst q2
      obtain ⟨a, ts, _, h1, h2⟩ := h
      exact ⟨h1.le, h2.le, ⟨a, h1.ext x⟩, ts, h2.ext x⟩
  · cases e with
    | w y =>
      rw [h.1]
      exact .word at_
    | p i j =>
      obtain ⟨a, ts, rfl, h1, h2⟩ := h
      exact .pair at_ (h1.ext x) (h2.ext x)
theorem den_there {S : List Ent} {e : Ent} {t : T} (h : EntOk S e t) {n : Nat} (hn : S[n]? = some e) : Den S (n + 1) t := by
  cases e with
  | w y =>
    rw [h.1]
    exact .word hn
  | p i j =>
    obtain ⟨a, ts, rfl, h1, h2⟩ := h
    exact .pair hn h1 h2
/-- the parts and the depth of each number, to one above their bounds -/
structure SizesOk (S : List Ent) (szs dps : List Int) : Prop where
  l1 : szs.length = S.length + 1
  l2 : dps.length = S.length + 1
  ok : ∀ n t, Den S n t → szs[n]? = some ((min t.parts 200001 : Nat) : Int) ∧ dps[n]? = some ((min t.depth 201 : Nat) : Int)
theorem SizesOk.start : SizesOk [] [1] [1] := ⟨rfl, rfl, fun n t h => by
  cases h with
  | nil => exact ⟨rfl, rfl⟩
  | word h => simp at h
  | pair h _ _ => simp at h⟩
theorem depth_cons (a : T) (ts : List T) : (T.l (a :: ts)).depth = max (a.depth + 1) (T.l ts).depth := by
  simp only [T.depth, T.depths]
  omega
theorem parts_cons (a : T) (ts : List T) : (T.l (a :: ts)).parts = a.parts + (T.l ts).parts := by
  simp only [T.parts, T.partss]
  omega
theorem SizesOk.add {S : List Ent} {szs dps : List Int} (Z : SizesOk S szs dps) (W : StoreWf S) {e : Ent} {t : T} (h : EntOk S e t) (hn : e ∉ S) {z d : Int} (hz : z = ((min t.parts 200001 : Nat) : Int)) (hd : d = ((min t.depth 201 : Nat) : Int)) : SizesOk (S ++ [e]) (szs ++ [z]) (dps ++ [d]) := by
  have W2 := W.add h hn
  refine ⟨by simp [Z.l1], by simp [Z.l2], fun n u q => ?_⟩
  rcases Nat.lt_or_ge n (S.length + 1) with l | l
  · obtain ⟨u', hu'⟩ := Den.total W (n := n) (by omega)
    have e1 := q.func (hu'.ext ⟨[e], rfl⟩)
    subst e1
    obtain ⟨a, b⟩ := Z.ok n u hu'
    rw [List.getElem?_append_left (by rw [Z.l1]; exact l), List.getElem?_append_left (by rw [Z.l2]; exact l)]
    exact ⟨a, b⟩
  · have l2 := q.le
    rw [List.length_append, List.length_singleton] at l2
    have e0 : n = S.length + 1 := by omega
    subst e0
    have e1 := q.func W2.2
    subst e1
    rw [List.getElem?_append_right (by rw [Z.l1]; exact Nat.le_refl _), List.getElem?_append_right (by rw [Z.l2]; exact Nat.le_refl _), Z.l1, Z.l2, Nat.sub_self, hz, hd]
    exact ⟨rfl, rfl⟩
/-! ### on the heap -/
structure SA where
  self : Addr
  e : Addr
  n : Addr
  s : Addr
  d : Addr
def mkE : Nat → List Ent → List L2.V → List ME
  | i, k :: S, v :: vs => (k.k, v, .int ((i + 1 : Nat) : Int)) :: mkE (i + 1) S vs
  | _, _, _ => []
theorem mkE_get : ∀ {i : Nat} {S : List Ent} {vs : List L2.V} {n : Nat} {k : Ent} {v : L2.V}, S[n]? = some k → vs[n]? = some v → (mkE i S vs)[n]? = some (k.k, v, .int ((i + n + 1 : Nat) : Int))
  | i, k' :: S, v' :: vs, 0, k, v, h1, h2 => by
    simp only [List.getElem?_cons_zero, Option.some.injEq] at h1 h2
    subst h1 h2
    rfl
  | i, k' :: S, v' :: vs, n + 1, k, v, h1, h2 => by
    have q := mkE_get (i := i + 1) (n := n) (k := k) (v := v) (by simpa using h1) (by simpa using h2)
    rw [show i + 1 + n + 1 = i + (n + 1) + 1 by omega] at q
    exact q
theorem mkE_snoc : ∀ {i : Nat} {S : List Ent} {vs : List L2.V} {k : Ent} {v : L2.V}, S.length = vs.length → mkE i (S ++ [k]) (vs ++ [v]) = mkE i S vs ++ [(k.k, v, .int ((i + S.length + 1 : Nat) : Int))]
  | i, [], [], k, v, _ => rfl
  | i, k' :: S, v' :: vs, k, v, h => by
    have q := mkE_snoc (i := i + 1) (S := S) (vs := vs) (k := k) (v := v) (by simpa using h)
    rw [show i + 1 + S.length + 1 = i + (k' :: S).length + 1 by simp; omega] at q
    show _ :: mkE (i + 1) (S ++ [k]) (vs ++ [v]) = _ :: (mkE (i + 1) S vs ++ _)
    rw [q]
theorem mkE_length : ∀ {i : Nat} {S : List Ent} {vs : List L2.V}, S.length = vs.length → (mkE i S vs).length = S.length
  | i, [], [], _ => rfl
  | i, k' :: S, v' :: vs, h => by
    show (mkE (i + 1) S vs).length + 1 = S.length + 1
    rw [mkE_length (by simpa using h)]
theorem mkE_at : ∀ {i : Nat} {S : List Ent} {vs : List L2.V} (k : Ent), S.length = vs.length → atM (mkE i S vs) k.k = S.findIdx? fun e => decide (e = k)
  | i, [], [], k, _ => rfl
  | i, k' :: S, v' :: vs, k, h => by
    show ((k'.k, v', L2.V.int ((i + 1 : Nat) : Int)) :: mkE (i + 1) S vs).findIdx? _ = _
    have q := mkE_at (i := i + 1) (S := S) (vs := vs) k (by simpa using h)
    unfold atM at q
    rw [List.findIdx?_cons, List.findIdx?_cons, q]
    have e : decide (k'.k = k.k) = decide (k' = k) := by
      by_cases z : k' = k
      · subst z
        simp
      · rw [decide_eq_false z, decide_eq_false fun y => z (Ent.k_inj y)]
    rw [e]
theorem mkE_keys {H : Hp} : ∀ {i : Nat} {S : List Ent} {vs : List L2.V}, S.length = vs.length → (∀ (n : Nat) (k : Ent) (v : L2.V), S[n]? = some k → vs[n]? = some v → KeyIn H k.k v) → KeysIn H (mkE i S vs)
  | i, [], [], _, _, e, he => (List.not_mem_nil he).elim
  | i, k' :: S, v' :: vs, h, g, e, he => by
    rcases List.mem_cons.mp (show e ∈ (k'.k, v', L2.V.int ((i + 1 : Nat) : Int)) :: mkE (i + 1) S vs from he) with q | he
    · rw [q]
      exact g 0 k' v' rfl rfl
    · exact mkE_keys (i := i + 1) (by simpa using h) (fun n k v a b => g (n + 1) k v (by simpa using a) (by simpa using b)) e he
def sfields (A : SA) : List (Str × L2.V) := [("entries", .ref A.e), ("numbers", .ref A.n), ("sizes", .ref A.s), ("depths", .ref A.d)]
structure StoreAt (P : Program) (w : World) (K : PySem.W.Frag) (A : SA) (S : List Ent) (H : Hp) : Prop where
  wf : StoreWf S
  apart : A.e ≠ A.s ∧ A.e ≠ A.d ∧ A.s ≠ A.d
  ins : ∃ dx, H A.self = some (.ins (He.ga K "Store") dx (sfields A))
  obj : ∃ v0 kvs szs dps, TV K H (.l []) v0 ∧ kvs.length = S.length ∧ H A.e = some (.lst (v0 :: kvs)) ∧ H A.n = some (mixHO P w A.n (mkE 0 S kvs)) ∧ H A.s = some (.lst (szs.map L2.V.int)) ∧ H A.d = some (.lst (dps.map L2.V.int)) ∧
    (∀ (n : Nat) (k : Ent) (v : L2.V), S[n]? = some k → kvs[n]? = some v → KeyIn H k.k v) ∧ SizesOk S szs dps
/-- all but the table's own lists and its dict stands -/
def Fr4 (A : SA) (H H' : Hp) : Prop := ∀ b o, H b = some o → b ≠ A.e → b ≠ A.n → b ≠ A.s → b ≠ A.d → H' b = some o
theorem Fr4.refl (A : SA) (H : Hp) : Fr4 A H H := fun _ _ h _ _ _ _ => h
theorem Fr4.trans {A : SA} {H H1 H2 : Hp} (a : Fr4 A H H1) (b : Fr4 A H1 H2) : Fr4 A H H2 := fun c o h h1 h2 h3 h4 => b c o (a c o h h1 h2 h3 h4) h1 h2 h3 h4
theorem Fr4.same {A : SA} {H H' : Hp} (s : Same H H') : Fr4 A H H' := fun c o h _ _ _ _ => s c o h
section
variable {P : Program} {w : World} {K : PySem.W.Frag} {A : SA} {S : List Ent} {H H' : Hp}
theorem Tk.key (k : Tk H H') (hf : ∀ b xs, H b = some (.tup xs) → H' b = some (.tup xs)) {e : EK} {v : L2.V} (x : KeyIn H e v) : KeyIn H' e v := x.mono hf
/-- nothing of the table is touched -/
theorem StoreAt.same (x : StoreAt P w K A S H) (s : Same H H') : StoreAt P w K A S H' := by
  obtain ⟨wf, ap, ⟨dx, hi⟩, v0, kvs, szs, dps, h0, hl, he, hn, hs, hd, hk, hz⟩ := x
  exact ⟨wf, ap, ⟨dx, s _ _ hi⟩, v0, kvs, szs, dps, h0.mono (Tk.same s), hl, s _ _ he, s _ _ hn, s _ _ hs, s _ _ hd, fun n k v a b => (hk n k v a b).mono fun c xs q => s _ _ q, hz⟩
/-- what is changed is none of the table's objects -/
theorem StoreAt.off {M : Addr → Prop} (x : StoreAt P w K A S H) (s : ∀ b o, H b = some o → ¬ M b → H' b = some o) (hM : ∀ b, M b → b ≠ A.self ∧ b ≠ A.e ∧ b ≠ A.n ∧ b ≠ A.s ∧ b ≠ A.d ∧ NoTup (H b)) : StoreAt P w K A S H' := by
  obtain ⟨wf, ap, ⟨dx, hi⟩, v0, kvs, szs, dps, h0, hl, he, hn, hs, hd, hk, hz⟩ := x
  have tk : ∀ b xs, H b = some (.tup xs) → H' b = some (.tup xs) := fun b xs q => s b _ q fun m => ((hM b m).2.2.2.2.2 xs).1 q
  have tk2 : Tk H H' := fun b xs q => by
    rcases q with q | ⟨o, q⟩
    · exact .inl (tk b xs q)
    · exact .inr ⟨o, s b _ q fun m => ((hM b m).2.2.2.2.2 xs).2 o q⟩
  exact ⟨wf, ap, ⟨dx, s _ _ hi fun m => (hM _ m).1 rfl⟩, v0, kvs, szs, dps, h0.mono tk2, hl, s _ _ he fun m => (hM _ m).2.1 rfl, s _ _ hn fun m => (hM _ m).2.2.1 rfl, s _ _ hs fun m => (hM _ m).2.2.2.1 rfl, s _ _ hd fun m => (hM _ m).2.2.2.2.1 rfl,
    fun n k v a b => (hk n k v a b).mono tk, hz⟩
end
end K35
end

section
set_option Elab.async false
set_option linter.all false
set_option maxRecDepth 100000
namespace K35
open PySem PySem.Spec PyProof.Rows L2
section
variable {X : Cx} {x : Str} {pos : Pos}
theorem pe_gi {z : Int} (hg : Gl X x) (h : ∃ t, X.mg x = some (.int z t)) (hd : (x == ("__debug__" : Str)) = false := by decide) : PE X (.Name x pos) (tC (.int z)) := by
  obtain ⟨t, h⟩ := h
  exact pe_glob hg h ⟨t, rfl⟩ hd
theorem pe_gs {z : Str} (hg : Gl X x) (h : ∃ t, X.mg x = some (.str z t)) (hd : (x == ("__debug__" : Str)) = false := by decide) : PE X (.Name x pos) (tC (.str z)) := by
  obtain ⟨t, h⟩ := h
  exact pe_glob hg h ⟨t, rfl⟩ hd
end
theorem same_new {H : Hp} {p : Addr} (h : H p = none) (o : HO) : Same H (upd H p o) := fun b u q => by
  rw [upd_ne (ne_of_none q h)]
  exact q
theorem hu2_of {A : Around} {k : Nat} (hr : Room k A) : A.units + 2 < cLine := Nat.lt_of_le_of_lt (Nat.add_le_add_left (by decide : 2 ≤ 64) _) hr.units
theorem line_le {n : Nat} (h : n ≤ 16000000) : n ≤ sizeLine := Nat.le_trans h (by decide)
theorem line_lt {n : Nat} (h : n ≤ 16000000) : n < sizeLine := Nat.lt_of_le_of_lt h (by decide)
/-- a list whose top stands last -/
theorem rev_last {vs : List L2.V} {v : L2.V} : (v :: vs).reverse[(v :: vs).reverse.length - 1]? = some v := by
  rw [List.reverse_cons, List.length_append, List.length_singleton, Nat.add_sub_cancel, List.getElem?_append_right (Nat.le_refl _), Nat.sub_self]
  rfl
theorem rev_dropLast {vs : List L2.V} {v : L2.V} : (v :: vs).reverse.dropLast = vs.reverse := by
  rw [List.reverse_cons, List.dropLast_concat]
theorem atI_int {ns : List Int} {n : Nat} {z : Int} (h : ns[n]? = some z) : atI (ns.map L2.V.int) ((n : Nat) : Int) = some (L2.V.int z) := atI_nat (by rw [List.getElem?_map, h]; rfl)
end K35
end

section
set_option Elab.async false
set_option linter.all false
set_option maxRecDepth 100000
namespace K35
open PySem PySem.Spec PyProof.Rows L2
theorem sc_Store_init : FnScope ["self"] ["self"] (defScope s_Store_init) := ⟨rfl, rfl, rfl, by decide +kernel, rfl, by decide +kernel, by decide +kernel⟩
theorem sc_Store_number_of : FnScope ["self", "entry", "item", "items"] ["self", "entry"] (defScope s_Store_number_of) := ⟨rfl, rfl, rfl, by decide +kernel, rfl, by decide +kernel, by decide +kernel⟩
theorem sc_Store_is_word : FnScope ["self", "number"] ["self", "number"] (defScope s_Store_is_word) := ⟨rfl, rfl, rfl, by decide +kernel, rfl, by decide +kernel, by decide +kernel⟩
theorem sc_Store_first : FnScope ["self", "number"] ["self", "number"] (defScope s_Store_first) := ⟨rfl, rfl, rfl, by decide +kernel, rfl, by decide +kernel, by decide +kernel⟩
theorem sc_Store_rest : FnScope ["self", "number"] ["self", "number"] (defScope s_Store_rest) := ⟨rfl, rfl, rfl, by decide +kernel, rfl, by decide +kernel, by decide +kernel⟩
theorem sc_Store_pair_up : FnScope ["self", "item", "items"] ["self", "item", "items"] (defScope s_Store_pair_up) := ⟨rfl, rfl, rfl, by decide +kernel, rfl, by decide +kernel, by decide +kernel⟩
theorem ite_b {b : Bool} {A B : Prop} (h1 : b = true → A) (h2 : b = false → B) : if b = true then A else B := by
  cases b with
  | true => exact h1 rfl
  | false => exact h2 rfl
theorem keyIn_ty {K : PySem.W.Frag} {H : Hp} {k : Ent} {v : L2.V} (x : KeyIn H k.k v) : TyX K H v (.type (match k with | .w _ => "str" | .p _ _ => "tuple")) := by
  cases k with
  | w y =>
    obtain ⟨rfl, _⟩ := x
    exact .base (.str y)
  | p i j =>
    obtain ⟨q, rfl, h⟩ := x
    exact .base (.tup h)
theorem putF_new {f : Str} {v : L2.V} : ∀ {fs : List (Str × L2.V)}, fs.lookup f = none → putF f v fs = fs ++ [(f, v)]
  | [], _ => rfl
  | (g, x) :: r, h => by
    have hne : ¬ g = f := fun e => by
      subst e
      simp at h
    have h2 : r.lookup f = none := by
      rw [List.lookup_cons, beq_eq_false_iff_ne.mpr (Ne.symm hne)] at h
      exact h
    show (if g = f then _ else (g, x) :: putF f v r) = _
    rw [if_neg hne, putF_new h2] <;> rfl
theorem none_of {H H1 H2 : Hp} {x p : Addr} (h1 : ∀ b o, H b = some o → b ≠ x → H1 b = some o) (h2 : ∀ b o, H1 b = some o → b ≠ x → H2 b = some o) (hp : p ≠ x) (h : H2 p = none) : H p = none := by
  cases e : H p with
  | none => rfl
  | some o =>
    rw [h2 _ _ (h1 _ _ e hp) hp] at h
    cases h
section
variable {P : Program} {w : World} {K : PySem.W.Frag} {mg : Str → Option Value} {base : Heap} (C : Ctx w K mg)
include C
def spNumberOf (P : Program) (w : World) (K : PySem.W.Frag) : Sp := fun vs H Q _ => ∃ (A : SA) (S : List Ent) (k : Ent) (v : L2.V) (t : T), vs = [.ref A.self, v] ∧ StoreAt P w K A S H ∧ KeyIn H k.k v ∧ EntOk S k t ∧ S.length ≤ 15000000 ∧
  ∀ (n : Nat) (S' : List Ent) (H' : Hp), StoreAt P w K A S' H' → Fr4 A H H' → ExtS S S' → S'.length ≤ S.length + 1 → Den S' n t → Q (.int ((n : Nat) : Int)) H'
theorem ok_number_of : MOk P w K mg base 1 (He.ga K "Store") "number_of" ["self", "entry"] (spNumberOf P w K) := by
  refine mok C.f_Store_number_of C.h_Store_number_of (fun _ _ _ _ _ _ us hl => match us, hl with | [_, _], _ => rfl) sc_Store_number_of (fun vs H Q E h => ?_) (fun f cdv A outer s H vs Q E hr h => ?_)
  · obtain ⟨A, S, k, v, t, rfl, _⟩ := h
    rfl
  obtain ⟨A, S, k, v, t, rfl, hS, hv, ht, hl, q⟩ := h
  refine ⟨_, (pss_cons (ps_if (pt_cmpR (op_notM (hu2_of hr)) (pv 1) (pe_fld (pv 0) rfl) (by rfl)) (pss_cons (ps_asg (pe_callB call_len_seq (by rfl) C.z_len PySem.boot_len (pa_cons (pe_fld (pv 0) rfl) pa_nil)) (pg_sub (pe_fld (pv 0) rfl) (pv 1) (set_mix (hu2_of hr))))
  (pss_cons (ps_expr (pe_bm PySem.F.plainAttrs_list PySem.F.slot_list_append PySem.F.type_list_append mt_append (pe_fld (pv 0) rfl) (pa_cons (pv 1) pa_nil)))
  (pss_one (ps_if (pt_val (pe_callB call_isi (by rfl) C.z_isinstance (by decide +kernel) (pa_cons (pv 1) (pa_cons (pe_bltn (v := .ty "str") (by rfl) C.z_str (by decide +kernel) rfl) pa_nil)))) (pss_cons (ps_expr (pe_bm PySem.F.plainAttrs_list PySem.F.slot_list_append PySem.F.type_list_append mt_append (pe_fld (pv 0) rfl) (pa_cons pe_int pa_nil)))
  (pss_one (ps_expr (pe_bm PySem.F.plainAttrs_list PySem.F.slot_list_append PySem.F.type_list_append mt_append (pe_fld (pv 0) rfl) (pa_cons pe_int pa_nil))))) (pss_cons (ps_asg (pv 1) (pg_tup rfl (pgs_cons (pg_name (i := 2) sc_Store_number_of.nd rfl (Or.inl rfl)) (pgs_cons (pg_name (i := 3) sc_Store_number_of.nd rfl (Or.inl rfl)) pgs_nil))))
  (pss_cons (ps_expr (pe_bm PySem.F.plainAttrs_list PySem.F.slot_list_append PySem.F.type_list_append mt_append (pe_fld (pv 0) rfl) (pa_cons (pe_callB (call_min2 rfl) (by rfl) C.z_min (by decide +kernel) (pa_cons (pe_op op_add (pe_ix ix_list (pe_fld (pv 0) rfl) (pv 2) (fun _ _ => rfl)) (pe_ix ix_list (pe_fld (pv 0) rfl) (pv 3) (fun _ _ => rfl))) (pa_cons (pe_op op_add (pe_gi (by rfl) C.i_MOST_PARTS) pe_int) pa_nil))) pa_nil)))
  (pss_one (ps_expr (pe_bm PySem.F.plainAttrs_list PySem.F.slot_list_append PySem.F.type_list_append mt_append (pe_fld (pv 0) rfl) (pa_cons (pe_callB (call_min2 rfl) (by rfl) C.z_min (by decide +kernel) (pa_cons (pe_callB (call_max2 rfl) (by rfl) C.z_max (by decide +kernel) (pa_cons (pe_op op_add (pe_ix ix_list (pe_fld (pv 0) rfl) (pv 2) (fun _ _ => rfl)) pe_int) (pa_cons (pe_ix ix_list (pe_fld (pv 0) rfl) (pv 3) (fun _ _ => rfl)) pa_nil))) (pa_cons (pe_op op_add (pe_gi (by rfl) C.i_MOST_DEPTH) pe_int) pa_nil))) pa_nil)))))))))) pss_nil)
  (pss_one (ps_ret (pe_getM (hu2_of hr) (pe_fld (pv 0) rfl) (pv 1) (fun _ _ => rfl))))), ?_⟩
  obtain ⟨wf, ap, ⟨dx, hi⟩, v0, kvs, szs, dps, h0, hlk, he, hn, hs, hd, hk, hz⟩ := id hS
  have keys := mkE_keys (i := 0) hlk.symm hk
  have nIn : A.self ≠ A.n := ne_of hi hn (by intro z; cases z)
  have nIe : A.self ≠ A.e := ne_of hi he (by intro z; cases z)
  have nIs : A.self ≠ A.s := ne_of hi hs (by intro z; cases z)
  have nId : A.self ≠ A.d := ne_of hi hd (by intro z; cases z)
  have nen : A.e ≠ A.n := ne_of he hn (by intro z; cases z)
  have nsn : A.s ≠ A.n := ne_of hs hn (by intro z; cases z)
  have ndn : A.d ≠ A.n := ne_of hd hn (by intro z; cases z)
  have fld := fun {x : Str} {v : L2.V} (l : (sfields A).lookup x = some v) => l
  refine ⟨_, rfl, _, rfl, A.self, _, dx, _, _, rfl, hi, C.c_Store, C.n_Store_numbers, rfl, A.n, _, k.k, rfl, hn, keys, hv, _, rfl, ite_b (fun hb => ?_) (fun hb => ?_)⟩
  · -- a new entry
    have hno : atM (mkE 0 S kvs) k.k = none := by
      cases e : atM (mkE 0 S kvs) k.k with
      | none => rfl
      | some j =>
        rw [e] at hb
        cases hb
    have hnot : k ∉ S := fun hm => by
      rw [mkE_at k hlk.symm] at hno
      have z := List.findIdx?_eq_none_iff.mp hno k hm
      simp at z
    have hz1 : (mkE 0 S kvs).length < sizeLine := by rw [mkE_length hlk.symm]; exact line_lt (by omega)
    have W2 := wf.add ht hnot
    -- self.numbers[entry] = len(self.entries)
    refine ⟨_, rfl, A.self, _, dx, _, _, rfl, hi, C.c_Store, C.n_Store_entries, rfl, A.e, _, rfl, .inl (SqL.of he), ?_⟩
    refine ⟨_, rfl, A.self, _, dx, _, _, rfl, hi, C.c_Store, C.n_Store_numbers, rfl, _, rfl, A.n, _, k.k, rfl, hn, keys, hv, hno, hz1, ?_⟩
    generalize g1 : upd H A.n _ = H1
    have e1 : H1 A.n = some (mixHO P w A.n (mkE 0 S kvs ++ [(k.k, v, .int (((v0 :: kvs).length : Nat) : Int))])) := by rw [← g1]; exact upd_same
    have f1 : ∀ b, b ≠ A.n → H1 b = H b := fun b hb => by rw [← g1]; exact upd_ne hb
    -- self.entries.append(entry)
    have he1 := (f1 A.e nen).trans he
    have hi1 := (f1 A.self nIn).trans hi
    refine ⟨_, rfl, A.self, _, dx, _, _, rfl, hi1, C.c_Store, C.n_Store_entries, rfl, .inl ⟨rfl, _, SqL.of he1⟩, _, rfl, A.e, _, _, rfl, rfl, he1, by rw [List.length_cons, hlk]; exact line_lt (by omega), ?_⟩
    generalize g2 : upd H1 A.e _ = H2
    have e2 : H2 A.e = some (.lst (v0 :: kvs ++ [v])) := by rw [← g2]; exact upd_same
    have f2 : ∀ b, b ≠ A.e → H2 b = H1 b := fun b hb => by rw [← g2]; exact upd_ne hb
    have hi2 := (f2 A.self nIe).trans hi1
    have hs2 : H2 A.s = some (.lst (szs.map L2.V.int)) := (f2 A.s (Ne.symm ap.1)).trans ((f1 A.s nsn).trans hs)
    have hd2 : H2 A.d = some (.lst (dps.map L2.V.int)) := (f2 A.d (Ne.symm ap.2.1)).trans ((f1 A.d ndn).trans hd)
    have hn2 := (f2 A.n (Ne.symm nen)).trans e1
    have tup2 : ∀ b xs, H b = some (.tup xs) → H2 b = some (.tup xs) := fun b xs hb => by
      rw [f2 b (ne_of hb he (by intro z; cases z)), f1 b (ne_of hb hn (by intro z; cases z))]
      exact hb
    have hv2 : KeyIn H2 k.k v := hv.mono tup2
    -- what stands in the end
    have last : ∀ (z d : Int) (H5 : Hp), z = ((min t.parts 200001 : Nat) : Int) → d = ((min t.depth 201 : Nat) : Int) → H5 A.s = some (.lst ((szs ++ [z]).map L2.V.int)) → H5 A.d = some (.lst ((dps ++ [d]).map L2.V.int)) → (∀ b, b ≠ A.s → b ≠ A.d → H5 b = H2 b) →
        ∃ n : Nat, (mkE 0 S kvs ++ [(k.k, v, L2.V.int (((v0 :: kvs).length : Nat) : Int))])[S.length]? = some (k.k, v, L2.V.int ((n : Nat) : Int)) ∧ H5 A.n = some (mixHO P w A.n (mkE 0 S kvs ++ [(k.k, v, .int (((v0 :: kvs).length : Nat) : Int))])) ∧ KeysIn H5 (mkE 0 S kvs ++ [(k.k, v, .int (((v0 :: kvs).length : Nat) : Int))]) ∧ KeyIn H5 k.k v ∧
          H5 A.self = some (.ins (He.ga K "Store") dx (sfields A)) ∧ ∃ S', StoreAt P w K A S' H5 ∧ Fr4 A H H5 ∧ ExtS S S' ∧ S'.length ≤ S.length + 1 ∧ Den S' n t := by
      intro z d H5 ez ed hs5 hd5 f5
      have tup5 : ∀ b xs, H b = some (.tup xs) → H5 b = some (.tup xs) := fun b xs hb => by
        rw [f5 b (ne_of hb hs (by intro z; cases z)) (ne_of hb hd (by intro z; cases z))]
        exact tup2 b xs hb
      have frz5 : Tk H H5 := fun b xs hb => by
        rcases hb with hb | ⟨o, hb⟩
        · exact .inl (tup5 b xs hb)
        · refine .inr ⟨o, ?_⟩
          rw [f5 b (ne_of hb hs (by intro z; cases z)) (ne_of hb hd (by intro z; cases z)), f2 b (ne_of hb he (by intro z; cases z)), f1 b (ne_of hb hn (by intro z; cases z))]
          exact hb
      have en : (((v0 :: kvs).length : Nat) : Int) = (((S.length + 1 : Nat)) : Int) := by rw [List.length_cons, hlk]
      have ek : mkE 0 (S ++ [k]) (kvs ++ [v]) = mkE 0 S kvs ++ [(k.k, v, L2.V.int (((v0 :: kvs).length : Nat) : Int))] := by rw [mkE_snoc hlk.symm, en, Nat.zero_add]
      have hv5 : KeyIn H5 k.k v := hv.mono tup5
      have hk5 : ∀ (n : Nat) (k' : Ent) (v' : L2.V), (S ++ [k])[n]? = some k' → (kvs ++ [v])[n]? = some v' → KeyIn H5 k'.k v' := fun n k' v' a b => by
        rcases Nat.lt_or_ge n S.length with l | l
        · rw [List.getElem?_append_left l] at a
          rw [List.getElem?_append_left (by omega)] at b
          exact (hk n k' v' a b).mono tup5
        · rw [List.getElem?_append_right l] at a
          rw [List.getElem?_append_right (by omega)] at b
          have l2 := (List.getElem?_eq_some_iff.mp a).1
          simp only [List.length_cons, List.length_nil] at l2
          rw [show n - S.length = 0 by omega] at a
          rw [show n - kvs.length = 0 by omega] at b
          cases a
          cases b
          exact hv5
      have hl5 : (S ++ [k]).length = (kvs ++ [v]).length := by simp [hlk]
      have hi5 : H5 A.self = some (.ins (He.ga K "Store") dx (sfields A)) := (f5 _ nIs nId).trans hi2
      have hn5 := (f5 A.n (Ne.symm nsn) (Ne.symm ndn)).trans hn2
      refine ⟨S.length + 1, ?_, hn5, ?_, hv5, hi5, S ++ [k], ⟨W2.1, ap, ⟨dx, hi5⟩, v0, kvs ++ [v], szs ++ [z], dps ++ [d], h0.mono frz5, hl5.symm, ?_, ?_, hs5, hd5, hk5, hz.add wf ht hnot ez ed⟩, ?_, ⟨[k], rfl⟩, by simp, W2.2⟩
      · rw [← en, List.getElem?_append_right (by rw [mkE_length hlk.symm]; exact Nat.le_refl _), mkE_length hlk.symm, Nat.sub_self]
        rfl
      · rw [← ek]
        exact mkE_keys hl5 hk5
      · rw [f5 A.e ap.1 ap.2.1, e2] <;> rfl
      · rw [hn5, ek]
      · intro b o hb h1 h2 h3 h4
        rw [f5 b h3 h4, f2 b h1, f1 b h2]
        exact hb
    cases k with
    | w x =>
      obtain ⟨rfl, ok⟩ := ht
      refine ⟨_, rfl, v, .ty "str", _, _, true, rfl, .ty "str", keyIn_ty (k := .w x) hv2, kit_ty (a := "str") (b := "str") (by decide +kernel), _, rfl, iteT ?_⟩
      refine ⟨_, rfl, A.self, _, dx, _, _, rfl, hi2, C.c_Store, C.n_Store_sizes, rfl, .inl ⟨rfl, _, SqL.of hs2⟩, A.s, _, _, rfl, rfl, hs2, by rw [List.length_map, hz.l1]; exact line_lt (by omega), ?_⟩
      generalize g3 : upd H2 A.s _ = H3
      have e3 : H3 A.s = some (.lst ((szs ++ [1]).map L2.V.int)) := by rw [← g3, upd_same, List.map_append] <;> rfl
      have f3 : ∀ b, b ≠ A.s → H3 b = H2 b := fun b hb => by rw [← g3]; exact upd_ne hb
      have hd3 := (f3 A.d (Ne.symm ap.2.2)).trans hd2
      refine ⟨_, rfl, A.self, _, dx, _, _, rfl, (f3 A.self nIs).trans hi2, C.c_Store, C.n_Store_depths, rfl, .inl ⟨rfl, _, SqL.of hd3⟩, A.d, _, _, rfl, rfl, hd3, by rw [List.length_map, hz.l2]; exact line_lt (by omega), ?_⟩
      generalize g4 : upd H3 A.d _ = H4
      have e4 : H4 A.d = some (.lst ((dps ++ [0]).map L2.V.int)) := by rw [← g4, upd_same, List.map_append] <;> rfl
      have f4 : ∀ b, b ≠ A.d → H4 b = H3 b := fun b hb => by rw [← g4]; exact upd_ne hb
      obtain ⟨n, hj, hn5, hk5, hv5, hi5, S', hS', fr, ex, hl', hd'⟩ := last 1 0 H4 rfl rfl ((f4 A.s ap.2.2).trans e3) e4 fun b h1 h2 => (f4 b h2).trans (f3 b h1)
      exact ⟨_, rfl, A.self, _, dx, _, _, rfl, hi5, C.c_Store, C.n_Store_numbers, rfl, _, rfl, A.n, _, _, _, _, _, rfl, hn5, hk5, hv5, hj, q n S' H4 hS' fr ex hl' hd'⟩
    | p i j =>
      obtain ⟨a, ts, rfl, ha, hts⟩ := ht
      obtain ⟨qa, rfl, hq⟩ := id hv2
      obtain ⟨za, da⟩ := hz.ok i a ha
      obtain ⟨zt, dt⟩ := hz.ok j _ hts
      refine ⟨_, rfl, _, .ty "str", _, _, false, rfl, .ty "str", keyIn_ty (k := .p i j) hv2, kit_ty (a := "tuple") (b := "str") (by decide +kernel), _, rfl, iteF ?_⟩
      refine ⟨_, rfl, qa, _, rfl, SqT.of hq, rfl, _, _, rfl, _, _, rfl, rfl, ?_⟩
      refine ⟨_, rfl, A.self, _, dx, _, _, rfl, hi2, C.c_Store, C.n_Store_sizes, rfl, .inl ⟨rfl, _, SqL.of hs2⟩, ?_⟩
      refine ⟨_, rfl, A.self, _, dx, _, _, rfl, hi2, C.c_Store, C.n_Store_sizes, rfl, _, rfl, A.s, _, _, _, rfl, rfl, SqL.of hs2, atI_int za, ?_⟩
      refine ⟨_, rfl, A.self, _, dx, _, _, rfl, hi2, C.c_Store, C.n_Store_sizes, rfl, _, rfl, A.s, _, _, _, rfl, rfl, SqL.of hs2, atI_int zt, _, _, rfl, rfl, _, _, rfl, rfl, _, _, rfl, ?_⟩
      refine ⟨A.s, _, _, rfl, rfl, hs2, by rw [List.length_map, hz.l1]; exact line_lt (by omega), ?_⟩
      generalize g3 : upd H2 A.s _ = H3
      have e3 : H3 A.s = some (.lst ((szs ++ [((min (T.l (a :: ts)).parts 200001 : Nat) : Int)]).map L2.V.int)) := by
        have ez : (if (200000 : Int) + 1 < ((min a.parts 200001 : Nat) : Int) + ((min (T.l ts).parts 200001 : Nat) : Int) then (200000 : Int) + 1 else ((min a.parts 200001 : Nat) : Int) + ((min (T.l ts).parts 200001 : Nat) : Int)) = ((min (T.l (a :: ts)).parts 200001 : Nat) : Int) := by
          rw [parts_cons]
          split <;> omega
        rw [← g3, upd_same, List.map_append, ez] <;> rfl
      have f3 : ∀ b, b ≠ A.s → H3 b = H2 b := fun b hb => by rw [← g3]; exact upd_ne hb
      have hd3 := (f3 A.d (Ne.symm ap.2.2)).trans hd2
      have hi3 := (f3 A.self nIs).trans hi2
      refine ⟨_, rfl, A.self, _, dx, _, _, rfl, hi3, C.c_Store, C.n_Store_depths, rfl, .inl ⟨rfl, _, SqL.of hd3⟩, ?_⟩
      refine ⟨_, rfl, A.self, _, dx, _, _, rfl, hi3, C.c_Store, C.n_Store_depths, rfl, _, rfl, A.d, _, _, _, rfl, rfl, SqL.of hd3, atI_int da, _, _, rfl, rfl, ?_⟩
      refine ⟨_, rfl, A.self, _, dx, _, _, rfl, hi3, C.c_Store, C.n_Store_depths, rfl, _, rfl, A.d, _, _, _, rfl, rfl, SqL.of hd3, atI_int dt, _, _, rfl, _, _, rfl, rfl, _, _, rfl, ?_⟩
      refine ⟨A.d, _, _, rfl, rfl, hd3, by rw [List.length_map, hz.l2]; exact line_lt (by omega), ?_⟩
      generalize g4 : upd H3 A.d _ = H4
      have e4 : H4 A.d = some (.lst ((dps ++ [((min (T.l (a :: ts)).depth 201 : Nat) : Int)]).map L2.V.int)) := by
        have em : (if ((min (T.l ts).depth 201 : Nat) : Int) > ((min a.depth 201 : Nat) : Int) + 1 then ((min (T.l ts).depth 201 : Nat) : Int) else ((min a.depth 201 : Nat) : Int) + 1) = ((max (min a.depth 201 + 1) (min (T.l ts).depth 201) : Nat) : Int) := by
          split <;> omega
        have ez : (if (200 : Int) + 1 < ((max (min a.depth 201 + 1) (min (T.l ts).depth 201) : Nat) : Int) then (200 : Int) + 1 else ((max (min a.depth 201 + 1) (min (T.l ts).depth 201) : Nat) : Int)) = ((min (T.l (a :: ts)).depth 201 : Nat) : Int) := by
          rw [depth_cons]
          split <;> omega
        rw [← g4, upd_same, List.map_append, em, ez] <;> rfl
      have f4 : ∀ b, b ≠ A.d → H4 b = H3 b := fun b hb => by rw [← g4]; exact upd_ne hb
      obtain ⟨n, hj, hn5, hk5, hv5, hi5, S', hS', fr, ex, hl', hd'⟩ := last _ _ H4 rfl rfl ((f4 A.s ap.2.2).trans e3) e4 fun b h1 h2 => (f4 b h2).trans (f3 b h1)
      exact ⟨_, rfl, A.self, _, dx, _, _, rfl, hi5, C.c_Store, C.n_Store_numbers, rfl, _, rfl, A.n, _, _, _, _, _, rfl, hn5, hk5, hv5, hj, q n S' H4 hS' fr ex hl' hd'⟩
  · -- it is there
    obtain ⟨n, hn1⟩ : ∃ n, S[n]? = some k := by
      rw [mkE_at k hlk.symm] at hb
      cases e : S.findIdx? fun e => decide (e = k) with
      | none =>
        rw [e] at hb
        cases hb
      | some j =>
        obtain ⟨h1, h2, _⟩ := List.findIdx?_eq_some_iff_getElem.mp e
        exact ⟨j, by rw [List.getElem?_eq_getElem h1, of_decide_eq_true h2]⟩
    obtain ⟨kv, hkv⟩ : ∃ kv, kvs[n]? = some kv := by
      have l := (List.getElem?_eq_some_iff.mp hn1).1
      exact ⟨kvs[n]'(by omega), List.getElem?_eq_getElem _⟩
    have hj := mkE_get (i := 0) hn1 hkv
    rw [Nat.zero_add] at hj
    exact ⟨_, rfl, A.self, _, dx, _, _, rfl, hi, C.c_Store, C.n_Store_numbers, rfl, _, rfl, A.n, _, _, _, _, _, rfl, hn, keys, hv, hj, q (n + 1) S H hS (Fr4.refl A H) (ExtS.refl S) (Nat.le_succ _) (den_there ht hn1)⟩
/-! ### the small methods -/
def spStoreIs (P : Program) (w : World) (K : PySem.W.Frag) : Sp := fun vs H Q _ => ∃ (A : SA) (S : List Ent) (n : Nat) (t : T), vs = [.ref A.self, .int ((n : Nat) : Int)] ∧ StoreAt P w K A S H ∧ Den S n t ∧ Q (.bl t.isW) H
/-- where a number's entry stands -/
theorem entry_at {A : SA} {S : List Ent} {H : Hp} {n : Nat} {t : T} (hS : StoreAt P w K A S H) (h : Den S n t) : ∃ es v, H A.e = some (.lst es) ∧ es[n]? = some v ∧ TyX K H v (.type (if t.isW then "str" else "tuple")) ∧ (∀ x, t = .w x → v = .str x) ∧
    (∀ a ts, t = .l (a :: ts) → ∃ i j q, v = .ref q ∧ H q = some (.tup [.int ((i : Nat) : Int), .int ((j : Nat) : Int)]) ∧ Den S i a ∧ Den S j (.l ts)) := by
  obtain ⟨wf, ap, ⟨dx, hi⟩, v0, kvs, szs, dps, h0, hlk, he, hn, hs, hd, hk, hz⟩ := hS
  cases h with
  | nil => exact ⟨_, v0, he, rfl, h0.ty, fun x e => (nomatch e), fun a ts e => by cases e⟩
  | @word n x hx =>
    obtain ⟨v, hv⟩ : ∃ v, kvs[n]? = some v := by
      have l := (List.getElem?_eq_some_iff.mp hx).1
      exact ⟨kvs[n]'(by omega), List.getElem?_eq_getElem _⟩
    have q := hk n _ v hx hv
    exact ⟨_, v, he, hv, keyIn_ty (k := .w x) q, fun y e => by
      obtain ⟨q1, _⟩ := q
      rw [q1, T.w.inj e], fun a ts e => (nomatch e)⟩
  | @pair n i j a ts hx h1 h2 =>
    obtain ⟨v, hv⟩ : ∃ v, kvs[n]? = some v := by
      have l := (List.getElem?_eq_some_iff.mp hx).1
      exact ⟨kvs[n]'(by omega), List.getElem?_eq_getElem _⟩
    have q := hk n _ v hx hv
    refine ⟨_, v, he, hv, keyIn_ty (k := .p i j) q, fun y e => (nomatch e), fun b bs e => ?_⟩
    obtain ⟨q1, e1, hq⟩ := q
    injection e with e
    injection e with e2 e3
    subst e2 e3
    exact ⟨i, j, q1, e1, hq, h1, h2⟩
theorem ok_store_is : MOk P w K mg base 1 (He.ga K "Store") "is_word" ["self", "number"] (spStoreIs P w K) := by
  refine mok C.f_Store_is_word C.h_Store_is_word (fun _ _ _ _ _ _ us hl => match us, hl with | [_, _], _ => rfl) sc_Store_is_word (fun vs H Q E h => ?_) (fun f cdv A outer s H vs Q E hr h => ?_)
  · obtain ⟨A, S, n, t, rfl, _⟩ := h
    rfl
  obtain ⟨A, S, n, t, rfl, hS, hn, q⟩ := h
  obtain ⟨es, v, he, hv, ty, _⟩ := entry_at C hS hn
  obtain ⟨dx, hi⟩ := hS.ins
  refine ⟨_, (pss_one (ps_ret (pe_callB call_isi (by rfl) C.z_isinstance (by decide +kernel) (pa_cons (pe_ix ix_list (pe_fld (pv 0) rfl) (pv 1) (fun _ _ => rfl)) (pa_cons (pe_bltn (v := .ty "str") (by rfl) C.z_str (by decide +kernel) rfl) pa_nil))))), ?_⟩
  refine ⟨_, rfl, A.self, _, dx, _, _, rfl, hi, C.c_Store, C.n_Store_entries, rfl, _, rfl, A.e, es, _, v, rfl, rfl, SqL.of he, atI_nat hv, v, .ty "str", _, _, t.isW, rfl, .ty "str", ty, ?_, q⟩
  cases t with
  | w x => exact kit_ty (a := "str") (b := "str") (r := true) (by decide +kernel)
  | l xs => exact kit_ty (a := "tuple") (b := "str") (r := false) (by decide +kernel)
def spStoreFst (P : Program) (w : World) (K : PySem.W.Frag) (f : T → T) : Sp := fun vs H Q _ => ∃ (A : SA) (S : List Ent) (n : Nat) (t : T), vs = [.ref A.self, .int ((n : Nat) : Int)] ∧ StoreAt P w K A S H ∧ Den S n t ∧ ∀ m : Nat, Den S m (f t) → Q (.int ((m : Nat) : Int)) H
theorem ok_first : MOk P w K mg base 2 (He.ga K "Store") "first" ["self", "number"] (spStoreFst P w K T.hd) := by
  have M_is_word := ok_store_is C (P := P) (base := base)
  refine mok C.f_Store_first C.h_Store_first (fun _ _ _ _ _ _ us hl => match us, hl with | [_, _], _ => rfl) sc_Store_first (fun vs H Q E h => ?_) (fun f cdv A outer s H vs Q E hr h => ?_)
  · obtain ⟨A, S, n, t, rfl, _⟩ := h
    rfl
  obtain ⟨A, S, n, t, rfl, hS, hn, q⟩ := h
  obtain ⟨dx, hi⟩ := hS.ins
  obtain ⟨es, v, he, hv, ty, _, hp⟩ := entry_at C hS hn
  refine ⟨_, (pss_cons (ps_if (PW.pt (pw_or (pt_cmpR op_eq (pv 1) (pe_gi (by rfl) C.i_EMPTY) (nomark _)) (pw_or1 (pt_val (pe_mt (pv 0) C.c_Store M_is_word (hr.mono (by decide)) (pa_cons (pv 1) pa_nil)))))) (pss_one (ps_ret (pe_gi (by rfl) C.i_EMPTY))) pss_nil)
  (pss_one (ps_ret (pe_ix ix_tup (pe_ix ix_list (pe_fld (pv 0) rfl) (pv 1) (fun _ _ => rfl)) pe_int (fun _ _ => rfl))))), ?_⟩
  refine ⟨_, rfl, rfl, _, rfl, ite_b (fun hb => ?_) (fun hb => ?_)⟩
  · have e0 : n = 0 := by simpa using hb
    subst e0
    cases hn
    exact q 0 .nil
  · refine ⟨_, rfl, A.self, dx, _, rfl, hi, rfl, _, rfl, A, S, n, t, rfl, hS, hn, _, rfl, ite_b (fun hw => ?_) (fun hw => ?_)⟩
    · cases t with
      | w x => exact q 0 .nil
      | l xs => cases hw
    · cases t with
      | w x => cases hw
      | l xs => cases xs with
        | nil =>
          have e0 := hn.inj hS.wf .nil
          subst e0
          simp at hb
        | cons b bs =>
          obtain ⟨i, j, p, rfl, hpp, di, dj⟩ := hp b bs rfl
          exact ⟨_, rfl, A.self, _, dx, _, _, rfl, hi, C.c_Store, C.n_Store_entries, rfl, _, rfl, A.e, es, _, _, rfl, rfl, SqL.of he, atI_nat hv, p, _, _, _, rfl, rfl, SqT.of hpp, rfl, q i di⟩
theorem ok_rest : MOk P w K mg base 2 (He.ga K "Store") "rest" ["self", "number"] (spStoreFst P w K T.tl) := by
  have M_is_word := ok_store_is C (P := P) (base := base)
  refine mok C.f_Store_rest C.h_Store_rest (fun _ _ _ _ _ _ us hl => match us, hl with | [_, _], _ => rfl) sc_Store_rest (fun vs H Q E h => ?_) (fun f cdv A outer s H vs Q E hr h => ?_)
  · obtain ⟨A, S, n, t, rfl, _⟩ := h
    rfl
  obtain ⟨A, S, n, t, rfl, hS, hn, q⟩ := h
  obtain ⟨dx, hi⟩ := hS.ins
  obtain ⟨es, v, he, hv, ty, _, hp⟩ := entry_at C hS hn
  refine ⟨_, (pss_cons (ps_if (PW.pt (pw_or (pt_cmpR op_eq (pv 1) (pe_gi (by rfl) C.i_EMPTY) (nomark _)) (pw_or1 (pt_val (pe_mt (pv 0) C.c_Store M_is_word (hr.mono (by decide)) (pa_cons (pv 1) pa_nil)))))) (pss_one (ps_ret (pe_gi (by rfl) C.i_EMPTY))) pss_nil)
  (pss_one (ps_ret (pe_ix ix_tup (pe_ix ix_list (pe_fld (pv 0) rfl) (pv 1) (fun _ _ => rfl)) pe_int (fun _ _ => rfl))))), ?_⟩
  refine ⟨_, rfl, rfl, _, rfl, ite_b (fun hb => ?_) (fun hb => ?_)⟩
  · have e0 : n = 0 := by simpa using hb
    subst e0
    cases hn
    exact q 0 .nil
  · refine ⟨_, rfl, A.self, dx, _, rfl, hi, rfl, _, rfl, A, S, n, t, rfl, hS, hn, _, rfl, ite_b (fun hw => ?_) (fun hw => ?_)⟩
    · cases t with
      | w x => exact q 0 .nil
      | l xs => cases hw
    · cases t with
      | w x => cases hw
      | l xs => cases xs with
        | nil =>
          have e0 := hn.inj hS.wf .nil
          subst e0
          simp at hb
        | cons b bs =>
          obtain ⟨i, j, p, rfl, hpp, di, dj⟩ := hp b bs rfl
          exact ⟨_, rfl, A.self, _, dx, _, _, rfl, hi, C.c_Store, C.n_Store_entries, rfl, _, rfl, A.e, es, _, _, rfl, rfl, SqL.of he, atI_nat hv, p, _, _, _, rfl, rfl, SqT.of hpp, rfl, q j dj⟩
def spPairUp (P : Program) (w : World) (K : PySem.W.Frag) : Sp := fun vs H Q _ => ∃ (A : SA) (S : List Ent) (n m : Nat) (t u : T), vs = [.ref A.self, .int ((n : Nat) : Int), .int ((m : Nat) : Int)] ∧ StoreAt P w K A S H ∧ Den S n t ∧ Den S m u ∧ S.length ≤ 15000000 ∧
  ∀ (k : Nat) (S' : List Ent) (H' : Hp), StoreAt P w K A S' H' → Fr4 A H H' → ExtS S S' → S'.length ≤ S.length + 1 → Den S' k (T.cons t u) → Q (.int ((k : Nat) : Int)) H'
theorem ok_pair_up : MOk P w K mg base 2 (He.ga K "Store") "pair_up" ["self", "item", "items"] (spPairUp P w K) := by
  have M_is_word := ok_store_is C (P := P) (base := base)
  have M_number_of := ok_number_of C (P := P) (base := base)
  refine mok C.f_Store_pair_up C.h_Store_pair_up (fun _ _ _ _ _ _ us hl => match us, hl with | [_, _, _], _ => rfl) sc_Store_pair_up (fun vs H Q E h => ?_) (fun f cdv A outer s H vs Q E hr h => ?_)
  · obtain ⟨A, S, n, m, t, u, rfl, _⟩ := h
    rfl
  obtain ⟨A, S, n, m, t, u, rfl, hS, hn, hm, hl, q⟩ := h
  obtain ⟨dx, hi⟩ := hS.ins
  refine ⟨_, (pss_cons (ps_if (pt_val (pe_mt (pv 0) C.c_Store M_is_word (hr.mono (by decide)) (pa_cons (pv 2) pa_nil))) (pss_one (ps_set (i := 2) sc_Store_pair_up.nd rfl (Or.inl rfl) (pe_gi (by rfl) C.i_EMPTY))) pss_nil)
  (pss_one (ps_ret (pe_mt (pv 0) C.c_Store M_number_of (hr.mono (by decide)) (pa_cons (pe_tup (pa_cons (pv 1) (pa_cons (pv 2) pa_nil))) pa_nil))))), ?_⟩
  have fin : ∀ m' : Nat, Den S m' (.l u.items) → ∀ p, H p = none → spNumberOf P w K [.ref A.self, .ref p] (upd H p (.tup [.int ((n : Nat) : Int), .int ((m' : Nat) : Int)])) Q E := fun m' hm' p hp =>
    ⟨A, S, .p n m', _, T.cons t u, rfl, hS.same (same_new hp _), ⟨p, rfl, upd_same⟩, ⟨t, u.items, rfl, hn, hm'⟩, hl, fun k S' H' h1 h2 h3 h4 h5 => q k S' H' h1 ((Fr4.same (same_new hp _)).trans h2) h3 h4 h5⟩
  refine ⟨_, rfl, A.self, dx, _, rfl, hi, rfl, _, rfl, A, S, m, u, rfl, hS, hm, _, rfl, ite_b (fun hw => ?_) (fun hw => ?_)⟩
  · cases u with
    | l xs => cases hw
    | w x => exact ⟨_, rfl, A.self, dx, _, rfl, hi, rfl, _, rfl, _, rfl, by show 2 ≤ sizeLine; decide, fun p hp => fin 0 .nil p hp⟩
  · cases u with
    | w x => cases hw
    | l xs => exact ⟨_, rfl, A.self, dx, _, rfl, hi, rfl, _, rfl, _, rfl, by show 2 ≤ sizeLine; decide, fun p hp => fin m hm p hp⟩
/-- a new table -/
def spStoreInit (P : Program) (w : World) (K : PySem.W.Frag) : Sp := fun vs H Q _ => ∃ x dx, vs = [.ref x] ∧ H x = some (.ins (He.ga K "Store") dx []) ∧
  ∀ (A : SA) (H' : Hp), A.self = x → StoreAt P w K A [] H' → (∀ b o, H b = some o → b ≠ x → H' b = some o) → H A.e = none → H A.n = none → H A.s = none → H A.d = none → Q .non H'
theorem ok_store_init : ∃ f fd, FnOk P w K mg base CX0 1 f fd ["self"] (spStoreInit P w K) ∧ Binds K fd ["self"] [] ∧ Mk K (He.ga K "Store") f := by
  obtain ⟨fd, F⟩ := C.f_Store_init
  refine ⟨_, fd, F.ok sc_Store_init (fun vs H Q E h => ?_) (fun cdv A outer s H vs Q E hr h => ?_), F.bindsN fun _ _ _ _ _ _ us hl => match us, hl with | [_], _ => rfl, C.m_Store⟩
  · obtain ⟨x, dx, rfl, _⟩ := h
    rfl
  obtain ⟨x, dx, rfl, hx, q⟩ := h
  refine ⟨_, PSs.nox (pss_cons (ps_fld (pv 0) (pe_lst (pa_cons (pe_tup pa_nil) pa_nil)) rfl)
  (pss_cons (ps_fld (pv 0) pe_newM rfl)
  (pss_cons (ps_fld (pv 0) (pe_lst (pa_cons pe_int pa_nil)) rfl)
  (pss_one (ps_fld (pv 0) (pe_lst (pa_cons pe_int pa_nil)) rfl))))), ?_⟩
  refine ⟨Nat.zero_le _, fun p0 n0 => ⟨by show 1 ≤ sizeLine; decide, fun p1 n1 => ?_⟩⟩
  have a0 : p0 ≠ x := ne_of_none hx n0 |>.symm
  have hx1 : upd (upd H p0 (.tup [])) p1 (.lst [.ref p0]) x = some (.ins (He.ga K "Store") dx []) := by
    have z : x ≠ p1 := fun e => by
      subst e
      rw [upd_ne a0.symm, hx] at n1
      cases n1
    rw [upd_ne z, upd_ne a0.symm, hx]
  refine ⟨_, rfl, x, _, dx, [], rfl, hx1, C.c_Store, C.n_Store_entries, by show 0 < 1000; decide, ?_⟩
  have hk1 : Same H (upd (upd H p0 (.tup [])) p1 (.lst [.ref p0])) := fun b o e => by
    rw [upd_ne (ne_of_none (same_new n0 _ b o e) n1), upd_ne (ne_of_none e n0), e]
  have hp0 : upd (upd H p0 (.tup [])) p1 (.lst [.ref p0]) p0 = some (.tup []) := by
    rw [upd_ne (ne_of_none upd_same n1), upd_same]
  have hpe : upd (upd H p0 (.tup [])) p1 (.lst [.ref p0]) p1 = some (.lst [.ref p0]) := upd_same
  generalize upd (upd H p0 (.tup [])) p1 (.lst [.ref p0]) = H1 at hk1 hp0 hpe hx1 ⊢
  have np1 : H p1 = none := by
    cases e : H p1 with
    | none => rfl
    | some o => rw [upd_ne (ne_of_none e n0), e] at n1; cases n1
  have x1 : x ≠ p1 := ne_of_none hx np1
  have f1 : ∀ b o, H b = some o → b ≠ x → H1 b = some o := fun b o e _ => hk1 b o e
  generalize g2 : upd H1 x _ = H2
  have e2 : H2 x = some (.ins (He.ga K "Store") dx [("entries", .ref p1)]) := by rw [← g2]; exact upd_same
  have f2 : ∀ b, b ≠ x → H2 b = H1 b := fun b hb => by rw [← g2]; exact upd_ne hb
  intro p2 n2
  have x2 : x ≠ p2 := ne_of_none e2 n2
  refine ⟨_, rfl, x, _, dx, _, rfl, (upd_ne x2).trans e2, C.c_Store, C.n_Store_numbers, by show 1 < 1000; decide, ?_⟩
  generalize g3 : upd (upd H2 p2 _) x _ = H3
  have e3 : H3 x = some (.ins (He.ga K "Store") dx [("entries", .ref p1), ("numbers", .ref p2)]) := by rw [← g3, upd_same, putF_new rfl] <;> rfl
  have d3 : H3 p2 = some (mixHO P w p2 []) := by rw [← g3, upd_ne x2.symm]; exact upd_same
  have f3 : ∀ b, b ≠ x → b ≠ p2 → H3 b = H2 b := fun b hb hb2 => by rw [← g3, upd_ne hb, upd_ne hb2]
  refine ⟨by show 1 ≤ sizeLine; decide, fun p3 n3 => ?_⟩
  have x3 : x ≠ p3 := ne_of_none e3 n3
  refine ⟨_, rfl, x, _, dx, _, rfl, (upd_ne x3).trans e3, C.c_Store, C.n_Store_sizes, by show 2 < 1000; decide, ?_⟩
  generalize g4 : upd (upd H3 p3 _) x _ = H4
  have e4 : H4 x = some (.ins (He.ga K "Store") dx [("entries", .ref p1), ("numbers", .ref p2), ("sizes", .ref p3)]) := by rw [← g4, upd_same, putF_new rfl] <;> rfl
  have d4 : H4 p3 = some (.lst [.int 1]) := by rw [← g4, upd_ne x3.symm]; exact upd_same
  have f4 : ∀ b, b ≠ x → b ≠ p3 → H4 b = H3 b := fun b hb hb2 => by rw [← g4, upd_ne hb, upd_ne hb2]
  refine ⟨by show 1 ≤ sizeLine; decide, fun p4 n4 => ?_⟩
  have x4 : x ≠ p4 := ne_of_none e4 n4
  refine ⟨_, rfl, x, _, dx, _, rfl, (upd_ne x4).trans e4, C.c_Store, C.n_Store_depths, by show 3 < 1000; decide, ?_⟩
  generalize g5 : upd (upd H4 p4 _) x _ = H5
  have e5 : H5 x = some (.ins (He.ga K "Store") dx (sfields ⟨x, p1, p2, p3, p4⟩)) := by rw [← g5, upd_same, putF_new rfl] <;> rfl
  have d5 : H5 p4 = some (.lst [.int 1]) := by rw [← g5, upd_ne x4.symm]; exact upd_same
  have f5 : ∀ b, b ≠ x → b ≠ p4 → H5 b = H4 b := fun b hb hb2 => by rw [← g5, upd_ne hb, upd_ne hb2]
  have a1 : H2 p1 = some (.lst [.ref p0]) := (f2 _ x1.symm).trans hpe
  have a2 : H2 p0 = some (.tup []) := (f2 _ a0).trans hp0
  have p12 : p1 ≠ p2 := ne_of_none a1 n2
  have p02 : p0 ≠ p2 := ne_of_none a2 n2
  have b1 : H3 p1 = some (.lst [.ref p0]) := (f3 _ x1.symm p12).trans a1
  have b0 : H3 p0 = some (.tup []) := (f3 _ a0 p02).trans a2
  have p13 := ne_of_none b1 n3
  have p03 := ne_of_none b0 n3
  have p23 := ne_of_none d3 n3
  have c1 := (f4 _ x1.symm p13).trans b1
  have c0 := (f4 _ a0 p03).trans b0
  have c2 := (f4 _ x2.symm p23).trans d3
  have p14 := ne_of_none c1 n4
  have p04 := ne_of_none c0 n4
  have p24 := ne_of_none c2 n4
  have p34 := ne_of_none d4 n4
  have np2 : H p2 = none := none_of f1 (fun b o e hb => (f2 b hb).trans e) x2.symm n2
  have k2 : ∀ b o, H b = some o → b ≠ x → H2 b = some o := fun b o e hb => (f2 b hb).trans (f1 b o e hb)
  have k3 : ∀ b o, H b = some o → b ≠ x → H3 b = some o := fun b o e hb => (f3 b hb (ne_of_none e np2)).trans (k2 b o e hb)
  have np3 : H p3 = none := none_of k3 (fun b o e hb => e) x3.symm n3
  have k4 : ∀ b o, H b = some o → b ≠ x → H4 b = some o := fun b o e hb => (f4 b hb (ne_of_none e np3)).trans (k3 b o e hb)
  have np4 : H p4 = none := none_of k4 (fun b o e hb => e) x4.symm n4
  have k5 : ∀ b o, H b = some o → b ≠ x → H5 b = some o := fun b o e hb => (f5 b hb (ne_of_none e np4)).trans (k4 b o e hb)
  refine q ⟨x, p1, p2, p3, p4⟩ H5 rfl ⟨⟨List.nodup_nil, fun n y e => by simp at e, fun n i j e => by simp at e⟩, ⟨p13, p14, p34⟩, ⟨dx, e5⟩, .ref p0, [], [1], [1], ⟨p0, [], rfl, SqT.of ((f5 _ a0 p04).trans c0), rfl⟩, rfl, (f5 _ x1.symm p14).trans c1, (f5 _ x2.symm p24).trans c2, (f5 _ x3.symm p34).trans d4, d5, fun n k v e => by simp at e, SizesOk.start⟩ k5 np1 np2 np3 np4
end
end K35
end

section
set_option Elab.async false
set_option linter.all false
set_option maxRecDepth 100000
namespace K35
open PySem PySem.Spec PyProof.Rows L2
/-! ### two lists side by side -/
def All2 {α β : Type} (R : α → β → Prop) : List α → List β → Prop
  | [], ys => ys = []
  | x :: xs, ys => ∃ y r, ys = y :: r ∧ R x y ∧ All2 R xs r
section
variable {α β : Type} {R R' : α → β → Prop}
theorem All2.nil : All2 R [] [] := rfl
theorem All2.cons {x : α} {y : β} {xs : List α} {ys : List β} (h : R x y) (t : All2 R xs ys) : All2 R (x :: xs) (y :: ys) := ⟨y, ys, rfl, h, t⟩
theorem All2.mono (f : ∀ x y, R x y → R' x y) : ∀ {xs : List α} {ys : List β}, All2 R xs ys → All2 R' xs ys
  | [], _, h => h
  | _ :: _, _, ⟨y, r, e, h, t⟩ => ⟨y, r, e, f _ _ h, t.mono f⟩
theorem All2.length : ∀ {xs : List α} {ys : List β}, All2 R xs ys → ys.length = xs.length
  | [], _, h => by
    have e : _ = [] := h
    rw [e] <;> rfl
  | _ :: _, _, ⟨y, r, e, _, t⟩ => by rw [e, List.length_cons, List.length_cons, t.length]
theorem All2.append : ∀ {xs us : List α} {ys vs : List β}, All2 R xs ys → All2 R us vs → All2 R (xs ++ us) (ys ++ vs)
  | [], _, _, _, h, g => by
    have e : _ = [] := h
    rw [e]
    exact g
  | _ :: _, _, _, vs, ⟨y, r, e, h, t⟩, g => ⟨y, r ++ vs, by rw [e] <;> rfl, h, t.append g⟩
theorem All2.one {x : α} {y : β} (h : R x y) : All2 R [x] [y] := ⟨y, [], rfl, h, rfl⟩
theorem All2.snoc {xs : List α} {ys : List β} {x : α} {y : β} (t : All2 R xs ys) (h : R x y) : All2 R (xs ++ [x]) (ys ++ [y]) := t.append (.one h)
theorem All2.reverse : ∀ {xs : List α} {ys : List β}, All2 R xs ys → All2 R xs.reverse ys.reverse
  | [], _, h => by
    have e : _ = [] := h
    rw [e]
    exact rfl
  | _ :: _, _, ⟨y, r, e, h, t⟩ => by
    rw [e, List.reverse_cons, List.reverse_cons]
    exact t.reverse.snoc h
theorem All2.get : ∀ {xs : List α} {ys : List β} {i : Nat} {x : α}, All2 R xs ys → xs[i]? = some x → ∃ y, ys[i]? = some y ∧ R x y
  | x :: _, _, 0, t, ⟨v, r, e, h, _⟩, q => by
    have q' : x = t := Option.some.inj q
    subst q'
    exact ⟨v, by rw [e] <;> rfl, h⟩
  | _ :: ts, _, i + 1, t, ⟨v, r, e, _, h⟩, q => by
    obtain ⟨u, h1, h2⟩ := All2.get (i := i) h (show ts[i]? = some t from q)
    exact ⟨u, by rw [e]; exact h1, h2⟩
theorem All2.getV : ∀ {xs : List α} {ys : List β} {i : Nat} {y : β}, All2 R xs ys → ys[i]? = some y → ∃ x, xs[i]? = some x ∧ R x y
  | [], _, i, v, h, q => by
    have e : _ = [] := h
    rw [e] at q
    simp at q
  | x :: _, _, 0, v, ⟨u, r, e, h, _⟩, q => by
    rw [e] at q
    have q' : u = v := Option.some.inj q
    subst q'
    exact ⟨x, rfl, h⟩
  | _ :: ts, _, i + 1, v, ⟨u, r, e, _, h⟩, q => by
    rw [e] at q
    exact All2.getV (i := i) h (show r[i]? = some v from q)
theorem All2.drop : ∀ {xs : List α} {ys : List β} (n : Nat), All2 R xs ys → All2 R (xs.drop n) (ys.drop n)
  | _, _, 0, h => h
  | [], _, _ + 1, h => by
    have e : _ = [] := h
    rw [e]
    exact rfl
  | _ :: _, _, n + 1, ⟨v, r, e, _, t⟩ => by
    rw [e]
    exact t.drop n
theorem All2.take : ∀ {xs : List α} {ys : List β} (n : Nat), All2 R xs ys → All2 R (xs.take n) (ys.take n)
  | _, _, 0, h => rfl
  | [], _, _ + 1, h => by
    have e : _ = [] := h
    rw [e]
    exact rfl
  | _ :: _, _, n + 1, ⟨v, r, e, h, t⟩ => by
    rw [e]
    exact ⟨v, _, rfl, h, t.take n⟩
theorem All2.split : ∀ {xs us : List α} {ys : List β}, All2 R (xs ++ us) ys → ∃ y1 y2, ys = y1 ++ y2 ∧ All2 R xs y1 ∧ All2 R us y2
  | [], _, ys, h => ⟨[], ys, rfl, rfl, h⟩
  | _ :: _, _, _, ⟨v, r, e, h, t⟩ => by
    obtain ⟨y1, y2, e2, h1, h2⟩ := All2.split t
    exact ⟨v :: y1, y2, by rw [e, e2] <;> rfl, ⟨v, y1, rfl, h, h1⟩, h2⟩
end
/-! ### frames -/
section
variable {P : Program} {w : World} {K : PySem.W.Frag} {A : SA} {S : List Ent} {H H0 H' : Hp} {p : Addr}
theorem Fr4.new {o : HO} (f : Fr4 A H0 H) (hp : H0 p = none) : Fr4 A H0 (upd H p o) := fun b u e h1 h2 h3 h4 => by
  rw [upd_ne (ne_of_none e hp)]
  exact f b u e h1 h2 h3 h4
theorem StoreAt.ne (x : StoreAt P w K A S H) (hp : H p = none) : p ≠ A.self ∧ p ≠ A.e ∧ p ≠ A.n ∧ p ≠ A.s ∧ p ≠ A.d := by
  obtain ⟨wf, ap, ⟨dx, hi⟩, v0, kvs, szs, dps, h0, hl, he, hn, hs, hd, hk, hz⟩ := x
  exact ⟨(ne_of_none hi hp).symm, (ne_of_none he hp).symm, (ne_of_none hn hp).symm, (ne_of_none hs hp).symm, (ne_of_none hd hp).symm⟩
theorem StoreAt.upd {o : HO} (x : StoreAt P w K A S H) (h : p ≠ A.self ∧ p ≠ A.e ∧ p ≠ A.n ∧ p ≠ A.s ∧ p ≠ A.d) (hp : NoTup (H p)) : StoreAt P w K A S (upd H p o) :=
  x.off (M := fun b => b = p) (fun b u e n => by rw [upd_ne n]; exact e) fun b e => by
    subst e
    exact ⟨h.1, h.2.1, h.2.2.1, h.2.2.2.1, h.2.2.2.2, hp⟩
theorem StoreAt.notup (x : StoreAt P w K A S H) : NoTup (H A.e) ∧ NoTup (H A.n) ∧ NoTup (H A.s) ∧ NoTup (H A.d) := by
  obtain ⟨wf, ap, ⟨dx, hi⟩, v0, kvs, szs, dps, h0, hl, he, hn, hs, hd, hk, hz⟩ := x
  rw [he, hn, hs, hd]
  exact ⟨NoTup.lst, NoTup.ext, NoTup.lst, NoTup.lst⟩
theorem Fr4.tk (x : StoreAt P w K A S H) (f : Fr4 A H H') : Tk H H' := fun a xs r => by
  obtain ⟨h1, h2, h3, h4⟩ := x.notup
  have ne : ∀ {q}, NoTup (H q) → a ≠ q := fun {q} n e => by
    subst e
    rcases r with r | ⟨b, r⟩
    · exact (n xs).1 r
    · exact (n xs).2 b r
  rcases r with r | ⟨b, r⟩
  · exact .inl (f _ _ r (ne h1) (ne h2) (ne h3) (ne h4))
  · exact .inr ⟨b, f _ _ r (ne h1) (ne h2) (ne h3) (ne h4)⟩
end
/-! ### the walk of put -/
mutual
/-- the entries that a value may bring -/
def T.ent : T → Nat
  | .w _ => 1
  | .l xs => T.ents xs
def T.ents : List T → Nat
  | [] => 0
  | x :: xs => x.ent + 1 + T.ents xs
end
mutual
theorem T.ent_le : ∀ t : T, t.ent + 1 ≤ 2 * t.parts
  | .w _ => by simp [T.ent, T.parts]
  | .l xs => by
    have q := T.ents_le xs
    show T.ents xs + 1 ≤ 2 * (T.partss xs + 1)
    omega
theorem T.ents_le : ∀ xs : List T, T.ents xs ≤ 2 * T.partss xs
  | [] => Nat.le_refl _
  | x :: xs => by
    have q := T.ent_le x
    have r := T.ents_le xs
    show x.ent + 1 + T.ents xs ≤ 2 * (x.parts + T.partss xs)
    omega
end
abbrev WE := T × Bool
def wmu : List WE → Nat
  | [] => 0
  | (t, b) :: r => (if b then 1 else 2 * t.parts) + wmu r
def wrem : List WE → Nat
  | [] => 0
  | (t, b) :: r => (if b then t.items.length else t.ent) + wrem r
/-- all that waits done makes t -/
def Fin2 (t : T) : List WE → List T → Prop
  | [], m => m = [t]
  | (v, false) :: r, m => Fin2 t r (v :: m)
  | (v, true) :: r, m => ∃ xs m', v = .l xs ∧ m = xs ++ m' ∧ Fin2 t r (v :: m')
theorem Fin2.push {t : T} : ∀ (xs : List T) {r : List WE} {m : List T}, Fin2 t (xs.map (·, false) ++ r) m ↔ Fin2 t r (xs.reverse ++ m)
  | [], _, _ => Iff.rfl
  | x :: xs, r, m => by
    show Fin2 t (xs.map (·, false) ++ r) (x :: m) ↔ _
    rw [Fin2.push xs, List.reverse_cons, List.append_assoc]
    exact Iff.rfl
theorem wmu_app : ∀ (a b : List WE), wmu (a ++ b) = wmu a + wmu b
  | [], b => (Nat.zero_add _).symm
  | (t, x) :: a, b => by
    show _ + wmu (a ++ b) = _ + wmu a + wmu b
    rw [wmu_app a b, Nat.add_assoc]
theorem wrem_app : ∀ (a b : List WE), wrem (a ++ b) = wrem a + wrem b
  | [], b => (Nat.zero_add _).symm
  | (t, x) :: a, b => by
    show _ + wrem (a ++ b) = _ + wrem a + wrem b
    rw [wrem_app a b, Nat.add_assoc]
theorem partss_rev : ∀ xs : List T, T.partss xs.reverse = T.partss xs
  | [] => rfl
  | x :: xs => by
    have h : ∀ a b : List T, T.partss (a ++ b) = T.partss a + T.partss b := fun a b => by
      induction a with
      | nil => exact (Nat.zero_add _).symm
      | cons y a ih =>
        show y.parts + T.partss (a ++ b) = y.parts + T.partss a + T.partss b
        rw [ih, Nat.add_assoc]
    rw [List.reverse_cons, h, partss_rev xs]
    show T.partss xs + (x.parts + 0) = x.parts + T.partss xs
    omega
theorem wmu_map : ∀ xs : List T, wmu (xs.map (·, false)) = 2 * T.partss xs
  | [] => rfl
  | x :: xs => by
    show 2 * x.parts + wmu (xs.map (·, false)) = 2 * (x.parts + T.partss xs)
    rw [wmu_map xs]
    omega
theorem wrem_map : ∀ xs : List T, wrem (xs.map (·, false)) + xs.length = T.ents xs
  | [] => rfl
  | x :: xs => by
    have q := wrem_map xs
    show x.ent + wrem (xs.map (·, false)) + (xs.length + 1) = x.ent + 1 + T.ents xs
    omega
theorem ents_app : ∀ a b : List T, T.ents (a ++ b) = T.ents a + T.ents b
  | [], b => (Nat.zero_add _).symm
  | y :: a, b => by
    show y.ent + 1 + T.ents (a ++ b) = y.ent + 1 + T.ents a + T.ents b
    rw [ents_app a b]
    omega
theorem ents_rev : ∀ xs : List T, T.ents xs.reverse = T.ents xs
  | [] => rfl
  | x :: xs => by
    rw [List.reverse_cons, ents_app, ents_rev xs]
    show T.ents xs + (x.ent + 1 + 0) = x.ent + 1 + T.ents xs
    omega
theorem wlen_le : ∀ wt : List WE, wt.length ≤ wmu wt
  | [] => Nat.le_refl _
  | (t, b) :: r => by
    have q := wlen_le r
    have p := T.parts_pos t
    show r.length + 1 ≤ (if b = true then 1 else 2 * t.parts) + wmu r
    cases b
    · show r.length + 1 ≤ 2 * t.parts + wmu r
      omega
    · show r.length + 1 ≤ 1 + wmu r
      omega
def WtR (K : PySem.W.Frag) (H : Hp) : WE → L2.V → Prop := fun e v => ∃ q u, v = .ref q ∧ SqT K H q [u, .bl e.2] ∧ TV K H e.1 u
theorem WtR.mono {K : PySem.W.Frag} {H H' : Hp} (k : Tk H H') {e : WE} {v : L2.V} : WtR K H e v → WtR K H' e v := fun ⟨q, u, h1, h2, h3⟩ => ⟨q, u, h1, k.sqt h2, h3.mono k⟩
theorem upd_none {H : Hp} {p q : Addr} {o : HO} (h : upd H p o q = none) : H q = none ∧ q ≠ p := by
  by_cases e : q = p
  · subst e
    rw [upd_same] at h
    cases h
  · rw [upd_ne e] at h
    exact ⟨h, e⟩
theorem SqT.take_get {xs : List T} {i : Nat} (h : i < xs.length) : xs.take (i + 1) = xs.take i ++ [xs[i]] := by
  rw [List.take_succ, List.getElem?_eq_getElem h]
  rfl
theorem T.len_partss : ∀ xs : List T, xs.length ≤ T.partss xs
  | [] => Nat.le_refl _
  | x :: xs => by
    have q := T.parts_pos x
    have r := T.len_partss xs
    show xs.length + 1 ≤ x.parts + T.partss xs
    omega
theorem Tk.but {H H' : Hp} {p : Addr} (n : NoTup (H p)) (f : ∀ b o, H b = some o → b ≠ p → H' b = some o) : Tk H H' := fun a xs r => by
  have ne : a ≠ p := fun e => by
    subst e
    rcases r with r | ⟨b, r⟩
    · exact (n xs).1 r
    · exact (n xs).2 b r
  rcases r with r | ⟨b, r⟩
  · exact .inl (f _ _ r ne)
  · exact .inr ⟨b, f _ _ r ne⟩
theorem oks_mem : ∀ {xs : List T}, T.oks xs = true → ∀ x ∈ xs, x.ok = true
  | [], _, _, h => (List.not_mem_nil h).elim
  | y :: ys, h, x, hx => by
    simp only [T.oks, Bool.and_eq_true] at h
    rcases List.mem_cons.mp hx with e | hx
    · rw [e]
      exact h.1
    · exact oks_mem h.2 x hx
def nums (ns : List Nat) : List L2.V := ns.map fun n : Nat => L2.V.int (n : Int)
theorem nums_get {ns : List Nat} {i n : Nat} (h : ns[i]? = some n) : (nums ns)[i]? = some (.int (n : Int)) := by
  show (ns.map _)[i]? = _
  rw [List.getElem?_map, h]
  rfl
theorem nums_take {ns : List Nat} {i : Nat} (h : i < ns.length) : nums (ns.take (i + 1)) = nums (ns.take i) ++ [.int ((ns[i] : Nat) : Int)] := by
  rw [List.take_succ, List.getElem?_eq_getElem h]
  show List.map _ (_ ++ _) = _
  rw [List.map_append]
  rfl
theorem nums_len (ns : List Nat) : (nums ns).length = ns.length := List.length_map ..
theorem sc_Store_put : FnScope ["self", "value", "waiting", "made", "one", "is_ready", "found", "items", "item", "_"] ["self", "value"] (defScope s_Store_put) := ⟨rfl, rfl, rfl, by decide +kernel, rfl, by decide +kernel, by decide +kernel⟩
section
variable {P : Program} {w : World} {K : PySem.W.Frag} {mg : Str → Option Value} {base : Heap} (C : Ctx w K mg)
include C
def spPut (P : Program) (w : World) (K : PySem.W.Frag) : Sp := fun vs H Q _ => ∃ (A : SA) (S : List Ent) (t : T) (v : L2.V), vs = [.ref A.self, v] ∧ StoreAt P w K A S H ∧ TV K H t v ∧ t.ok = true ∧ t.parts ≤ 500000 ∧ S.length ≤ 13000000 ∧
  ∀ (n : Nat) (S' : List Ent) (H' : Hp), StoreAt P w K A S' H' → Fr4 A H H' → ExtS S S' → S'.length ≤ S.length + 2 * t.parts → Den S' n t → Q (.int ((n : Nat) : Int)) H'
/-- the state of put's loop -/
structure PutInv (P : Program) (w : World) (K : PySem.W.Frag) (A : SA) (S0 : List Ent) (H0 : Hp) (t : T) (wl ml : Addr) (wt : List WE) (md : List T) (S : List Ent) (H : Hp) : Prop where
  st : StoreAt P w K A S H
  fr : Fr4 A H0 H
  ex : ExtS S0 S
  len : S.length + wrem wt ≤ S0.length + t.ent
  mu : md.length + wmu wt ≤ 2 * t.parts
  fin : Fin2 t wt md
  ok : ∀ e ∈ wt, e.1.ok = true
  w : ∃ vs, H wl = some (.lst vs.reverse) ∧ All2 (WtR K H) wt vs
  m : ∃ ns, H ml = some (.lst (nums ns).reverse) ∧ All2 (fun u n => Den S n u) md ns
def putW (P : Program) (w : World) (K : PySem.W.Frag) (A : SA) (S0 : List Ent) (H0 : Hp) (t : T) (v : L2.V) (wl ml : Addr) : Nat → L2.St → Hp → Prop := fun m σ H => ∃ (wt : List WE) (md : List T) (S : List Ent) (o4 o5 o6 o7 o8 o9 : Option L2.V),
  σ = [some (.ref A.self), some v, some (.ref wl), some (.ref ml), o4, o5, o6, o7, o8, o9] ∧ PutInv P w K A S0 H0 t wl ml wt md S H ∧ m = wmu wt
theorem ok_put : MOk P w K mg base 2 (He.ga K "Store") "put" ["self", "value"] (spPut P w K) := by
  have M_number_of := ok_number_of C (P := P) (base := base)
  refine mok C.f_Store_put C.h_Store_put (fun _ _ _ _ _ _ us hl => match us, hl with | [_, _], _ => rfl) sc_Store_put (fun vs H Q E h => ?_) (fun f cdv A outer s H vs Q E hr h => ?_)
  · obtain ⟨A, S, t, v, rfl, _⟩ := h
    rfl
  obtain ⟨A, S0, t, v, rfl, hS, hv, hok, hp, hl, q⟩ := h
  refine ⟨_, (pss_cons (ps_set (i := 2) sc_Store_put.nd rfl (Or.inl rfl) (pe_lst (pa_cons (pe_tup (pa_cons (pv 1) (pa_cons pe_bl pa_nil))) pa_nil)))
  (pss_cons (ps_set (i := 3) sc_Store_put.nd rfl (Or.inr rfl) (pe_lst pa_nil))
  (pss_cons (ps_while PassesOwn.never (pt_cmpR op_gt (pe_callB call_len_seq (by rfl) C.z_len PySem.boot_len (pa_cons (pv 2) pa_nil)) pe_int (nomark _)) (pss_cons (ps_asg (pe_bm0 PySem.F.plainAttrs_list PySem.F.slot_list_pop PySem.F.type_list_pop mt_pop (pv 2)) (pg_tup rfl (pgs_cons (pg_name (i := 4) sc_Store_put.nd rfl (Or.inl rfl)) (pgs_cons (pg_name (i := 5) sc_Store_put.nd rfl (Or.inl rfl)) pgs_nil))))
  (pss_one (ps_if (pt_val (pe_callB call_isS (by rfl) C.z_isinstance (by decide +kernel) (pa_cons (pv 4) (pa_cons (pe_bltn (v := .ty "str") (by rfl) C.z_str (by decide +kernel) rfl) pa_nil)))) (pss_one (ps_expr (pe_bm PySem.F.plainAttrs_list PySem.F.slot_list_append PySem.F.type_list_append mt_append (pv 3) (pa_cons (pe_mt (pv 0) C.c_Store M_number_of (hr.mono (by decide)) (pa_cons (pv 4) pa_nil)) pa_nil)))) (pss_one (ps_if (pt_not (pt_val (pv 5))) (pss_cons (ps_expr (pe_bm PySem.F.plainAttrs_list PySem.F.slot_list_append PySem.F.type_list_append mt_append (pv 2) (pa_cons (pe_tup (pa_cons (pv 4) (pa_cons pe_bl pa_nil))) pa_nil)))
  (pss_one (ps_expr (pe_bm PySem.F.plainAttrs_list PySem.F.slot_list_extend PySem.F.type_list_extend mt_extend (pv 2) (pa_cons (pe_lc  (own := [("item", 8)]) (g := gName 8) (by rfl) sc_Store_put.nd (pi_tup (pv 4)) (blkOk_by (own := [("item", 8)]) (N := ["self", "value", "waiting", "made", "one", "is_ready", "found", "items", "item", "_"]) (sc := defScope s_Store_put) (by decide +kernel)) (fun _ _ _ _ _ => pg_name (i := 8) sc_Store_put.nd rfl (Or.inl rfl)) (fun _ _ _ _ _ => pts_nil) (fun _ _ _ _ _ => (pe_tup (pa_cons (pv 8) (pa_cons pe_bl pa_nil))))) pa_nil))))) (pss_cons (ps_set (i := 6) sc_Store_put.nd rfl (Or.inl rfl) (pe_gi (by rfl) C.i_EMPTY))
  (pss_cons (ps_setLc (i := 7) (te := tBM0 K "list" rPop (tVar 3)) (own := [("_", 9)]) (g := gName 9) (by rfl) sc_Store_put.nd rfl rfl (sw_true rfl rfl rfl (by decide +kernel)) (pi_tup (pv 4)) (blkOk_by (own := [("_", 9)]) (N := ["self", "value", "waiting", "made", "one", "is_ready", "found", "items", "item", "_"]) (sc := defScope s_Store_put) (by decide +kernel)) (fun _ _ _ _ _ => pg_name (i := 9) sc_Store_put.nd rfl (Or.inl rfl)) (fun _ _ _ _ _ => pts_nil) (fun _ _ _ _ _ => (pe_bm0 PySem.F.plainAttrs_list PySem.F.slot_list_pop PySem.F.type_list_pop mt_pop (pv 3))))
  (pss_cons (ps_for PassesOwn.never rfl (pi_reversed (by rfl) C.z_reversed (pa_cons (pv 7) pa_nil)) (pg_name (i := 8) sc_Store_put.nd rfl (Or.inl rfl)) (pss_one (ps_set (i := 6) sc_Store_put.nd rfl (Or.inl rfl) (pe_mt (pv 0) C.c_Store M_number_of (hr.mono (by decide)) (pa_cons (pe_tup (pa_cons (pv 8) (pa_cons (pv 6) pa_nil))) pa_nil)))))
  (pss_one (ps_expr (pe_bm PySem.F.plainAttrs_list PySem.F.slot_list_append PySem.F.type_list_append mt_append (pv 3) (pa_cons (pv 6) pa_nil)))))))))))))
  (pss_one (ps_ret (pe_ix ix_list (pv 3) pe_int (fun _ _ => rfl))))))), ?_⟩
  obtain ⟨dx, hi⟩ := hS.ins
  refine ⟨_, rfl, by show 2 ≤ sizeLine; decide, fun p0 n0 => ⟨by show 1 ≤ sizeLine; decide, fun wl nw => ⟨Nat.zero_le _, fun ml nm => ?_⟩⟩⟩
  obtain ⟨nw0, nwp⟩ := upd_none nw
  obtain ⟨nm1, nmw⟩ := upd_none nm
  obtain ⟨nm0, nmp⟩ := upd_none nm1
  have aw := hS.ne nw0
  have am := hS.ne nm0
  have s3 : Same H (upd (upd (upd H p0 (HO.tup [v, V.bl false])) wl (HO.lst [V.ref p0])) ml (HO.lst [])) := fun b o e => by
    rw [upd_ne (ne_of_none e nm0), upd_ne (ne_of_none e nw0), upd_ne (ne_of_none e n0)]
    exact e
  refine ⟨putW P w K A S0 H t v wl ml, ⟨_, [(t, false)], [], S0, _, _, _, _, _, _, rfl, ⟨hS.same s3, Fr4.same s3, ExtS.refl _, Nat.le_refl _, Nat.le_of_eq (by show 0 + (2 * t.parts + 0) = _; omega), rfl, fun e he => by rw [List.mem_singleton.mp he]; exact hok, ⟨[.ref p0], ?_, .one ⟨p0, v, rfl, .inl (.of ?_), hv.mono (Tk.same s3)⟩⟩, [], upd_same, rfl⟩, rfl⟩, ?_⟩
  · rw [upd_ne nmw.symm, upd_same] <;> rfl
  · rw [upd_ne nmp.symm, upd_ne nwp.symm, upd_same]
  clear s3
  rintro m σ H1 ⟨wt, md, S, o4, o5, o6, o7, o8, o9, rfl, I, rfl⟩
  obtain ⟨vs, hw, aws⟩ := I.w
  obtain ⟨ns, hm, ams⟩ := I.m
  have hS1 := I.st
  have lw := wlen_le wt
  have lmu := I.mu
  have lln := I.len
  have lent := T.ent_le t
  have lns := ams.length
  refine ⟨_, rfl, wl, _, rfl, .inl (SqL.of hw), _, _, rfl, rfl, _, rfl, ?_⟩
  cases wt with
  | nil =>
    have e : vs = [] := aws
    subst e
    refine ite_b (fun hb => by simp at hb) (fun _ => ?_)
    have e := I.fin
    have e2 : md = [t] := e
    subst e2
    obtain ⟨n, r, rfl, hd, e3⟩ := ams
    have e4 : r = [] := e3
    subst e4
    exact ⟨_, rfl, ml, _, _, _, rfl, rfl, SqL.of hm, rfl, q n S H1 I.st I.fr I.ex (by have := I.len; show S.length ≤ _; simp only [wrem] at this; omega) hd⟩
  | cons e r =>
    obtain ⟨u, b⟩ := e
    obtain ⟨x, vs, rfl, ⟨qa, z, rfl, hq, hz⟩, aws⟩ := aws
    have lvs := aws.length
    refine ite_b (fun _ => ⟨_, fun _ _ h => h, ?_⟩) (fun hb => by simp at hb)
    -- the pop
    refine ⟨_, rfl, .inl ⟨rfl, _, SqL.of hw⟩, wl, _, _, rfl, rfl, hw, rev_last, ?_⟩
    rw [rev_dropLast]
    have ntw : NoTup (H1 wl) := by rw [hw]; exact NoTup.lst
    have k2 : Tk H1 (upd H1 wl (.lst vs.reverse)) := Tk.upd ntw
    have hS2 : StoreAt P w K A S (upd H1 wl (.lst vs.reverse)) := hS1.upd aw ntw
    have fr2 : Fr4 A H (upd H1 wl (.lst vs.reverse)) := I.fr.new nw0
    have hw2 : upd H1 wl (.lst vs.reverse) wl = some (.lst vs.reverse) := upd_same
    have hm2 : upd H1 wl (.lst vs.reverse) ml = some (.lst (nums ns).reverse) := (upd_ne nmw).trans hm
    generalize upd H1 wl (.lst vs.reverse) = H2 at *
    have aws2 : All2 (WtR K H2) r vs := aws.mono fun _ _ h => h.mono k2
    have hz2 : TV K H2 u z := hz.mono k2
    have hq2 := k2.sqt hq
    obtain ⟨dx2, hi2⟩ := hS2.ins
    refine ⟨qa, _, rfl, hq2, rfl, _, _, rfl, _, _, rfl, rfl, ?_⟩
    refine ⟨_, rfl, z, u, rfl, hz2, _, rfl, ?_⟩
    have hok2 : ∀ e ∈ r, e.1.ok = true := fun e he => I.ok e (List.mem_cons_of_mem _ he)
    have huok : u.ok = true := I.ok (u, b) (List.mem_cons_self ..)
    cases u with
    | w x =>
      refine ite_b (fun _ => ?_) (fun hb => nomatch hb)
      have e : z = .str x := hz
      subst e
      refine ⟨_, rfl, .inl ⟨rfl, _, SqL.of hm2⟩, _, rfl, A.self, dx2, _, rfl, hi2, rfl, _, rfl, A, S, .w x, _, .w x, rfl, hS2, ⟨rfl, huok⟩, ⟨rfl, huok⟩, by omega, fun n S' H3 h1 h2 h3 h4 h5 => ?_⟩
      have hw3 := h2 _ _ hw2 aw.2.1 aw.2.2.1 aw.2.2.2.1 aw.2.2.2.2
      have hm3 := h2 _ _ hm2 am.2.1 am.2.2.1 am.2.2.2.1 am.2.2.2.2
      have fin : Fin2 t r (.w x :: md) := by
        have e := I.fin
        cases b with
        | false => exact e
        | true =>
          obtain ⟨_, _, e, _⟩ := e
          cases e
      have ntm : NoTup (H3 ml) := by rw [hm3]; exact NoTup.lst
      refine ⟨ml, _, _, rfl, rfl, hm3, by rw [List.length_reverse, nums_len]; exact line_lt (by omega), wmu r, ?_, r, .w x :: md, S', _, _, _, _, _, _, rfl, ⟨h1.upd am ntm, (fr2.trans h2).new nm0, I.ex.trans h3, ?_, ?_, fin, hok2, ⟨vs, (upd_ne nmw.symm).trans hw3, aws2.mono fun _ _ h => (h.mono (Fr4.tk hS2 h2)).mono (Tk.upd ntm)⟩, n :: ns, ?_, .cons h5 (ams.mono fun _ _ h => h.ext h3)⟩, rfl⟩
      · simp only [wmu]
        cases b
        · show _ < 2 * 1 + wmu r
          omega
        · show _ < 1 + wmu r
          omega
      · simp only [wrem] at lln
        cases b
        · have : S.length + (1 + wrem r) ≤ S0.length + t.ent := lln
          omega
        · have : S.length + (0 + wrem r) ≤ S0.length + t.ent := lln
          have f := I.fin
          obtain ⟨_, _, e, _⟩ := f
          cases e
      · simp only [wmu] at lmu
        cases b
        · have : md.length + (2 * 1 + wmu r) ≤ 2 * t.parts := lmu
          simp only [List.length_cons]
          omega
        · have : md.length + (1 + wmu r) ≤ 2 * t.parts := lmu
          simp only [List.length_cons]
          omega
      · rw [upd_same]
        simp [nums]
    | l xs =>
      refine ite_b (fun hb => nomatch hb) (fun _ => ?_)
      obtain ⟨a, us, rfl, hxs, hus⟩ := hz2
      have lus := hus.length
      cases b with
      | false =>
        refine ⟨_, rfl, _, rfl, ite_b (fun _ => ?_) (fun hb => nomatch hb)⟩
        refine ⟨_, rfl, .inl ⟨rfl, _, SqL.of hw2⟩, _, rfl, by show 2 ≤ sizeLine; decide, fun p np => ?_⟩
        have s3 : Same H2 (upd H2 p (.tup [.ref a, .bl true])) := same_new np _
        have hp3 : upd H2 p (.tup [.ref a, .bl true]) p = some (.tup [.ref a, .bl true]) := upd_same
        generalize upd H2 p (.tup [.ref a, .bl true]) = H3 at *
        have k3 := Tk.same s3
        have hS3 := hS2.same s3
        have fr3 := fr2.trans (Fr4.same (A := A) s3)
        have hw3 := s3 _ _ hw2
        have hm3 := s3 _ _ hm2
        have ntw3 : NoTup (H3 wl) := by rw [hw3]; exact NoTup.lst
        refine ⟨wl, _, _, rfl, rfl, hw3, by rw [List.length_reverse]; exact line_lt (by simp only [List.length_cons] at lw; omega), ?_⟩
        have k4 : Tk H3 (upd H3 wl (.lst (vs.reverse ++ [.ref p]))) := Tk.upd ntw3
        have hS4 : StoreAt P w K A S (upd H3 wl (.lst (vs.reverse ++ [.ref p]))) := hS3.upd aw ntw3
        have fr4 : Fr4 A H (upd H3 wl (.lst (vs.reverse ++ [.ref p]))) := fr3.new nw0
        have hw4 : upd H3 wl (.lst (vs.reverse ++ [.ref p])) wl = some (.lst (vs.reverse ++ [.ref p])) := upd_same
        have hm4 : upd H3 wl (.lst (vs.reverse ++ [.ref p])) ml = some (.lst (nums ns).reverse) := (upd_ne nmw).trans hm3
        have hp4 : SqT K (upd H3 wl (.lst (vs.reverse ++ [.ref p]))) p [.ref a, .bl true] := k4.sqt (.inl (.of hp3))
        generalize upd H3 wl (.lst (vs.reverse ++ [.ref p])) = H4 at *
        have hxs4 := k4.sqt (k3.sqt hxs)
        have hus4 := (hus.mono k3).mono k4
        refine ⟨_, rfl, .inl ⟨rfl, _, SqL.of hw4⟩, ?_⟩
        refine ⟨_, rfl, a, rfl, ⟨us, hxs4⟩, fun D hD => lc_tup (xs := us) (fun i H5 => (∃ acc, H5 D = some (.lst acc) ∧ All2 (WtR K H5) ((xs.take i).map (·, false)) acc) ∧ Same H4 H5) ⟨⟨[], upd_same, rfl⟩, same_new hD _⟩ (fun i H5 _ h => (Tk.same h.2).sqt hxs4) (fun i y H5 hy h => ?_) (fun H5 h => ?_)⟩
        · obtain ⟨⟨acc, hacc, a2⟩, sm⟩ := h
          refine ⟨rfl, _, rfl, by show 2 ≤ sizeLine; decide, fun p2 np2 => ?_⟩
          have s6 : Same H5 (upd H5 p2 (.tup [y, .bl false])) := same_new np2 _
          have hi := (List.getElem?_eq_some_iff.mp hy).1
          have hix : i < xs.length := by omega
          obtain ⟨y', hy', ty⟩ := hus4.get (List.getElem?_eq_getElem hix)
          rw [hy] at hy'
          cases hy'
          have lacc := a2.length
          rw [List.length_map, List.length_take] at lacc
          have lx := T.len_partss xs
          have ntd : NoTup (upd H5 p2 (.tup [y, .bl false]) D) := by rw [s6 _ _ hacc]; exact NoTup.lst
          refine ⟨acc, s6 _ _ hacc, line_lt ?_, ⟨⟨_, upd_same, ?_⟩, fun b o e => ?_⟩⟩
          · have e : wmu ((T.l xs, false) :: r) = 2 * (T.partss xs + 1) + wmu r := rfl
            omega
          · rw [SqT.take_get hix, List.map_append]
            have k7 : Tk H5 (upd (upd H5 p2 (.tup [y, .bl false])) D (.lst (acc ++ [.ref p2]))) := (Tk.same s6).trans (Tk.upd ntd)
            exact (a2.mono fun _ _ h => h.mono k7).snoc ⟨p2, y, rfl, (Tk.upd ntd).sqt (.inl (.of upd_same)), ty.mono ((Tk.same sm).trans k7)⟩
          · rw [upd_ne (ne_of_none e hD)]
            exact s6 _ _ (sm _ _ e)
        · obtain ⟨⟨acc, hacc, a2⟩, sm⟩ := h
          rw [lus, List.take_length] at a2
          have lacc := a2.length
          rw [List.length_map] at lacc
          have hw5 := sm _ _ hw4
          have hm5 := sm _ _ hm4
          have hS5 := hS4.same sm
          have ntw5 : NoTup (H5 wl) := by rw [hw5]; exact NoTup.lst
          have k6 : Tk H5 (upd H5 wl (.lst (vs.reverse ++ [.ref p] ++ acc))) := Tk.upd ntw5
          have k46 : Tk H4 (upd H5 wl (.lst (vs.reverse ++ [.ref p] ++ acc))) := (Tk.same sm).trans k6
          have lx := T.len_partss xs
          have e0 : wmu ((T.l xs, false) :: r) = 2 * (T.partss xs + 1) + wmu r := rfl
          have e1 : wmu (xs.reverse.map (·, false) ++ (T.l xs, true) :: r) = 2 * T.partss xs + (1 + wmu r) := by
            rw [wmu_app, wmu_map, partss_rev] <;> rfl
          have e2 : wrem (xs.reverse.map (·, false) ++ (T.l xs, true) :: r) + xs.length = T.ents xs + (xs.length + wrem r) := by
            have z := wrem_map xs.reverse
            rw [ents_rev, List.length_reverse] at z
            have y : wrem ((T.l xs, true) :: r) = xs.length + wrem r := rfl
            rw [wrem_app, y]
            omega
          have e3 : wrem ((T.l xs, false) :: r) = T.ents xs + wrem r := rfl
          refine ⟨wl, D, _, acc, rfl, rfl, hw5, hacc, ?_, wmu (xs.reverse.map (·, false) ++ (T.l xs, true) :: r), by omega, xs.reverse.map (·, false) ++ (T.l xs, true) :: r, md, S, _, _, _, _, _, _, rfl, ⟨hS5.upd aw ntw5, (fr4.trans (Fr4.same sm)).new nw0, I.ex, by omega, by omega, ?_, fun e he => ?_, ⟨acc.reverse ++ .ref p :: vs, ?_, ?_⟩, ns, (upd_ne nmw).trans hm5, ams⟩, rfl⟩
          · rw [List.length_append, List.length_reverse, List.length_singleton]
            simp only [List.length_cons] at lw
            exact line_le (by omega)
          · rw [Fin2.push, List.reverse_reverse]
            exact ⟨xs, md, rfl, rfl, I.fin⟩
          · rcases List.mem_append.mp he with he | he
            · obtain ⟨x, hx, rfl⟩ := List.mem_map.mp he
              exact oks_mem huok x (List.mem_reverse.mp hx)
            · rcases List.mem_cons.mp he with rfl | he
              · exact huok
              · exact hok2 e he
          · rw [upd_same]
            simp
          · have z := a2.reverse
            rw [← List.map_reverse] at z
            exact (z.mono fun _ _ h => h.mono k6).append (.cons ⟨p, .ref a, rfl, k46.sqt hp4, a, us, rfl, k46.sqt hxs4, hus4.mono k46⟩ (aws2.mono fun _ _ h => (h.mono (k3.trans k4)).mono k46))
      | true =>
        refine ⟨_, rfl, _, rfl, ite_b (fun hb => nomatch hb) (fun _ => ?_)⟩
        obtain ⟨xs', md', e, rfl, fin⟩ := I.fin
        cases e
        obtain ⟨n1, n2, rfl, an1, an2⟩ := ams.split
        have l1 := an1.length
        have l2 := an2.length
        have nt2 : NoTup (H2 ml) := by rw [hm2]; exact NoTup.lst
        refine ⟨_, rfl, a, rfl, ⟨us, hxs⟩, fun D hD => lc_tup (xs := us) (fun i H5 => H5 D = some (.lst (nums (n1.take i))) ∧ H5 ml = some (.lst (nums (n1.drop i ++ n2)).reverse) ∧ ∀ b o, H2 b = some o → b ≠ ml → H5 b = some o) ⟨upd_same, ?_, fun b o e _ => same_new hD _ b o e⟩ (fun i H5 _ h => (Tk.but nt2 h.2.2).sqt hxs) (fun i y H5 hy h => ?_) (fun H5 h => ?_)⟩
        · exact same_new hD _ _ _ hm2
        · obtain ⟨hD5, hm5, fr5⟩ := h
          have hi := (List.getElem?_eq_some_iff.mp hy).1
          have hin : i < n1.length := by omega
          have nDm : D ≠ ml := fun e => by
            subst e
            rw [hm2] at hD
            cases hD
          have e1 : nums (n1.drop i ++ n2) = .int ((n1[i] : Nat) : Int) :: nums (n1.drop (i + 1) ++ n2) := by
            rw [List.drop_eq_getElem_cons hin] <;> rfl
          rw [e1] at hm5
          refine ⟨rfl, _, rfl, .inl ⟨rfl, _, SqL.of hm5⟩, ml, _, _, rfl, rfl, hm5, rev_last, nums (n1.take i), (upd_ne nDm).trans hD5, ?_, ?_, ?_, fun b o e hb => ?_⟩
          · rw [nums_len, List.length_take]
            exact line_lt (by simp only [List.length_append] at lmu; omega)
          · rw [upd_same, nums_take hin]
          · rw [upd_ne nDm.symm, upd_same, rev_dropLast]
          · rw [upd_ne (ne_of_none e hD), upd_ne hb]
            exact fr5 b o e hb
        · obtain ⟨hD5, hm5, fr5⟩ := h
          rw [show us.length = n1.length by omega, List.take_length] at hD5
          rw [show us.length = n1.length by omega, List.drop_length, List.nil_append] at hm5
          have nDm : D ≠ ml := fun e => by
            subst e
            rw [hm2] at hD
            cases hD
          have k5 := Tk.but nt2 fr5
          have hS5 : StoreAt P w K A S H5 := hS2.off (M := fun b => b = ml) fr5 fun b e => by
            subst e
            exact ⟨am.1, am.2.1, am.2.2.1, am.2.2.2.1, am.2.2.2.2, nt2⟩
          have fr5' : Fr4 A H H5 := fun b o e h1 h2 h3 h4 => fr5 b o (fr2 b o e h1 h2 h3 h4) (ne_of_none e nm0)
          have hw5 := fr5 _ _ hw2 nmw.symm
          have aD : D ≠ A.self ∧ D ≠ A.e ∧ D ≠ A.n ∧ D ≠ A.s ∧ D ≠ A.d := hS2.ne hD
          refine ⟨_, rfl, D, nums n1, rfl, SqL.of hD5, for_it walk_rev (fun i σ H6 => ∃ (o8 : Option L2.V) (f : Nat) (S2 : List Ent), σ = [some (.ref A.self), some v, some (.ref wl), some (.ref ml), some (.ref a), some (.bl true), some (.int (f : Int)), some (.ref D), o8, o9] ∧ StoreAt P w K A S2 H6 ∧ Fr4 A H5 H6 ∧ ExtS S S2 ∧ S2.length ≤ S.length + i ∧ Den S2 f (.l (xs.drop (xs.length - i)))) ⟨_, 0, S, rfl, hS5, Fr4.refl A H5, ExtS.refl _, Nat.le_refl _, ?_⟩ (fun i σ H6 _ h => ?_) (fun i x σ H7 H6 hi h y => ?_) (fun σ H6 h => ?_)⟩
          · rw [Nat.sub_zero, List.drop_length]
            exact .nil
          · obtain ⟨o8, f, S2, _, _, f6, _⟩ := h
            exact SqL.of (f6 _ _ hD5 aD.2.1 aD.2.2.1 aD.2.2.2.1 aD.2.2.2.2)
          · obtain ⟨rfl, hx⟩ := y
            obtain ⟨o8, f, S2, rfl, hS6, f6, ex6, len6, den6⟩ := h
            rw [nums_len] at hi hx
            have hj : n1.length - 1 - i < n1.length := by omega
            have hjx : xs.length - 1 - i < xs.length := by omega
            rw [nums_get (List.getElem?_eq_getElem hj)] at hx
            cases hx
            obtain ⟨n, hn, dn⟩ := an1.get (List.getElem?_eq_getElem hjx)
            rw [show xs.length - 1 - i = n1.length - 1 - i by omega, List.getElem?_eq_getElem hj] at hn
            cases hn
            obtain ⟨dx6, hi6⟩ := hS6.ins
            have ed : xs.drop (xs.length - (i + 1)) = xs[xs.length - 1 - i] :: xs.drop (xs.length - i) := by
              rw [show xs.length - (i + 1) = xs.length - 1 - i by omega, List.drop_eq_getElem_cons hjx, show xs.length - 1 - i + 1 = xs.length - i by omega]
            have lx : xs.length ≤ t.ent := by
              have : S.length + (xs.length + wrem r) ≤ S0.length + t.ent := lln
              have := I.ex.len
              omega
            refine ⟨_, rfl, A.self, dx6, _, rfl, hi6, rfl, _, rfl, _, rfl, by show 2 ≤ sizeLine; decide, fun p np => ?_⟩
            have s7 : Same H6 (upd H6 p (.tup [.int ((n1[n1.length - 1 - i] : Nat) : Int), .int (f : Int)])) := same_new np _
            refine ⟨A, S2, .p (n1[n1.length - 1 - i]) f, _, .l (xs.drop (xs.length - (i + 1))), rfl, hS6.same s7, ⟨p, rfl, upd_same⟩, ?_, ?_, fun k S3 H8 h1 h2 h3 h4 h5 => ?_⟩
            · rw [ed]
              exact ⟨_, _, rfl, dn.ext ex6, den6⟩
            · have : S.length + (xs.length + wrem r) ≤ S0.length + t.ent := lln
              omega
            · exact ⟨_, k, S3, rfl, h1, f6.trans ((Fr4.same s7).trans h2), ex6.trans h3, by omega, h5⟩
          · obtain ⟨o8, f, S2, rfl, hS6, f6, ex6, len6, den6⟩ := h
            rw [nums_len] at len6 den6
            rw [show xs.length - n1.length = 0 by omega, List.drop_zero] at den6
            have hm6 := f6 _ _ hm5 am.2.1 am.2.2.1 am.2.2.2.1 am.2.2.2.2
            have hw6 := f6 _ _ hw5 aw.2.1 aw.2.2.1 aw.2.2.2.1 aw.2.2.2.2
            have ntm : NoTup (H6 ml) := by rw [hm6]; exact NoTup.lst
            have k6 : Tk H2 H6 := k5.trans (Fr4.tk hS5 f6)
            have e0 : wmu ((T.l xs, true) :: r) = 1 + wmu r := rfl
            have e1 : wrem ((T.l xs, true) :: r) = xs.length + wrem r := rfl
            rw [List.length_append] at lmu
            refine ⟨_, rfl, .inl ⟨rfl, _, SqL.of hm6⟩, _, rfl, ml, _, _, rfl, rfl, hm6, by rw [List.length_reverse, nums_len]; exact line_lt (by omega), wmu r, by omega, r, .l xs :: md', S2, _, _, _, _, _, _, rfl, ⟨hS6.upd am ntm, (fr5'.trans f6).new nm0, I.ex.trans ex6, by omega, by simp only [List.length_cons]; omega, fin, hok2, ⟨vs, (upd_ne nmw.symm).trans hw6, aws2.mono fun _ _ h => (h.mono k6).mono (Tk.upd ntm)⟩, f :: n2, ?_, .cons den6 (an2.mono fun _ _ h => h.ext ex6)⟩, rfl⟩
            rw [upd_same]
            simp [nums]
end
end K35
end

section
set_option Elab.async false
set_option linter.all false
set_option maxRecDepth 100000
namespace K35
open PySem PySem.Spec PyProof.Rows L2
theorem Den.len {S : List Ent} (W : StoreWf S) {n : Nat} {u : T} (h : Den S n u) : u.items.length ≤ n := by
  induction h with
  | nil => exact Nat.le_refl _
  | word _ => exact Nat.zero_le _
  | pair hx _ _ _ ih =>
    obtain ⟨_, h2, _⟩ := W.pair _ _ _ hx
    show (T.l _).items.length + 1 ≤ _
    omega
/-! ### the stack of value_of -/
mutual
def T.vc : T → Nat
  | .w _ => 2
  | .l xs => 3 + T.vcs xs
def T.vcs : List T → Nat
  | [] => 0
  | x :: xs => x.vc + T.vcs xs
end
mutual
theorem T.vc_le : ∀ t : T, t.vc ≤ 3 * t.parts ∧ 2 ≤ t.vc
  | .w _ => by simp [T.vc, T.parts]
  | .l xs => by
    have q := T.vcs_le xs
    show 3 + T.vcs xs ≤ 3 * (T.partss xs + 1) ∧ 2 ≤ 3 + T.vcs xs
    omega
theorem T.vcs_le : ∀ xs : List T, T.vcs xs ≤ 3 * T.partss xs
  | [] => Nat.le_refl _
  | x :: xs => by
    have q := T.vc_le x
    have r := T.vcs_le xs
    show x.vc + T.vcs xs ≤ 3 * (x.parts + T.partss xs)
    omega
end
abbrev KV := List (Key × L2.V)
def isB (kvs : KV) (n : Nat) : Bool := (valV kvs (Sum.inl ((n : Nat) : Int))).isSome
abbrev VE := Nat × T × Bool
def vco (kvs : KV) (e : VE) : Nat := if isB kvs e.1 then 1 else if e.2.2 then 2 else e.2.1.vc
def vmu (kvs : KV) : List VE → Nat
  | [] => 0
  | e :: r => vco kvs e + vmu kvs r
theorem vmu_app (kvs : KV) : ∀ a b : List VE, vmu kvs (a ++ b) = vmu kvs a + vmu kvs b
  | [], b => (Nat.zero_add _).symm
  | e :: a, b => by
    show _ + vmu kvs (a ++ b) = _ + vmu kvs a + vmu kvs b
    rw [vmu_app kvs a b, Nat.add_assoc]
theorem vmu_rev (kvs : KV) : ∀ a : List VE, vmu kvs a.reverse = vmu kvs a
  | [] => rfl
  | e :: a => by
    rw [List.reverse_cons, vmu_app, vmu_rev kvs a]
    show vmu kvs a + (vco kvs e + 0) = vco kvs e + vmu kvs a
    omega
theorem vco_pos (kvs : KV) (e : VE) : 1 ≤ vco kvs e := by
  unfold vco
  have := (T.vc_le e.2.1).2
  split
  · exact Nat.le_refl _
  · split <;> omega
theorem vco_mono {kvs kvs' : KV} (h : ∀ n, isB kvs n = true → isB kvs' n = true) (e : VE) : vco kvs' e ≤ vco kvs e := by
  by_cases b : isB kvs' e.1 = true
  · have q : vco kvs' e = 1 := if_pos b
    rw [q]
    exact vco_pos kvs e
  · have b2 : ¬ isB kvs e.1 = true := fun z => b (h _ z)
    unfold vco
    rw [if_neg b, if_neg b2]
    exact Nat.le_refl _
theorem vmu_mono {kvs kvs' : KV} (h : ∀ n, isB kvs n = true → isB kvs' n = true) : ∀ g : List VE, vmu kvs' g ≤ vmu kvs g
  | [] => Nat.le_refl _
  | e :: r => by
    have q := vco_mono h e
    have p := vmu_mono h r
    show vco kvs' e + vmu kvs' r ≤ vco kvs e + vmu kvs r
    omega
theorem vlen_le (kvs : KV) : ∀ g : List VE, g.length ≤ vmu kvs g
  | [] => Nat.le_refl _
  | e :: r => by
    have q := vco_pos kvs e
    have p := vlen_le kvs r
    show r.length + 1 ≤ vco kvs e + vmu kvs r
    omega
def GS (S : List Ent) (kvs : KV) : List Nat → List VE → Prop
  | _, [] => True
  | ab, (m, t, f) :: r => Den S m t ∧ (f = true → ∀ xs ns, t = .l xs → All2 (fun t n => Den S n t) xs ns → ∀ j ∈ ns, isB kvs j = true ∨ j ∈ ab) ∧ GS S kvs (m :: ab) r
theorem GS.mono {S : List Ent} {kvs kvs' : KV} : ∀ {g : List VE} {ab ab' : List Nat}, (∀ j, isB kvs j = true ∨ j ∈ ab → isB kvs' j = true ∨ j ∈ ab') → GS S kvs ab g → GS S kvs' ab' g
  | [], _, _, _, _ => True.intro
  | (m, t, f) :: r, ab, ab', h, ⟨h1, h2, h3⟩ => ⟨h1, fun e xs ns et a j hj => h j (h2 e xs ns et a j hj), GS.mono (g := r) (fun j hj => by
    rcases hj with hj | hj
    · rcases h j (.inl hj) with q | q
      · exact .inl q
      · exact .inr (List.mem_cons_of_mem _ q)
    · rcases List.mem_cons.mp hj with e | hj
      · exact .inr (e ▸ List.mem_cons_self ..)
      · rcases h j (.inr hj) with q | q
        · exact .inl q
        · exact .inr (List.mem_cons_of_mem _ q)) h3⟩
theorem GS.app {S : List Ent} {kvs : KV} {r : List VE} : ∀ {g : List VE} {ab : List Nat}, (∀ e ∈ g, Den S e.1 e.2.1 ∧ e.2.2 = false) → GS S kvs ((g.map (·.1)).reverse ++ ab) r → GS S kvs ab (g ++ r)
  | [], _, _, h => h
  | (m, t, f) :: g, ab, h, q => by
    have h0 := h _ (List.mem_cons_self ..)
    refine ⟨h0.1, fun e => ?_, GS.app (g := g) (fun e he => h e (List.mem_cons_of_mem _ he)) ?_⟩
    · rw [show f = false from h0.2] at e
      cases e
    · simpa using q
theorem den_inj2 {S : List Ent} (W : StoreWf S) : ∀ {xs : List T} {ns ms : List Nat}, All2 (fun t n => Den S n t) xs ns → All2 (fun t n => Den S n t) xs ms → ns = ms
  | [], ns, ms, h1, h2 => by
    have e1 : ns = [] := h1
    have e2 : ms = [] := h2
    rw [e1, e2]
  | x :: xs, _, _, ⟨n, r, e1, h1, t1⟩, ⟨m, r2, e2, h2, t2⟩ => by
    rw [e1, e2, h1.inj W h2, den_inj2 W t1 t2]
theorem vsplit {S : List Ent} (kvs : KV) : ∀ {xs : List T} {ns : List Nat}, All2 (fun t n => Den S n t) xs ns → ∃ g : List VE, g.map (·.1) = ns.filter (fun n => !isB kvs n) ∧ (∀ e ∈ g, Den S e.1 e.2.1 ∧ e.2.2 = false) ∧ vmu kvs g ≤ T.vcs xs
  | [], ns, h => by
    have e : ns = [] := h
    subst e
    exact ⟨[], rfl, fun e he => (List.not_mem_nil he).elim, Nat.le_refl _⟩
  | x :: xs, _, ⟨n, r, e, h, t⟩ => by
    subst e
    obtain ⟨g, h1, h2, h3⟩ := vsplit kvs t
    by_cases b : isB kvs n = true
    · refine ⟨g, ?_, h2, ?_⟩
      · rw [List.filter_cons, b, h1]
        rfl
      · show _ ≤ x.vc + T.vcs xs
        omega
    · refine ⟨(n, x, false) :: g, ?_, fun e he => ?_, ?_⟩
      · rw [List.filter_cons, if_pos (by simpa using b), List.map_cons, h1]
      · rcases List.mem_cons.mp he with e | he
        · rw [e]
          exact ⟨h, rfl⟩
        · exact h2 e he
      · have q : vco kvs (n, x, false) = x.vc := by
          show (if isB kvs n = true then 1 else if false = true then 2 else x.vc) = x.vc
          rw [if_neg b]
          rfl
        show vco kvs (n, x, false) + vmu kvs g ≤ x.vc + T.vcs xs
        omega
theorem isB_put {kvs : KV} {m n : Nat} {v : L2.V} : isB (putK kvs (Sum.inl ((m : Nat) : Int)) v) n = (decide (n = m) || isB kvs n) := by
  unfold isB
  rw [valV_put]
  by_cases e : n = m
  · subst e
    simp
  · rw [if_neg (fun z => e (by injection z with z; omega)), decide_eq_false e]
    rfl
theorem sc_Store_items_of : FnScope ["self", "number", "found", "item"] ["self", "number"] (defScope s_Store_items_of) := ⟨rfl, rfl, rfl, by decide +kernel, rfl, by decide +kernel, by decide +kernel⟩
theorem sc_Store_value_of : FnScope ["self", "number", "built", "waiting", "one", "items", "missing", "item"] ["self", "number"] (defScope s_Store_value_of) := ⟨rfl, rfl, rfl, by decide +kernel, rfl, by decide +kernel, by decide +kernel⟩
section
variable {P : Program} {w : World} {K : PySem.W.Frag} {mg : Str → Option Value} {base : Heap} (C : Ctx w K mg)
include C
def spItemsOf (P : Program) (w : World) (K : PySem.W.Frag) : Sp := fun vs H Q _ => ∃ (A : SA) (S : List Ent) (n : Nat) (xs : List T), vs = [.ref A.self, .int ((n : Nat) : Int)] ∧ StoreAt P w K A S H ∧ Den S n (.l xs) ∧ S.length ≤ 15000000 ∧
  ∀ (D : Addr) (ns : List Nat) (H' : Hp), H D = none → H' D = some (.lst (nums ns)) → All2 (fun t n => Den S n t) xs ns → Same H H' → Q (.ref D) H'
theorem ok_items_of : MOk P w K mg base 1 (He.ga K "Store") "items_of" ["self", "number"] (spItemsOf P w K) := by
  refine mok C.f_Store_items_of C.h_Store_items_of (fun _ _ _ _ _ _ us hl => match us, hl with | [_, _], _ => rfl) sc_Store_items_of (fun vs H Q E h => ?_) (fun f cdv A outer s H vs Q E hr h => ?_)
  · obtain ⟨A, S, n, xs, rfl, _⟩ := h
    rfl
  obtain ⟨A, S, n, xs, rfl, hS, hn, hl, q⟩ := h
  refine ⟨_, (pss_cons (ps_set (i := 2) sc_Store_items_of.nd rfl (Or.inl rfl) (pe_lst pa_nil))
  (pss_cons (ps_while PassesOwn.never (pt_cmpR op_ne (pv 1) (pe_gi (by rfl) C.i_EMPTY) (nomark _)) (pss_cons (ps_asg (pe_ix ix_list (pe_fld (pv 0) rfl) (pv 1) (fun _ _ => rfl)) (pg_tup rfl (pgs_cons (pg_name (i := 3) sc_Store_items_of.nd rfl (Or.inl rfl)) (pgs_cons (pg_name (i := 1) sc_Store_items_of.nd rfl (Or.inl rfl)) pgs_nil))))
  (pss_one (ps_expr (pe_bm PySem.F.plainAttrs_list PySem.F.slot_list_append PySem.F.type_list_append mt_append (pv 2) (pa_cons (pv 3) pa_nil))))))
  (pss_one (ps_ret (pv 2))))), ?_⟩
  refine ⟨Nat.zero_le _, fun D hD => ?_⟩
  have lx := hn.len hS.wf
  have ln := hn.le
  refine ⟨fun m σ H1 => ∃ ys zs k ns o3, xs = ys ++ zs ∧ σ = [some (.ref A.self), some (.int ((k : Nat) : Int)), some (.ref D), o3] ∧ Den S k (.l zs) ∧ H1 D = some (.lst (nums ns)) ∧ All2 (fun t n => Den S n t) ys ns ∧ Same H H1 ∧ m = zs.length, ⟨_, [], xs, n, [], _, rfl, rfl, hn, upd_same, rfl, same_new hD _, rfl⟩, ?_⟩
  rintro m σ H1 ⟨ys, zs, k, ns, o3, rfl, rfl, dk, hD1, a1, sm, rfl⟩
  have hS1 := hS.same sm
  obtain ⟨dx, hi⟩ := hS1.ins
  refine ⟨_, rfl, rfl, _, rfl, ?_⟩
  cases zs with
  | nil =>
    have e := dk.inj hS.wf .nil
    subst e
    refine ite_b (fun hb => by simp at hb) (fun _ => ?_)
    rw [List.append_nil] at q
    exact ⟨_, rfl, q D ns H1 hD hD1 a1 sm⟩
  | cons z zs =>
    refine ite_b (fun _ => ⟨_, fun _ _ h => h, ?_⟩) (fun hb => ?_)
    · obtain ⟨es, v, he, hv, _, _, hp⟩ := entry_at C hS1 dk
      obtain ⟨i, j, p, rfl, hpp, di, dj⟩ := hp z zs rfl
      refine ⟨_, rfl, A.self, _, dx, _, _, rfl, hi, C.c_Store, C.n_Store_entries, rfl, _, rfl, A.e, es, _, _, rfl, rfl, SqL.of he, atI_nat hv, p, _, rfl, SqT.of hpp, rfl, _, _, rfl, _, _, rfl, rfl, ?_⟩
      have ntd : NoTup (H1 D) := by rw [hD1]; exact NoTup.lst
      have la := a1.length
      simp only [T.items, List.length_append, List.length_cons] at lx
      refine ⟨_, rfl, .inl ⟨rfl, _, SqL.of hD1⟩, _, rfl, D, _, _, rfl, rfl, hD1, by rw [nums_len]; exact line_lt (by omega), zs.length, by rw [List.length_cons]; omega, ys ++ [z], zs, j, ns ++ [i], _, by simp, rfl, dj, ?_, a1.snoc di, fun b o e => ?_, rfl⟩
      · rw [upd_same]
        simp [nums]
      · rw [upd_ne (ne_of_none e hD)]
        exact sm _ _ e
    · have e : k = 0 := by simpa using hb
      subst e
      cases dk
def spValueOf (P : Program) (w : World) (K : PySem.W.Frag) : Sp := fun vs H Q _ => ∃ (A : SA) (S : List Ent) (n : Nat) (t : T), vs = [.ref A.self, .int ((n : Nat) : Int)] ∧ StoreAt P w K A S H ∧ Den S n t ∧ S.length ≤ 15000000 ∧ t.parts ≤ 500000 ∧
  ∀ (v : L2.V) (H' : Hp), Same H H' → TV K H' t v → Q v H'
structure ValInv (P : Program) (w : World) (K : PySem.W.Frag) (A : SA) (S : List Ent) (H0 : Hp) (n : Nat) (t : T) (bd wl : Addr) (g : List VE) (kvs : KV) (H : Hp) : Prop where
  sm : Same H0 H
  b : H bd = some (.dK kvs)
  w : H wl = some (.lst (nums (g.map (·.1))).reverse)
  ok : ∀ (m : Nat) (v : L2.V), valV kvs (Sum.inl ((m : Nat) : Int)) = some v → ∃ u, Den S m u ∧ TV K H u v
  gs : GS S kvs [] g
  z : isB kvs 0 = true
  top : isB kvs n = true ∨ n ∈ g.map (·.1)
  len : kvs.length + vmu kvs g ≤ 3 * t.parts + 2
def valW (P : Program) (w : World) (K : PySem.W.Frag) (A : SA) (S : List Ent) (H0 : Hp) (n : Nat) (t : T) (bd wl : Addr) : Nat → L2.St → Hp → Prop := fun m σ H => ∃ (g : List VE) (kvs : KV) (o4 o5 o6 o7 : Option L2.V),
  σ = [some (.ref A.self), some (.int ((n : Nat) : Int)), some (.ref bd), some (.ref wl), o4, o5, o6, o7] ∧ ValInv P w K A S H0 n t bd wl g kvs H ∧ m = vmu kvs g
theorem ok_value_of : MOk P w K mg base 2 (He.ga K "Store") "value_of" ["self", "number"] (spValueOf P w K) := by
  have M_is_word := ok_store_is C (P := P) (base := base)
  have M_items_of := ok_items_of C (P := P) (base := base)
  refine mok C.f_Store_value_of C.h_Store_value_of (fun _ _ _ _ _ _ us hl => match us, hl with | [_, _], _ => rfl) sc_Store_value_of (fun vs H Q E h => ?_) (fun f cdv A outer s H vs Q E hr h => ?_)
  · obtain ⟨A, S, n, t, rfl, _⟩ := h
    rfl
  obtain ⟨A, S, n, t, rfl, hS, hn, hl, hp, q⟩ := h
  refine ⟨_, (pss_cons (ps_set (i := 2) sc_Store_value_of.nd rfl (Or.inr rfl) (pe_disp (pps_cons (pe_gi (by rfl) C.i_EMPTY) (pe_tup pa_nil) pps_nil) (by rfl) (by rfl) (fun z => by cases z) (by decide)))
  (pss_cons (ps_set (i := 3) sc_Store_value_of.nd rfl (Or.inl rfl) (pe_lst (pa_cons (pv 1) pa_nil)))
  (pss_cons (ps_while PassesOwn.never (pt_cmpR op_gt (pe_callB call_len_seq (by rfl) C.z_len PySem.boot_len (pa_cons (pv 3) pa_nil)) pe_int (nomark _)) (pss_cons (ps_set (i := 4) sc_Store_value_of.nd rfl (Or.inl rfl) (pe_ix ix_list (pv 3) (pe_un un_neg pe_int) (fun _ _ => rfl)))
  (pss_one (ps_if (pt_cmp (pc_din (hu_of hr) (pv 4) (pv 2))) (pss_one (ps_expr (pe_bm0 PySem.F.plainAttrs_list PySem.F.slot_list_pop PySem.F.type_list_pop mt_pop (pv 3)))) (pss_one (ps_if (pt_val (pe_mt (pv 0) C.c_Store M_is_word (hr.mono (by decide)) (pa_cons (pv 4) pa_nil))) (pss_one (ps_dput (hu_of hr) (pv 2) (pv 4) (pe_ix ix_list (pe_fld (pv 0) rfl) (pv 4) (fun _ _ => rfl)) rfl)) (pss_cons (ps_set (i := 5) sc_Store_value_of.nd rfl (Or.inl rfl) (pe_mt (pv 0) C.c_Store M_items_of (hr.mono (by decide)) (pa_cons (pv 4) pa_nil)))
  (pss_cons (ps_setLc (i := 6)  (own := [("item", 7)]) (g := gName 7) (by rfl) sc_Store_value_of.nd rfl rfl (sw_true rfl rfl rfl (by decide +kernel)) (pi_list (pv 5)) (blkOk_by (own := [("item", 7)]) (N := ["self", "number", "built", "waiting", "one", "items", "missing", "item"]) (sc := defScope s_Store_value_of) (by decide +kernel)) (fun _ _ _ _ _ => pg_name (i := 7) sc_Store_value_of.nd rfl (Or.inl rfl)) (fun _ _ _ _ _ => pts_one (pt_cmp (pc_dnotin (hu_of hr) (pv 7) (pv 2)))) (fun _ _ _ _ _ => (pv 7)))
  (pss_cons (ps_if (pt_cmpR op_eq (pe_callB call_len_seq (by rfl) C.z_len PySem.boot_len (pa_cons (pv 6) pa_nil)) pe_int (nomark _)) (pss_one (ps_dput (hu_of hr) (pv 2) (pv 4) (pe_callTy call_tuple_of (by rfl) C.z_tuple (by decide +kernel) (pa_cons (pe_lc  (own := [("item", 7)]) (g := gName 7) (by rfl) sc_Store_value_of.nd (pi_list (pv 5)) (blkOk_by (own := [("item", 7)]) (N := ["self", "number", "built", "waiting", "one", "items", "missing", "item"]) (sc := defScope s_Store_value_of) (by decide +kernel)) (fun _ _ _ _ _ => pg_name (i := 7) sc_Store_value_of.nd rfl (Or.inl rfl)) (fun _ _ _ _ _ => pts_nil) (fun _ _ _ _ _ => (pe_dget (hu_of hr) (pv 2) (pv 7) (fun _ _ => rfl)))) pa_nil)) rfl)) pss_nil)
  (pss_one (ps_expr (pe_bm PySem.F.plainAttrs_list PySem.F.slot_list_extend PySem.F.type_list_extend mt_extend (pv 3) (pa_cons (pv 6) pa_nil)))))))))))))
  (pss_one (ps_ret (pe_dget (hu_of hr) (pv 2) (pv 1) (fun _ _ => rfl))))))), ?_⟩
  intro bd nb
  refine ⟨Nat.zero_le _, fun ep ne => ?_⟩
  obtain ⟨ne0, neb⟩ := upd_none ne
  refine ⟨(upd_ne neb.symm).trans upd_same, [(Sum.inl 0, .ref ep)], rfl, by show 1 ≤ 15; decide, _, rfl, by show 1 ≤ sizeLine; decide, fun wl nw => ?_⟩
  obtain ⟨nw1, nwb⟩ := upd_none nw
  obtain ⟨nw2, nwe⟩ := upd_none nw1
  obtain ⟨nw0, _⟩ := upd_none nw2
  have vcle := T.vc_le t
  refine ⟨valW P w K A S H n t bd wl, ⟨_, [(n, t, false)], [(Sum.inl 0, .ref ep)], _, _, _, _, rfl, ⟨fun b o e => ?_, ?_, upd_same, fun m v e => ?_, ⟨hn, (fun e => nomatch e), True.intro⟩, rfl, .inr (List.mem_cons_self ..), ?_⟩, rfl⟩, ?_⟩
  · rw [upd_ne (ne_of_none e nw0), upd_ne (ne_of_none e nb), upd_ne (ne_of_none e ne0), upd_ne (ne_of_none e nb)]
    exact e
  · rw [upd_ne nwb.symm, upd_same] <;> rfl
  · by_cases e0 : m = 0
    · subst e0
      have e1 : some (L2.V.ref ep) = some v := e
      cases e1
      exact ⟨_, .nil, ep, [], rfl, .inl (.of (by rw [upd_ne nwe.symm, upd_ne neb, upd_same])), rfl⟩
    · rw [valV_neg (fun z => e0 (by injection z with z; omega))] at e
      cases e
  · have q1 : vmu [(Sum.inl 0, .ref ep)] [(n, t, false)] ≤ t.vc := by
      show vco _ _ + 0 ≤ _
      unfold vco
      split
      · omega
      · exact Nat.le_of_eq (Nat.add_zero _)
    show 1 + _ ≤ _
    omega
  have nbw : bd ≠ wl := nwb.symm
  clear ne ne0 neb nw nw1 nwb nw2 nwe
  rintro m0 σ H1 ⟨g, kvs, o4, o5, o6, o7, rfl, I, rfl⟩
  have hw := I.w
  have hb := I.b
  have hS1 := hS.same I.sm
  have lg := vlen_le kvs g
  have llen := I.len
  refine ⟨_, rfl, wl, _, rfl, .inl (SqL.of hw), _, _, rfl, rfl, _, rfl, ?_⟩
  cases g with
  | nil =>
    refine ite_b (fun hb => by simp [nums] at hb) (fun _ => ?_)
    have top : isB kvs n = true := by
      rcases I.top with h | h
      · exact h
      · exact (List.not_mem_nil h).elim
    unfold isB at top
    cases e : valV kvs (Sum.inl ((n : Nat) : Int)) with
    | none =>
      rw [e] at top
      cases top
    | some v =>
      obtain ⟨u, hu, tv⟩ := I.ok n v e
      rw [← hn.func hu] at tv
      refine ⟨_, rfl, _, rfl, bd, v, rfl, ?_, q v H1 I.sm tv⟩
      have z := DGet.k (k := Sum.inl ((n : Nat) : Int)) hb
      rw [e] at z
      exact z
  | cons e r =>
    obtain ⟨m, u, f⟩ := e
    obtain ⟨dm, hf, gsr⟩ := I.gs
    have e0 : (nums (((m, u, f) :: r).map (·.1))) = .int ((m : Nat) : Int) :: nums (r.map (·.1)) := rfl
    rw [e0] at hw
    refine ite_b (fun _ => ⟨_, fun _ _ h => h, ?_⟩) (fun hb => by simp [nums] at hb)
    refine ⟨_, rfl, _, rfl, wl, _, _, _, rfl, rfl, SqL.of hw, by rw [List.reverse_cons]; exact atI_last _ _, ?_⟩
    refine ⟨_, rfl, _, rfl, bd, _, rfl, DGet.k (k := Sum.inl ((m : Nat) : Int)) hb, _, rfl, ?_⟩
    have vm : vmu kvs ((m, u, f) :: r) = vco kvs (m, u, f) + vmu kvs r := rfl
    have vp := vco_pos kvs (m, u, f)
    refine ite_b (fun hin => ?_) (fun hin => ?_)
    · -- built: off the stack
      have hin : isB kvs m = true := hin
      refine ⟨_, rfl, .inl ⟨rfl, _, SqL.of hw⟩, wl, _, _, rfl, rfl, hw, rev_last, vmu kvs r, by omega, r, kvs, _, _, _, _, rfl, ⟨fun b o e => ?_, (upd_ne nbw).trans hb, ?_, fun m v e => ?_, gsr.mono fun j hj => ?_, I.z, ?_, by omega⟩, rfl⟩
      · rw [upd_ne (ne_of_none e nw0)]
        exact I.sm b o e
      · rw [upd_same, rev_dropLast]
      · obtain ⟨u, h1, h2⟩ := I.ok m v e
        exact ⟨u, h1, h2.mono (Tk.upd (by rw [hw]; exact NoTup.lst))⟩
      · rcases hj with hj | hj
        · exact .inl hj
        · rcases List.mem_cons.mp hj with e | hj
          · exact .inl (e ▸ hin)
          · exact (List.not_mem_nil hj).elim
      · rcases I.top with h | h
        · exact .inl h
        · rcases List.mem_cons.mp h with e | h
          · exact .inl (e ▸ hin)
          · exact .inr h
    · -- to be built
      have hno : valV kvs (Sum.inl ((m : Nat) : Int)) = none := by
        cases e : valV kvs (Sum.inl ((m : Nat) : Int)) with
        | none => rfl
        | some v =>
          rw [e] at hin
          cases hin
      have hnb : isB kvs m = false := hin
      have vcu := (T.vc_le u).2
      have vc2 : vco kvs (m, u, f) = if f = true then 2 else u.vc := by
        show (if isB kvs m = true then 1 else _) = _
        rw [if_neg (by rw [hnb]; exact Bool.noConfusion)]
      have v2 : 2 ≤ vco kvs (m, u, f) := by
        rw [vc2]
        split <;> omega
      -- the state with m built
      have build : ∀ (v : L2.V) (H3 : Hp), Same H1 H3 → TV K H3 u v → ∃ m', m' < vmu kvs ((m, u, f) :: r) ∧ ∀ o4 o5 o6 o7 : Option L2.V, valW P w K A S H n t bd wl m' [some (.ref A.self), some (.int ((n : Nat) : Int)), some (.ref bd), some (.ref wl), o4, o5, o6, o7] (upd H3 bd (.dK (putK kvs (Sum.inl ((m : Nat) : Int)) v))) := by
        intro v H3 s3 tv
        have mono : ∀ j, isB kvs j = true → isB (putK kvs (Sum.inl ((m : Nat) : Int)) v) j = true := fun j hj => by rw [isB_put, hj, Bool.or_true]
        have now : isB (putK kvs (Sum.inl ((m : Nat) : Int)) v) m = true := by rw [isB_put, decide_eq_true rfl, Bool.true_or]
        have c1 : vco (putK kvs (Sum.inl ((m : Nat) : Int)) v) (m, u, f) = 1 := if_pos now
        have c2 := vmu_mono mono r
        have c3 : vmu (putK kvs (Sum.inl ((m : Nat) : Int)) v) ((m, u, f) :: r) = 1 + vmu (putK kvs (Sum.inl ((m : Nat) : Int)) v) r := by
          show vco _ _ + _ = _
          rw [c1]
        have c4 := length_putK kvs (Sum.inl ((m : Nat) : Int)) v
        have kb : Tk H3 (upd H3 bd (.dK (putK kvs (Sum.inl ((m : Nat) : Int)) v))) := Tk.upd (by rw [s3 _ _ hb]; exact NoTup.dK)
        refine ⟨_, ?_, fun o4 o5 o6 o7 => ⟨(m, u, f) :: r, putK kvs (Sum.inl ((m : Nat) : Int)) v, o4, o5, o6, o7, rfl, ⟨fun b o e => ?_, upd_same, (upd_ne nbw.symm).trans (s3 _ _ I.w), fun j w e => ?_, I.gs.mono fun j hj => ?_, mono 0 I.z, ?_, by omega⟩, rfl⟩⟩
        · omega
        · rw [upd_ne (ne_of_none e nb)]
          exact s3 _ _ (I.sm b o e)
        · rw [valV_put] at e
          by_cases z : (Sum.inl ((j : Nat) : Int) : Key) = Sum.inl ((m : Nat) : Int)
          · rw [if_pos z] at e
            cases e
            have zz : j = m := by
              injection z with z
              omega
            subst zz
            exact ⟨u, dm, tv.mono kb⟩
          · rw [if_neg z] at e
            obtain ⟨u', h1, h2⟩ := I.ok j w e
            exact ⟨u', h1, (h2.mono (Tk.same s3)).mono kb⟩
        · rcases hj with hj | hj
          · exact .inl (mono j hj)
          · exact .inr hj
        · rcases I.top with h | h
          · exact .inl (mono n h)
          · exact .inr h
      obtain ⟨dx, hi⟩ := hS1.ins
      refine ⟨_, rfl, A.self, dx, _, rfl, hi, rfl, _, rfl, A, S, m, u, rfl, hS1, dm, _, rfl, ite_b (fun hwd => ?_) (fun hwd => ?_)⟩
      · cases u with
        | l xs => cases hwd
        | w x =>
          obtain ⟨es, v, he, hv, _, hx, _⟩ := entry_at C hS1 dm
          obtain ⟨m', l', W'⟩ := build v H1 (fun _ _ e => e) (hx x rfl)
          exact ⟨_, rfl, A.self, _, dx, _, _, rfl, hi, C.c_Store, C.n_Store_entries, rfl, _, rfl, A.e, es, _, v, rfl, rfl, SqL.of he, atI_nat hv, _, rfl, _, rfl, bd, _, rfl, DPut.k (k := Sum.inl ((m : Nat) : Int)) hb (line_lt (by omega)), m', l', W' _ _ _ _⟩
      · cases u with
        | w x => cases hwd
        | l xs =>
          refine ⟨_, rfl, A.self, dx, _, rfl, hi, rfl, _, rfl, A, S, m, xs, rfl, hS1, dm, hl, fun D ns H2 nD hD a2 sm2 => ?_⟩
          obtain ⟨g2, gm, gd, gc⟩ := vsplit kvs a2
          have hb2 := sm2 _ _ hb
          have hw2 := sm2 _ _ I.w
          have la := a2.length
          have lx := dm.len hS.wf
          have ln := dm.le
          have lx : xs.length ≤ m := lx
          refine ⟨_, rfl, D, rfl, ⟨_, SqL.of hD⟩, fun D2 nD2 => lc_list (xs := nums ns) (fun i H3 => H3 D2 = some (.lst (nums ((ns.take i).filter fun j => !isB kvs j))) ∧ Same H2 H3) ⟨upd_same, same_new nD2 _⟩ (fun i H3 _ h => SqL.of (h.2 _ _ hD)) (fun i y H3 hy h => ?_) (fun H3 h => ?_)⟩
          · obtain ⟨h1, h2⟩ := h
            have hin := (List.getElem?_eq_some_iff.mp hy).1
            rw [nums_len] at hin
            rw [nums_get (List.getElem?_eq_getElem hin)] at hy
            cases hy
            have ht : (ns.take (i + 1)).filter (fun j => !isB kvs j) = (ns.take i).filter (fun j => !isB kvs j) ++ if !isB kvs ns[i] then [ns[i]] else [] := by
              rw [List.take_succ, List.getElem?_eq_getElem hin]
              show List.filter _ (_ ++ [ns[i]]) = _
              rw [List.filter_append, List.filter_cons]
              rfl
            refine ⟨rfl, _, rfl, _, rfl, bd, _, rfl, DGet.k (k := Sum.inl ((ns[i] : Nat) : Int)) (h2 _ _ hb2), _, rfl, ite_b (fun hn => ?_) (fun hn => ?_)⟩
            · have hn : (!isB kvs ns[i]) = true := hn
              refine ⟨_, rfl, _, h1, ?_, ?_, fun b o e => ?_⟩
              · rw [nums_len]
                refine line_lt ?_
                have q1 := List.length_filter_le (fun j => !isB kvs j) (ns.take i)
                rw [List.length_take] at q1
                omega
              · rw [upd_same, ht, if_pos hn]
                simp [nums]
              · rw [upd_ne (ne_of_none e nD2)]
                exact h2 _ _ e
            · have hn : (!isB kvs ns[i]) = false := hn
              refine ⟨?_, h2⟩
              rw [ht, if_neg (by rw [hn]; exact Bool.noConfusion), List.append_nil]
              exact h1
          · obtain ⟨h1, h2⟩ := h
            rw [nums_len, List.take_length] at h1
            have hb3 := h2 _ _ hb2
            have hw3 := h2 _ _ hw2
            have hD3 := h2 _ _ hD
            have sm3 : Same H1 H3 := fun b o e => h2 _ _ (sm2 _ _ e)
            refine ⟨_, rfl, D2, _, rfl, .inl (SqL.of h1), rfl, _, rfl, ite_b (fun he => ?_) (fun he => ?_)⟩
            · -- nothing is missing
              have emp : ns.filter (fun j => !isB kvs j) = [] := by
                cases e : ns.filter (fun j => !isB kvs j) with
                | nil => rfl
                | cons a r =>
                  rw [e] at he
                  simp [nums] at he
                  omega
              have all : ∀ j ∈ ns, isB kvs j = true := fun j hj => by
                have z := List.filter_eq_nil_iff.mp emp j hj
                simpa using z
              refine ⟨_, rfl, D, rfl, ⟨_, SqL.of hD3⟩, fun D3 nD3 => lc_list (xs := nums ns) (fun i H4 => (∃ vs, H4 D3 = some (.lst vs) ∧ TVs K H4 (xs.take i) vs) ∧ Same H3 H4) ⟨⟨[], upd_same, rfl⟩, same_new nD3 _⟩ (fun i H4 _ h => SqL.of (h.2 _ _ hD3)) (fun i y H4 hy h => ?_) (fun H4 h => ?_)⟩
              · obtain ⟨⟨vs, h4, h5⟩, h6⟩ := h
                have hin := (List.getElem?_eq_some_iff.mp hy).1
                rw [nums_len] at hin
                rw [nums_get (List.getElem?_eq_getElem hin)] at hy
                cases hy
                have hix : i < xs.length := by omega
                obtain ⟨j, hj, dj⟩ := a2.get (List.getElem?_eq_getElem hix)
                rw [List.getElem?_eq_getElem hin] at hj
                cases hj
                have bj := all ns[i] (List.getElem_mem ..)
                unfold isB at bj
                cases e : valV kvs (Sum.inl ((ns[i] : Nat) : Int)) with
                | none =>
                  rw [e] at bj
                  cases bj
                | some v =>
                  obtain ⟨u, hu, tv⟩ := I.ok _ v e
                  rw [← dj.func hu] at tv
                  have z := DGet.k (k := Sum.inl ((ns[i] : Nat) : Int)) (h6 _ _ hb3)
                  rw [e] at z
                  have k4 : Tk H4 (upd H4 D3 (.lst (vs ++ [v]))) := Tk.upd (by rw [h4]; exact NoTup.lst)
                  have lv := h5.length
                  rw [List.length_take] at lv
                  refine ⟨rfl, _, rfl, _, rfl, bd, v, rfl, z, vs, h4, line_lt (by omega), ⟨_, upd_same, ?_⟩, fun b o e => ?_⟩
                  · rw [SqT.take_get hix]
                    exact (h5.mono k4).snoc (((tv.mono (Tk.same sm3)).mono (Tk.same h6)).mono k4)
                  · rw [upd_ne (ne_of_none e nD3)]
                    exact h6 _ _ e
              · obtain ⟨⟨vs, h4, h5⟩, h6⟩ := h
                rw [nums_len, show ns.length = xs.length by omega, List.take_length] at h5
                refine ⟨D3, vs, rfl, .inl ⟨SqL.of h4, fun l nl => ?_⟩⟩
                have s7 : Same H4 (upd H4 l (.tup vs)) := same_new nl _
                have s8 : Same H1 (upd H4 l (.tup vs)) := fun b o e => s7 _ _ (h6 _ _ (sm3 _ _ e))
                obtain ⟨m', l', W'⟩ := build (.ref l) _ s8 ⟨l, vs, rfl, .inl (.of upd_same), h5.mono (Tk.same s7)⟩
                refine ⟨_, rfl, _, rfl, bd, _, rfl, DPut.k (k := Sum.inl ((m : Nat) : Int)) (s8 _ _ hb) (line_lt (by omega)), ?_⟩
                have nb2 : bd ≠ D2 := ne_of_none hb2 nD2
                have nwd : wl ≠ D2 := ne_of_none hw2 nD2
                have h1' := s7 _ _ (h6 _ _ h1)
                have hw' := s8 _ _ I.w
                rw [emp] at h1'
                refine ⟨_, rfl, .inl ⟨rfl, _, SqL.of ((upd_ne nbw.symm).trans hw')⟩, _, rfl, wl, D2, _, [], rfl, rfl, (upd_ne nbw.symm).trans hw', (upd_ne nb2.symm).trans h1', ?_, ?_⟩
                · rw [List.length_nil, List.length_reverse, nums_len, List.length_map]
                  exact line_le (by omega)
                · have z : upd (upd (upd H4 l (.tup vs)) bd (.dK (putK kvs (Sum.inl ((m : Nat) : Int)) (.ref l)))) wl (.lst ((nums (((m, T.l xs, f) :: r).map (·.1))).reverse ++ [])) = upd (upd H4 l (.tup vs)) bd (.dK (putK kvs (Sum.inl ((m : Nat) : Int)) (.ref l))) := by
                    funext b
                    by_cases e : b = wl
                    · subst e
                      rw [upd_same, List.append_nil, upd_ne nbw.symm, hw']
                    · rw [upd_ne e]
                  rw [z]
                  exact ⟨m', l', W' _ _ _ _⟩
            · -- some are
              have ff : f = false := by
                cases f with
                | false => rfl
                | true =>
                  exfalso
                  have emp : ns.filter (fun j => !isB kvs j) = [] := List.filter_eq_nil_iff.mpr fun j hj => by
                    rcases hf rfl xs ns rfl a2 j hj with z | z
                    · simp [z]
                    · exact (List.not_mem_nil z).elim
                  rw [emp] at he
                  simp [nums] at he
              subst ff
              have c0 : vco kvs (m, T.l xs, false) = 3 + T.vcs xs := by rw [vc2] <;> rfl
              have c1 : vco kvs (m, T.l xs, true) = 2 := by
                show (if isB kvs m = true then 1 else if true = true then 2 else _) = 2
                rw [if_neg (by rw [hnb]; exact Bool.noConfusion)]
                rfl
              have c2 : vmu kvs (g2.reverse ++ (m, T.l xs, true) :: r) = vmu kvs g2 + (2 + vmu kvs r) := by
                rw [vmu_app, vmu_rev]
                show _ + (vco _ _ + _) = _
                rw [c1]
              have lg2 := vlen_le kvs g2
              have lf : (ns.filter fun j => !isB kvs j).length = g2.length := by rw [← gm, List.length_map]
              simp only [List.length_cons] at lg
              refine ⟨_, rfl, .inl ⟨rfl, _, SqL.of hw3⟩, _, rfl, wl, D2, _, _, rfl, rfl, hw3, h1, ?_, vmu kvs (g2.reverse ++ (m, T.l xs, true) :: r), by omega, g2.reverse ++ (m, T.l xs, true) :: r, kvs, _, _, _, _, rfl, ⟨fun b o e => ?_, (upd_ne nbw).trans hb3, ?_, fun j v e => ?_, ?_, I.z, ?_, by omega⟩, rfl⟩
              · rw [List.length_reverse, nums_len, nums_len, List.length_map, List.length_cons, lf]
                exact line_le (by omega)
              · rw [upd_ne (ne_of_none e nw0)]
                exact sm3 _ _ (I.sm b o e)
              · rw [upd_same, ← gm]
                simp [nums]
              · obtain ⟨u, h4, h5⟩ := I.ok j v e
                exact ⟨u, h4, (h5.mono (Tk.same sm3)).mono (Tk.upd (by rw [hw3]; exact NoTup.lst))⟩
              · refine GS.app (fun e he => gd e (List.mem_reverse.mp he)) ⟨dm, fun _ ys ms e a3 j hj => ?_, gsr.mono fun j hj => ?_⟩
                · cases e
                  rw [← den_inj2 hS.wf a2 a3] at hj
                  by_cases bj : isB kvs j = true
                  · exact .inl bj
                  · refine .inr ?_
                    rw [List.append_nil, List.mem_reverse, List.map_reverse, List.mem_reverse, gm]
                    exact List.mem_filter.mpr ⟨hj, by simpa using bj⟩
                · rcases hj with hj | hj
                  · exact .inl hj
                  · rw [List.mem_singleton.mp hj]
                    exact .inr (List.mem_cons_self ..)
              · rcases I.top with h | h
                · exact .inl h
                · refine .inr ?_
                  rw [List.map_append]
                  exact List.mem_append_right _ h
end
end K35
end

section
set_option Elab.async false
set_option linter.all false
set_option maxRecDepth 100000
/-! The machine on the heap. -/
namespace K35
open PySem PySem.Spec PyProof.Rows L2
/-- a name's numbers stand in the dict -/
def NamesOk (S : List Ent) (env : Bs) (kvs : KV) : Prop := ∀ x v, lk env x = some v → ∃ k j : Nat, Den S k (.w x) ∧ valV kvs (Sum.inl (k : Int)) = some (.int (j : Int)) ∧ Den S j v
def NamesAt (S : List Ent) (H : Hp) (env : Bs) (v : L2.V) : Prop := ∃ a kvs, v = .ref a ∧ H a = some (.dK kvs) ∧ NamesOk S env kvs
def TaskAt (p : List Fn) (S : List Ent) (H : Hp) : Task → L2.V → Prop
  | .ev e env, v => ∃ (q : Addr) (m : Nat) (nv : L2.V), v = .ref q ∧ H q = some (.tup [.str "eval", .int (m : Int), nv]) ∧ Den S m e.enc ∧ NamesAt S H env nv
  | .ite b c env, v => ∃ (q : Addr) (m n : Nat) (nv : L2.V), v = .ref q ∧ H q = some (.tup [.str "if", .int (m : Int), .int (n : Int), nv]) ∧ Den S m b.enc ∧ Den S n c.enc ∧ NamesAt S H env nv
  | .doo w, v => ∃ q : Addr, v = .ref q ∧ H q = some (.tup [.str "do", .str w])
  | .call w, v => ∃ (q : Addr) (k : Nat) (g : Fn), v = .ref q ∧ H q = some (.tup [.str "call", .int (k : Int), .int ((g.ps.length : Nat) : Int)]) ∧ Den S k (.w w) ∧ fnd p w = some g
structure MA where
  self : Addr
  s : SA
  fn : Addr
  kept : Addr
  fl : Addr
  tl : Addr
  yes : Nat
def mset (M : MA) : List Addr := [M.s.e, M.s.n, M.s.s, M.s.d, M.fl, M.tl, M.self]
def mfields (M : MA) (n : Nat) : List (Str × L2.V) := [("store", .ref M.s.self), ("yes", .int (M.yes : Int)), ("functions", .ref M.fn), ("keeping", .bl false), ("kept", .ref M.kept), ("pair", .non), ("steps", .int (n : Int)), ("found", .ref M.fl), ("todo", .ref M.tl)]
/-- all but the machine's own lists stands -/
def MFr (M : MA) (H H' : Hp) : Prop := ∀ b o, H b = some o → b ∉ mset M → H' b = some o
theorem MFr.refl (M : MA) (H : Hp) : MFr M H H := fun _ _ h _ => h
theorem MFr.trans {M : MA} {H H1 H2 : Hp} (a : MFr M H H1) (b : MFr M H1 H2) : MFr M H H2 := fun c o h n => b c o (a c o h n) n
theorem MFr.same {M : MA} {H H' : Hp} (s : Same H H') : MFr M H H' := fun c o h _ => s c o h
theorem MFr.of4 {M : MA} {H H' : Hp} (f : Fr4 M.s H H') : MFr M H H' := fun c o h n => by
  unfold mset at n
  simp only [List.mem_cons, List.not_mem_nil, or_false, not_or] at n
  exact f c o h n.1 n.2.1 n.2.2.1 n.2.2.2.1
theorem MFr.upd {M : MA} {H : Hp} {b : Addr} {o : HO} (h : b ∈ mset M) : MFr M H (upd H b o) := fun c u e n => by
  rw [upd_ne (fun z : c = b => n (by rw [z]; exact h))]
  exact e
def FunsOk (p : List Fn) (S : List Ent) (M : MA) (H : Hp) (kvs : KV) : Prop := ∀ w g, fnd p w = some g → ∃ (k : Nat) (fa pa : Addr) (ns : List Nat) (b : Nat), Den S k (.w w) ∧ valV kvs (Sum.inl (k : Int)) = some (.ref fa) ∧ H fa = some (.tup [.ref pa, .int (b : Int)]) ∧
  H pa = some (.lst (nums ns)) ∧ pa ∉ mset M ∧ All2 (fun x n => Den S n (.w x)) g.ps ns ∧ Den S b g.body.enc
structure MachAt (P : Program) (w : World) (K : PySem.W.Frag) (M : MA) (p : List Fn) (S : List Ent) (s : MS) (H : Hp) : Prop where
  st : StoreAt P w K M.s S H
  ins : ∃ dx, H M.self = some (.ins (He.ga K "Machine") dx (mfields M s.steps))
  funs : ∃ kvs, H M.fn = some (.dK kvs) ∧ FunsOk p S M H kvs
  yes : Den S M.yes T.yes
  nd : ∀ f ∈ p, f.ps.Nodup
  apart : M.fl ≠ M.tl ∧ (M.fl ≠ M.s.e ∧ M.fl ≠ M.s.s ∧ M.fl ≠ M.s.d) ∧ (M.tl ≠ M.s.e ∧ M.tl ≠ M.s.s ∧ M.tl ≠ M.s.d) ∧ M.self ≠ M.s.self
  found : ∃ ns, H M.fl = some (.lst (nums ns).reverse) ∧ All2 (fun t n => Den S n t) s.found ns
  todo : ∃ vs, H M.tl = some (.lst vs.reverse) ∧ All2 (TaskAt p S H) s.todo vs
/-- tuples and dicts stand -/
def Keep (H H' : Hp) : Prop := (∀ b xs, H b = some (.tup xs) → H' b = some (.tup xs)) ∧ ∀ (b : Addr) (kvs : KV), H b = some (.dK kvs) → H' b = some (.dK kvs)
theorem Keep.refl (H : Hp) : Keep H H := ⟨fun _ _ h => h, fun _ _ h => h⟩
theorem Keep.trans {H H1 H2 : Hp} (a : Keep H H1) (b : Keep H1 H2) : Keep H H2 := ⟨fun c x h => b.1 c x (a.1 c x h), fun c x h => b.2 c x (a.2 c x h)⟩
theorem Keep.same {H H' : Hp} (s : Same H H') : Keep H H' := ⟨fun _ _ h => s _ _ h, fun _ _ h => s _ _ h⟩
theorem NamesOk.ext {S S' : List Ent} (x : ExtS S S') {env : Bs} {kvs : KV} (h : NamesOk S env kvs) : NamesOk S' env kvs := fun y v e => by
  obtain ⟨k, j, h1, h2, h3⟩ := h y v e
  exact ⟨k, j, h1.ext x, h2, h3.ext x⟩
theorem NamesAt.mono {S S' : List Ent} {H H' : Hp} (x : ExtS S S') (k : Keep H H') {env : Bs} {v : L2.V} (h : NamesAt S H env v) : NamesAt S' H' env v := by
  obtain ⟨a, kvs, e, h1, h2⟩ := h
  exact ⟨a, kvs, e, k.2 _ _ h1, h2.ext x⟩
theorem TaskAt.mono {p : List Fn} {S S' : List Ent} {H H' : Hp} (x : ExtS S S') (k : Keep H H') : ∀ {t : Task} {v : L2.V}, TaskAt p S H t v → TaskAt p S' H' t v
  | .ev _ _, _, ⟨q, m, nv, e, h1, h2, h3⟩ => ⟨q, m, nv, e, k.1 _ _ h1, h2.ext x, h3.mono x k⟩
  | .ite _ _ _, _, ⟨q, m, n, nv, e, h1, h2, h3, h4⟩ => ⟨q, m, n, nv, e, k.1 _ _ h1, h2.ext x, h3.ext x, h4.mono x k⟩
  | .doo _, _, ⟨q, e, h1⟩ => ⟨q, e, k.1 _ _ h1⟩
  | .call _, _, ⟨q, j, g, e, h1, h2, h3⟩ => ⟨q, j, g, e, k.1 _ _ h1, h2.ext x, h3⟩
section
variable {P : Program} {w : World} {K : PySem.W.Frag} {M : MA} {p : List Fn} {S : List Ent} {s : MS} {H H' : Hp}
theorem MachAt.mem (x : MachAt P w K M p S s H) {b : Addr} (h : b ∈ mset M) : (∃ xs, H b = some (.lst xs)) ∨ (∃ C dx fs, H b = some (.ins C dx fs)) ∨ (∃ φ, H b = some (.ext φ)) := by
  obtain ⟨wf, ap, ⟨dx, hi⟩, v0, kvs, szs, dps, h0, hl, he, hn, hs, hd, hk, hz⟩ := x.st
  obtain ⟨ns, hf, _⟩ := x.found
  obtain ⟨vs, ht, _⟩ := x.todo
  obtain ⟨dx2, hi2⟩ := x.ins
  unfold mset at h
  simp only [List.mem_cons, List.not_mem_nil, or_false] at h
  rcases h with h | h | h | h | h | h | h <;> subst h
  · exact .inl ⟨_, he⟩
  · exact .inr (.inr ⟨_, hn⟩)
  · exact .inl ⟨_, hs⟩
  · exact .inl ⟨_, hd⟩
  · exact .inl ⟨_, hf⟩
  · exact .inl ⟨_, ht⟩
  · exact .inr (.inl ⟨_, _, _, hi2⟩)
theorem MachAt.keep (x : MachAt P w K M p S s H) (f : MFr M H H') : Keep H H' := by
  refine ⟨fun b xs e => f _ _ e fun m => ?_, fun b kvs e => f _ _ e fun m => ?_⟩
  · rcases x.mem m with ⟨_, h⟩ | ⟨_, _, _, h⟩ | ⟨_, h⟩ <;> (rw [e] at h; cases h)
  · rcases x.mem m with ⟨_, h⟩ | ⟨_, _, _, h⟩ | ⟨_, h⟩ <;> (rw [e] at h; cases h)
theorem FunsOk.mono {S' : List Ent} (x : ExtS S S') (k : Keep H H') (f : MFr M H H') {kvs : KV} (h : FunsOk p S M H kvs) : FunsOk p S' M H' kvs := fun y g e => by
  obtain ⟨k1, fa, pa, ns, b, h1, h2, h3, h4, h5, h6, h7⟩ := h y g e
  exact ⟨k1, fa, pa, ns, b, h1.ext x, h2, k.1 _ _ h3, f _ _ h4 h5, h5, h6.mono fun _ _ q => q.ext x, h7.ext x⟩
/-- a new address is none of the machine's -/
theorem MachAt.new (x : MachAt P w K M p S s H) {b : Addr} (h : H b = none) : b ∉ mset M := fun m => by
  rcases x.mem m with ⟨_, q⟩ | ⟨_, _, _, q⟩ | ⟨_, q⟩ <;> (rw [h] at q; cases q)
/-- nothing of it is touched -/
theorem MachAt.same (x : MachAt P w K M p S s H) (sm : Same H H') : MachAt P w K M p S s H' := by
  have k := Keep.same sm
  obtain ⟨dx, hi⟩ := x.ins
  obtain ⟨kvs, hf, fo⟩ := x.funs
  obtain ⟨ns, h1, h2⟩ := x.found
  obtain ⟨vs, h3, h4⟩ := x.todo
  exact ⟨x.st.same sm, ⟨dx, sm _ _ hi⟩, ⟨kvs, sm _ _ hf, fo.mono (ExtS.refl S) k (.same sm)⟩, x.yes, x.nd, x.apart, ⟨ns, sm _ _ h1, h2⟩, vs, sm _ _ h3, h4.mono fun _ _ q => q.mono (ExtS.refl S) k⟩
/-- the addresses differ -/
theorem MachAt.ne (x : MachAt P w K M p S s H) : (M.fl ≠ M.s.self ∧ M.fl ≠ M.s.n ∧ M.fl ≠ M.self) ∧ (M.tl ≠ M.s.self ∧ M.tl ≠ M.s.n ∧ M.tl ≠ M.self) ∧ (M.self ≠ M.s.e ∧ M.self ≠ M.s.n ∧ M.self ≠ M.s.s ∧ M.self ≠ M.s.d) := by
  obtain ⟨wf, ap, ⟨dx, hi⟩, v0, kvs, szs, dps, h0, hl, he, hn, hs, hd, hk, hz⟩ := x.st
  obtain ⟨ns, hf, _⟩ := x.found
  obtain ⟨vs, ht, _⟩ := x.todo
  obtain ⟨dx2, hi2⟩ := x.ins
  exact ⟨⟨ne_of hf hi (by intro z; cases z), ne_of hf hn (by intro z; cases z), ne_of hf hi2 (by intro z; cases z)⟩, ⟨ne_of ht hi (by intro z; cases z), ne_of ht hn (by intro z; cases z), ne_of ht hi2 (by intro z; cases z)⟩,
    ne_of hi2 he (by intro z; cases z), ne_of hi2 hn (by intro z; cases z), ne_of hi2 hs (by intro z; cases z), ne_of hi2 hd (by intro z; cases z)⟩
/-- the found list is changed -/
theorem MachAt.setFound (x : MachAt P w K M p S s H) {fs : List T} {ns : List Nat} (h : All2 (fun t n => Den S n t) fs ns) {xs : List L2.V} (e : xs = (nums ns).reverse) : MachAt P w K M p S ⟨s.todo, fs, s.steps⟩ (upd H M.fl (.lst xs)) ∧ MFr M H (upd H M.fl (.lst xs)) := by
  subst e
  obtain ⟨⟨a1, a2, a3⟩, ⟨b1, b2, b3⟩, c1, c2, c3, c4⟩ := x.ne
  obtain ⟨d1, ⟨d2, d3, d4⟩, ⟨d5, d6, d7⟩, d8⟩ := x.apart
  have f : MFr M H (upd H M.fl (.lst (nums ns).reverse)) := MFr.upd (by unfold mset; simp)
  have k := x.keep f
  obtain ⟨dx, hi⟩ := x.ins
  obtain ⟨kvs, hf, fo⟩ := x.funs
  obtain ⟨ns', h1, h2⟩ := x.found
  obtain ⟨vs, h3, h4⟩ := x.todo
  exact ⟨⟨x.st.upd ⟨a1, d2, a2, d3, d4⟩ (by rw [h1]; exact NoTup.lst), ⟨dx, (upd_ne a3.symm).trans hi⟩, ⟨kvs, k.2 _ _ hf, fo.mono (ExtS.refl S) k f⟩, x.yes, x.nd, x.apart, ⟨ns, upd_same, h⟩, vs, (upd_ne d1.symm).trans h3, h4.mono fun _ _ q => q.mono (ExtS.refl S) k⟩, f⟩
/-- the todo list is changed -/
theorem MachAt.setTodo (x : MachAt P w K M p S s H) {ts : List Task} {vs : List L2.V} (h : All2 (TaskAt p S H) ts vs) {xs : List L2.V} (e : xs = vs.reverse) : MachAt P w K M p S ⟨ts, s.found, s.steps⟩ (upd H M.tl (.lst xs)) ∧ MFr M H (upd H M.tl (.lst xs)) := by
  subst e
  obtain ⟨⟨a1, a2, a3⟩, ⟨b1, b2, b3⟩, c1, c2, c3, c4⟩ := x.ne
  obtain ⟨d1, ⟨d2, d3, d4⟩, ⟨d5, d6, d7⟩, d8⟩ := x.apart
  have f : MFr M H (upd H M.tl (.lst vs.reverse)) := MFr.upd (by unfold mset; simp)
  have k := x.keep f
  obtain ⟨dx, hi⟩ := x.ins
  obtain ⟨kvs, hf, fo⟩ := x.funs
  obtain ⟨ns', h1, h2⟩ := x.found
  obtain ⟨vs', h3, h4⟩ := x.todo
  exact ⟨⟨x.st.upd ⟨b1, d5, b2, d6, d7⟩ (by rw [h3]; exact NoTup.lst), ⟨dx, (upd_ne b3.symm).trans hi⟩, ⟨kvs, k.2 _ _ hf, fo.mono (ExtS.refl S) k f⟩, x.yes, x.nd, x.apart, ⟨ns', (upd_ne d1).trans h1, h2⟩, vs, upd_same, h.mono fun _ _ q => q.mono (ExtS.refl S) k⟩, f⟩
/-- the steps are changed -/
theorem MachAt.setSteps (x : MachAt P w K M p S s H) {n : Nat} {dx : Addr} : MachAt P w K M p S ⟨s.todo, s.found, n⟩ (upd H M.self (.ins (He.ga K "Machine") dx (mfields M n))) ∧ MFr M H (upd H M.self (.ins (He.ga K "Machine") dx (mfields M n))) := by
  obtain ⟨⟨a1, a2, a3⟩, ⟨b1, b2, b3⟩, c1, c2, c3, c4⟩ := x.ne
  obtain ⟨d1, ⟨d2, d3, d4⟩, ⟨d5, d6, d7⟩, d8⟩ := x.apart
  have f : MFr M H (upd H M.self (.ins (He.ga K "Machine") dx (mfields M n))) := MFr.upd (by unfold mset; simp)
  have k := x.keep f
  obtain ⟨dx', hi⟩ := x.ins
  obtain ⟨kvs, hf, fo⟩ := x.funs
  obtain ⟨ns', h1, h2⟩ := x.found
  obtain ⟨vs', h3, h4⟩ := x.todo
  exact ⟨⟨x.st.upd ⟨d8, c1, c2, c3, c4⟩ (by rw [hi]; exact NoTup.ins), ⟨dx, upd_same⟩, ⟨kvs, k.2 _ _ hf, fo.mono (ExtS.refl S) k f⟩, x.yes, x.nd, x.apart, ⟨ns', (upd_ne a3).trans h1, h2⟩, vs', (upd_ne b3).trans h3, h4.mono fun _ _ q => q.mono (ExtS.refl S) k⟩, f⟩
/-- the table has grown -/
theorem MachAt.grow (x : MachAt P w K M p S s H) {S' : List Ent} (st : StoreAt P w K M.s S' H') (f4 : Fr4 M.s H H') (ex : ExtS S S') : MachAt P w K M p S' s H' := by
  have f := MFr.of4 (M := M) f4
  have k := x.keep f
  obtain ⟨⟨a1, a2, a3⟩, ⟨b1, b2, b3⟩, c1, c2, c3, c4⟩ := x.ne
  obtain ⟨d1, ⟨d2, d3, d4⟩, ⟨d5, d6, d7⟩, d8⟩ := x.apart
  obtain ⟨dx', hi⟩ := x.ins
  obtain ⟨kvs, hf, fo⟩ := x.funs
  obtain ⟨ns', h1, h2⟩ := x.found
  obtain ⟨vs', h3, h4⟩ := x.todo
  exact ⟨st, ⟨dx', f4 _ _ hi c1 c2 c3 c4⟩, ⟨kvs, k.2 _ _ hf, fo.mono ex k f⟩, x.yes.ext ex, x.nd, x.apart, ⟨ns', f4 _ _ h1 d2 a2 d3 d4, h2.mono fun _ _ q => q.ext ex⟩, vs', f4 _ _ h3 d5 b2 d6 d7, h4.mono fun _ _ q => q.mono ex k⟩
end
end K35
end

section
set_option Elab.async false
set_option linter.all false
set_option maxRecDepth 100000
namespace K35
open PySem PySem.Spec PyProof.Rows L2
theorem lk_at : ∀ {xs : List Str} {vs : List T} {x : Str} {v : T}, lk (xs.zip vs) x = some v → ∃ i : Nat, xs[i]? = some x ∧ vs[i]? = some v
  | [], _, _, _, h => by cases h
  | _ :: _, [], _, _, h => by cases h
  | a :: xs, b :: vs, x, v, h => by
    have h' : (if a = x then some b else lk (xs.zip vs) x) = some v := h
    by_cases e : a = x
    · rw [if_pos e] at h'
      exact ⟨0, by rw [e] <;> rfl, h'⟩
    · rw [if_neg e] at h'
      obtain ⟨i, h1, h2⟩ := lk_at h'
      exact ⟨i + 1, h1, h2⟩
theorem sc_Machine_begin : FnScope ["self", "name", "numbers", "parameters", "body", "call", "names", "parameter", "number"] ["self", "name", "numbers"] (defScope s_Machine_begin) := ⟨rfl, rfl, rfl, by decide +kernel, rfl, by decide +kernel, by decide +kernel⟩
theorem sc_Machine_do : FnScope ["self", "word", "second", "first"] ["self", "word"] (defScope s_Machine_do) := ⟨rfl, rfl, rfl, by decide +kernel, rfl, by decide +kernel, by decide +kernel⟩
section
variable {P : Program} {w : World} {K : PySem.W.Frag} {mg : Str → Option Value} {base : Heap} (C : Ctx w K mg)
include C
def spBegin (P : Program) (w : World) (K : PySem.W.Frag) : Sp := fun vs H Q _ => ∃ (M : MA) (p : List Fn) (S : List Ent) (s : MS) (nm : Str) (g : Fn) (k : Nat) (qa : Addr) (js : List Nat) (us : List T), vs = [.ref M.self, .int (k : Int), .ref qa] ∧ MachAt P w K M p S s H ∧ fnd p nm = some g ∧ Den S k (.w nm) ∧
  H qa = some (.tup (nums js)) ∧ All2 (fun t n => Den S n t) us js ∧ us.length = g.ps.length ∧ g.ps.length ≤ 12 ∧ s.todo.length ≤ 15000000 ∧
  ∀ H', MachAt P w K M p S ⟨.ev g.body (g.ps.zip us) :: s.todo, s.found, s.steps⟩ H' → MFr M H H' → Q .non H'
theorem ok_begin : MOk P w K mg base 1 (He.ga K "Machine") "begin" ["self", "name", "numbers"] (spBegin P w K) := by
  refine mok C.f_Machine_begin C.h_Machine_begin (fun _ _ _ _ _ _ us hl => match us, hl with | [_, _, _], _ => rfl) sc_Machine_begin (fun vs H Q E h => ?_) (fun f cdv A outer s H vs Q E hr h => ?_)
  · obtain ⟨M, p, S, s, nm, g, k, qa, js, us, rfl, _⟩ := h
    rfl
  obtain ⟨M, p, S, s', nm, g, k, qa, js, us, rfl, hM, hg, hk, hqa, hus, lus, lps, lt, q⟩ := h
  refine ⟨_, (pss_cons (ps_asg (pe_dget (hu_of hr) (pe_fld (pv 0) rfl) (pv 1) (fun _ _ => rfl)) (pg_tup rfl (pgs_cons (pg_name (i := 3) sc_Machine_begin.nd rfl (Or.inl rfl)) (pgs_cons (pg_name (i := 4) sc_Machine_begin.nd rfl (Or.inl rfl)) pgs_nil))))
  (pss_cons (ps_if (pt_val (pe_fld (pv 0) rfl)) pss_never pss_nil)
  (pss_cons (ps_set (i := 6) sc_Machine_begin.nd rfl (Or.inl rfl) pe_dnewK)
  (pss_cons (ps_for PassesOwn.never rfl (pi_zipX (by rfl) C.z_zip (pa_cons (pv 3) (pa_cons (pv 2) pa_nil))) (pg_tup rfl (pgs_cons (pg_name (i := 7) sc_Machine_begin.nd rfl (Or.inl rfl)) (pgs_cons (pg_name (i := 8) sc_Machine_begin.nd rfl (Or.inl rfl)) pgs_nil))) (pss_one (ps_dput (hu_of hr) (pv 6) (pv 7) (pv 8) rfl)))
  (pss_one (ps_expr (pe_bm PySem.F.plainAttrs_list PySem.F.slot_list_append PySem.F.type_list_append mt_append (pe_fld (pv 0) rfl) (pa_cons (pe_tup (pa_cons pe_str (pa_cons (pv 4) (pa_cons (pv 6) pa_nil)))) pa_nil)))))))), ?_⟩
  have gd := DGet.k (k := Sum.inl (k : Int)) (show H M.fn = some (.dK _) from hM.funs.choose_spec.1)
  obtain ⟨kvs, hf, fo⟩ := id hM.funs
  clear gd
  obtain ⟨k', fa, pa, ns, b, dk', hval, hfa, hpa, hpm, hps, db⟩ := fo nm g hg
  have ek := hk.inj hM.st.wf dk'
  subst ek
  obtain ⟨dx, hi⟩ := hM.ins
  have gd := DGet.k (k := Sum.inl (k : Int)) hf
  rw [hval] at gd
  have lns := hps.length
  have ljs := hus.length
  have ndp := hM.nd g (fnd_mem hg).1
  refine ⟨_, rfl, M.self, _, dx, _, _, rfl, hi, C.c_Machine, C.n_Machine_functions, rfl, _, rfl, M.fn, _, rfl, gd, fa, _, rfl, SqT.of hfa, rfl, _, _, rfl, _, _, rfl, rfl, ?_⟩
  refine ⟨_, rfl, M.self, _, dx, _, _, rfl, hi, C.c_Machine, C.n_Machine_keeping, rfl, _, rfl, ite_b (fun hb => nomatch hb) (fun _ => ?_)⟩
  intro nd nn
  have hM1 := hM.same (same_new nn (.dK []))
  have fr1 : MFr M H (upd H nd (.dK [])) := .same (same_new nn _)
  have sm1 : Same H (upd H nd (.dK [])) := same_new nn _
  have hnd : upd H nd (.dK []) nd = some (.dK []) := upd_same
  have nnm := hM.new nn
  generalize upd H nd (.dK []) = H1 at *
  refine ⟨_, rfl, _, rfl, pa, qa, _, _, rfl, SqL.of (sm1 _ _ hpa), SqT.of (sm1 _ _ hqa), for_it (walk_zipX (xs := nums ns) (ys := nums js) (by rw [nums_len, nums_len]; omega)) (fun i σ H2 => ∃ (o7 o8 : Option L2.V) (kv : KV), σ = [some (.ref M.self), some (.int (k : Int)), some (.ref qa), some (.ref pa), some (.int (b : Int)), none, some (.ref nd), o7, o8] ∧ H2 nd = some (.dK kv) ∧ (∀ c o, H1 c = some o → c ≠ nd → H2 c = some o) ∧ kv.length ≤ i ∧ ∀ a n, a < i → ns[a]? = some n → ∃ j : Nat, js[a]? = some j ∧ valV kv (Sum.inl ((n : Nat) : Int)) = some (.int (j : Int))) ⟨_, _, [], rfl, hnd, fun _ _ e _ => e, Nat.le_refl _, fun a n h => absurd h (Nat.not_lt_zero a)⟩ (fun i σ H2 _ h => ?_) (fun i x σ H2 H3 hi2 h y => ?_) (fun σ H2 h => ?_)⟩
  · obtain ⟨o7, o8, kv, _, _, fr, _⟩ := h
    exact ⟨SqL.of (fr _ _ (sm1 _ _ hpa) (ne_of_none hpa nn)), SqT.of (fr _ _ (sm1 _ _ hqa) (ne_of_none hqa nn))⟩
  · obtain ⟨o7, o8, kv, rfl, hkv, fr, lkv, all⟩ := h
    obtain ⟨T0, x1, y1, rfl, hT, rfl, hx, hy⟩ := y
    rw [nums_len] at hi2
    have hx : (nums ns)[i]? = some x1 := hx
    have hy : (nums js)[i]? = some y1 := hy
    rw [nums_get (List.getElem?_eq_getElem hi2)] at hx
    have hij : i < js.length := by omega
    rw [nums_get (List.getElem?_eq_getElem hij)] at hy
    cases hx
    cases hy
    have nT : nd ≠ T0 := ne_of_none hkv hT
    refine ⟨T0, _, rfl, SqT.of upd_same, rfl, _, _, rfl, _, _, rfl, rfl, ?_⟩
    refine ⟨_, rfl, _, rfl, _, rfl, nd, _, rfl, DPut.k (k := Sum.inl ((ns[i] : Nat) : Int)) ((upd_ne nT).trans hkv) (line_lt (by omega)), _, _, _, rfl, upd_same, fun c o e hc => ?_, ?_, fun a n ha hn => ?_⟩
    · have e2 := fr c o e hc
      rw [upd_ne hc, upd_ne (ne_of_none e2 hT)]
      exact e2
    · have := length_putK kv (Sum.inl ((ns[i] : Nat) : Int)) (.int ((js[i] : Nat) : Int))
      omega
    · rw [valV_put]
      by_cases e : a = i
      · subst e
        rw [List.getElem?_eq_getElem hi2] at hn
        cases hn
        exact ⟨js[a], List.getElem?_eq_getElem hij, by rw [if_pos rfl]⟩
      · have hla : a < i := by omega
        obtain ⟨j, h1, h2⟩ := all a n hla hn
        refine ⟨j, h1, ?_⟩
        rw [if_neg, h2]
        intro z
        have z2 : n = ns[i] := by
          injection z with z
          omega
        have hpi : i < g.ps.length := by omega
        have hpa2 : a < g.ps.length := by omega
        obtain ⟨n1, e1, d1⟩ := hps.get (List.getElem?_eq_getElem hpa2)
        obtain ⟨n2, e2, d2⟩ := hps.get (List.getElem?_eq_getElem hpi)
        rw [hn] at e1
        cases e1
        rw [List.getElem?_eq_getElem hi2] at e2
        cases e2
        rw [z2] at d1
        have e3 := T.w.inj (d1.func d2)
        exact e (nd_ix ndp (List.getElem?_eq_getElem hpa2) (by rw [e3]; exact List.getElem?_eq_getElem hpi))
  · obtain ⟨o7, o8, kv, rfl, hkv, fr, lkv, all⟩ := h
    have frz : Same H H2 := fun c o e => fr c o (sm1 _ _ e) (ne_of_none e nn)
    have hM2 := hM.same frz
    obtain ⟨dx2, hi2⟩ := hM2.ins
    obtain ⟨vs, ht, at2⟩ := hM2.todo
    have lvs := at2.length
    refine ⟨_, rfl, M.self, _, dx2, _, _, rfl, hi2, C.c_Machine, C.n_Machine_todo, rfl, .inl ⟨rfl, _, SqL.of ht⟩, _, rfl, _, rfl, by show 3 ≤ sizeLine; decide, fun tp ntp => ?_⟩
    have sm3 : Same H2 (upd H2 tp (.tup [.str "eval", .int (b : Int), .ref nd])) := same_new ntp _
    have htp : upd H2 tp (.tup [.str "eval", .int (b : Int), .ref nd]) tp = some (.tup [.str "eval", .int (b : Int), .ref nd]) := upd_same
    have hM3 := hM2.same sm3
    generalize upd H2 tp (.tup [.str "eval", .int (b : Int), .ref nd]) = H3 at *
    have hnd3 := sm3 _ _ hkv
    have k3 := Keep.same sm3
    have nok : NamesOk S (g.ps.zip us) kv := fun x v e => by
      obtain ⟨i, h1, h2⟩ := lk_at e
      obtain ⟨n, hn, dn⟩ := hps.get h1
      obtain ⟨j0, hj0, dj⟩ := hus.get h2
      have hin := (List.getElem?_eq_some_iff.mp hn).1
      obtain ⟨j, hj, hv⟩ := all i n (by rw [nums_len]; exact hin) hn
      rw [hj0] at hj
      cases hj
      exact ⟨n, j0, dn, hv, dj⟩
    obtain ⟨hM4, fr4⟩ := hM3.setTodo (ts := .ev g.body (g.ps.zip us) :: s'.todo) (vs := .ref tp :: vs) (xs := vs.reverse ++ [.ref tp]) (.cons ⟨tp, b, .ref nd, rfl, htp, db, nd, kv, rfl, hnd3, nok⟩ (at2.mono fun _ _ h => h.mono (ExtS.refl S) k3)) (by rw [List.reverse_cons])
    exact ⟨M.tl, _, _, rfl, rfl, sm3 _ _ ht, by rw [List.length_reverse]; exact line_lt (by omega), q _ hM4 (((MFr.same frz).trans (.same sm3)).trans fr4)⟩
def spDo (P : Program) (w : World) (K : PySem.W.Frag) : Sp := fun vs H Q _ => ∃ (M : MA) (p : List Fn) (S : List Ent) (r : List Task) (f : List T) (n : Nat) (nm : Str), vs = [.ref M.self, .str nm] ∧ MachAt P w K M p S ⟨r, f, n⟩ H ∧ isPlain nm = true ∧ arity nm ≤ f.length ∧ f.length ≤ 15000000 ∧ S.length ≤ 14000000 ∧
  ∀ (S' : List Ent) (H' : Hp), MachAt P w K M p S' (mstep p ⟨.doo nm :: r, f, n⟩) H' → MFr M H H' → ExtS S S' → S'.length ≤ S.length + 1 → Q .non H'
theorem ok_do : MOk P w K mg base 3 (He.ga K "Machine") "do" ["self", "word"] (spDo P w K) := by
  have M_first := ok_first C (P := P) (base := base)
  have M_rest := ok_rest C (P := P) (base := base)
  have M_is_word := ok_store_is C (P := P) (base := base)
  have M_pair_up := ok_pair_up C (P := P) (base := base)
  refine mok C.f_Machine_do C.h_Machine_do (fun _ _ _ _ _ _ us hl => match us, hl with | [_, _], _ => rfl) sc_Machine_do (fun vs H Q E h => ?_) (fun f cdv A outer s H vs Q E hr h => ?_)
  · obtain ⟨M, p, S, r, f, n, nm, rfl, _⟩ := h
    rfl
  obtain ⟨M, p, S, r, fd, n, nm, rfl, hM, hpl, har, lf, lS, q⟩ := h
  refine ⟨_, (pss_cons (ps_set (i := 2) sc_Machine_do.nd rfl (Or.inl rfl) (pe_bm0 PySem.F.plainAttrs_list PySem.F.slot_list_pop PySem.F.type_list_pop mt_pop (pe_fld (pv 0) rfl)))
  (pss_one (ps_if (pt_cmpR op_eq (pv 1) pe_str (nomark _)) (pss_one (ps_expr (pe_bm PySem.F.plainAttrs_list PySem.F.slot_list_append PySem.F.type_list_append mt_append (pe_fld (pv 0) rfl) (pa_cons (pe_mt (pe_fld (pv 0) rfl) C.c_Store M_first (hr.mono (by decide)) (pa_cons (pv 2) pa_nil)) pa_nil)))) (pss_one (ps_if (pt_cmpR op_eq (pv 1) pe_str (nomark _)) (pss_one (ps_expr (pe_bm PySem.F.plainAttrs_list PySem.F.slot_list_append PySem.F.type_list_append mt_append (pe_fld (pv 0) rfl) (pa_cons (pe_mt (pe_fld (pv 0) rfl) C.c_Store M_rest (hr.mono (by decide)) (pa_cons (pv 2) pa_nil)) pa_nil)))) (pss_one (ps_if (pt_cmpR op_eq (pv 1) pe_str (nomark _)) (pss_one (ps_expr (pe_bm PySem.F.plainAttrs_list PySem.F.slot_list_append PySem.F.type_list_append mt_append (pe_fld (pv 0) rfl) (pa_cons (pe_ifExp (PW.pt (pw_and (pt_cmpR op_ne (pv 2) (pe_gi (by rfl) C.i_EMPTY) (nomark _)) (pw_and1 (pt_val (pe_mt (pe_fld (pv 0) rfl) C.c_Store M_is_word (hr.mono (by decide)) (pa_cons (pv 2) pa_nil)))))) (pe_fld (pv 0) rfl) (pe_gi (by rfl) C.i_EMPTY)) pa_nil)))) (pss_cons (ps_set (i := 3) sc_Machine_do.nd rfl (Or.inl rfl) (pe_bm0 PySem.F.plainAttrs_list PySem.F.slot_list_pop PySem.F.type_list_pop mt_pop (pe_fld (pv 0) rfl)))
  (pss_one (ps_if (pt_cmpR op_eq (pv 1) pe_str (nomark _)) (pss_one (ps_expr (pe_bm PySem.F.plainAttrs_list PySem.F.slot_list_append PySem.F.type_list_append mt_append (pe_fld (pv 0) rfl) (pa_cons (pe_ifExp (pt_cmpR op_eq (pv 3) (pv 2) (nomark _)) (pe_fld (pv 0) rfl) (pe_gi (by rfl) C.i_EMPTY)) pa_nil)))) (pss_one (ps_expr (pe_bm PySem.F.plainAttrs_list PySem.F.slot_list_append PySem.F.type_list_append mt_append (pe_fld (pv 0) rfl) (pa_cons (pe_mt (pe_fld (pv 0) rfl) C.c_Store M_pair_up (hr.mono (by decide)) (pa_cons (pv 3) (pa_cons (pv 2) pa_nil))) pa_nil)))))))))))))), ?_⟩
  obtain ⟨dx, hi⟩ := hM.ins
  obtain ⟨ns, hf, af⟩ := hM.found
  have lns := af.length
  -- the last step: a value is pushed
  have last : ∀ {fs : List T} {S1 : List Ent} {H1 : Hp} {t : T} {m : Nat}, MachAt P w K M p S1 ⟨r, fs, n⟩ H1 → MFr M H H1 → ExtS S S1 → S1.length ≤ S.length + 1 → fs.length ≤ 15000000 → Den S1 m t → mstep p ⟨.doo nm :: r, fd, n⟩ = ⟨r, t :: fs, n⟩ →
      ∃ l xs y, L2.V.ref M.fl = .ref l ∧ [L2.V.int (m : Int)] = [y] ∧ H1 l = some (.lst xs) ∧ xs.length < sizeLine ∧ Q .non (upd H1 l (.lst (xs ++ [y]))) := by
    intro fs S1 H1 t m hM1 fr1 ex1 l1 lf1 dm es
    obtain ⟨ns1, hf1, af1⟩ := hM1.found
    have l2 : ns1.length = fs.length := af1.length
    obtain ⟨h1, h2⟩ := hM1.setFound (fs := t :: fs) (ns := m :: ns1) (.cons dm af1) (xs := (nums ns1).reverse ++ [.int (m : Int)]) (by simp [nums])
    exact ⟨M.fl, _, _, rfl, rfl, hf1, by rw [List.length_reverse, nums_len]; exact line_lt (by omega), q S1 _ (by rw [es]; exact h1) (fr1.trans h2) ex1 l1⟩
  -- the first pop
  obtain ⟨t2, fs, rfl⟩ : ∃ t2 fs, fd = t2 :: fs := by
    have := (arity_le nm).1
    cases fd with
    | nil => simp only [List.length_nil] at har; omega
    | cons a b => exact ⟨a, b, rfl⟩
  obtain ⟨m2, ns, rfl, d2, af⟩ := af
  have hf : H M.fl = some (.lst (L2.V.int (m2 : Int) :: nums ns).reverse) := hf
  refine ⟨_, rfl, M.self, _, dx, _, _, rfl, hi, C.c_Machine, C.n_Machine_found, rfl, .inl ⟨rfl, _, SqL.of hf⟩, M.fl, _, _, rfl, rfl, hf, rev_last, ?_⟩
  rw [rev_dropLast]
  obtain ⟨hM1, fr1⟩ := hM.setFound (fs := fs) af (xs := (nums ns).reverse) rfl
  generalize upd H M.fl (.lst (nums ns).reverse) = H1 at *
  obtain ⟨dx1, hi1⟩ := hM1.ins
  obtain ⟨ns1, hf1, af1⟩ := hM1.found
  simp only [List.length_cons] at lf har
  have no : ∀ {a b : Str} {A : Prop}, decide (L2.V.str a = L2.V.str b) = true → a ≠ b → A := fun {a b A} h e => absurd (L2.V.str.inj (of_decide_eq_true h)) e
  have yes : ∀ {a : L2.V} {A : Prop}, decide (a = a) = false → A := fun {a A} h => by
    rw [decide_eq_true rfl] at h
    cases h
  have hn1 : ∀ {x : Str} {v : L2.V}, (mfields M n).lookup x = some v → (mfields M n).lookup x = some v := id
  rcases plain_cases hpl with e | e | e | e | e <;> subst e
  · -- same
    obtain ⟨t1, fs, rfl⟩ : ∃ t1 fs', fs = t1 :: fs' := by
      have : arity "same" = 2 := by decide +kernel
      cases fs with
      | nil => simp only [List.length_nil] at har; omega
      | cons a b => exact ⟨a, b, rfl⟩
    obtain ⟨m1, ns1, rfl, d1, af1⟩ := af1
    have hf1 : H1 M.fl = some (.lst (L2.V.int (m1 : Int) :: nums ns1).reverse) := hf1
    simp only [List.length_cons] at lf
    refine ⟨_, rfl, rfl, _, rfl, ite_b (fun hb => no hb (by decide +kernel)) (fun _ => ?_)⟩
    refine ⟨_, rfl, rfl, _, rfl, ite_b (fun hb => no hb (by decide +kernel)) (fun _ => ?_)⟩
    refine ⟨_, rfl, rfl, _, rfl, ite_b (fun hb => no hb (by decide +kernel)) (fun _ => ?_)⟩
    refine ⟨_, rfl, M.self, _, dx1, _, _, rfl, hi1, C.c_Machine, C.n_Machine_found, rfl, .inl ⟨rfl, _, SqL.of hf1⟩, M.fl, _, _, rfl, rfl, hf1, rev_last, ?_⟩
    rw [rev_dropLast]
    obtain ⟨hM2, fr2⟩ := hM1.setFound (fs := fs) af1 (xs := (nums ns1).reverse) rfl
    generalize upd H1 M.fl (.lst (nums ns1).reverse) = H2 at *
    obtain ⟨dx2, hi2⟩ := hM2.ins
    obtain ⟨ns2, hf2, af2⟩ := hM2.found
    refine ⟨_, rfl, rfl, _, rfl, ite_b (fun _ => ?_) (fun hb => yes hb)⟩
    refine ⟨_, rfl, M.self, _, dx2, _, _, rfl, hi2, C.c_Machine, C.n_Machine_found, rfl, .inl ⟨rfl, _, SqL.of hf2⟩, ?_⟩
    have es : mstep p ⟨.doo "same" :: r, t2 :: t1 :: fs, n⟩ = ⟨r, (if t1 = t2 then T.yes else T.nil) :: fs, n⟩ := by
      show (⟨r, prim "same" (List.take (arity "same") (t2 :: t1 :: fs)).reverse :: List.drop (arity "same") (t2 :: t1 :: fs), n⟩ : MS) = _
      rw [show arity "same" = 2 by decide +kernel, ← prim_same]
      rfl
    refine ⟨_, rfl, _, rfl, rfl, _, rfl, ite_b (fun hb => ?_) (fun hb => ?_)⟩
    · have e : m1 = m2 := by
        have z := of_decide_eq_true hb
        injection z with z
        omega
      subst e
      refine ⟨_, rfl, M.self, _, dx2, _, _, rfl, hi2, C.c_Machine, C.n_Machine_yes, rfl, last hM2 (fr1.trans fr2) (ExtS.refl S) (Nat.le_succ _) (by omega) hM2.yes ?_⟩
      rw [es, if_pos (d1.func d2)]
    · have e : t1 ≠ t2 := fun z => by
        subst z
        rw [d1.inj hM.st.wf d2] at hb
        exact yes hb
      refine last hM2 (fr1.trans fr2) (ExtS.refl S) (Nat.le_succ _) (by omega) .nil ?_
      rw [es, if_neg e]
  · -- word
    have es : mstep p ⟨.doo "word" :: r, t2 :: fs, n⟩ = ⟨r, (if t2.isW then T.yes else T.nil) :: fs, n⟩ := by
      show (⟨r, prim "word" (List.take (arity "word") (t2 :: fs)).reverse :: List.drop (arity "word") (t2 :: fs), n⟩ : MS) = _
      rw [show arity "word" = 1 by decide +kernel, ← prim_word]
      rfl
    refine ⟨_, rfl, rfl, _, rfl, ite_b (fun hb => no hb (by decide +kernel)) (fun _ => ?_)⟩
    refine ⟨_, rfl, rfl, _, rfl, ite_b (fun hb => no hb (by decide +kernel)) (fun _ => ?_)⟩
    refine ⟨_, rfl, rfl, _, rfl, ite_b (fun _ => ?_) (fun hb => yes hb)⟩
    refine ⟨_, rfl, M.self, _, dx1, _, _, rfl, hi1, C.c_Machine, C.n_Machine_found, rfl, .inl ⟨rfl, _, SqL.of hf1⟩, ?_⟩
    obtain ⟨dx3, hi3⟩ := hM1.st.ins
    have no2 : t2.isW = false → mstep p ⟨.doo "word" :: r, t2 :: fs, n⟩ = ⟨r, T.nil :: fs, n⟩ := fun e => by
      rw [es, if_neg (by rw [e]; exact Bool.noConfusion)]
    refine ⟨_, rfl, rfl, _, rfl, ite_b (fun hb => ?_) (fun hb => ?_)⟩
    · refine ⟨_, rfl, M.self, _, dx1, _, _, rfl, hi1, C.c_Machine, C.n_Machine_store, rfl, M.s.self, dx3, _, rfl, hi3, rfl, _, rfl, M.s, S, m2, t2, rfl, hM1.st, d2, _, rfl, ite_b (fun hw => ?_) (fun hw => ?_)⟩
      · refine ⟨_, rfl, M.self, _, dx1, _, _, rfl, hi1, C.c_Machine, C.n_Machine_yes, rfl, last hM1 fr1 (ExtS.refl S) (Nat.le_succ _) (by omega) hM1.yes ?_⟩
        rw [es, if_pos hw]
      · exact last hM1 fr1 (ExtS.refl S) (Nat.le_succ _) (by omega) .nil (no2 hw)
    · have e : m2 = 0 := by
        have z : decide (L2.V.int (m2 : Int) = L2.V.int 0) = true := by
          cases h : decide (L2.V.int (m2 : Int) = L2.V.int 0) with
          | true => rfl
          | false =>
            rw [h] at hb
            cases hb
        have z := of_decide_eq_true z
        injection z with z
        omega
      subst e
      exact last hM1 fr1 (ExtS.refl S) (Nat.le_succ _) (by omega) .nil (no2 (by cases d2; rfl))
  · -- head
    refine ⟨_, rfl, rfl, _, rfl, ite_b (fun _ => ?_) (fun hb => yes hb)⟩
    refine ⟨_, rfl, M.self, _, dx1, _, _, rfl, hi1, C.c_Machine, C.n_Machine_found, rfl, .inl ⟨rfl, _, SqL.of hf1⟩, ?_⟩
    obtain ⟨dx3, hi3⟩ := hM1.st.ins
    refine ⟨_, rfl, M.self, _, dx1, _, _, rfl, hi1, C.c_Machine, C.n_Machine_store, rfl, M.s.self, dx3, _, rfl, hi3, rfl, _, rfl, M.s, S, m2, t2, rfl, hM1.st, d2, fun m dm => ?_⟩
    refine last hM1 fr1 (ExtS.refl S) (Nat.le_succ _) (by omega) dm ?_
    show (⟨r, prim "head" (List.take (arity "head") (t2 :: fs)).reverse :: List.drop (arity "head") (t2 :: fs), n⟩ : MS) = _
    rw [show arity "head" = 1 by decide +kernel, ← prim_head]
    rfl
  · -- tail
    refine ⟨_, rfl, rfl, _, rfl, ite_b (fun hb => no hb (by decide +kernel)) (fun _ => ?_)⟩
    refine ⟨_, rfl, rfl, _, rfl, ite_b (fun _ => ?_) (fun hb => yes hb)⟩
    refine ⟨_, rfl, M.self, _, dx1, _, _, rfl, hi1, C.c_Machine, C.n_Machine_found, rfl, .inl ⟨rfl, _, SqL.of hf1⟩, ?_⟩
    obtain ⟨dx3, hi3⟩ := hM1.st.ins
    refine ⟨_, rfl, M.self, _, dx1, _, _, rfl, hi1, C.c_Machine, C.n_Machine_store, rfl, M.s.self, dx3, _, rfl, hi3, rfl, _, rfl, M.s, S, m2, t2, rfl, hM1.st, d2, fun m dm => ?_⟩
    refine last hM1 fr1 (ExtS.refl S) (Nat.le_succ _) (by omega) dm ?_
    show (⟨r, prim "tail" (List.take (arity "tail") (t2 :: fs)).reverse :: List.drop (arity "tail") (t2 :: fs), n⟩ : MS) = _
    rw [show arity "tail" = 1 by decide +kernel, ← prim_tail]
    rfl
  · -- join
    obtain ⟨t1, fs, rfl⟩ : ∃ t1 fs', fs = t1 :: fs' := by
      have : arity "join" = 2 := by decide +kernel
      cases fs with
      | nil => simp only [List.length_nil] at har; omega
      | cons a b => exact ⟨a, b, rfl⟩
    obtain ⟨m1, ns1, rfl, d1, af1⟩ := af1
    have hf1 : H1 M.fl = some (.lst (L2.V.int (m1 : Int) :: nums ns1).reverse) := hf1
    simp only [List.length_cons] at lf
    refine ⟨_, rfl, rfl, _, rfl, ite_b (fun hb => no hb (by decide +kernel)) (fun _ => ?_)⟩
    refine ⟨_, rfl, rfl, _, rfl, ite_b (fun hb => no hb (by decide +kernel)) (fun _ => ?_)⟩
    refine ⟨_, rfl, rfl, _, rfl, ite_b (fun hb => no hb (by decide +kernel)) (fun _ => ?_)⟩
    refine ⟨_, rfl, M.self, _, dx1, _, _, rfl, hi1, C.c_Machine, C.n_Machine_found, rfl, .inl ⟨rfl, _, SqL.of hf1⟩, M.fl, _, _, rfl, rfl, hf1, rev_last, ?_⟩
    rw [rev_dropLast]
    obtain ⟨hM2, fr2⟩ := hM1.setFound (fs := fs) af1 (xs := (nums ns1).reverse) rfl
    generalize upd H1 M.fl (.lst (nums ns1).reverse) = H2 at *
    obtain ⟨dx2, hi2⟩ := hM2.ins
    obtain ⟨ns2, hf2, af2⟩ := hM2.found
    refine ⟨_, rfl, rfl, _, rfl, ite_b (fun hb => no hb (by decide +kernel)) (fun _ => ?_)⟩
    refine ⟨_, rfl, M.self, _, dx2, _, _, rfl, hi2, C.c_Machine, C.n_Machine_found, rfl, .inl ⟨rfl, _, SqL.of hf2⟩, ?_⟩
    obtain ⟨dx3, hi3⟩ := hM2.st.ins
    refine ⟨_, rfl, M.self, _, dx2, _, _, rfl, hi2, C.c_Machine, C.n_Machine_store, rfl, M.s.self, dx3, _, rfl, hi3, rfl, _, rfl, _, rfl, M.s, S, m1, m2, t1, t2, rfl, hM2.st, d1, d2, by omega, fun k S' H3 h1 h2 h3 h4 h5 => ?_⟩
    refine last (hM2.grow h1 h2 h3) ((fr1.trans fr2).trans (.of4 h2)) h3 h4 (by omega) h5 ?_
    show (⟨r, prim "join" (List.take (arity "join") (t2 :: t1 :: fs)).reverse :: List.drop (arity "join") (t2 :: t1 :: fs), n⟩ : MS) = _
    rw [show arity "join" = 2 by decide +kernel, ← prim_join]
    rfl
end
end K35
end

section
set_option Elab.async false
set_option linter.all false
set_option maxRecDepth 100000
namespace K35
open PySem PySem.Spec PyProof.Rows L2
theorem cut_from (xs : List L2.V) (k : Nat) : cutV xs (some (k : Int)) none = xs.drop k := by
  unfold cutV
  rw [HT.sIx_nat, HT.sIx_none, List.take_of_length_le (by rw [List.length_drop]; exact Nat.le_refl _)]
  by_cases h : k ≤ xs.length
  · rw [Nat.min_eq_left h]
  · rw [Nat.min_eq_right (by omega), List.drop_length, List.drop_eq_nil_of_le (by omega)]
theorem plain_in {K : PySem.W.Frag} (w : Str) : inV (.str w) (((plains.map He.Dv.str).map (He.Dv.v K))) = isPlain w := by
  have e : ∀ xs : List Str, inV (.str w) (((xs.map He.Dv.str).map (He.Dv.v K))) = xs.contains w := by
    intro xs
    induction xs with
    | nil => rfl
    | cons y ys ih =>
      show (eqV (.str y) (.str w) || inV (.str w) (((ys.map He.Dv.str).map (He.Dv.v K)))) = _
      rw [ih, List.contains_cons]
      show ((y == w) || _) = _
      rw [show (y == w) = (w == y) from Bool.eq_iff_iff.mpr ⟨fun h => by rw [eq_of_beq h]; exact beq_self_eq_true _, fun h => by rw [eq_of_beq h]; exact beq_self_eq_true _⟩]
  exact e plains
theorem MachAt.push {P : Program} {w : World} {K : PySem.W.Frag} {M : MA} {p : List Fn} {S : List Ent} {s : MS} {H : Hp} (x : MachAt P w K M p S s H) {xs cell : List L2.V} {tp : Addr} {t : Task} (ht : H M.tl = some (.lst xs)) (ntp : H tp = none)
    (h : ∀ H', Same H H' → H' tp = some (.tup cell) → TaskAt p S H' t (.ref tp)) : upd H tp (.tup cell) M.tl = some (.lst xs) ∧ xs.length = s.todo.length ∧ MachAt P w K M p S ⟨t :: s.todo, s.found, s.steps⟩ (upd (upd H tp (.tup cell)) M.tl (.lst (xs ++ [.ref tp]))) ∧ MFr M H (upd (upd H tp (.tup cell)) M.tl (.lst (xs ++ [.ref tp]))) := by
  obtain ⟨vs, ht2, at2⟩ := x.todo
  rw [ht] at ht2
  cases ht2
  have sm : Same H (upd H tp (.tup cell)) := same_new ntp _
  have x1 := x.same sm
  obtain ⟨h1, h2⟩ := x1.setTodo (ts := t :: s.todo) (vs := .ref tp :: vs) (xs := vs.reverse ++ [.ref tp]) (.cons (h _ sm upd_same) (at2.mono fun _ _ q => q.mono (ExtS.refl S) (Keep.same sm))) (by rw [List.reverse_cons])
  exact ⟨sm _ _ ht, by rw [List.length_reverse, at2.length], h1, (MFr.same sm).trans h2⟩
theorem sc_Machine_evaluate : FnScope ["self", "expression", "names", "items", "word", "parts", "part"] ["self", "expression", "names"] (defScope s_Machine_evaluate) := ⟨rfl, rfl, rfl, by decide +kernel, rfl, by decide +kernel, by decide +kernel⟩
section
variable {P : Program} {w : World} {K : PySem.W.Frag} {mg : Str → Option Value} {base : Heap} (C : Ctx w K mg)
include C
def spEval (P : Program) (w : World) (K : PySem.W.Frag) : Sp := fun vs H Q _ => ∃ (M : MA) (p : List Fn) (S : List Ent) (r : List Task) (f : List T) (n : Nat) (e : E) (env : Bs) (m : Nat) (nv : L2.V) (R0 R : Nat), vs = [.ref M.self, .int (m : Int), nv] ∧ MachAt P w K M p S ⟨r, f, n + 1⟩ H ∧ WfP p R0 ∧ WfTk p R0 R (.ev e env) ∧ Den S m e.enc ∧ NamesAt S H env nv ∧ r.length ≤ 14000000 ∧ f.length ≤ 14000000 ∧ S.length ≤ 14000000 ∧
  ∀ (H' : Hp), MachAt P w K M p S (mstep p ⟨.ev e env :: r, f, n⟩) H' → MFr M H H' → Q .non H'
theorem ok_evaluate : MOk P w K mg base 2 (He.ga K "Machine") "evaluate" ["self", "expression", "names"] (spEval P w K) := by
  have M_is_word := ok_store_is C (P := P) (base := base)
  have M_items_of := ok_items_of C (P := P) (base := base)
  refine mok C.f_Machine_evaluate C.h_Machine_evaluate (fun _ _ _ _ _ _ us hl => match us, hl with | [_, _, _], _ => rfl) sc_Machine_evaluate (fun vs H Q E h => ?_) (fun f cdv A outer s H vs Q E hr h => ?_)
  · obtain ⟨M, p, S, r, f, n, e, env, m, nv, R0, R, rfl, _⟩ := h
    rfl
  obtain ⟨M, p, S, r, fd, n, e, env, m, nv, R0, R, rfl, hM, hW, hT, dm, hnv, lr, lf, lS, q⟩ := h
  refine ⟨_, (pss_cons (ps_if (pt_val (pe_mt (pe_fld (pv 0) rfl) C.c_Store M_is_word (hr.mono (by decide)) (pa_cons (pv 1) pa_nil))) (pss_cons (ps_expr (pe_bm PySem.F.plainAttrs_list PySem.F.slot_list_append PySem.F.type_list_append mt_append (pe_fld (pv 0) rfl) (pa_cons (pe_dget (hu_of hr) (pv 2) (pv 1) (fun _ _ => rfl)) pa_nil)))
  (pss_one ps_retN)) pss_nil)
  (pss_cons (ps_set (i := 3) sc_Machine_evaluate.nd rfl (Or.inl rfl) (pe_mt (pe_fld (pv 0) rfl) C.c_Store M_items_of (hr.mono (by decide)) (pa_cons (pv 1) pa_nil)))
  (pss_cons (ps_set (i := 4) sc_Machine_evaluate.nd rfl (Or.inl rfl) (pe_ix ix_list (pe_fld (pe_fld (pv 0) rfl) rfl) (pe_ix ix_list (pv 3) pe_int (fun _ _ => rfl)) (fun _ _ => rfl)))
  (pss_one (ps_if (pt_cmpR op_eq (pv 4) pe_str (nomark _)) (pss_one (ps_expr (pe_bm PySem.F.plainAttrs_list PySem.F.slot_list_append PySem.F.type_list_append mt_append (pe_fld (pv 0) rfl) (pa_cons (pe_ix ix_list (pv 3) pe_int (fun _ _ => rfl)) pa_nil)))) (pss_one (ps_if (pt_cmpR op_eq (pv 4) pe_str (nomark _)) (pss_cons (ps_expr (pe_bm PySem.F.plainAttrs_list PySem.F.slot_list_append PySem.F.type_list_append mt_append (pe_fld (pv 0) rfl) (pa_cons (pe_tup (pa_cons pe_str (pa_cons (pe_ix ix_list (pv 3) pe_int (fun _ _ => rfl)) (pa_cons (pe_ix ix_list (pv 3) pe_int (fun _ _ => rfl)) (pa_cons (pv 2) pa_nil))))) pa_nil)))
  (pss_one (ps_expr (pe_bm PySem.F.plainAttrs_list PySem.F.slot_list_append PySem.F.type_list_append mt_append (pe_fld (pv 0) rfl) (pa_cons (pe_tup (pa_cons pe_str (pa_cons (pe_ix ix_list (pv 3) pe_int (fun _ _ => rfl)) (pa_cons (pv 2) pa_nil)))) pa_nil))))) (pss_cons (ps_set (i := 5) sc_Machine_evaluate.nd rfl (Or.inl rfl) (pe_slice sl_list (pv 3) (po_some pe_int) po_none))
  (pss_cons (ps_expr (pe_bm PySem.F.plainAttrs_list PySem.F.slot_list_append PySem.F.type_list_append mt_append (pe_fld (pv 0) rfl) (pa_cons (pe_ifExp (pt_cmpR op_in_seq (pv 4) (pe_glob (v := .ref _) (by rfl) C.g_PLAIN rfl) (by rfl)) (pe_tup (pa_cons pe_str (pa_cons (pv 4) pa_nil))) (pe_tup (pa_cons pe_str (pa_cons (pe_ix ix_list (pv 3) pe_int (fun _ _ => rfl)) (pa_cons (pe_callB call_len_seq (by rfl) C.z_len PySem.boot_len (pa_cons (pv 5) pa_nil)) pa_nil))))) pa_nil)))
  (pss_one (ps_for PassesOwn.never rfl (pi_reversed (by rfl) C.z_reversed (pa_cons (pv 5) pa_nil)) (pg_name (i := 6) sc_Machine_evaluate.nd rfl (Or.inl rfl)) (pss_one (ps_expr (pe_bm PySem.F.plainAttrs_list PySem.F.slot_list_append PySem.F.type_list_append mt_append (pe_fld (pv 0) rfl) (pa_cons (pe_tup (pa_cons pe_str (pa_cons (pv 6) (pa_cons (pv 2) pa_nil)))) pa_nil))))))))))))))), ?_⟩
  obtain ⟨dx, hi⟩ := hM.ins
  obtain ⟨dx3, hi3⟩ := hM.st.ins
  refine ⟨_, rfl, M.self, _, dx, _, _, rfl, hi, C.c_Machine, C.n_Machine_store, rfl, M.s.self, dx3, _, rfl, hi3, rfl, _, rfl, M.s, S, m, e.enc, rfl, hM.st, dm, _, rfl, ite_b (fun hw => ?_) (fun hw => ?_)⟩
  · cases e with
    | var x =>
      obtain ⟨ns, hf, af⟩ := hM.found
      have lns : ns.length = fd.length := af.length
      obtain ⟨na, kvs, rfl, hna, nok⟩ := hnv
      obtain ⟨v, hv⟩ := lk_some (show x ∈ env.map (·.1) from hT.1)
      obtain ⟨k, j, dk, hval, dj⟩ := nok x v hv
      have ek := dm.inj hM.st.wf dk
      subst ek
      have gd := DGet.k (k := Sum.inl (m : Int)) hna
      rw [hval] at gd
      obtain ⟨h1, h2⟩ := hM.setFound (fs := v :: fd) (ns := j :: ns) (.cons dj af) (xs := (nums ns).reverse ++ [.int (j : Int)]) (by simp [nums])
      refine ⟨_, rfl, M.self, _, dx, _, _, rfl, hi, C.c_Machine, C.n_Machine_found, rfl, .inl ⟨rfl, _, SqL.of hf⟩, _, rfl, _, rfl, na, _, rfl, gd, M.fl, _, _, rfl, rfl, hf, by rw [List.length_reverse, nums_len]; exact line_lt (by omega), ?_⟩
      refine q _ ?_ h2
      have es : mstep p ⟨.ev (.var x) env :: r, fd, n⟩ = ⟨r, v :: fd, n + 1⟩ := by
        show (⟨r, (lk env x).getD .nil :: fd, n + 1⟩ : MS) = _
        rw [hv] <;> rfl
      rw [es]
      exact h1
    | quo v => cases hw
    | ite a b c => cases hw
    | app w as => cases hw
  obtain ⟨w0, xs, ew⟩ : ∃ (w0 : Str) (xs : List T), e.enc = .l (.w w0 :: xs) := by
    cases e with
    | var x => cases hw
    | quo v => exact ⟨_, _, rfl⟩
    | ite a b c => exact ⟨_, _, rfl⟩
    | app w as => exact ⟨_, _, rfl⟩
  have dm' := dm
  rw [ew] at dm'
  refine ⟨_, rfl, M.self, _, dx, _, _, rfl, hi, C.c_Machine, C.n_Machine_store, rfl, M.s.self, dx3, _, rfl, hi3, rfl, _, rfl, M.s, S, m, _, rfl, hM.st, dm', by omega, fun D ns0 H1 nD hD a2 sm => ?_⟩
  obtain ⟨n0, ns, rfl, dw, a2⟩ := a2
  have hM1 := hM.same sm
  obtain ⟨dx1, hi1⟩ := hM1.ins
  obtain ⟨dxs, his⟩ := hM1.st.ins
  obtain ⟨es, v, he, hv, _, hx, _⟩ := entry_at C hM1.st dw
  obtain rfl := hx w0 rfl
  refine ⟨_, rfl, M.self, _, dx1, _, _, rfl, hi1, C.c_Machine, C.n_Machine_store, rfl, M.s.self, _, dxs, _, _, rfl, his, C.c_Store, C.n_Store_entries, rfl, _, rfl, D, _, _, _, rfl, rfl, SqL.of hD, atI_nat (j := 0) rfl, M.s.e, es, _, _, rfl, rfl, SqL.of he, atI_nat hv, ?_⟩
  have no : ∀ {a b : Str} {A : Prop}, decide (L2.V.str a = L2.V.str b) = true → a ≠ b → A := fun {a b A} h e => absurd (L2.V.str.inj (of_decide_eq_true h)) e
  have yes : ∀ {a : L2.V} {A : Prop}, decide (a = a) = false → A := fun {a A} h => by
    rw [decide_eq_true rfl] at h
    cases h
  have hnv1 := hnv.mono (ExtS.refl S) (Keep.same sm)
  have fr1 : MFr M H H1 := .same sm
  cases e with
  | var x => cases hw
  | quo u =>
    cases ew
    obtain ⟨n1, ns1, rfl, du, e⟩ := a2
    have e : ns1 = [] := e
    subst e
    refine ⟨_, rfl, rfl, _, rfl, ite_b (fun _ => ?_) (fun hb => yes hb)⟩
    obtain ⟨fs, hf, af⟩ := hM1.found
    have lfs : fs.length = fd.length := af.length
    obtain ⟨h1, h2⟩ := hM1.setFound (fs := u :: fd) (ns := n1 :: fs) (.cons du af) (xs := (nums fs).reverse ++ [.int (n1 : Int)]) (by simp [nums])
    exact ⟨_, rfl, M.self, _, dx1, _, _, rfl, hi1, C.c_Machine, C.n_Machine_found, rfl, .inl ⟨rfl, _, SqL.of hf⟩, _, rfl, D, _, _, _, rfl, rfl, SqL.of hD, rfl, M.fl, _, _, rfl, rfl, hf, by rw [List.length_reverse, nums_len]; exact line_lt (by omega), q _ h1 (fr1.trans h2)⟩
  | ite a b c =>
    cases ew
    obtain ⟨n1, _, rfl, d1, n2, _, rfl, d2, n3, ns1, rfl, d3, e⟩ := a2
    have e : ns1 = [] := e
    subst e
    refine ⟨_, rfl, rfl, _, rfl, ite_b (fun hb => no hb (by decide +kernel)) (fun _ => ?_)⟩
    refine ⟨_, rfl, rfl, _, rfl, ite_b (fun _ => ?_) (fun hb => yes hb)⟩
    obtain ⟨vs, ht, _⟩ := hM1.todo
    refine ⟨_, rfl, M.self, _, dx1, _, _, rfl, hi1, C.c_Machine, C.n_Machine_todo, rfl, .inl ⟨rfl, _, SqL.of ht⟩, _, rfl, D, _, _, _, rfl, rfl, SqL.of hD, rfl, _, rfl, D, _, _, _, rfl, rfl, SqL.of hD, rfl, _, rfl, by show 4 ≤ sizeLine; decide, fun tp ntp => ?_⟩
    obtain ⟨t1, l1, hM2, fr2⟩ := hM1.push (t := .ite b c env) ht ntp (fun H' s' e' => ⟨tp, n2, n3, nv, rfl, e', d2, d3, hnv1.mono (ExtS.refl S) (Keep.same s')⟩)
    refine ⟨M.tl, _, _, rfl, rfl, t1, by rw [l1]; exact line_lt (by show r.length ≤ _; omega), ?_⟩
    have k2 := hM1.keep fr2
    have hD2 := fr2 _ _ hD (hM.new nD)
    generalize upd (upd H1 tp _) M.tl _ = H2 at *
    have hnv2 := hnv1.mono (ExtS.refl S) k2
    obtain ⟨dx2, hi2⟩ := hM2.ins
    obtain ⟨vs2, ht2, _⟩ := hM2.todo
    refine ⟨_, rfl, M.self, _, dx2, _, _, rfl, hi2, C.c_Machine, C.n_Machine_todo, rfl, .inl ⟨rfl, _, SqL.of ht2⟩, _, rfl, D, _, _, _, rfl, rfl, SqL.of hD2, rfl, _, rfl, by show 3 ≤ sizeLine; decide, fun tp2 ntp2 => ?_⟩
    obtain ⟨t3, l3, hM3, fr3⟩ := hM2.push (t := .ev a env) ht2 ntp2 (fun H' s' e' => ⟨tp2, n1, nv, rfl, e', d1, hnv2.mono (ExtS.refl S) (Keep.same s')⟩)
    exact ⟨M.tl, _, _, rfl, rfl, t3, by rw [l3]; exact line_lt (by show r.length + 1 ≤ _; omega), q _ hM3 ((fr1.trans fr2).trans fr3)⟩
  | app w1 as =>
    cases ew
    have sp : w0 ≠ "quote" ∧ w0 ≠ "if" := by
      rcases hT.1.2.1 with ⟨hp, _⟩ | ⟨hs, _⟩
      · rcases plain_cases hp with e | e | e | e | e <;> subst e <;> exact ⟨by decide +kernel, by decide +kernel⟩
      · exact ⟨(special_ne hs).1, (special_ne hs).2.1⟩
    have las : as.length ≤ 12 := hT.1.1
    have lns : ns.length = as.length := by rw [a2.length, K35.E.encs_length]
    refine ⟨_, rfl, rfl, _, rfl, ite_b (fun hb => no hb sp.1) (fun _ => ?_)⟩
    refine ⟨_, rfl, rfl, _, rfl, ite_b (fun hb => no hb sp.2) (fun _ => ?_)⟩
    refine ⟨_, rfl, _, rfl, D, _, rfl, SqL.of hD, fun D2 nD2 => ?_⟩
    have ecut : cutV (nums (n0 :: ns)) (some 1) none = nums ns := cut_from (nums (n0 :: ns)) 1
    have sm2 : Same H1 (upd H1 D2 (.lst (cutV (nums (n0 :: ns)) (some 1) none))) := same_new nD2 _
    have hD2 : upd H1 D2 (.lst (cutV (nums (n0 :: ns)) (some 1) none)) D2 = some (.lst (nums ns)) := by rw [upd_same, ecut]
    have hM2 := hM1.same sm2
    generalize upd H1 D2 (.lst (cutV (nums (n0 :: ns)) (some 1) none)) = H2 at *
    obtain ⟨dx2, hi2⟩ := hM2.ins
    obtain ⟨vs, ht, _⟩ := hM2.todo
    have hD' := sm2 _ _ hD
    refine ⟨_, rfl, M.self, _, dx2, _, _, rfl, hi2, C.c_Machine, C.n_Machine_todo, rfl, .inl ⟨rfl, _, SqL.of ht⟩, ?_⟩
    have hmore := C.says.more
    obtain ⟨_, hm2⟩ := He.ba hmore
    obtain ⟨hpl, _⟩ := He.ba hm2
    have fr2 : MFr M H H2 := fr1.trans (.same sm2)
    have nmD := hM1.new nD2
    have hnv2 := hnv1.mono (ExtS.refl S) (Keep.same sm2)
    -- what is left to be done
    have fin : ∀ (tk : Task) (tp : Addr) (cell : List L2.V), H2 tp = none → (∀ H', Same H2 H' → H' tp = some (.tup cell) → TaskAt p S H' tk (.ref tp)) → mstep p ⟨.ev (.app w0 as) env :: r, fd, n⟩ = ⟨as.map (Task.ev · env) ++ tk :: r, fd, n + 1⟩ →
        rAppend (.ref M.tl) [.ref tp] (upd H2 tp (.tup cell)) fun _ H3 => tFor (iRev K (tCons (tVar 5) tNil)) (gName 6)
          (tDrop (tBM K "list" rAppend (tFld K (tVar 0) "todo") (tCons (tTup (tCons (tC (.str "eval")) (tCons (tVar 6) (tCons (tVar 2) tNil)))) tNil)))
          { nx := fun x H' => Q .non H', rt := Q } [some (.ref M.self), some (.int (m : Int)), some nv, some (.ref D), some (.str w0), some (.ref D2), none] H3 := by
      intro tk tp cell ntp htk emst
      obtain ⟨t1, l1, hM3, fr3⟩ := hM2.push (t := tk) ht ntp htk
      refine ⟨M.tl, _, _, rfl, rfl, t1, by rw [l1]; exact line_lt (by show r.length ≤ _; omega), ?_⟩
      have k3 := hM2.keep fr3
      have hD3 := fr3 _ _ hD2 nmD
      generalize upd (upd H2 tp _) M.tl _ = H3 at *
      have hnv3 := hnv2.mono (ExtS.refl S) k3
      refine ⟨_, rfl, D2, nums ns, rfl, SqL.of hD3, for_it walk_rev (fun i σ H4 => ∃ o6 : Option L2.V, σ = [some (.ref M.self), some (.int (m : Int)), some nv, some (.ref D), some (.str w0), some (.ref D2), o6] ∧ MachAt P w K M p S ⟨(as.drop (as.length - i)).map (Task.ev · env) ++ tk :: r, fd, n + 1⟩ H4 ∧ MFr M H3 H4) ⟨_, rfl, ?_, .refl M H3⟩ (fun i σ H4 _ h => ?_) (fun i x σ H5 H4 hi h y => ?_) (fun σ H4 h => ?_)⟩
      · rw [Nat.sub_zero, List.drop_length]
        exact hM3
      · obtain ⟨_, _, _, f4⟩ := h
        exact SqL.of (f4 _ _ hD3 nmD)
      · obtain ⟨e, hx⟩ := y
        subst e
        obtain ⟨o6, rfl, hM4, f4⟩ := h
        rw [nums_len] at hi hx
        have hj : ns.length - 1 - i < ns.length := by omega
        have hja : as.length - 1 - i < as.length := by omega
        rw [nums_get (List.getElem?_eq_getElem hj)] at hx
        cases hx
        have hen : (K35.E.encs as)[ns.length - 1 - i]? = some (as[as.length - 1 - i]).enc := by
          rw [K35.E.encs_map, List.getElem?_map, show ns.length - 1 - i = as.length - 1 - i by omega, List.getElem?_eq_getElem hja] <;> rfl
        obtain ⟨j, hj2, dj⟩ := a2.get hen
        rw [List.getElem?_eq_getElem hj] at hj2
        cases hj2
        obtain ⟨dx4, hi4⟩ := hM4.ins
        obtain ⟨vs4, ht4, at4⟩ := hM4.todo
        have hnv4 := hnv3.mono (ExtS.refl S) (hM3.keep f4)
        refine ⟨_, rfl, M.self, _, dx4, _, _, rfl, hi4, C.c_Machine, C.n_Machine_todo, rfl, .inl ⟨rfl, _, SqL.of ht4⟩, _, rfl, _, rfl, by show 3 ≤ sizeLine; decide, fun tq ntq => ?_⟩
        obtain ⟨t5, l5, hM5, f5⟩ := hM4.push (t := .ev as[as.length - 1 - i] env) ht4 ntq (fun H' s' e' => ⟨tq, _, nv, rfl, e', dj, hnv4.mono (ExtS.refl S) (Keep.same s')⟩)
        refine ⟨M.tl, _, _, rfl, rfl, t5, ?_, _, rfl, ?_, f4.trans f5⟩
        · rw [l5]
          refine line_lt ?_
          show ((as.drop (as.length - i)).map (Task.ev · env) ++ tk :: r).length ≤ _
          rw [List.length_append, List.length_map, List.length_drop, List.length_cons]
          omega
        · rw [show as.length - (i + 1) = as.length - 1 - i by omega, List.drop_eq_getElem_cons hja, show as.length - 1 - i + 1 = as.length - i by omega]
          exact hM5
      · obtain ⟨o6, rfl, hM4, f4⟩ := h
        rw [nums_len, lns, Nat.sub_self, List.drop_zero] at hM4
        refine q _ ?_ ((fr2.trans fr3).trans f4)
        rw [emst]
        exact hM4
    refine ⟨_, rfl, _, _, rfl, .inr (He.tupB_ok hpl H2), rfl, rfl, _, rfl, ite_b (fun hb => ?_) (fun hb => ?_)⟩
    · have hb : isPlain w0 = true := by rw [← plain_in (K := K) w0]; exact hb
      refine ⟨_, rfl, by show 2 ≤ sizeLine; decide, fun tp ntp => ?_⟩
      refine fin (.doo w0) tp _ ntp (fun H' s' e' => ⟨tp, rfl, e'⟩) ?_
      show (⟨as.map (Task.ev · env) ++ (if isPlain w0 then .doo w0 else .call w0) :: r, fd, n + 1⟩ : MS) = _
      rw [if_pos hb]
    · have hb : isPlain w0 = false := by rw [← plain_in (K := K) w0]; exact hb
      obtain ⟨g, hg, _, lg⟩ : ∃ g, fnd p w0 = some g ∧ g ∈ p ∧ g.ps.length = as.length := by
        rcases hT.1.2.1 with ⟨hp, _⟩ | ⟨_, e⟩
        · rw [hb] at hp
          cases hp
        · exact hW.fnd e
      refine ⟨_, rfl, D, _, _, _, rfl, rfl, SqL.of hD', atI_nat (j := 0) rfl, _, rfl, D2, _, rfl, .inl (SqL.of hD2), by show 3 ≤ sizeLine; decide, fun tp ntp => ?_⟩
      refine fin (.call w0) tp _ ntp (fun H' s' e' => ⟨tp, n0, g, rfl, ?_, dw, hg⟩) ?_
      · rw [lg, ← lns, ← nums_len]
        exact e'
      · show (⟨as.map (Task.ev · env) ++ (if isPlain w0 then .doo w0 else .call w0) :: r, fd, n + 1⟩ : MS) = _
        rw [if_neg (by rw [hb]; exact Bool.noConfusion)]
end
end K35
end

section
set_option Elab.async false
set_option linter.all false
set_option maxRecDepth 100000
namespace K35
open PySem PySem.Spec PyProof.Rows L2
theorem putF_skip {f g : Str} {v x : L2.V} {r : List (Str × L2.V)} (h : g ≠ f) : putF f v ((g, x) :: r) = (g, x) :: putF f v r := by
  show (if g = f then _ else _) = _
  rw [if_neg h]
theorem putF_here {f : Str} {v x : L2.V} {r : List (Str × L2.V)} : putF f v ((f, x) :: r) = (f, v) :: r := by
  show (if f = f then _ else _) = _
  rw [if_pos rfl]
theorem steps_put (M : MA) (n : Nat) : putF "steps" (.int ((n : Int) + 1)) (mfields M n) = mfields M (n + 1) := by
  unfold mfields
  rw [putF_skip (by decide +kernel), putF_skip (by decide +kernel), putF_skip (by decide +kernel), putF_skip (by decide +kernel), putF_skip (by decide +kernel), putF_skip (by decide +kernel), putF_here]
  rfl
theorem sc_Machine_is_done : FnScope ["self"] ["self"] (defScope s_Machine_is_done) := ⟨rfl, rfl, rfl, by decide +kernel, rfl, by decide +kernel, by decide +kernel⟩
theorem sc_Machine_go_on : FnScope ["self", "limit", "task", "chosen", "many", "numbers", "_"] ["self", "limit"] (defScope s_Machine_go_on) := ⟨rfl, rfl, rfl, by decide +kernel, rfl, by decide +kernel, by decide +kernel⟩
theorem sc_Machine_is_great : FnScope ["self", "number"] ["self"] (defScope s_Machine_is_great) := ⟨rfl, rfl, rfl, by decide +kernel, rfl, by decide +kernel, by decide +kernel⟩
theorem sc_Machine_result : FnScope ["self"] ["self"] (defScope s_Machine_result) := ⟨rfl, rfl, rfl, by decide +kernel, rfl, by decide +kernel, by decide +kernel⟩
section
variable {P : Program} {w : World} {K : PySem.W.Frag} {mg : Str → Option Value} {base : Heap} (C : Ctx w K mg)
include C
def spIsDone (P : Program) (w : World) (K : PySem.W.Frag) : Sp := fun vs H Q _ => ∃ (M : MA) (p : List Fn) (S : List Ent) (s : MS), vs = [.ref M.self] ∧ MachAt P w K M p S s H ∧ s.todo = [] ∧ Q (.bl true) H
theorem ok_is_done : MOk P w K mg base 1 (He.ga K "Machine") "is_done" ["self"] (spIsDone P w K) := by
  refine mok C.f_Machine_is_done C.h_Machine_is_done (fun _ _ _ _ _ _ us hl => match us, hl with | [_], _ => rfl) sc_Machine_is_done (fun vs H Q E h => ?_) (fun f cdv A outer s H vs Q E hr h => ?_)
  · obtain ⟨M, p, S, s, rfl, _⟩ := h
    rfl
  obtain ⟨M, p, S, s', rfl, hM, et, q⟩ := h
  refine ⟨_, (pss_one (ps_ret (pe_cmpR op_eq (pe_callB call_len_seq (by rfl) C.z_len PySem.boot_len (pa_cons (pe_fld (pv 0) rfl) pa_nil)) pe_int (nomark _)))), ?_⟩
  obtain ⟨dx, hi⟩ := hM.ins
  obtain ⟨vs, ht, at1⟩ := hM.todo
  rw [et] at at1
  have e : vs = [] := at1
  subst e
  exact ⟨_, rfl, M.self, _, dx, _, _, rfl, hi, C.c_Machine, C.n_Machine_todo, rfl, M.tl, _, rfl, .inl (SqL.of ht), rfl, q⟩
def spIsGreat (P : Program) (w : World) (K : PySem.W.Frag) : Sp := fun vs H Q _ => ∃ (M : MA) (p : List Fn) (S : List Ent) (s : MS) (t : T), vs = [.ref M.self] ∧ MachAt P w K M p S s H ∧ s.found = [t] ∧ t.parts ≤ 200000 ∧ t.depth ≤ 200 ∧ Q (.bl false) H
theorem ok_is_great : MOk P w K mg base 1 (He.ga K "Machine") "is_great" ["self"] (spIsGreat P w K) := by
  refine mok C.f_Machine_is_great C.h_Machine_is_great (fun _ _ _ _ _ _ us hl => match us, hl with | [_], _ => rfl) sc_Machine_is_great (fun vs H Q E h => ?_) (fun f cdv A outer s H vs Q E hr h => ?_)
  · obtain ⟨M, p, S, s, t, rfl, _⟩ := h
    rfl
  obtain ⟨M, p, S, s', t, rfl, hM, et, hp, hd, q⟩ := h
  refine ⟨_, (pss_cons (ps_set (i := 1) sc_Machine_is_great.nd rfl (Or.inl rfl) (pe_ix ix_list (pe_fld (pv 0) rfl) pe_int (fun _ _ => rfl)))
  (pss_one (ps_ret (pe_or (pe_cmpR op_gt (pe_ix ix_list (pe_fld (pe_fld (pv 0) rfl) rfl) (pv 1) (fun _ _ => rfl)) (pe_gi (by rfl) C.i_MOST_PARTS) (nomark _)) (pe_one (pe_cmpR op_gt (pe_ix ix_list (pe_fld (pe_fld (pv 0) rfl) rfl) (pv 1) (fun _ _ => rfl)) (pe_gi (by rfl) C.i_MOST_DEPTH) (nomark _))))))), ?_⟩
  obtain ⟨dx, hi⟩ := hM.ins
  obtain ⟨ns, hf, af⟩ := hM.found
  rw [et] at af
  obtain ⟨n, r, rfl, dn, e⟩ := af
  have e : r = [] := e
  subst e
  obtain ⟨wf, ap, ⟨dx2, hi2⟩, v0, kvs, szs, dps, h0, hlk, he, hn, hs, hd2, hk, hz⟩ := hM.st
  obtain ⟨z1, z2⟩ := hz.ok n t dn
  refine ⟨_, rfl, M.self, _, dx, _, _, rfl, hi, C.c_Machine, C.n_Machine_found, rfl, M.fl, _, _, _, rfl, rfl, SqL.of hf, rfl, ?_⟩
  refine ⟨_, rfl, M.self, _, dx, _, _, rfl, hi, C.c_Machine, C.n_Machine_store, rfl, M.s.self, _, dx2, _, _, rfl, hi2, C.c_Store, C.n_Store_sizes, rfl, _, rfl, M.s.s, _, _, _, rfl, rfl, SqL.of hs, atI_int z1, ?_⟩
  refine ⟨_, _, rfl, rfl, _, rfl, ite_b (fun hb => ?_) (fun _ => ?_)⟩
  · have z := of_decide_eq_true hb
    omega
  · refine ⟨_, rfl, M.self, _, dx, _, _, rfl, hi, C.c_Machine, C.n_Machine_store, rfl, M.s.self, _, dx2, _, _, rfl, hi2, C.c_Store, C.n_Store_depths, rfl, _, rfl, M.s.d, _, _, _, rfl, rfl, SqL.of hd2, atI_int z2, _, _, rfl, rfl, ?_⟩
    have e : decide ((200 : Int) < ((min t.depth 201 : Nat) : Int)) = false := decide_eq_false (by omega)
    show Q (.bl (decide ((200 : Int) < ((min t.depth 201 : Nat) : Int)))) H
    rw [e]
    exact q
def spResult (P : Program) (w : World) (K : PySem.W.Frag) : Sp := fun vs H Q _ => ∃ (M : MA) (p : List Fn) (S : List Ent) (s : MS) (t : T), vs = [.ref M.self] ∧ MachAt P w K M p S s H ∧ s.found = [t] ∧ t.parts ≤ 200000 ∧ S.length ≤ 15000000 ∧ ∀ v H', Same H H' → TV K H' t v → Q v H'
theorem ok_result : MOk P w K mg base 3 (He.ga K "Machine") "result" ["self"] (spResult P w K) := by
  have M_value_of := ok_value_of C (P := P) (base := base)
  refine mok C.f_Machine_result C.h_Machine_result (fun _ _ _ _ _ _ us hl => match us, hl with | [_], _ => rfl) sc_Machine_result (fun vs H Q E h => ?_) (fun f cdv A outer s H vs Q E hr h => ?_)
  · obtain ⟨M, p, S, s, t, rfl, _⟩ := h
    rfl
  obtain ⟨M, p, S, s', t, rfl, hM, et, hp, hl, q⟩ := h
  refine ⟨_, (pss_one (ps_ret (pe_mt (pe_fld (pv 0) rfl) C.c_Store M_value_of (hr.mono (by decide)) (pa_cons (pe_ix ix_list (pe_fld (pv 0) rfl) pe_int (fun _ _ => rfl)) pa_nil)))), ?_⟩
  obtain ⟨dx, hi⟩ := hM.ins
  obtain ⟨dx2, hi2⟩ := hM.st.ins
  obtain ⟨ns, hf, af⟩ := hM.found
  rw [et] at af
  obtain ⟨n, r, rfl, dn, e⟩ := af
  have e : r = [] := e
  subst e
  exact ⟨_, rfl, M.self, _, dx, _, _, rfl, hi, C.c_Machine, C.n_Machine_store, rfl, M.s.self, dx2, _, rfl, hi2, rfl, _, rfl, M.self, _, dx, _, _, rfl, hi, C.c_Machine, C.n_Machine_found, rfl, M.fl, _, _, _, rfl, rfl, SqL.of hf, rfl, M.s, S, n, t, rfl, hM.st, dn, hl, by omega, q⟩
def spGoOn (P : Program) (w : World) (K : PySem.W.Frag) : Sp := fun vs H Q _ => ∃ (M : MA) (p : List Fn) (S : List Ent) (s : MS) (R0 R k n : Nat) (t : T) (lim : Nat), vs = [.ref M.self, .int (lim : Int)] ∧ MachAt P w K M p S s H ∧ WfP p R0 ∧ R0 ≤ R ∧ 1 ≤ R ∧ WfS p R0 R s ∧ (∀ f ∈ p, f.ps.length ≤ 12) ∧
  mit p k s = ⟨[], [t], n⟩ ∧ n ≤ lim ∧ S.length + k ≤ 13000000 ∧ s.todo.length + 12 * k ≤ 13000000 ∧ s.found.length + k ≤ 13000000 ∧ s.steps ≤ 1000000 ∧ k ≤ 1000000 ∧
  ∀ (S' : List Ent) (H' : Hp), MachAt P w K M p S' ⟨[], [t], n⟩ H' → MFr M H H' → S'.length ≤ S.length + k → Q .non H'
theorem ok_go_on : MOk P w K mg base 4 (He.ga K "Machine") "go_on" ["self", "limit"] (spGoOn P w K) := by
  have M_begin := ok_begin C (P := P) (base := base)
  have M_evaluate := ok_evaluate C (P := P) (base := base)
  have M_do := ok_do C (P := P) (base := base)
  refine mok C.f_Machine_go_on C.h_Machine_go_on (fun _ _ _ _ _ _ us hl => match us, hl with | [_, _], _ => rfl) sc_Machine_go_on (fun vs H Q E h => ?_) (fun f cdv A outer s H vs Q E hr h => ?_)
  · obtain ⟨M, p, S, s, R0, R, k, n, t, lim, rfl, _⟩ := h
    rfl
  obtain ⟨M, p, S, s', R0, R, k, n, t, lim, rfl, hM, hW, hR, h1R, hWS, h12, hrun, hn, lS, lt, lf, ls, lk', q⟩ := h
  refine ⟨_, (pss_one (ps_while PassesOwn.never (PW.pt (pw_and (pt_cmpR op_gt (pe_callB call_len_seq (by rfl) C.z_len PySem.boot_len (pa_cons (pe_fld (pv 0) rfl) pa_nil)) pe_int (nomark _)) (pw_and1 (pt_cmpR op_isN (pe_fld (pv 0) rfl) pe_non (nomark _))))) (pss_cons (ps_set (i := 2) sc_Machine_go_on.nd rfl (Or.inl rfl) (pe_bm0 PySem.F.plainAttrs_list PySem.F.slot_list_pop PySem.F.type_list_pop mt_pop (pe_fld (pv 0) rfl)))
  (pss_one (ps_if (pt_cmpR op_eq (pe_ix ix_tup (pv 2) pe_int (fun _ _ => rfl)) pe_str (nomark _)) (pss_cons (ps_if (pt_cmpR op_eq (pe_fld (pv 0) rfl) (pv 1) (nomark _)) (pss_cons (ps_expr (pe_bm PySem.F.plainAttrs_list PySem.F.slot_list_append PySem.F.type_list_append mt_append (pe_fld (pv 0) rfl) (pa_cons (pv 2) pa_nil)))
  (pss_one ps_retN)) pss_nil)
  (pss_cons (ps_fld (pv 0) (pe_op op_add (pe_fld (pv 0) rfl) pe_int) rfl)
  (pss_one (ps_expr (pe_mt (pv 0) C.c_Machine M_evaluate (hr.mono (by decide)) (pa_cons (pe_ix ix_tup (pv 2) pe_int (fun _ _ => rfl)) (pa_cons (pe_ix ix_tup (pv 2) pe_int (fun _ _ => rfl)) pa_nil))))))) (pss_one (ps_if (pt_cmpR op_eq (pe_ix ix_tup (pv 2) pe_int (fun _ _ => rfl)) pe_str (nomark _)) (pss_one (ps_expr (pe_mt (pv 0) C.c_Machine M_do (hr.mono (by decide)) (pa_cons (pe_ix ix_tup (pv 2) pe_int (fun _ _ => rfl)) pa_nil)))) (pss_one (ps_if (pt_cmpR op_eq (pe_ix ix_tup (pv 2) pe_int (fun _ _ => rfl)) pe_str (nomark _)) (pss_cons (ps_set (i := 3) sc_Machine_go_on.nd rfl (Or.inl rfl) (pe_ifExp (pt_cmpR op_eq (pe_bm0 PySem.F.plainAttrs_list PySem.F.slot_list_pop PySem.F.type_list_pop mt_pop (pe_fld (pv 0) rfl)) (pe_gi (by rfl) C.i_EMPTY) (nomark _)) (pe_ix ix_tup (pv 2) pe_int (fun _ _ => rfl)) (pe_ix ix_tup (pv 2) pe_int (fun _ _ => rfl))))
  (pss_one (ps_expr (pe_bm PySem.F.plainAttrs_list PySem.F.slot_list_append PySem.F.type_list_append mt_append (pe_fld (pv 0) rfl) (pa_cons (pe_tup (pa_cons pe_str (pa_cons (pv 3) (pa_cons (pe_ix ix_tup (pv 2) pe_int (fun _ _ => rfl)) pa_nil)))) pa_nil))))) (pss_one (ps_if (pt_cmpR op_eq (pe_ix ix_tup (pv 2) pe_int (fun _ _ => rfl)) pe_str (nomark _)) (pss_cons (ps_set (i := 4) sc_Machine_go_on.nd rfl (Or.inl rfl) (pe_op op_sub (pe_callB call_len_seq (by rfl) C.z_len PySem.boot_len (pa_cons (pe_fld (pv 0) rfl) pa_nil)) (pe_ix ix_tup (pv 2) pe_int (fun _ _ => rfl))))
  (pss_cons (ps_set (i := 5) sc_Machine_go_on.nd rfl (Or.inl rfl) (pe_callTy call_tuple_of (by rfl) C.z_tuple (by decide +kernel) (pa_cons (pe_slice sl_list (pe_fld (pv 0) rfl) (po_some (pv 4)) po_none) pa_nil)))
  (pss_cons (ps_for PassesOwn.never rfl (pi_tup (pv 5)) (pg_name (i := 6) sc_Machine_go_on.nd rfl (Or.inl rfl)) (pss_one (ps_expr (pe_bm0 PySem.F.plainAttrs_list PySem.F.slot_list_pop PySem.F.type_list_pop mt_pop (pe_fld (pv 0) rfl)))))
  (pss_one (ps_expr (pe_mt (pv 0) C.c_Machine M_begin (hr.mono (by decide)) (pa_cons (pe_ix ix_tup (pv 2) pe_int (fun _ _ => rfl)) (pa_cons (pv 5) pa_nil)))))))) pss_never))))))))))), ?_⟩
  refine ⟨fun m σ H1 => ∃ (S1 : List Ent) (s1 : MS) (R1 : Nat) (o2 o3 o4 o5 o6 : Option L2.V), σ = [some (.ref M.self), some (.int (lim : Int)), o2, o3, o4, o5, o6] ∧ MachAt P w K M p S1 s1 H1 ∧ R0 ≤ R1 ∧ 1 ≤ R1 ∧ WfS p R0 R1 s1 ∧ mit p m s1 = ⟨[], [t], n⟩ ∧ S1.length + m ≤ S.length + k ∧ s1.todo.length + 12 * m ≤ 13000000 ∧ s1.found.length + m ≤ 13000000 ∧ MFr M H H1, ⟨k, S, s', R, _, _, _, _, _, rfl, hM, hR, h1R, hWS, hrun, Nat.le_refl _, lt, lf, .refl M H⟩, ?_⟩
  clear hM hWS hrun hR h1R lt lf ls
  rintro m σ H1 ⟨S1, ⟨td, f, n1⟩, R1, o2, o3, o4, o5, o6, rfl, hM, hR, h1R, hWS, hrun, lS1, lt, lf, fr⟩
  obtain ⟨dx, hi⟩ := hM.ins
  obtain ⟨vs, ht, at1⟩ := hM.todo
  have yes : ∀ {a : L2.V} {A : Prop}, decide (a = a) = false → A := fun {a A} h => by
    rw [decide_eq_true rfl] at h
    cases h
  have no : ∀ {a b : Str} {A : Prop}, decide (L2.V.str a = L2.V.str b) = true → a ≠ b → A := fun {a b A} h e => absurd (L2.V.str.inj (of_decide_eq_true h)) e
  refine ⟨_, rfl, M.self, _, dx, _, _, rfl, hi, C.c_Machine, C.n_Machine_todo, rfl, M.tl, _, rfl, .inl (SqL.of ht), _, _, rfl, rfl, _, rfl, ?_⟩
  cases td with
  | nil =>
    have e : vs = [] := at1
    subst e
    rw [mit_end] at hrun
    rw [hrun] at hM
    exact ite_b (fun hb => by simp at hb) (fun _ => q S1 H1 hM fr (by omega))
  | cons tk r =>
    obtain ⟨v, vs, rfl, tv, at1⟩ := at1
    obtain ⟨j, rfl, hrun2⟩ := mit_todo p hrun
    clear hrun
    refine ite_b (fun _ => ?_) (fun hb => by simp at hb)
    refine ⟨_, rfl, M.self, _, dx, _, _, rfl, hi, C.c_Machine, C.n_Machine_pair, rfl, rfl, _, rfl, ite_b (fun _ => ⟨_, fun _ _ h => h, ?_⟩) (fun hb => yes hb)⟩
    have hWS2 := hWS.step hW hR h1R
    have ml := mstep_len hWS
    have lt : r.length + 1 + 12 * (j + 1) ≤ 13000000 := lt
    have lf : f.length + (j + 1) ≤ 13000000 := lf
    have ml1 : (mstep p ⟨tk :: r, f, n1⟩).todo.length ≤ r.length + 1 + 12 := ml.1
    have ml2 : (mstep p ⟨tk :: r, f, n1⟩).found.length ≤ f.length + 1 := ml.2
    have next : ∀ {S2 : List Ent} {H2 : Hp} {o2 o3 o4 o5 o6 : Option L2.V}, MachAt P w K M p S2 (mstep p ⟨tk :: r, f, n1⟩) H2 → MFr M H1 H2 → S2.length ≤ S1.length + 1 → ∃ m', m' < j + 1 ∧ ∃ (S1 : List Ent) (s1 : MS) (R1 : Nat) (p2 p3 p4 p5 p6 : Option L2.V), ([some (.ref M.self), some (.int (lim : Int)), o2, o3, o4, o5, o6] : L2.St) = [some (.ref M.self), some (.int (lim : Int)), p2, p3, p4, p5, p6] ∧ MachAt P w K M p S1 s1 H2 ∧ R0 ≤ R1 ∧ 1 ≤ R1 ∧ WfS p R0 R1 s1 ∧ mit p m' s1 = ⟨[], [t], n⟩ ∧ S1.length + m' ≤ S.length + k ∧ s1.todo.length + 12 * m' ≤ 13000000 ∧ s1.found.length + m' ≤ 13000000 ∧ MFr M H H2 :=
      fun {S2 H2 o2 o3 o4 o5 o6} h1 h2 h3 => ⟨j, Nat.lt_succ_self _, S2, _, R1 + 1, o2, o3, o4, o5, o6, rfl, h1, by omega, by omega, hWS2, hrun2, by omega, by omega, by omega, fr.trans h2⟩
    refine ⟨_, rfl, M.self, _, dx, _, _, rfl, hi, C.c_Machine, C.n_Machine_todo, rfl, .inl ⟨rfl, _, SqL.of ht⟩, M.tl, _, _, rfl, rfl, ht, rev_last, ?_⟩
    rw [rev_dropLast]
    obtain ⟨hM2, fr2⟩ := hM.setTodo (ts := r) at1 (xs := vs.reverse) rfl
    have tv2 := tv.mono (ExtS.refl S1) (hM.keep fr2)
    generalize upd H1 M.tl (.lst vs.reverse) = H2 at *
    obtain ⟨dx2, hi2⟩ := hM2.ins
    have htk := hWS.tasks tk (List.mem_cons_self ..)
    have hfit := hWS.fits
    cases tk with
    | ev e env =>
      obtain ⟨q0, m0, nv, rfl, hq, dm, hnv⟩ := tv2
      refine ⟨_, rfl, q0, _, _, _, rfl, rfl, SqT.of hq, rfl, rfl, _, rfl, ite_b (fun _ => ?_) (fun hb => yes hb)⟩
      have st1 : n1 + 1 ≤ n := by
        have z := mit_steps p j (mstep p ⟨.ev e env :: r, f, n1⟩)
        rw [hrun2, mstep_ev] at z
        exact z
      refine ⟨_, rfl, M.self, _, dx2, _, _, rfl, hi2, C.c_Machine, C.n_Machine_steps, rfl, _, rfl, rfl, _, rfl, ite_b (fun hb => ?_) (fun _ => ?_)⟩
      · have z : (n1 : Int) = (lim : Int) := L2.V.int.inj (of_decide_eq_true hb)
        omega
      have hi2' : H2 M.self = some (.ins (He.ga K "Machine") dx2 (mfields M n1)) := hi2
      refine ⟨_, rfl, M.self, _, dx2, _, .int (n1 : Int), rfl, hi2', C.c_Machine, C.n_Machine_steps, rfl, _, _, rfl, rfl, ?_⟩
      refine ⟨_, rfl, M.self, _, dx2, _, rfl, hi2', C.c_Machine, C.n_Machine_steps, by show 9 < 1000; decide, ?_⟩
      rw [steps_put]
      obtain ⟨hM3, fr3⟩ := hM2.setSteps (n := n1 + 1) (dx := dx2)
      have k3 := hM2.keep fr3
      generalize upd H2 M.self (.ins (He.ga K "Machine") dx2 (mfields M (n1 + 1))) = H3 at *
      obtain ⟨dx3, hi3⟩ := hM3.ins
      exact ⟨_, rfl, M.self, dx3, _, rfl, hi3, rfl, _, rfl, q0, _, _, _, rfl, rfl, SqT.of (k3.1 _ _ hq), rfl, _, rfl, q0, _, _, _, rfl, rfl, SqT.of (k3.1 _ _ hq), rfl, M, p, S1, r, f, n1, e, env, m0, nv, R0, R1, rfl, hM3, hW, htk, dm, hnv.mono (ExtS.refl S1) k3, by omega, by omega, by omega, fun H4 h1 h2 => next h1 ((fr2.trans fr3).trans h2) (by omega)⟩
    | ite b c env =>
      obtain ⟨q0, m0, m1, nv, rfl, hq, db, dc, hnv⟩ := tv2
      have hfit : 1 ≤ f.length ∧ _ := hfit
      obtain ⟨u, f, rfl⟩ : ∃ u f', f = u :: f' := by
        cases f with
        | nil => exact absurd hfit.1 (by decide)
        | cons a b => exact ⟨a, b, rfl⟩
      refine ⟨_, rfl, q0, _, _, _, rfl, rfl, SqT.of hq, rfl, rfl, _, rfl, ite_b (fun hb => no hb (by decide +kernel)) (fun _ => ?_)⟩
      refine ⟨_, rfl, q0, _, _, _, rfl, rfl, SqT.of hq, rfl, rfl, _, rfl, ite_b (fun hb => no hb (by decide +kernel)) (fun _ => ?_)⟩
      refine ⟨_, rfl, q0, _, _, _, rfl, rfl, SqT.of hq, rfl, rfl, _, rfl, ite_b (fun _ => ?_) (fun hb => yes hb)⟩
      obtain ⟨ns, hf, af⟩ := hM2.found
      obtain ⟨nu, ns, rfl, du, af⟩ := af
      have hf : H2 M.fl = some (.lst (L2.V.int (nu : Int) :: nums ns).reverse) := hf
      refine ⟨_, rfl, M.self, _, dx2, _, _, rfl, hi2, C.c_Machine, C.n_Machine_found, rfl, .inl ⟨rfl, _, SqL.of hf⟩, M.fl, _, _, rfl, rfl, hf, rev_last, ?_⟩
      rw [rev_dropLast]
      obtain ⟨hM3, fr3⟩ := hM2.setFound (fs := f) af (xs := (nums ns).reverse) rfl
      have k3 := hM2.keep fr3
      generalize upd H2 M.fl (.lst (nums ns).reverse) = H3 at *
      obtain ⟨dx3, hi3⟩ := hM3.ins
      have hq3 := k3.1 _ _ hq
      have hnv3 := hnv.mono (ExtS.refl S1) k3
      have fin : ∀ (e : K35.E) (me : Nat), Den S1 me e.enc → mstep p ⟨.ite b c env :: r, u :: f, n1⟩ = ⟨.ev e env :: r, f, n1⟩ → ∀ (σ : L2.St) (D : Ends), σ = [some (.ref M.self), some (.int (lim : Int)), some (.ref q0), some (.int (me : Int)), o4, o5, o6] → (∀ H4, MachAt P w K M p S1 (mstep p ⟨.ite b c env :: r, u :: f, n1⟩) H4 → MFr M H1 H4 → D.nx σ H4) →
          tDrop (tBM K "list" rAppend (tFld K (tVar 0) "todo") (tCons (tTup (tCons (tC (.str "eval")) (tCons (tVar 3) (tCons (tOp (rIxT K) (tVar 2) (tC (.int 3))) tNil)))) tNil)) D σ H3 := by
        intro e me de emst σ D eσ hD
        subst eσ
        obtain ⟨vs4, ht4, _⟩ := hM3.todo
        refine ⟨_, rfl, M.self, _, dx3, _, _, rfl, hi3, C.c_Machine, C.n_Machine_todo, rfl, .inl ⟨rfl, _, SqL.of ht4⟩, _, rfl, _, rfl, q0, _, _, _, rfl, rfl, SqT.of hq3, rfl, by show 3 ≤ sizeLine; decide, fun tp ntp => ?_⟩
        obtain ⟨t5, l5, hM5, f5⟩ := hM3.push (t := .ev e env) ht4 ntp (fun H' s' e' => ⟨tp, _, nv, rfl, e', de, hnv3.mono (ExtS.refl S1) (Keep.same s')⟩)
        refine ⟨M.tl, _, _, rfl, rfl, t5, by rw [l5]; exact line_lt (by show r.length ≤ _; omega), hD _ ?_ ((fr2.trans fr3).trans f5)⟩
        rw [emst]
        exact hM5
      refine ⟨rfl, _, rfl, ite_b (fun hb => ?_) (fun hb => ?_)⟩
      · have e : nu = 0 := by
          have z := L2.V.int.inj (of_decide_eq_true hb)
          omega
        subst e
        have eu : u = T.nil := du.func .nil
        exact ⟨_, rfl, q0, _, _, _, rfl, rfl, SqT.of hq3, rfl, fin c m1 dc (by show (⟨.ev (if u = T.nil then c else b) env :: r, f, n1⟩ : MS) = _; rw [if_pos eu]) _ _ rfl fun H4 h1 h2 => next h1 h2 (by omega)⟩
      · have eu : ¬ u = T.nil := fun z => by
          rw [z] at du
          rw [du.inj hM.st.wf .nil] at hb
          exact yes hb
        exact ⟨_, rfl, q0, _, _, _, rfl, rfl, SqT.of hq3, rfl, fin b m0 db (by show (⟨.ev (if u = T.nil then c else b) env :: r, f, n1⟩ : MS) = _; rw [if_neg eu]) _ _ rfl fun H4 h1 h2 => next h1 h2 (by omega)⟩
    | doo w1 =>
      obtain ⟨q0, rfl, hq⟩ := tv2
      have hfit : arity w1 ≤ f.length ∧ _ := hfit
      refine ⟨_, rfl, q0, _, _, _, rfl, rfl, SqT.of hq, rfl, rfl, _, rfl, ite_b (fun hb => no hb (by decide +kernel)) (fun _ => ?_)⟩
      refine ⟨_, rfl, q0, _, _, _, rfl, rfl, SqT.of hq, rfl, rfl, _, rfl, ite_b (fun _ => ?_) (fun hb => yes hb)⟩
      exact ⟨_, rfl, M.self, dx2, _, rfl, hi2, rfl, _, rfl, q0, _, _, _, rfl, rfl, SqT.of hq, rfl, M, p, S1, r, f, n1, w1, rfl, hM2, htk, hfit.1, by omega, by omega, fun S3 H3 h1 h2 h3 h4 => next h1 (fr2.trans h2) h4⟩
    | call w1 =>
      obtain ⟨q0, kk, g, rfl, hq, dk, hg⟩ := tv2
      obtain ⟨g', hg', hfl, _⟩ : ∃ g, fnd p w1 = some g ∧ g.ps.length ≤ f.length ∧ _ := hfit
      rw [hg] at hg'
      cases hg'
      have lps := h12 g (fnd_mem hg).1
      refine ⟨_, rfl, q0, _, _, _, rfl, rfl, SqT.of hq, rfl, rfl, _, rfl, ite_b (fun hb => no hb (by decide +kernel)) (fun _ => ?_)⟩
      refine ⟨_, rfl, q0, _, _, _, rfl, rfl, SqT.of hq, rfl, rfl, _, rfl, ite_b (fun hb => no hb (by decide +kernel)) (fun _ => ?_)⟩
      refine ⟨_, rfl, q0, _, _, _, rfl, rfl, SqT.of hq, rfl, rfl, _, rfl, ite_b (fun hb => no hb (by decide +kernel)) (fun _ => ?_)⟩
      refine ⟨_, rfl, q0, _, _, _, rfl, rfl, SqT.of hq, rfl, rfl, _, rfl, ite_b (fun _ => ?_) (fun hb => yes hb)⟩
      obtain ⟨ns, hf, af⟩ := hM2.found
      have lns : ns.length = f.length := af.length
      refine ⟨_, rfl, M.self, _, dx2, _, _, rfl, hi2, C.c_Machine, C.n_Machine_found, rfl, M.fl, _, rfl, .inl (SqL.of hf), _, rfl, q0, _, _, _, rfl, rfl, SqT.of hq, rfl, _, _, rfl, rfl, ?_⟩
      refine ⟨_, rfl, M.self, _, dx2, _, _, rfl, hi2, C.c_Machine, C.n_Machine_found, rfl, ?_⟩
      refine ⟨_, rfl, _, rfl, M.fl, _, rfl, SqL.of hf, fun D nD => ?_⟩
      have ecut : cutV (nums ns).reverse (some ((((nums ns).reverse.length : Nat) : Int) - ((g.ps.length : Nat) : Int))) none = nums (ns.take g.ps.length).reverse := by
        rw [show (((nums ns).reverse.length : Nat) : Int) - ((g.ps.length : Nat) : Int) = ((ns.length - g.ps.length : Nat) : Int) by rw [List.length_reverse, nums_len]; omega, cut_from]
        unfold nums
        rw [← List.map_reverse, ← List.map_drop, List.drop_reverse, show ns.length - (ns.length - g.ps.length) = g.ps.length by omega]
      rw [ecut]
      have smD : Same H2 (upd H2 D (.lst (nums (ns.take g.ps.length).reverse))) := same_new nD _
      have hD3 : upd H2 D (.lst (nums (ns.take g.ps.length).reverse)) D = some (.lst (nums (ns.take g.ps.length).reverse)) := upd_same
      generalize upd H2 D (.lst (nums (ns.take g.ps.length).reverse)) = H3 at *
      refine ⟨D, _, rfl, .inl ⟨SqL.of hD3, fun l nl => ?_⟩⟩
      have sm4 : Same H2 (upd H3 l (.tup (nums (ns.take g.ps.length).reverse))) := fun b o e => same_new nl _ _ _ (smD _ _ e)
      have hl4 : upd H3 l (.tup (nums (ns.take g.ps.length).reverse)) l = some (.tup (nums (ns.take g.ps.length).reverse)) := upd_same
      generalize upd H3 l (.tup (nums (ns.take g.ps.length).reverse)) = H4 at *
      have hM4 := hM2.same sm4
      have ljs : (ns.take g.ps.length).reverse.length = g.ps.length := by rw [List.length_reverse, List.length_take]; omega
      refine ⟨_, rfl, l, rfl, ⟨_, SqT.of hl4⟩, for_it (walk_tup (xs := nums (ns.take g.ps.length).reverse)) (fun i σ H5 => ∃ o6 : Option L2.V, σ = [some (.ref M.self), some (.int (lim : Int)), some (.ref q0), o3, some (.int ((((nums ns).reverse.length : Nat) : Int) - ((g.ps.length : Nat) : Int))), some (.ref l), o6] ∧ MachAt P w K M p S1 ⟨r, f.drop i, n1⟩ H5 ∧ MFr M H4 H5) ⟨_, rfl, hM4, .refl M H4⟩ (fun i σ H5 _ h => ?_) (fun i x σ H6 H5 hi h y => ?_) (fun σ H5 h => ?_)⟩
      · obtain ⟨_, _, _, f5⟩ := h
        exact SqT.of ((hM4.keep f5).1 _ _ hl4)
      · obtain ⟨e, hx⟩ := y
        subst e
        obtain ⟨o6, rfl, hM5, f5⟩ := h
        rw [nums_len, ljs] at hi
        obtain ⟨dx5, hi5⟩ := hM5.ins
        obtain ⟨ns5, hf5, af5⟩ := hM5.found
        have hif : i < f.length := by omega
        rw [List.drop_eq_getElem_cons hif] at af5
        obtain ⟨nu, ns5, rfl, du, af5⟩ := af5
        have hf5 : H5 M.fl = some (.lst (L2.V.int (nu : Int) :: nums ns5).reverse) := hf5
        obtain ⟨hM6, f6⟩ := hM5.setFound (fs := f.drop (i + 1)) af5 (xs := (L2.V.int (nu : Int) :: nums ns5).reverse.dropLast) rev_dropLast
        exact ⟨_, rfl, M.self, _, dx5, _, _, rfl, hi5, C.c_Machine, C.n_Machine_found, rfl, .inl ⟨rfl, _, SqL.of hf5⟩, M.fl, _, _, rfl, rfl, hf5, rev_last, _, rfl, hM6, f5.trans f6⟩
      · obtain ⟨o6, rfl, hM5, f5⟩ := h
        rw [nums_len, ljs] at hM5
        obtain ⟨dx5, hi5⟩ := hM5.ins
        have k5 := hM4.keep f5
        have hq5 := k5.1 _ _ (sm4 _ _ hq)
        have es : mstep p ⟨.call w1 :: r, f, n1⟩ = ⟨.ev g.body (g.ps.zip (f.take g.ps.length).reverse) :: r, f.drop g.ps.length, n1⟩ := by
          show (match fnd p w1 with
            | some g => (⟨.ev g.body (g.ps.zip (f.take g.ps.length).reverse) :: r, f.drop g.ps.length, n1⟩ : MS)
            | none => ⟨r, f, n1⟩) = _
          rw [hg]
        refine ⟨_, rfl, M.self, dx5, _, rfl, hi5, rfl, _, rfl, q0, _, _, _, rfl, rfl, SqT.of hq5, rfl, _, rfl, M, p, S1, _, w1, g, kk, l, _, (f.take g.ps.length).reverse, rfl, hM5, hg, dk, k5.1 _ _ hl4, (af.take g.ps.length).reverse, ?_, lps, ?_, fun H6 h1 h2 => next (by rw [es]; exact h1) (((fr2.trans (.same sm4)).trans f5).trans h2) (by omega)⟩
        · rw [List.length_reverse, List.length_take]
          omega
        · show r.length ≤ _
          omega
end
end K35
end

section
set_option Elab.async false
set_option linter.all false
set_option maxRecDepth 100000
namespace K35
open PySem PySem.Spec PyProof.Rows L2
theorem sc_is_word : FnScope ["value"] ["value"] (defScope s_is_word) := ⟨rfl, rfl, rfl, by decide +kernel, rfl, by decide +kernel, by decide +kernel⟩
theorem sc_has_head : FnScope ["function"] ["function"] (defScope s_has_head) := ⟨rfl, rfl, rfl, by decide +kernel, rfl, by decide +kernel, by decide +kernel⟩
theorem sc_made_name : FnScope ["number"] ["number"] (defScope s_made_name) := ⟨rfl, rfl, rfl, by decide +kernel, rfl, by decide +kernel, by decide +kernel⟩
theorem sc_with_main : FnScope ["functions", "parameters", "body"] ["functions", "parameters", "body"] (defScope s_with_main) := ⟨rfl, rfl, rfl, by decide +kernel, rfl, by decide +kernel, by decide +kernel⟩
theorem sc_universal : FnScope [] [] (defScope s_universal) := ⟨rfl, rfl, rfl, by decide +kernel, rfl, by decide +kernel, by decide +kernel⟩
section
variable {P : Program} {w : World} {K : PySem.W.Frag} {mg : Str → Option Value} {base : Heap} (C : Ctx w K mg)
include C
def spIsWord (K : PySem.W.Frag) : Sp := fun vs H Q _ => ∃ t v, vs = [v] ∧ TV K H t v ∧ Q (.bl t.isW) H
theorem ok_is_word : FOk P w K mg base 1 "is_word" ["value"] (spIsWord K) := by
  refine fok C.f_is_word C.g_is_word (fun _ _ _ _ _ _ us hl => match us, hl with | [_], _ => rfl) sc_is_word (fun vs H Q E h => ?_) (fun f cdv A outer s H vs Q E hr h => ?_)
  · obtain ⟨t, v, rfl, _⟩ := h
    rfl
  obtain ⟨t, v, rfl, tv, q⟩ := h
  refine ⟨_, (pss_one (ps_ret (pe_callB call_isS (by rfl) C.z_isinstance (by decide +kernel) (pa_cons (pv 0) (pa_cons (pe_bltn (v := .ty "str") (by rfl) C.z_str (by decide +kernel) rfl) pa_nil))))), ?_⟩
  exact ⟨_, rfl, v, t, rfl, tv, q⟩
def spHasHead (K : PySem.W.Frag) : Sp := fun vs H Q _ => ∃ (f : Fn) (v : L2.V), vs = [v] ∧ TV K H f.enc v ∧ Q (.bl true) H
theorem ok_has_head : FOk P w K mg base 2 "has_head" ["function"] (spHasHead K) := by
  have F_is_word := ok_is_word C (P := P) (base := base)
  refine fok C.f_has_head C.g_has_head (fun _ _ _ _ _ _ us hl => match us, hl with | [_], _ => rfl) sc_has_head (fun vs H Q E h => ?_) (fun f cdv A outer s H vs Q E hr h => ?_)
  · obtain ⟨t, v, rfl, _⟩ := h
    rfl
  obtain ⟨g, v, rfl, tv, q⟩ := h
  obtain ⟨a, us, rfl, ha, v1, r1, rfl, h1, v2, r2, rfl, h2, v3, r3, rfl, h3, e⟩ := id tv
  have e : r3 = [] := e
  subst e
  refine ⟨_, (pss_one (ps_ret (pe_and (pe_not (pe_fn F_is_word (hr.mono (by decide)) (by rfl) (pa_cons (pv 0) pa_nil))) (pe_and (pe_cmpR op_eq (pe_callB call_len_seq (by rfl) C.z_len PySem.boot_len (pa_cons (pv 0) pa_nil)) pe_int (nomark _)) (pe_and (pe_fn F_is_word (hr.mono (by decide)) (by rfl) (pa_cons (pe_ix ix_tup (pv 0) pe_int (fun _ _ => rfl)) pa_nil)) (pe_one (pe_not (pe_fn F_is_word (hr.mono (by decide)) (by rfl) (pa_cons (pe_ix ix_tup (pv 0) pe_int (fun _ _ => rfl)) pa_nil))))))))), ?_⟩
  refine ⟨_, rfl, _, _, rfl, tv, _, rfl, _, rfl, ?_⟩
  refine ⟨_, rfl, _, _, rfl, .inr ha, rfl, _, rfl, ?_⟩
  refine ⟨_, rfl, _, _, _, _, rfl, rfl, ha, rfl, _, _, rfl, h1, _, rfl, ?_⟩
  exact ⟨_, rfl, _, _, _, _, rfl, rfl, ha, rfl, _, _, rfl, h2, _, rfl, q⟩
def spMadeName : Sp := fun vs H Q _ => ∃ n : Nat, vs = [.int n] ∧ n ≤ 30 ∧ Q (.str (mkName n)) H
theorem ok_made_name : FOk P w K mg base 1 "made_name" ["number"] spMadeName := by
  refine fok C.f_made_name C.g_made_name (fun _ _ _ _ _ _ us hl => match us, hl with | [_], _ => rfl) sc_made_name (fun vs H Q E h => ?_) (fun f cdv A outer s H vs Q E hr h => ?_)
  · obtain ⟨n, rfl, _⟩ := h
    rfl
  obtain ⟨n, rfl, hn, q⟩ := h
  refine ⟨_, (pss_one (ps_ret (pe_op op_add_str pe_str (pe_callTy call_str_int (by rfl) C.z_str (by decide +kernel) (pa_cons (pv 0) pa_nil))))), ?_⟩
  refine ⟨_, rfl, _, rfl, ?_, _, _, rfl, rfl, ?_, q⟩
  · have e : ∀ m : Fin 31, ((m.val : Int)).natAbs.log2 < 1920 := by decide +kernel
    exact e ⟨n, by omega⟩
  · have e : ∀ m : Fin 31, (Str.ofString "f").length + (Str.ofString (toString (m.val : Int))).length ≤ 100 := by decide +kernel
    exact Nat.le_trans (e ⟨n, by omega⟩) (by decide)
def spUniversal (K : PySem.W.Frag) : Sp := fun vs H Q _ => vs = [] ∧ ∀ v, TV K H (encP uniP) v → Q v H
theorem ok_universal : FOk P w K mg base 1 "universal" [] (spUniversal K) := by
  refine fok C.f_universal C.g_universal (fun _ _ _ _ _ _ us hl => match us, hl with | [], _ => rfl) sc_universal (fun vs H Q E h => ?_) (fun f cdv A outer s H vs Q E hr h => ?_)
  · obtain ⟨rfl, _⟩ := h
    rfl
  obtain ⟨rfl, q⟩ := h
  refine ⟨_, (pss_one (ps_ret (pe_glob (v := .ref _) (by rfl) C.g_UNIVERSAL rfl))), ?_⟩
  have h := C.says.more
  obtain ⟨h1, h2⟩ := He.ba h
  obtain ⟨h3, h4⟩ := He.ba h2
  obtain ⟨h5, h6⟩ := He.ba h4
  exact q _ (TV.ofK h6 rfl)

def spWithMain (K : PySem.W.Frag) : Sp := fun vs H Q _ => ∃ (fs : List T) (ps : List Str) (b : T) (v1 v2 v3 : L2.V), vs = [v1, v2, v3] ∧ TV K H (.l fs) v1 ∧ TV K H (.l (ps.map T.w)) v2 ∧ TV K H b v3 ∧ fs.length ≤ 30 ∧
  ∀ v H', Same H H' → TV K H' (.l (.l [.w (mkName fs.length), .l (ps.map T.w), b] :: fs)) v → Q v H'
theorem ok_with_main : FOk P w K mg base 2 "with_main" ["functions", "parameters", "body"] (spWithMain K) := by
  have F_made_name := ok_made_name C (P := P) (base := base)
  refine fok C.f_with_main C.g_with_main (fun _ _ _ _ _ _ us hl => match us, hl with | [_, _, _], _ => rfl) sc_with_main (fun vs H Q E h => ?_) (fun f cdv A outer s H vs Q E hr h => ?_)
  · obtain ⟨_, _, _, _, _, _, rfl, _⟩ := h
    rfl
  obtain ⟨fs, ps, b, v1, v2, v3, rfl, t1, t2, t3, hl, q⟩ := h
  obtain ⟨a, us, rfl, ha, t4⟩ := id t1
  refine ⟨_, (pss_one (ps_ret (pe_op op_catT (pe_tup (pa_cons (pe_tup (pa_cons (pe_fn F_made_name (hr.mono (by decide)) (by rfl) (pa_cons (pe_callB call_len_seq (by rfl) C.z_len PySem.boot_len (pa_cons (pv 0) pa_nil)) pa_nil)) (pa_cons (pv 1) (pa_cons (pv 2) pa_nil)))) pa_nil)) (pv 0)))), ?_⟩
  refine ⟨_, rfl, _, _, rfl, .inr ha, fs.length, by rw [t4.length] <;> rfl, hl, ?_⟩
  refine ⟨_, rfl, _, rfl, by show 3 ≤ sizeLine; decide, fun p1 n1 => ?_⟩
  refine ⟨by show 1 ≤ sizeLine; decide, fun p2 n2 => ?_⟩
  have k1 : Same H (upd H p1 (.tup [.str (mkName fs.length), v2, v3])) := fun c o e => by
    rw [upd_ne (ne_of_none e n1)]
    exact e
  have ha2 := (Tk.same k1).sqt ha
  have h1 : upd H p1 (.tup [.str (mkName fs.length), v2, v3]) p1 = some (.tup [.str (mkName fs.length), v2, v3]) := upd_same
  generalize upd H p1 (.tup [.str (mkName fs.length), v2, v3]) = H1 at *
  have k2 : Same H1 (upd H1 p2 (.tup [.ref p1])) := same_new n2 _
  have h2 : upd H1 p2 (.tup [.ref p1]) p2 = some (.tup [.ref p1]) := upd_same
  generalize upd H1 p2 (.tup [.ref p1]) = H2 at *
  have k12 : Same H H2 := fun c o e => k2 _ _ (k1 _ _ e)
  have lus := t4.length
  refine ⟨_, rfl, p2, _, [.ref p1], us, rfl, rfl, SqT.of h2, (Tk.same k2).sqt ha2, by simp, by rw [List.length_cons, List.length_nil]; exact line_le (by omega), fun e => ?_, fun _ p3 n3 => ?_⟩
  · subst e
    have e : fs = [] := by
      cases fs with
      | nil => rfl
      | cons a b => cases lus
    subst e
    exact q _ H2 k12 ⟨p2, _, rfl, .inl (.of h2), .one ⟨p1, _, rfl, .inl (.of (k2 _ _ h1)), _, _, rfl, rfl, _, _, rfl, t2.mono (Tk.same k12), _, _, rfl, t3.mono (Tk.same k12), rfl⟩⟩
  · have k3 : Same H2 (upd H2 p3 (.tup ([.ref p1] ++ us))) := same_new n3 _
    have k123 : Same H (upd H2 p3 (.tup ([.ref p1] ++ us))) := fun c o e => k3 _ _ (k12 _ _ e)
    exact q _ _ k123 ⟨p3, _, rfl, .inl (.of upd_same), .cons ⟨p1, _, rfl, .inl (.of (k3 _ _ (k2 _ _ h1))), _, _, rfl, rfl, _, _, rfl, t2.mono (Tk.same k123), _, _, rfl, t3.mono (Tk.same k123), rfl⟩ (t4.mono (Tk.same k123))⟩
end
end K35
end

section
set_option Elab.async false
set_option linter.all false
set_option maxRecDepth 100000
/-! What the kit has not: dict(a written dict), list.extend(a tuple). -/
namespace K35
open PySem PySem.Spec PyProof.Rows L2
theorem written_entries {prog : Program} {w : World} {K : PySem.W.Frag} : ∀ (l : List DictEntry) (vs : List (Str × He.Dv)), l.map He.keyOf = He.keysIn w.params (vs.map (·.1)) → (vs.map (·.1)).Nodup → (∀ q ∈ vs, ∃ e, l.find? (·.key.isStr q.1) = some e ∧ RelV (q.2.v K) e.val) →
    ∃ us : List (Key × Value), (∀ e ∈ l, ∃ k, (mixKind prog w).is k e.key = true ∧ e.hash = (mixKind prog w).hash k) ∧ PySem.Pairs (mixKind prog w) l us ∧ us.map (·.1) = vs.map (fun q => Sum.inr q.1) ∧ L2.KV (vs.map fun q => ((Sum.inr q.1 : Key), q.2.v K)) us
  | [], [], _, _, _ => ⟨[], fun e he => (List.not_mem_nil he).elim, .nil, rfl, .nil⟩
  | [], _ :: _, h, _, _ => by cases h
  | _ :: _, [], h, _, _ => by cases h
  | e :: l, q :: vs, h, nd, hv => by
    have h1 : He.keyOf e :: l.map He.keyOf = some (q.1, PyData.keyHash w.params q.1) :: He.keysIn w.params (vs.map (·.1)) := h
    injection h1 with h2 h3
    have h4 : ∃ t, e.key = .str q.1 t ∧ e.hash = PyData.keyHash w.params q.1 := by
      unfold He.keyOf at h2
      split at h2
      · rename_i x t z
        have z1 := Option.some.inj h2
        obtain ⟨z2, z3⟩ := Prod.mk.inj z1
        exact ⟨t, by rw [z, z2], z3⟩
      · cases h2
    obtain ⟨t, hk, hh⟩ := h4
    have nd2 : q.1 ∉ vs.map (·.1) ∧ (vs.map (·.1)).Nodup := List.nodup_cons.mp nd
    have hse : ∀ x : Str, e.key.isStr x = decide (q.1 = x) := fun x => by
      rw [hk]
      show (q.1 == x) = _
      by_cases z : q.1 = x
      · rw [z, decide_eq_true rfl]
        exact beq_self_eq_true _
      · rw [decide_eq_false z]
        exact beq_eq_false_iff_ne.mpr z
    obtain ⟨us, i1, i2, i3, i4⟩ := written_entries (prog := prog) (w := w) (K := K) l vs h3 nd2.2 (fun p hp => by
      obtain ⟨e', f1, f2⟩ := hv p (List.mem_cons_of_mem _ hp)
      rw [List.find?_cons, hse, decide_eq_false (fun z => nd2.1 (by rw [z]; exact List.mem_map.mpr ⟨p, hp, rfl⟩))] at f1
      exact ⟨e', f1, f2⟩)
    have kh : ∃ k : Key, (mixKind prog w).is k e.key = true ∧ e.hash = (mixKind prog w).hash k := ⟨.inr q.1, by rw [hk]; exact keyIs_str q.1 t, hh⟩
    have rv : RelV (q.2.v K) e.val := by
      obtain ⟨e', f1, f2⟩ := hv q (List.mem_cons_self ..)
      rw [List.find?_cons, hse, decide_eq_true rfl] at f1
      cases f1
      exact f2
    refine ⟨(.inr q.1, e.val) :: us, fun e' he' => ?_, .cons (by rw [hk]; exact keyIs_str q.1 t) rfl i2, ?_, .cons ⟨rfl, rv⟩ i4⟩
    · rcases List.mem_cons.mp he' with z | he'
      · rw [z]
        exact kh
      · exact i1 e' he'
    · rw [List.map_cons, List.map_cons, i3]
theorem nodup_inr : ∀ {xs : List Str}, xs.Nodup → (xs.map (Sum.inr : Str → Key)).Nodup
  | [], _ => List.nodup_nil
  | x :: xs, h => by
    obtain ⟨h1, h2⟩ := List.nodup_cons.mp h
    refine List.nodup_cons.mpr ⟨fun m => ?_, nodup_inr h2⟩
    obtain ⟨y, hy, e⟩ := List.mem_map.mp m
    rw [← Sum.inr.inj e] at h1
    exact h1 hy
theorem written_dict {prog : Program} {w : World} {K : PySem.W.Frag} {a : Addr} {vs : List (Str × He.Dv)} (hd : He.dicW K a = some (He.keysIn w.params (vs.map (·.1)))) (hv : He.valsB K a vs = true) (nd : (vs.map (·.1)).Nodup) :
    (a == sysModules) = false ∧ ∃ us : List (Key × Value), (∀ h : Heap, K.In h → h.DictOf (mixKind prog w) a us) ∧ L2.KV (vs.map fun q => ((Sum.inr q.1 : Key), q.2.v K)) us := by
  have hd0 := hd
  unfold He.dicW at hd
  cases q : K.lookup a with
  | none =>
    rw [q] at hd
    cases hd
  | some o =>
    obtain ⟨oc, od, dt, osl⟩ := o
    rw [q] at hd
    cases oc with
    | type c =>
      cases od with
      | none =>
        cases dt with
        | dict es n =>
          have h1 : (match decide (c = "dict") && (osl.isEmpty && !(a == sysModules)) with
            | true => some (es.toList.map He.keyOf)
            | false => none) = some (He.keysIn w.params (vs.map (·.1))) := hd
          cases z : decide (c = "dict") && (osl.isEmpty && !(a == sysModules)) with
          | false =>
            rw [z] at h1
            cases h1
          | true =>
            rw [z] at h1
            obtain ⟨z1, z2⟩ := He.ba z
            obtain ⟨z3, z4⟩ := He.ba z2
            have e1 : c = "dict" := of_decide_eq_true z1
            have e2 : osl = #[] := Array.isEmpty_iff.mp z3
            have e3 : (a == sysModules) = false := by
              cases y : a == sysModules with
              | false => rfl
              | true =>
                rw [y] at z4
                cases z4
            subst e1 e2
            have hks : es.toList.map He.keyOf = He.keysIn w.params (vs.map (·.1)) := Option.some.inj h1
            have hfind : ∀ p ∈ vs, ∃ e, es.toList.find? (·.key.isStr p.1) = some e ∧ RelV (p.2.v K) e.val := fun p hp => by
              obtain ⟨u, hu, ru⟩ := He.valsB_ok hv hp
              unfold PySem.W.nsIn at hu
              rw [q] at hu
              dsimp only at hu
              cases f : es.toList.find? (·.key.isStr p.1) with
              | none =>
                rw [f] at hu
                dsimp only at hu
                split at hu <;> cases hu
              | some e =>
                rw [f] at hu
                dsimp only at hu
                cases hu
                exact ⟨e, rfl, ru⟩
            obtain ⟨us, i1, i2, i3, i4⟩ := written_entries (prog := prog) es.toList vs hks nd hfind
            refine ⟨e3, us, fun h X => ⟨_, es, n, X _ _ q, ⟨rfl, rfl, rfl⟩, rfl, fun e he => i1 e (Array.mem_toList_iff.mpr he), i2, ?_⟩, i4⟩
            rw [i3]
            rw [show (vs.map fun x => (Sum.inr x.1 : Key)) = (vs.map (·.1)).map (Sum.inr : Str → Key) by rw [List.map_map]; rfl]
            exact nodup_inr nd
        | _ => cases hd
      | some b => cases dt <;> cases hd
    | _ => cases od <;> cases dt <;> cases hd
section
variable {X : Cx}
/-- dict(d) of a written dict: a copy -/
theorem call_dictW {a : Addr} {vs : List (Str × He.Dv)} (hd : He.dicW X.K a = some (He.keysIn X.w.params (vs.map (·.1)))) (hv : He.valsB X.K a vs = true) (nd : (vs.map (·.1)).Nodup) (hl : vs.length ≤ 1000) :
    CallR X (.type "dict") (fun xs H Q => xs = [.ref a] ∧ ∀ p, H p = none → Q (.ref p) (upd H p (.dK (vs.map fun q => ((Sum.inr q.1 : Key), q.2.v X.K))))) := by
  intro pins s σ H xs us Q I r q
  obtain ⟨ex, q⟩ := q
  subst ex
  obtain ⟨u, eu, rx⟩ := vals1 r
  subst eu
  cases rx
  obtain ⟨lo, vs', hdd, rel⟩ := written_dict (prog := X.prog) hd hv nd
  have dd := hdd _ I.kIn
  have hz : (vs.map fun q => ((Sum.inr q.1 : Key), q.2.v X.K)).length ≤ sizeLine := by
    rw [List.length_map]
    exact Nat.le_trans hl (by decide)
  refine kt_call_dict lo dd (by rw [← rel.length]; exact hz) fun h' d' hs => ?_
  have hm : (s.heap.objs.size == sysModules) = false := beq_eq_false_iff_ne.mpr (Nat.ne_of_gt I.big)
  exact ⟨.ref s.heap.objs.size, upd H s.heap.objs.size (.dK _), I.laid (t' := s.toks) (fun b u e => (hs.2 b (Nat.ne_of_lt (Heap.lt_size e))).trans (Heap.get?_push_of_some _ e)) (Nat.le_refl _)
    (show ObjOk X.prog X.w _ _ _ (.dK _) from ⟨hz, hm, vs', rel, d'⟩), rfl, q _ (I.hok.fresh (Nat.le_refl _))⟩
theorem extend_tup (l : Addr) (items : Array Value) (n : Nat) (b : Addr) (items2 : Array Value) (n2 : Nat) (od : Option Addr) (osl : Array (Option Value)) (hs0 : ¬(!items.isEmpty && Builtin.List.listTooLong (items.size + items2.size)) = true) (hs1 : items.size ≤ sizeLine) (hs2 : items.size + items2.size ≤ sizeLine + 1) :
    Meets (Builtin.«list.extend» ⟨[.ref l, .ref b], []⟩) (fun _ R s => s.heap.get? l = some { cls := .type "list", dict := none, data := .seq items n, slots := #[] } ∧ s.heap.get? b = some { cls := .type "tuple", dict := od, data := .seq items2 n2, slots := osl } ∧ R (.ok (.ret Value.none)) { s with heap := s.heap.update l (Obj.mapSeq fun x => x ++ items2), toks := s.toks }) :=
  .of_wp fun prog w A R s h => by
    obtain ⟨hp, g, d, tk, os⟩ := s
    obtain ⟨hl, hb, h⟩ := h
    have f1 := PySem.AutoSeq1.idx_int
    have f2 := PySem.AutoSeq1.sub_tuple_tuple
    have f3 := PySem.AutoSeq1.sub_list_list
    have f4 := PySem.AutoSeq1.sub_tuple_list
    have f5 := PySem.AutoSeq1.sub_list_tuple
    have hz' : (items ++ items2).size ≤ sizeLine + 1 := by rw [Array.size_append]; exact hs2
    wp_walk using (wpAny_updateSeq hl rfl (hz := hs1) (_hz' := hz')), PySem.AutoSeq1.wpAny_loadPart' hl, PySem.AutoSeq1.wpAny_loadPart' hb
    exact ⟨_, rfl, h⟩
/-- l.extend(a tuple) -/
def rExtendT (K : PySem.W.Frag) : L2.V → List L2.V → Hp → VK → Prop := fun x vs H Q => ∃ l b xs zs, x = .ref l ∧ vs = [.ref b] ∧ H l = some (.lst xs) ∧ SqT K H b zs ∧ xs.length + zs.length ≤ sizeLine ∧ Q .non (upd H l (.lst (xs ++ zs)))
theorem mt_extendT : MtM X "list.extend" (rExtendT X.K) := by
  intro pins s σ H x vs v us Q I rx rv h
  obtain ⟨l, b, xs, zs, rfl, rfl, hH, hB, hz, q⟩ := h
  cases rx
  obtain ⟨u, rfl, ru⟩ := rv.one
  cases ru
  obtain ⟨z, its, n, r, hl, e⟩ := I.lstM hH
  obtain ⟨its2, r2, p2, hl2⟩ := I.tuple hB
  obtain ⟨o2, ho2, hc2, n2, hd2⟩ := id p2
  have hsz : its.toArray.size + its2.toArray.size ≤ sizeLine := by
    have y := r2.length
    rw [List.size_toArray, List.size_toArray]
    omega
  have hlong : ¬ (!its.toArray.isEmpty && Builtin.List.listTooLong (its.toArray.size + its2.toArray.size)) = true := by
    rw [notLongL hsz, Bool.and_false]
    exact Bool.false_ne_true
  obtain ⟨oc, od, dt, osl⟩ := o2
  have hc2 : oc = .type "tuple" := hc2
  have hd2 : dt = .seq its2.toArray n2 := hd2
  subst hc2 hd2
  refine call_meets F.slot_list_extend ⟨_, e, rfl⟩ F.entry_list_extend (F.args_list_extend_2 _ _)
    (extend_tup l its.toArray n b its2.toArray n2 od osl hlong (by rw [List.size_toArray]; omega) (by omega)) ⟨e, ho2, ?_⟩
  refine ⟨.non, _, I.lset (its' := its ++ its2) hH e (by simp) (r.append r2) ?_, rfl, q⟩
  rw [List.length_append]
  rw [List.size_toArray, List.size_toArray] at hsz
  omega
end
end K35
end

section
set_option Elab.async false
set_option linter.all false
set_option maxRecDepth 100000
/-! The checks of the package. -/
namespace K35
open PySem PySem.Spec PyProof.Rows L2
theorem says_dic {w : World} {K : PySem.W.Frag} (h : SaysU w K) : He.dicW K (He.ga K "SPECIAL_WORDS") = some (He.keysIn w.params specials) := by
  have e : ts.map (fun t => He.dicW K (t.1 K)) = ts.map fun t => some (He.keysIn w.params t.2) := congrArg (fun z : He.AlT => z.2) h.t
  exact (List.cons.inj e).1
theorem says_vals {w : World} {K : PySem.W.Frag} (h : SaysU w K) : He.valsB K (He.ga K "SPECIAL_WORDS") specialCounts = true := by
  obtain ⟨_, h2⟩ := He.ba h.more
  obtain ⟨_, h4⟩ := He.ba h2
  exact (He.ba h4).1
/-- a word that is not among the keys of a written dict -/
theorem ns_none {w : World} {K : PySem.W.Frag} {a : Addr} {ks : List Str} {x : Str} (h : He.dicW K a = some (He.keysIn w.params ks)) (hx : x ∉ ks) : PySem.W.nsIn K a x = some none := by
  unfold He.dicW at h
  cases q : K.lookup a with
  | none =>
    rw [q] at h
    cases h
  | some o =>
    obtain ⟨oc, od, dt, osl⟩ := o
    rw [q] at h
    cases oc with
    | type c =>
      cases od with
      | none =>
        cases dt with
        | dict es n =>
          have h1 : (match decide (c = "dict") && (osl.isEmpty && !(a == sysModules)) with
            | true => some (es.toList.map He.keyOf)
            | false => none) = some (He.keysIn w.params ks) := h
          cases z : decide (c = "dict") && (osl.isEmpty && !(a == sysModules)) with
          | false =>
            rw [z] at h1
            cases h1
          | true =>
            rw [z] at h1
            have hks : es.toList.map He.keyOf = He.keysIn w.params ks := Option.some.inj h1
            have key : ∀ (l : List DictEntry) (ks : List Str), l.map He.keyOf = He.keysIn w.params ks → x ∉ ks → l.find? (·.key.isStr x) = none ∧ l.any (·.refKey) = false := by
              intro l
              induction l with
              | nil => exact fun _ _ _ => ⟨rfl, rfl⟩
              | cons e l ih =>
                intro ks h hx
                cases ks with
                | nil => cases h
                | cons k ks =>
                  have h1 : He.keyOf e :: l.map He.keyOf = some (k, PyData.keyHash w.params k) :: He.keysIn w.params ks := h
                  injection h1 with h2 h3
                  obtain ⟨i1, i2⟩ := ih ks h3 (fun m => hx (List.mem_cons_of_mem _ m))
                  have hk : ∃ t, e.key = .str k t := by
                    unfold He.keyOf at h2
                    split at h2
                    · rename_i y t z
                      have z1 := Option.some.inj h2
                      obtain ⟨z2, _⟩ := Prod.mk.inj z1
                      exact ⟨t, by rw [z, z2]⟩
                    · cases h2
                  obtain ⟨t, hk⟩ := hk
                  constructor
                  · rw [List.find?_cons, i1, hk]
                    have : (k == x) = false := beq_eq_false_iff_ne.mpr fun z => hx (z ▸ List.mem_cons_self ..)
                    show (match (k == x) with | true => _ | false => _) = none
                    rw [this]
                  · rw [List.any_cons, i2]
                    unfold DictEntry.refKey
                    rw [hk]
                    rfl
            obtain ⟨k1, k2⟩ := key es.toList ks hks hx
            unfold PySem.W.nsIn
            rw [q]
            dsimp only
            rw [k1]
            dsimp only
            rw [k2]
            rfl
        | _ => cases h
      | some b => cases dt <;> cases h
    | _ => cases od <;> cases dt <;> cases h
theorem special_not {x : Str} (h : isSpecial x = false) : x ∉ specials := by
  intro m
  have : isSpecial x = true := by
    unfold isSpecial
    exact List.contains_iff_mem.mpr m
  rw [h] at this
  cases this
abbrev kInr (x : Str) : Key := Sum.inr x
structure CountsOk (K : PySem.W.Frag) (p : List Fn) (kvs : KV) : Prop where
  sp : ∀ q ∈ specialCounts, valV kvs (kInr q.1) = some (q.2.v K)
  fn : ∀ f ∈ p, valV kvs (kInr f.name) = some (.int ((f.ps.length : Nat) : Int))
theorem sc_counts_of : FnScope ["program", "counts", "function"] ["program"] (defScope s_counts_of) := ⟨rfl, rfl, rfl, by decide +kernel, rfl, by decide +kernel, by decide +kernel⟩
section
variable {P : Program} {w : World} {K : PySem.W.Frag} {mg : Str → Option Value} {base : Heap} (C : Ctx w K mg)
include C
def spCounts (K : PySem.W.Frag) : Sp := fun vs H Q _ => ∃ (p : List Fn) (R : Nat) (vp : L2.V), vs = [vp] ∧ Good p R ∧ TV K H (encP p) vp ∧ p.length ≤ 1000 ∧ ∀ D kvs H', H D = none → H' D = some (.dK kvs) → CountsOk K p kvs → Same H H' → Q (.ref D) H'
theorem ok_counts_of : FOk P w K mg base 3 "counts_of" ["program"] (spCounts K) := by
  have F_has_head := ok_has_head C (P := P) (base := base)
  refine fok C.f_counts_of C.g_counts_of (fun _ _ _ _ _ _ us hl => match us, hl with | [_], _ => rfl) sc_counts_of (fun vs H Q E h => ?_) (fun f cdv A outer s H vs Q E hr h => ?_)
  · obtain ⟨p, R, vp, rfl, _⟩ := h
    rfl
  obtain ⟨p, R, vp, rfl, G, tp, lp, q⟩ := h
  refine ⟨_, (pss_cons (ps_set (i := 1) sc_counts_of.nd rfl (Or.inl rfl) (pe_callTy (call_dictW (vs := specialCounts) (says_dic C.says) (says_vals C.says) (by decide +kernel) (by decide)) (by rfl) C.z_dict (by decide +kernel) (pa_cons (pe_glob (v := .ref _) (by rfl) C.g_SPECIAL_WORDS rfl) pa_nil)))
  (pss_cons (ps_for PassesOwn.never rfl (pi_tup (pv 0)) (pg_name (i := 2) sc_counts_of.nd rfl (Or.inl rfl)) (pss_one (ps_if (PW.pt (pw_and (pt_val (pe_fn F_has_head (hr.mono (by decide)) (by rfl) (pa_cons (pv 2) pa_nil))) (pw_and1 (pt_cmp (pc_dnotin (hu_of hr) (pe_ix ix_tup (pv 2) pe_int (fun _ _ => rfl)) (pv 1)))))) (pss_one (ps_dput (hu_of hr) (pv 1) (pe_ix ix_tup (pv 2) pe_int (fun _ _ => rfl)) (pe_callB call_len_seq (by rfl) C.z_len PySem.boot_len (pa_cons (pe_ix ix_tup (pv 2) pe_int (fun _ _ => rfl)) pa_nil)) rfl)) pss_nil)))
  (pss_one (ps_ret (pv 1))))), ?_⟩
  refine ⟨rfl, fun D hD => ?_⟩
  generalize gk : List.map _ specialCounts = kv0
  generalize g1 : upd H D _ = H1
  have hD1 : H1 D = some (.dK kv0) := by rw [← g1]; exact upd_same
  have sm1 : Same H H1 := by rw [← g1]; exact same_new hD _
  have gk' : (specialCounts.map fun q => ((Sum.inr q.1 : Key), q.2.v K)) = kv0 := gk
  clear g1 gk
  have nd0 : (kv0.map (·.1)).Nodup := by
    rw [← gk', List.map_map]
    show (specialCounts.map fun q => (Sum.inr q.1 : Key)).Nodup
    decide +kernel
  have sp0 : ∀ q ∈ specialCounts, valV kv0 (kInr q.1) = some (q.2.v K) := fun q hq => val_nodup nd0 (kInr q.1, q.2.v K) (by rw [← gk']; exact List.mem_map.mpr ⟨q, hq, rfl⟩)
  have ks0 : ∀ x v, valV kv0 (kInr x) = some v → isSpecial x = true := fun x v e => by
    have m := valV_in e
    rw [← gk', List.map_map] at m
    obtain ⟨q, hq, e2⟩ := List.mem_map.mp m
    have e3 : q.1 = x := Sum.inr.inj e2
    rw [← e3]
    have z : ∀ q ∈ specialCounts, isSpecial q.1 = true := by decide +kernel
    exact z q hq
  have l0 : kv0.length = 7 := by rw [← gk', List.length_map]; rfl
  have tp1 := tp.mono (Tk.same sm1)
  obtain ⟨a, us, rfl, ha, tus⟩ := id tp1
  have lus := tus.length
  rw [List.length_map] at lus
  refine ⟨_, rfl, a, rfl, ⟨us, ha⟩, for_it (walk_tup (xs := us)) (fun i σ H2 => ∃ (o2 : Option L2.V) (kvs : KV), σ = [some (.ref a), some (.ref D), o2] ∧ H2 D = some (.dK kvs) ∧ (∀ b o, H1 b = some o → b ≠ D → H2 b = some o) ∧ kvs.length ≤ 7 + i ∧ (∀ q ∈ specialCounts, valV kvs (kInr q.1) = some (q.2.v K)) ∧
      (∀ x v, valV kvs (kInr x) = some v → isSpecial x = true ∨ ∃ (j : Nat) (f : Fn), j < i ∧ p[j]? = some f ∧ f.name = x) ∧ ∀ (j : Nat) (f : Fn), j < i → p[j]? = some f → valV kvs (kInr f.name) = some (.int ((f.ps.length : Nat) : Int)))
    ⟨_, kv0, rfl, hD1, fun _ _ e _ => e, by omega, sp0, fun x v e => .inl (ks0 x v e), fun j f h => absurd h (Nat.not_lt_zero j)⟩ (fun i σ H2 _ h => ?_) (fun i y σ H3 H2 hi h yy => ?_) (fun σ H2 h => ?_)⟩
  · obtain ⟨_, _, _, hD2, f2, _⟩ := h
    exact (Tk.but (by rw [hD1]; exact NoTup.dK) f2).sqt ha
  · obtain ⟨e, hy⟩ := yy
    subst e
    obtain ⟨o2, kvs, rfl, hD2, f2, lk, sp, back, fwd⟩ := h
    have hip : i < p.length := by omega
    have hpi := List.getElem?_eq_getElem hip
    have tk2 : Tk H1 H2 := Tk.but (by rw [hD1]; exact NoTup.dK) f2
    obtain ⟨y', hy', ty⟩ := tus.get (i := i) (t := (p[i]).enc) (by rw [List.getElem?_map, hpi] <;> rfl)
    rw [hy] at hy'
    cases hy'
    have ty2 := ty.mono tk2
    generalize hfe : p[i] = fi at *
    have hfm : fi ∈ p := List.mem_of_getElem? hpi
    obtain ⟨b, ws, rfl, hb, v1, r1, rfl, h1, v2, r2, rfl, h2, v3, r3, rfl, h3, e⟩ := id ty2
    have e : r3 = [] := e
    subst e
    have h1 : v1 = .str fi.name := h1
    subst h1
    obtain ⟨c, ps, rfl, hc, tps⟩ := id h2
    have hnone : valV kvs (kInr fi.name) = none := by
      cases e : valV kvs (kInr fi.name) with
      | none => rfl
      | some v =>
        rcases back _ _ e with z | ⟨j, f, hj, hpj, en⟩
        · rw [(G.fits fi hfm).2] at z
          cases z
        · have z := nd_ix G.wf.nd (i := j) (j := i) (by rw [List.getElem?_map, hpj]; show some f.name = _; rw [en]) (by rw [List.getElem?_map, hpi] <;> rfl)
          omega
    have gd := DGet.k (k := kInr fi.name) hD2
    rw [hnone] at gd
    refine ⟨_, rfl, fi, _, rfl, ty2, _, rfl, ?_⟩
    refine ⟨_, rfl, b, _, _, _, rfl, rfl, hb, rfl, _, rfl, D, _, rfl, gd, _, rfl, ?_⟩
    refine ⟨_, rfl, b, _, _, _, rfl, rfl, hb, rfl, c, _, rfl, .inr hc, _, rfl, _, rfl, b, _, _, _, rfl, rfl, hb, rfl, D, _, rfl, DPut.k (k := kInr fi.name) hD2 (line_lt (by omega)), ?_⟩
    have lp := length_putK kvs (kInr fi.name) (.int ((ps.length : Nat) : Int))
    have lps := tps.length
    rw [List.length_map] at lps
    refine ⟨_, _, rfl, upd_same, fun d o e n => (upd_ne n).trans (f2 d o e n), by omega, fun q hq => ?_, fun x v e => ?_, fun j f hj hpj => ?_⟩
    · rw [valV_put, if_neg, sp q hq]
      intro e
      have z := sp q hq
      rw [e, hnone] at z
      cases z
    · rw [valV_put] at e
      by_cases z : kInr x = kInr fi.name
      · exact .inr ⟨i, fi, Nat.lt_succ_self _, hpi, (Sum.inr.inj z).symm⟩
      · rw [if_neg z] at e
        rcases back x v e with y | ⟨j, f, hj, h1, h2⟩
        · exact .inl y
        · exact .inr ⟨j, f, by omega, h1, h2⟩
    · rw [valV_put]
      by_cases z : j = i
      · subst z
        rw [hpi] at hpj
        cases hpj
        rw [if_pos rfl, lps]
      · have y := fwd j f (by omega) hpj
        rw [if_neg, y]
        intro e
        rw [e, hnone] at y
        cases y
  · obtain ⟨o2, kvs, rfl, hD2, f2, lk, sp, back, fwd⟩ := h
    refine ⟨_, rfl, q D kvs H2 hD hD2 ⟨sp, fun f hf => ?_⟩ fun b o e => f2 _ _ (sm1 _ _ e) (ne_of_none e hD)⟩
    obtain ⟨j, hj, e⟩ := List.mem_iff_getElem.mp hf
    exact fwd j f (by omega) (by rw [List.getElem?_eq_getElem hj, e])
end
end K35
end

section
set_option Elab.async false
set_option linter.all false
set_option maxRecDepth 100000
namespace K35
open PySem PySem.Spec PyProof.Rows L2
theorem sc_name_fits : FnScope ["name", "names", "many", "figures"] ["name", "names", "many"] (defScope s_name_fits) := ⟨rfl, rfl, rfl, by decide +kernel, rfl, by decide +kernel, by decide +kernel⟩
theorem sc_parameters_fit : FnScope ["parameters", "at", "parameter"] ["parameters"] (defScope s_parameters_fit) := ⟨rfl, rfl, rfl, by decide +kernel, rfl, by decide +kernel, by decide +kernel⟩
theorem cut_to (xs : List L2.V) (k : Nat) : cutV xs none (some (k : Int)) = xs.take k := by
  unfold cutV
  rw [HT.sIx_nat, HT.sIx_none, List.drop_zero, Nat.sub_zero]
  by_cases h : k ≤ xs.length
  · rw [Nat.min_eq_left h]
  · rw [Nat.min_eq_right (by omega), List.take_of_length_le (Nat.le_refl _), List.take_of_length_le (by omega)]
theorem flat_strs : ∀ xs : List Str, (xs.map L2.V.str).all flatV = true
  | [] => rfl
  | x :: xs => by
    show (true && _) = true
    rw [flat_strs xs] <;> rfl
theorem inV_strs (x : Str) : ∀ xs : List Str, inV (.str x) (xs.map L2.V.str) = xs.contains x
  | [] => rfl
  | y :: ys => by
    show (eqV (.str y) (.str x) || inV (.str x) (ys.map L2.V.str)) = _
    rw [inV_strs x ys, List.contains_cons]
    show ((y == x) || _) = _
    rw [show (y == x) = (x == y) from Bool.eq_iff_iff.mpr ⟨fun h => by rw [eq_of_beq h]; exact beq_self_eq_true _, fun h => by rw [eq_of_beq h]; exact beq_self_eq_true _⟩]
section
variable {P : Program} {w : World} {K : PySem.W.Frag} {mg : Str → Option Value} {base : Heap} (C : Ctx w K mg)
include C
def spNameFits (K : PySem.W.Frag) : Sp := fun vs H Q _ => ∃ (x : Str) (D : Addr) (kvs : KV) (m : Nat), vs = [.str x, .ref D, .int (m : Int)] ∧ H D = some (.dK kvs) ∧ valV kvs (kInr x) = none ∧ NameFits x m ∧ isSpecial x = false ∧ Q (.bl true) H
theorem ok_name_fits : FOk P w K mg base 1 "name_fits" ["name", "names", "many"] (spNameFits K) := by
  obtain ⟨es, n, KD⟩ := C.says.t.tab 0
  refine fok C.f_name_fits C.g_name_fits (fun _ _ _ _ _ _ us hl => match us, hl with | [_, _, _], _ => rfl) sc_name_fits (fun vs H Q E h => ?_) (fun f cdv A outer s H vs Q E hr h => ?_)
  · obtain ⟨x, D, kvs, m, rfl, _⟩ := h
    rfl
  obtain ⟨x, D, kvs, m, rfl, hD, hno, N, hs, q⟩ := h
  refine ⟨_, (pss_cons (ps_if (PW.pt (pw_or (pt_cmpR (op_in_kd KD) (pv 0) (pe_glob (v := .ref _) (by rfl) C.g_SPECIAL_WORDS rfl) (by rfl)) (pw_or1 (pt_cmp (pc_din (hu_of hr) (pv 0) (pv 1)))))) (pss_one (ps_ret pe_bl)) pss_nil)
  (pss_cons (ps_set (i := 3) sc_name_fits.nd rfl (Or.inl rfl) (pe_slice sl_str (pv 0) (po_some pe_int) po_none))
  (pss_cons (ps_if (PW.pt (pw_or (pt_cmpR op_ne (pe_ix ix_str (pv 0) pe_int (fun _ _ => rfl)) pe_str (nomark _)) (pw_or (pt_cmpR op_eq (pv 3) pe_str (nomark _)) (pw_or1 (pt_cmpR op_ne (pe_bm PySem.F.plainAttrs_str PySem.F.slot_str_strip PySem.F.type_str_strip mt_stripChars (pv 3) (pa_cons (pe_gs (by rfl) C.t_FIGURES) pa_nil)) pe_str (nomark _)))))) (pss_one (ps_ret pe_bl)) pss_nil)
  (pss_one (ps_ret (pe_and (pe_or (pe_cmpR op_eq (pv 3) pe_str (nomark _)) (pe_one (pe_cmpR op_ne (pe_ix ix_str (pv 3) pe_int (fun _ _ => rfl)) pe_str (nomark _)))) (pe_one (pe_cmpR op_lt (pe_callTy call_int_str (by rfl) C.z_int (by decide +kernel) (pa_cons (pv 3) pa_nil)) (pv 2) (nomark _))))))))), ?_⟩
  obtain ⟨⟨c, hc, hcase⟩, hlen⟩ := N
  have gd := DGet.k (k := kInr x) hD
  rw [hno] at gd
  have lx : x.length ≤ sizeLine := line_le (by omega)
  have lf : (figs x).length ≤ 100 := Nat.le_trans (cutS_length x _ _) hlen
  refine ⟨_, rfl, _, _, rfl, rfl, ns_none (says_dic C.says) (special_not hs), _, rfl, ite_b (fun hb => nomatch hb) (fun _ => ?_)⟩
  refine ⟨_, rfl, _, rfl, D, _, rfl, gd, _, rfl, ite_b (fun hb => nomatch hb) (fun _ => ?_)⟩
  refine ⟨_, rfl, _, rfl, x, rfl, lx, ?_⟩
  refine ⟨_, rfl, x, _, c, rfl, rfl, lx, hc, rfl, _, rfl, ite_b (fun _ => q) (fun h1 => ?_)⟩
  have ec : c = 102 := by
    have z : decide (L2.V.str ⟨#[c]⟩ = L2.V.str "f") = true := by
      cases e : decide (L2.V.str ⟨#[c]⟩ = L2.V.str "f") with
      | true => rfl
      | false =>
        rw [e] at h1
        cases h1
    have z2 := L2.V.str.inj (of_decide_eq_true z)
    have z3 : Str.ofString "f" = ⟨#[102]⟩ := by decide +kernel
    rw [z3] at z2
    have z4 : #[c] = #[102] := congrArg Str.cps z2
    have z5 : [c] = [102] := congrArg Array.toList z4
    exact (List.cons.inj z5).1
  have hcase := hcase ec
  refine ⟨_, rfl, rfl, _, rfl, ite_b (fun _ => q) (fun h2 => ?_)⟩
  have ne2 : figs x ≠ "" := fun e => by
    have z : decide (L2.V.str (figs x) = L2.V.str "") = false := h2
    rw [e, decide_eq_true rfl] at z
    cases z
  refine ⟨_, rfl, rfl, figs x, _, rfl, rfl, line_le (by omega), rfl, _, rfl, ite_b (fun _ => q) (fun h3 => ?_)⟩
  have ne3 : ¬ Txt.stripChars (figs x) "0123456789" ≠ "" := fun e => by
    have z : (!decide (L2.V.str (Txt.stripChars (figs x) "0123456789") = L2.V.str "")) = false := h3
    rw [decide_eq_false (fun y => e (L2.V.str.inj y))] at z
    cases z
  rcases hcase with e | e | ⟨_, _, d, n0, hd0, h48, hn, hlt⟩
  · exact absurd e ne2
  · exact absurd e ne3
  have fin : tOp (rI0 fun i j => .bl (decide (i < j))) (tCB (fun xs H Q => ∃ a n, xs = [.str a] ∧ intText? a = some n ∧ a.length ≤ 640 ∧ Q (.int n) H) (tCons (tVar 3) tNil)) (tVar 2) [some (.str x), some (.ref D), some (.int (m : Int)), some (.str (figs x))] H Q := by
    refine ⟨_, rfl, figs x, n0, rfl, hn, by omega, _, rfl, _, _, rfl, rfl, ?_⟩
    show Q (.bl (decide (n0 < (m : Int)))) H
    rw [decide_eq_true hlt]
    exact q
  refine ⟨_, rfl, rfl, _, rfl, ite_b (fun e0 => ⟨_, rfl, fin⟩) (fun e0 => ?_)⟩
  refine ⟨_, rfl, figs x, _, d, rfl, rfl, line_le (by omega), hd0, rfl, _, rfl, ite_b (fun _ => fin) (fun e1 => ?_)⟩
  exfalso
  rcases h48 with e | e
  · have z : decide (L2.V.str (figs x) = L2.V.str "0") = false := e0
    rw [e, decide_eq_true rfl] at z
    cases z
  · have z : (!decide (L2.V.str ⟨#[d]⟩ = L2.V.str "0")) = false := e1
    rw [decide_eq_false (fun y => ?_)] at z
    · cases z
    · have z2 := L2.V.str.inj y
      have z3 : Str.ofString "0" = ⟨#[48]⟩ := by decide +kernel
      rw [z3] at z2
      have z4 : #[d] = #[48] := congrArg Str.cps z2
      have z5 : [d] = [48] := congrArg Array.toList z4
      exact e (List.cons.inj z5).1
def spParFit (K : PySem.W.Frag) : Sp := fun vs H Q _ => ∃ (ps : List Str) (v : L2.V), vs = [v] ∧ TV K H (.l (ps.map T.w)) v ∧ ps.length ≤ 12 ∧ ps.Nodup ∧ (∀ x ∈ ps, isSpecial x = false) ∧ ∀ H', Same H H' → Q (.bl true) H'
theorem ok_parameters_fit : FOk P w K mg base 2 "parameters_fit" ["parameters"] (spParFit K) := by
  obtain ⟨es, n, KD⟩ := C.says.t.tab 0
  have F_is_word := ok_is_word C (P := P) (base := base)
  refine fok C.f_parameters_fit C.g_parameters_fit (fun _ _ _ _ _ _ us hl => match us, hl with | [_], _ => rfl) sc_parameters_fit (fun vs H Q E h => ?_) (fun f cdv A outer s H vs Q E hr h => ?_)
  · obtain ⟨ps, v, rfl, _⟩ := h
    rfl
  obtain ⟨ps, v, rfl, tp, lp, nd, hs, q⟩ := h
  refine ⟨_, (pss_cons (ps_if (pt_cmpR op_gt (pe_callB call_len_seq (by rfl) C.z_len PySem.boot_len (pa_cons (pv 0) pa_nil)) (pe_gi (by rfl) C.i_MOST_PARAMETERS) (nomark _)) (pss_one (ps_ret pe_bl)) pss_nil)
  (pss_cons (ps_for PassesOwn.never rfl (pi_enumT (by rfl) C.z_enumerate (pa_cons (pv 0) pa_nil)) (pg_tup rfl (pgs_cons (pg_name (i := 1) sc_parameters_fit.nd rfl (Or.inl rfl)) (pgs_cons (pg_name (i := 2) sc_parameters_fit.nd rfl (Or.inl rfl)) pgs_nil))) (pss_one (ps_if (PW.pt (pw_or (pt_not (pt_val (pe_fn F_is_word (hr.mono (by decide)) (by rfl) (pa_cons (pv 2) pa_nil)))) (pw_or (pt_cmpR (op_in_kd KD) (pv 2) (pe_glob (v := .ref _) (by rfl) C.g_SPECIAL_WORDS rfl) (by rfl)) (pw_or1 (pt_cmpR op_in_seq (pv 2) (pe_slice sl_tup (pv 0) po_none (po_some (pv 1))) (by rfl)))))) (pss_one (ps_ret pe_bl)) pss_nil)))
  (pss_one (ps_ret pe_bl)))), ?_⟩
  obtain ⟨a, us, rfl, ha, tus⟩ := id tp
  have eus := tus.words
  subst eus
  refine ⟨_, rfl, a, _, rfl, .inr ha, _, _, rfl, rfl, _, rfl, ite_b (fun hb => ?_) (fun _ => ?_)⟩
  · have z := of_decide_eq_true hb
    rw [List.length_map] at z
    omega
  have s0 : Same H H := fun _ _ h => h
  refine ⟨_, rfl, a, _, rfl, ha, for_it (walk_enumT (xs := ps.map L2.V.str)) (fun i σ H1 => ∃ o1 o2 : Option L2.V, σ = [some (.ref a), o1, o2] ∧ Same H H1) ⟨_, _, rfl, s0⟩ (fun i σ H1 _ h => ?_) (fun i y σ H1 H2 hi h yy => ?_) (fun σ H1 h => ?_)⟩
  · obtain ⟨_, _, _, sm⟩ := h
    exact (Tk.same sm).sqt ha
  · obtain ⟨o1, o2, rfl, sm⟩ := h
    obtain ⟨T0, x1, y1, rfl, hT, rfl, hx, hy⟩ := yy
    have hx : some (L2.V.int ((i : Nat) : Int)) = some x1 := hx
    have hy : (ps.map L2.V.str)[i]? = some y1 := hy
    cases hx
    rw [List.length_map] at hi
    rw [List.getElem?_map, List.getElem?_eq_getElem hi] at hy
    cases hy
    have sm2 : Same H1 (upd H1 T0 (.tup [.int ((i : Nat) : Int), .str ps[i]])) := same_new hT _
    have hT2 : upd H1 T0 (.tup [.int ((i : Nat) : Int), .str ps[i]]) T0 = some (.tup [.int ((i : Nat) : Int), .str ps[i]]) := upd_same
    generalize upd H1 T0 (.tup [.int ((i : Nat) : Int), .str ps[i]]) = H2 at *
    have sm3 : Same H H2 := fun b o e => sm2 _ _ (sm _ _ e)
    have ha3 := (Tk.same sm3).sqt ha
    refine ⟨T0, _, rfl, SqT.of hT2, rfl, _, _, rfl, _, _, rfl, rfl, ?_⟩
    refine ⟨_, rfl, .w ps[i], _, rfl, rfl, _, rfl, ?_⟩
    refine ite_b (fun hb => nomatch hb) (fun _ => ?_)
    refine ⟨_, rfl, _, _, rfl, rfl, ns_none (says_dic C.says) (special_not (hs _ (List.getElem_mem _))), _, rfl, ite_b (fun hb => nomatch hb) (fun _ => ?_)⟩
    refine ⟨_, rfl, _, rfl, _, rfl, _, rfl, a, _, rfl, ha3, fun z => ?_, fun pD npD => ?_⟩
    · have z2 := z.2
      rw [HT.sIx_nat, List.length_map] at z2
      omega
    · have ecut : cutV (ps.map L2.V.str) none (some ((i : Nat) : Int)) = (ps.take i).map L2.V.str := by rw [cut_to, List.map_take]
      have sm4 : Same H2 (upd H2 pD (.tup (cutV (ps.map L2.V.str) none (some ((i : Nat) : Int))))) := same_new npD _
      refine ⟨pD, _, rfl, .inr (SqT.of upd_same), rfl, by rw [ecut]; exact flat_strs _, _, rfl, ite_b (fun hb => ?_) (fun _ => ⟨_, _, rfl, fun b o e => sm4 _ _ (sm3 _ _ e)⟩)⟩
      exfalso
      have hb : inV (.str ps[i]) (cutV (ps.map L2.V.str) none (some ((i : Nat) : Int))) = true := hb
      rw [ecut, inV_strs] at hb
      obtain ⟨j, hj, e⟩ := List.mem_iff_getElem.mp (List.contains_iff_mem.mp hb)
      rw [List.getElem_take] at e
      rw [List.length_take] at hj
      have z := nd_ix nd (i := j) (j := i) (List.getElem?_eq_getElem (by omega)) (by rw [e]; exact List.getElem?_eq_getElem hi)
      omega
  · obtain ⟨o1, o2, rfl, sm⟩ := h
    exact q H1 sm
end
end K35
end

section
set_option Elab.async false
set_option linter.all false
set_option maxRecDepth 100000
namespace K35
open PySem PySem.Spec PyProof.Rows L2
theorem sc_body_fits : FnScope ["body", "parameters", "counts", "waiting", "expression"] ["body", "parameters", "counts"] (defScope s_body_fits) := ⟨rfl, rfl, rfl, by decide +kernel, rfl, by decide +kernel, by decide +kernel⟩
theorem nodess_app : ∀ a b : List K35.E, K35.E.nodess (a ++ b) = K35.E.nodess a + K35.E.nodess b
  | [], b => (Nat.zero_add _).symm
  | x :: a, b => by
    show x.nodes + K35.E.nodess (a ++ b) = x.nodes + K35.E.nodess a + K35.E.nodess b
    rw [nodess_app a b, Nat.add_assoc]
theorem nodess_rev : ∀ a : List K35.E, K35.E.nodess a.reverse = K35.E.nodess a
  | [] => rfl
  | x :: a => by
    rw [List.reverse_cons, nodess_app, nodess_rev a]
    show K35.E.nodess a + (x.nodes + 0) = x.nodes + K35.E.nodess a
    omega
theorem nodess_len : ∀ a : List K35.E, a.length ≤ K35.E.nodess a
  | [] => Nat.le_refl _
  | x :: a => by
    have q := K35.E.nodes_pos x
    have r := nodess_len a
    show a.length + 1 ≤ x.nodes + K35.E.nodess a
    omega
theorem special_val {K : PySem.W.Frag} {p : List Fn} {kvs : KV} (c : CountsOk K p kvs) {w : Str} {n : Int} (h : (w, He.Dv.int n) ∈ specialCounts) : valV kvs (kInr w) = some (.int n) := c.sp _ h
section
variable {P : Program} {w : World} {K : PySem.W.Frag} {mg : Str → Option Value} {base : Heap} (C : Ctx w K mg)
include C
def spBodyFits (K : PySem.W.Frag) : Sp := fun vs H Q _ => ∃ (e : K35.E) (ps : List Str) (p : List Fn) (R : Nat) (D : Addr) (kvs : KV) (v vp : L2.V), vs = [v, vp, .ref D] ∧ TV K H e.enc v ∧ TV K H (.l (ps.map T.w)) vp ∧ H D = some (.dK kvs) ∧ CountsOk K p kvs ∧ WfE (sig p) R ps e ∧ e.nodes ≤ 1000000 ∧ ∀ H', Same H H' → Q (.bl true) H'
theorem ok_body_fits : FOk P w K mg base 2 "body_fits" ["body", "parameters", "counts"] (spBodyFits K) := by
  have F_is_word := ok_is_word C (P := P) (base := base)
  refine fok C.f_body_fits C.g_body_fits (fun _ _ _ _ _ _ us hl => match us, hl with | [_, _, _], _ => rfl) sc_body_fits (fun vs H Q E h => ?_) (fun f cdv A outer s H vs Q E hr h => ?_)
  · obtain ⟨e, ps, p, R, D, kvs, v, vp, rfl, _⟩ := h
    rfl
  obtain ⟨e0, ps, p, R, D, kvs, v, vp, rfl, tv, tp, hD, hC, hW, ln, q⟩ := h
  refine ⟨_, (pss_cons (ps_set (i := 3) sc_body_fits.nd rfl (Or.inl rfl) (pe_lst (pa_cons (pv 0) pa_nil)))
  (pss_cons (ps_while PassesOwn.never (pt_cmpR op_gt (pe_callB call_len_seq (by rfl) C.z_len PySem.boot_len (pa_cons (pv 3) pa_nil)) pe_int (nomark _)) (pss_cons (ps_set (i := 4) sc_body_fits.nd rfl (Or.inl rfl) (pe_bm0 PySem.F.plainAttrs_list PySem.F.slot_list_pop PySem.F.type_list_pop mt_pop (pv 3)))
  (pss_one (ps_if (pt_val (pe_fn F_is_word (hr.mono (by decide)) (by rfl) (pa_cons (pv 4) pa_nil))) (pss_one (ps_if (pt_cmpR op_notIn_seq (pv 4) (pv 1) (by rfl)) (pss_one (ps_ret pe_bl)) pss_nil)) (pss_one (ps_if (PW.pt (pw_or (pt_cmpR op_eq (pe_callB call_len_seq (by rfl) C.z_len PySem.boot_len (pa_cons (pv 4) pa_nil)) pe_int (nomark _)) (pw_or1 (pt_not (pt_val (pe_fn F_is_word (hr.mono (by decide)) (by rfl) (pa_cons (pe_ix ix_tup (pv 4) pe_int (fun _ _ => rfl)) pa_nil))))))) (pss_one (ps_ret pe_bl)) (pss_one (ps_if (pt_cmpR op_ne (pe_dget1 (hu_of hr) (pv 2) (pe_ix ix_tup (pv 4) pe_int (fun _ _ => rfl)) ⟨by rfl, by rfl, by rfl, by rfl⟩) (pe_op op_sub (pe_callB call_len_seq (by rfl) C.z_len PySem.boot_len (pa_cons (pv 4) pa_nil)) pe_int) (nomark _)) (pss_one (ps_ret pe_bl)) (pss_one (ps_if (pt_cmpR op_ne (pe_ix ix_tup (pv 4) pe_int (fun _ _ => rfl)) pe_str (nomark _)) (pss_one (ps_expr (pe_bm PySem.F.plainAttrs_list PySem.F.slot_list_extend PySem.F.type_list_extend mt_extendT (pv 3) (pa_cons (pe_slice sl_tup (pv 4) (po_some pe_int) po_none) pa_nil)))) pss_nil))))))))))
  (pss_one (ps_ret pe_bl)))), ?_⟩
  refine ⟨_, rfl, by show 1 ≤ sizeLine; decide, fun wl nw => ?_⟩
  refine ⟨fun m σ H1 => ∃ (es : List K35.E) (vs : List L2.V) (o4 : Option L2.V), σ = [some v, some vp, some (.ref D), some (.ref wl), o4] ∧ H1 wl = some (.lst vs.reverse) ∧ All2 (fun (e : K35.E) u => TV K H1 e.enc u) es vs ∧ (∀ e ∈ es, WfE (sig p) R ps e) ∧ K35.E.nodess es ≤ e0.nodes ∧ Same H H1 ∧ m = K35.E.nodess es,
    ⟨_, [e0], [v], _, rfl, upd_same, .one (tv.mono (Tk.same (same_new nw _))), fun e he => by rw [List.mem_singleton.mp he]; exact hW, Nat.le_of_eq (Nat.add_zero _), same_new nw _, rfl⟩, ?_⟩
  rintro m σ H1 ⟨es, vs, o4, rfl, hw, av, hWs, hn, sm, rfl⟩
  have lvs := av.length
  have lls := nodess_len es
  refine ⟨_, rfl, wl, _, rfl, .inl (SqL.of hw), _, _, rfl, rfl, _, rfl, ?_⟩
  cases es with
  | nil =>
    have e : vs = [] := av
    subst e
    exact ite_b (fun hb => by simp at hb) (fun _ => q H1 sm)
  | cons e es =>
    obtain ⟨u, vs, rfl, tu, av⟩ := av
    refine ite_b (fun _ => ⟨_, fun _ _ h => h, ?_⟩) (fun hb => by simp at hb)
    refine ⟨_, rfl, .inl ⟨rfl, _, SqL.of hw⟩, wl, _, _, rfl, rfl, hw, rev_last, ?_⟩
    rw [rev_dropLast]
    have ntw : NoTup (H1 wl) := by rw [hw]; exact NoTup.lst
    have k2 : Tk H1 (upd H1 wl (.lst vs.reverse)) := Tk.upd ntw
    have sm2 : Same H (upd H1 wl (.lst vs.reverse)) := fun b o e => (upd_ne (ne_of_none e nw)).trans (sm _ _ e)
    have hw2 : upd H1 wl (.lst vs.reverse) wl = some (.lst vs.reverse) := upd_same
    generalize upd H1 wl (.lst vs.reverse) = H2 at *
    have tu2 := tu.mono k2
    have av2 : All2 (fun (e : K35.E) u => TV K H2 e.enc u) es vs := av.mono fun _ _ h => h.mono k2
    have hWe := hWs e (List.mem_cons_self ..)
    have hWr : ∀ e ∈ es, WfE (sig p) R ps e := fun e he => hWs e (List.mem_cons_of_mem _ he)
    have hn' : e.nodes + K35.E.nodess es ≤ e0.nodes := hn
    have np := K35.E.nodes_pos e
    have eN : K35.E.nodess (e :: es) = e.nodes + K35.E.nodess es := rfl
    have tp2 := tp.mono (Tk.same sm2)
    -- nothing more to be pushed
    have go : ∀ {o4 : Option L2.V}, ∃ m', m' < K35.E.nodess (e :: es) ∧ ∃ (es : List K35.E) (vs : List L2.V) (o4' : Option L2.V), ([some v, some vp, some (.ref D), some (.ref wl), o4] : L2.St) = [some v, some vp, some (.ref D), some (.ref wl), o4'] ∧ H2 wl = some (.lst vs.reverse) ∧ All2 (fun (e : K35.E) u => TV K H2 e.enc u) es vs ∧ (∀ e ∈ es, WfE (sig p) R ps e) ∧ K35.E.nodess es ≤ e0.nodes ∧ Same H H2 ∧ m' = K35.E.nodess es :=
      fun {o4} => ⟨_, by omega, es, vs, o4, rfl, hw2, av2, hWr, by omega, sm2, rfl⟩
    refine ⟨_, rfl, _, _, rfl, tu2, _, rfl, ?_⟩
    by_cases hv : ∃ x, e = .var x
    · obtain ⟨x, rfl⟩ := hv
      have eu : u = .str x := tu2
      subst eu
      obtain ⟨a, us, rfl, ha, tus⟩ := id tp2
      have eus := tus.words
      subst eus
      refine ite_b (fun _ => ?_) (fun hb => nomatch hb)
      refine ⟨_, rfl, _, rfl, a, _, rfl, .inr ha, rfl, flat_strs _, _, rfl, ite_b (fun hb => ?_) (fun _ => go)⟩
      exfalso
      have hb : (!inV (.str x) (ps.map L2.V.str)) = true := hb
      have hx : x ∈ ps := hWe
      rw [inV_strs, List.contains_iff_mem.mpr hx] at hb
      cases hb
    · obtain ⟨w0, xs, cs, ew, hcnt, hcs, hlc⟩ : ∃ (w0 : Str) (xs : List T) (cs : List K35.E), e.enc = .l (.w w0 :: xs) ∧ valV kvs (kInr w0) = some (.int ((xs.length : Nat) : Int)) ∧ (w0 ≠ "quote" → xs = K35.E.encs cs) ∧ (∀ c ∈ cs, WfE (sig p) R ps c) ∧ K35.E.nodess cs < e.nodes := by
        cases e with
        | var x => exact absurd ⟨x, rfl⟩ hv
        | quo t => exact ⟨_, _, [], rfl, special_val hC (n := 1) (List.mem_of_getElem? (i := 0) rfl), fun h => absurd rfl h, fun c hc => (List.not_mem_nil hc).elim, by simp [K35.E.nodes, K35.E.nodess]⟩
        | ite a b c =>
          refine ⟨_, _, [a, b, c], rfl, special_val hC (n := 3) (List.mem_of_getElem? (i := 1) rfl), fun _ => rfl, fun d hd => ?_, ?_⟩
          · simp only [List.mem_cons, List.not_mem_nil, or_false] at hd
            rcases hd with e | e | e <;> subst e
            · exact hWe.1
            · exact hWe.2.1
            · exact hWe.2.2
          · simp only [K35.E.nodes, K35.E.nodess]
            omega
        | app w1 as =>
          refine ⟨w1, _, as, rfl, ?_, fun _ => rfl, fun c hc => hWe.2.2.mem hc, by simp only [K35.E.nodes]; omega⟩
          rw [K35.E.encs_length]
          rcases hWe.2.1 with ⟨hp, hl⟩ | ⟨_, hm⟩
          · rw [hl]
            rcases plain_cases hp with e | e | e | e | e <;> subst e
            · rw [show arity "same" = 2 by decide +kernel]
              exact special_val hC (n := 2) (List.mem_of_getElem? (i := 2) rfl)
            · rw [show arity "word" = 1 by decide +kernel]
              exact special_val hC (n := 1) (List.mem_of_getElem? (i := 3) rfl)
            · rw [show arity "head" = 1 by decide +kernel]
              exact special_val hC (n := 1) (List.mem_of_getElem? (i := 4) rfl)
            · rw [show arity "tail" = 1 by decide +kernel]
              exact special_val hC (n := 1) (List.mem_of_getElem? (i := 5) rfl)
            · rw [show arity "join" = 2 by decide +kernel]
              exact special_val hC (n := 2) (List.mem_of_getElem? (i := 6) rfl)
          · obtain ⟨f, hf, e⟩ := List.mem_map.mp hm
            injection e with e1 e2
            rw [← e1, ← e2]
            exact hC.fn f hf
      obtain ⟨hcw, hlc⟩ := hlc
      have ewd : e.enc.isW = false := by rw [ew] <;> rfl
      refine ite_b (fun hb => by rw [ewd] at hb; cases hb) (fun _ => ?_)
      rw [ew] at tu2
      obtain ⟨a, us, rfl, ha, tus⟩ := id tu2
      obtain ⟨z0, us, rfl, t0, tus⟩ := tus
      have lus := tus.length
      refine ⟨_, rfl, a, _, rfl, .inr ha, rfl, _, rfl, ite_b (fun hb => ?_) (fun _ => ?_)⟩
      · have z := L2.V.int.inj (of_decide_eq_true hb)
        rw [List.length_cons] at z
        omega
      refine ⟨_, rfl, a, _, _, _, rfl, rfl, ha, atI_nat (j := 0) rfl, .w w0, _, rfl, t0, _, rfl, ?_⟩
      refine ite_b (fun hb => nomatch hb) (fun _ => ?_)
      have ez : z0 = .str w0 := t0
      subst ez
      have gd := DGet.k (k := kInr w0) (sm2 _ _ hD)
      rw [hcnt] at gd
      refine ⟨_, rfl, D, rfl, .inl ⟨_, .inl (sm2 _ _ hD)⟩, _, rfl, a, _, _, _, rfl, rfl, ha, atI_nat (j := 0) rfl, _, gd, ?_⟩
      refine ⟨_, rfl, a, _, rfl, .inr ha, _, _, rfl, rfl, rfl, _, rfl, ite_b (fun hb => ?_) (fun _ => ?_)⟩
      · exfalso
        have hb : (!decide (L2.V.int ((xs.length : Nat) : Int) = L2.V.int ((((L2.V.str w0 :: us).length : Nat) : Int) - 1))) = true := hb
        rw [decide_eq_true (by rw [List.length_cons, lus]; congr 1; omega)] at hb
        cases hb
      refine ⟨_, rfl, a, _, _, _, rfl, rfl, ha, atI_nat (j := 0) rfl, rfl, _, rfl, ite_b (fun hb => ?_) (fun _ => go)⟩
      have hq : w0 ≠ "quote" := fun e => by
        rw [e] at hb
        have hb : (!decide (L2.V.str "quote" = L2.V.str "quote")) = true := hb
        rw [decide_eq_true rfl] at hb
        cases hb
      obtain rfl := hcs hq
      refine ⟨_, rfl, .inl ⟨rfl, _, SqL.of hw2⟩, _, rfl, _, rfl, a, _, rfl, ha, fun z => ?_, fun pD npD => ?_⟩
      · have z1 := z.1
        rw [show (1 : Int) = ((1 : Nat) : Int) from rfl, HT.sIx_nat, List.length_cons] at z1
        omega
      · have ecut : cutV (L2.V.str w0 :: us) (some 1) none = us := cut_from (L2.V.str w0 :: us) 1
        rw [ecut]
        have sm3 : Same H2 (upd H2 pD (.tup us)) := same_new npD _
        have hp3 : upd H2 pD (.tup us) pD = some (.tup us) := upd_same
        generalize upd H2 pD (.tup us) = H3 at *
        have hw3 := sm3 _ _ hw2
        have ntw3 : NoTup (H3 wl) := by rw [hw3]; exact NoTup.lst
        have k4 : Tk H3 (upd H3 wl (.lst (vs.reverse ++ us))) := Tk.upd ntw3
        have lcs := nodess_len cs
        have a2 : ∀ (H4 : Hp), Tk H2 H4 → ∀ (cs : List K35.E) (us : List L2.V), TVs K H2 (K35.E.encs cs) us → All2 (fun (e : K35.E) u => TV K H4 e.enc u) cs us := by
          intro H4 k cs
          induction cs with
          | nil => exact fun _ h => h
          | cons c cs ih =>
            rintro _ ⟨y, r, rfl, h, t⟩
            exact .cons (h.mono k) (ih r t)
        rw [K35.E.encs_length] at lus
        simp only [List.length_cons] at lvs lls
        refine ⟨wl, pD, _, _, rfl, rfl, hw3, SqT.of hp3, by rw [List.length_reverse]; exact line_le (by omega), K35.E.nodess (cs.reverse ++ es), by rw [nodess_app, nodess_rev, eN]; omega, cs.reverse ++ es, us.reverse ++ vs, _, rfl, ?_, ?_, fun e he => ?_, by rw [nodess_app, nodess_rev]; omega, fun b o e => ?_, rfl⟩
        · rw [upd_same]
          simp
        · exact ((a2 _ ((Tk.same sm3).trans k4) cs us tus).reverse).append (av2.mono fun _ _ h => (h.mono (Tk.same sm3)).mono k4)
        · rcases List.mem_append.mp he with he | he
          · exact hcw e (List.mem_reverse.mp he)
          · exact hWr e he
        · rw [upd_ne (ne_of_none e nw)]
          exact sm3 _ _ (sm2 _ _ e)
end
end K35
end

section
set_option Elab.async false
set_option linter.all false
set_option maxRecDepth 100000
namespace K35
open PySem PySem.Spec PyProof.Rows L2
theorem sc_check_program : FnScope ["value", "counts", "names", "number", "function", "name", "parameters", "body"] ["value"] (defScope s_check_program) := ⟨rfl, rfl, rfl, by decide +kernel, rfl, by decide +kernel, by decide +kernel⟩
theorem sc_inputs_of : FnScope ["program"] ["program"] (defScope s_inputs_of) := ⟨rfl, rfl, rfl, by decide +kernel, rfl, by decide +kernel, by decide +kernel⟩
theorem sc_check_inputs : FnScope ["programs", "many", "program"] ["programs", "many"] (defScope s_check_inputs) := ⟨rfl, rfl, rfl, by decide +kernel, rfl, by decide +kernel, by decide +kernel⟩
section
variable {P : Program} {w : World} {K : PySem.W.Frag} {mg : Str → Option Value} {base : Heap} (C : Ctx w K mg)
include C
def spCheck (K : PySem.W.Frag) : Sp := fun vs H Q _ => ∃ (p : List Fn) (R : Nat) (vp : L2.V), vs = [vp] ∧ Good p R ∧ TV K H (encP p) vp ∧ (encP p).parts ≤ 900000 ∧ p.length ≤ 1000 ∧ ∀ H', Same H H' → Q .non H'
theorem ok_check_program : FOk P w K mg base 4 "check_program" ["value"] (spCheck K) := by
  have F_is_word := ok_is_word C (P := P) (base := base)
  have F_has_head := ok_has_head C (P := P) (base := base)
  have F_counts_of := ok_counts_of C (P := P) (base := base)
  have F_name_fits := ok_name_fits C (P := P) (base := base)
  have F_parameters_fit := ok_parameters_fit C (P := P) (base := base)
  have F_body_fits := ok_body_fits C (P := P) (base := base)
  refine fok C.f_check_program C.g_check_program (fun _ _ _ _ _ _ us hl => match us, hl with | [_], _ => rfl) sc_check_program (fun vs H Q E h => ?_) (fun f cdv A outer s H vs Q E hr h => ?_)
  · obtain ⟨p, R, vp, rfl, _⟩ := h
    rfl
  obtain ⟨p, R, vp, rfl, G, tp, lp, lp2, q⟩ := h
  refine ⟨_, (pss_cons (ps_if (PW.pt (pw_or (pt_val (pe_fn F_is_word (hr.mono (by decide)) (by rfl) (pa_cons (pv 0) pa_nil))) (pw_or1 (pt_cmpR op_eq (pe_callB call_len_seq (by rfl) C.z_len PySem.boot_len (pa_cons (pv 0) pa_nil)) pe_int (nomark _))))) pss_never pss_nil)
  (pss_cons (ps_set (i := 1) sc_check_program.nd rfl (Or.inl rfl) (pe_fn F_counts_of (hr.mono (by decide)) (by rfl) (pa_cons (pv 0) pa_nil)))
  (pss_cons (ps_set (i := 2) sc_check_program.nd rfl (Or.inl rfl) pe_dnewK)
  (pss_one (ps_for PassesOwn.never rfl (pi_enumT (by rfl) C.z_enumerate (pa_cons (pv 0) pa_nil)) (pg_tup rfl (pgs_cons (pg_name (i := 3) sc_check_program.nd rfl (Or.inl rfl)) (pgs_cons (pg_name (i := 4) sc_check_program.nd rfl (Or.inl rfl)) pgs_nil))) (pss_cons (ps_if (pt_not (pt_val (pe_fn F_has_head (hr.mono (by decide)) (by rfl) (pa_cons (pv 4) pa_nil)))) pss_never pss_nil)
  (pss_cons (ps_asg (pv 4) (pg_tup rfl (pgs_cons (pg_name (i := 5) sc_check_program.nd rfl (Or.inl rfl)) (pgs_cons (pg_name (i := 6) sc_check_program.nd rfl (Or.inl rfl)) (pgs_cons (pg_name (i := 7) sc_check_program.nd rfl (Or.inl rfl)) pgs_nil)))))
  (pss_cons (ps_if (PW.pt (pw_or (pt_not (pt_val (pe_fn F_name_fits (hr.mono (by decide)) (by rfl) (pa_cons (pv 5) (pa_cons (pv 2) (pa_cons (pe_callB call_len_seq (by rfl) C.z_len PySem.boot_len (pa_cons (pv 0) pa_nil)) pa_nil)))))) (pw_or1 (pt_not (pt_val (pe_fn F_parameters_fit (hr.mono (by decide)) (by rfl) (pa_cons (pv 6) pa_nil))))))) pss_never pss_nil)
  (pss_cons (ps_if (pt_not (pt_val (pe_fn F_body_fits (hr.mono (by decide)) (by rfl) (pa_cons (pv 7) (pa_cons (pv 6) (pa_cons (pv 1) pa_nil)))))) pss_never pss_nil)
  (pss_one (ps_dput (hu_of hr) (pv 2) (pv 5) pe_bl rfl))))))))))), ?_⟩
  obtain ⟨a, us, rfl, ha, tus⟩ := id tp
  have lus := tus.length
  rw [List.length_map] at lus
  have hpos : 0 < p.length := List.length_pos_iff.mpr G.ne
  refine ⟨_, rfl, _, _, rfl, tp, _, rfl, ite_b (fun hb => nomatch hb) (fun _ => ?_)⟩
  refine ⟨_, rfl, a, _, rfl, .inr ha, rfl, _, rfl, ite_b (fun hb => ?_) (fun _ => ?_)⟩
  · have z := L2.V.int.inj (of_decide_eq_true hb)
    omega
  refine ⟨_, rfl, p, R, _, rfl, G, tp, lp2, fun D kvs H1 nD hD hC sm1 => ?_⟩
  intro N nN
  have hN : upd H1 N (.dK []) N = some (.dK []) := upd_same
  have sm2 : Same H1 (upd H1 N (.dK [])) := same_new nN _
  generalize upd H1 N (.dK []) = H2 at *
  have sm : Same H H2 := fun b o e => sm2 _ _ (sm1 _ _ e)
  have hD2 := sm2 _ _ hD
  have nDN : D ≠ N := ne_of_none hD nN
  have ha2 := (Tk.same sm).sqt ha
  have nN0 : H N = none := by
    cases e : H N with
    | none => rfl
    | some o =>
      rw [sm1 _ _ e] at nN
      cases nN
  refine ⟨_, rfl, a, _, rfl, ha2, for_it (walk_enumT (xs := us)) (fun i σ H3 => ∃ (o3 o4 o5 o6 o7 : Option L2.V) (nk : KV), σ = [some (.ref a), some (.ref D), some (.ref N), o3, o4, o5, o6, o7] ∧ H3 N = some (.dK nk) ∧ (∀ b o, H2 b = some o → b ≠ N → H3 b = some o) ∧ nk.length ≤ i ∧ ∀ x v, valV nk (kInr x) = some v → ∃ (j : Nat) (f : Fn), j < i ∧ p[j]? = some f ∧ f.name = x)
    ⟨_, _, _, _, _, [], rfl, hN, fun _ _ e _ => e, Nat.le_refl _, fun x v e => (by cases e)⟩ (fun i σ H3 _ h => ?_) (fun i y σ H3 H4 hi h yy => ?_) (fun σ H3 h => ?_)⟩
  · obtain ⟨_, _, _, _, _, _, _, _, f3, _⟩ := h
    exact (Tk.but (by rw [hN]; exact NoTup.dK) f3).sqt ha2
  · obtain ⟨o3, o4, o5, o6, o7, nk, rfl, hN3, f3, lk, back⟩ := h
    obtain ⟨T0, x1, y1, rfl, hT, rfl, hx, hy⟩ := yy
    have hx : some (L2.V.int ((i : Nat) : Int)) = some x1 := hx
    have hy : us[i]? = some y1 := hy
    cases hx
    have hip : i < p.length := by omega
    have hpi := List.getElem?_eq_getElem hip
    have sm4 : Same H3 (upd H3 T0 (.tup [.int ((i : Nat) : Int), y1])) := same_new hT _
    have hT4 : upd H3 T0 (.tup [.int ((i : Nat) : Int), y1]) T0 = some (.tup [.int ((i : Nat) : Int), y1]) := upd_same
    generalize upd H3 T0 (.tup [.int ((i : Nat) : Int), y1]) = H4 at *
    have f4 : ∀ b o, H2 b = some o → b ≠ N → H4 b = some o := fun b o e n => sm4 _ _ (f3 b o e n)
    have hN4 := sm4 _ _ hN3
    have tk4 : Tk H2 H4 := Tk.but (by rw [hN]; exact NoTup.dK) f4
    obtain ⟨y', hy', ty⟩ := tus.get (i := i) (t := (p[i]).enc) (by rw [List.getElem?_map, hpi] <;> rfl)
    rw [hy] at hy'
    cases hy'
    have ty4 := (ty.mono (Tk.same sm)).mono tk4
    generalize hfe : p[i] = fi at *
    have hfm : fi ∈ p := List.mem_of_getElem? hpi
    refine ⟨T0, _, rfl, SqT.of hT4, rfl, _, _, rfl, _, _, rfl, rfl, ?_⟩
    refine ⟨_, rfl, fi, _, rfl, ty4, _, rfl, ?_⟩
    refine ite_b (fun hb => nomatch hb) (fun _ => ?_)
    obtain ⟨b, ws, rfl, hb, v1, r1, rfl, h1, v2, r2, rfl, h2, v3, r3, rfl, h3, e⟩ := id ty4
    have e : r3 = [] := e
    subst e
    have h1 : v1 = .str fi.name := h1
    subst h1
    refine ⟨_, rfl, b, _, rfl, hb, rfl, _, _, rfl, _, _, rfl, _, _, rfl, rfl, ?_⟩
    have hnone : valV nk (kInr fi.name) = none := by
      cases e : valV nk (kInr fi.name) with
      | none => rfl
      | some v =>
        obtain ⟨j, f, hj, hpj, en⟩ := back _ _ e
        have z := nd_ix G.wf.nd (i := j) (j := i) (by rw [List.getElem?_map, hpj]; show some f.name = _; rw [en]) (by rw [List.getElem?_map, hpi] <;> rfl)
        omega
    have ha4 := tk4.sqt ha2
    have pars := G.pars fi hfm
    have wfo := G.wf.ok fi hfm
    have nod : fi.body.nodes ≤ 1000000 := by
      have z1 := K35.E.nodes_parts fi.body
      have z2 := body_parts fi
      have z3 := fn_parts hfm
      omega
    refine ⟨_, rfl, _, rfl, _, rfl, a, _, rfl, .inr ha4, fi.name, N, nk, us.length, rfl, hN4, hnone, by rw [lus]; exact (G.fits fi hfm).1, (G.fits fi hfm).2, _, rfl, ?_⟩
    refine ite_b (fun hb => nomatch hb) (fun _ => ?_)
    refine ⟨_, rfl, fi.ps, _, rfl, h2, wfo.1, pars.1, pars.2, fun H5 s5 => ⟨_, rfl, ?_⟩⟩
    refine ite_b (fun hb => nomatch hb) (fun _ => ?_)
    refine ⟨_, rfl, _, rfl, _, rfl, fi.body, fi.ps, p, R, D, kvs, _, _, rfl, h3.mono (Tk.same s5), h2.mono (Tk.same s5), s5 _ _ (f4 _ _ hD2 nDN), hC, wfo.2, nod, fun H6 s6 => ⟨_, rfl, ?_⟩⟩
    refine ite_b (fun hb => nomatch hb) (fun _ => ?_)
    have hN6 := s6 _ _ (s5 _ _ hN4)
    have lp3 := length_putK nk (kInr fi.name) (.bl true)
    refine ⟨_, rfl, _, rfl, N, _, rfl, DPut.k (k := kInr fi.name) hN6 (line_lt (by omega)), _, _, _, _, _, _, rfl, upd_same, fun b o e n => (upd_ne n).trans (s6 _ _ (s5 _ _ (f4 _ _ e n))), by omega, fun x v e => ?_⟩
    rw [valV_put] at e
    by_cases z : kInr x = kInr fi.name
    · exact ⟨i, fi, Nat.lt_succ_self _, hpi, (Sum.inr.inj z).symm⟩
    · rw [if_neg z] at e
      obtain ⟨j, f, hj, z1, z2⟩ := back x v e
      exact ⟨j, f, by omega, z1, z2⟩
  · obtain ⟨o3, o4, o5, o6, o7, nk, rfl, hN3, f3, _⟩ := h
    exact q H3 fun b o e => f3 _ _ (sm _ _ e) (ne_of_none e nN0)
def spInputs (K : PySem.W.Frag) : Sp := fun vs H Q _ => ∃ (p : List Fn) (R : Nat) (g : Fn) (rest : List Fn) (vp : L2.V), vs = [vp] ∧ Good p R ∧ p = g :: rest ∧ TV K H (encP p) vp ∧ (encP p).parts ≤ 900000 ∧ p.length ≤ 1000 ∧ ∀ H', Same H H' → Q (.int ((g.ps.length : Nat) : Int)) H'
theorem ok_inputs_of : FOk P w K mg base 5 "inputs_of" ["program"] (spInputs K) := by
  have F_check_program := ok_check_program C (P := P) (base := base)
  refine fok C.f_inputs_of C.g_inputs_of (fun _ _ _ _ _ _ us hl => match us, hl with | [_], _ => rfl) sc_inputs_of (fun vs H Q E h => ?_) (fun f cdv A outer s H vs Q E hr h => ?_)
  · obtain ⟨p, R, g, rest, vp, rfl, _⟩ := h
    rfl
  obtain ⟨p, R, g, rest, vp, rfl, G, rfl, tp, lp, lp2, q⟩ := h
  refine ⟨_, (pss_cons (ps_expr (pe_fn F_check_program (hr.mono (by decide)) (by rfl) (pa_cons (pv 0) pa_nil)))
  (pss_one (ps_ret (pe_callB call_len_seq (by rfl) C.z_len PySem.boot_len (pa_cons (pe_ix ix_tup (pe_ix ix_tup (pv 0) pe_int (fun _ _ => rfl)) pe_int (fun _ _ => rfl)) pa_nil))))), ?_⟩
  refine ⟨_, rfl, g :: rest, R, _, rfl, G, tp, lp, lp2, fun H1 s1 => ?_⟩
  have tp1 := tp.mono (Tk.same s1)
  obtain ⟨a0, us0, rfl, hsq0, v1, r1, rfl, t1, _⟩ := id tp1
  obtain ⟨a1, us1, rfl, hsq1, w1, r2, rfl, _, w2, r3, rfl, h2, _⟩ := id t1
  obtain ⟨a2, us2, rfl, hsq2, tps⟩ := id h2
  have l2 := tps.length
  rw [List.length_map] at l2
  refine ⟨_, rfl, a0, _, _, _, rfl, rfl, hsq0, atI_nat (j := 0) rfl, a1, _, _, _, rfl, rfl, hsq1, atI_nat (j := 1) rfl, a2, _, rfl, .inr hsq2, ?_⟩
  rw [l2]
  exact q H1 s1
/-- check_inputs([one program], many) -/
def spCheckInputs (K : PySem.W.Frag) : Sp := fun vs H Q _ => ∃ (p : List Fn) (R : Nat) (g : Fn) (rest : List Fn) (qi : Addr) (vp : L2.V) (many : Nat), vs = [.ref qi, .int (many : Int)] ∧ H qi = some (.lst [vp]) ∧ Good p R ∧ p = g :: rest ∧ TV K H (encP p) vp ∧ (encP p).parts ≤ 900000 ∧ p.length ≤ 1000 ∧ g.ps.length = many ∧ many ≤ 8 ∧ ∀ H', Same H H' → Q .non H'
theorem ok_check_inputs : FOk P w K mg base 6 "check_inputs" ["programs", "many"] (spCheckInputs K) := by
  have F_check_program := ok_check_program C (P := P) (base := base)
  have F_inputs_of := ok_inputs_of C (P := P) (base := base)
  refine fok C.f_check_inputs C.g_check_inputs (fun _ _ _ _ _ _ us hl => match us, hl with | [_, _], _ => rfl) sc_check_inputs (fun vs H Q E h => ?_) (fun f cdv A outer s H vs Q E hr h => ?_)
  · obtain ⟨p, R, g, rest, qi, vp, many, rfl, _⟩ := h
    rfl
  obtain ⟨p, R, g, rest, qi, vp, many, rfl, hq, G, rfl, tp, lp, lp2, hg, hm, q⟩ := h
  refine ⟨_, (pss_cons (ps_for PassesOwn.never rfl (pi_list (pv 0)) (pg_name (i := 2) sc_check_inputs.nd rfl (Or.inl rfl)) (pss_one (ps_expr (pe_fn F_check_program (hr.mono (by decide)) (by rfl) (pa_cons (pv 2) pa_nil)))))
  (pss_one (ps_for PassesOwn.never rfl (pi_list (pv 0)) (pg_name (i := 2) sc_check_inputs.nd rfl (Or.inl rfl)) (pss_one (ps_if (PW.pt (pw_or (pt_cmpR op_ne (pe_fn F_inputs_of (hr.mono (by decide)) (by rfl) (pa_cons (pv 2) pa_nil)) (pv 1) (nomark _)) (pw_or1 (pt_cmpR op_gt (pv 1) (pe_gi (by rfl) C.i_MOST_INPUTS) (nomark _))))) pss_never pss_nil))))), ?_⟩
  refine ⟨_, rfl, qi, rfl, ⟨_, SqL.of hq⟩, for_it (walk_list (xs := [vp])) (fun i σ H1 => ∃ o2 : Option L2.V, σ = [some (.ref qi), some (.int (many : Int)), o2] ∧ Same H H1) ⟨_, rfl, fun _ _ e => e⟩ (fun i σ H1 _ h => ?_) (fun i y σ H2 H1 hi h yy => ?_) (fun σ H1 h => ?_)⟩
  · obtain ⟨_, _, sm⟩ := h
    exact SqL.of (sm _ _ hq)
  · obtain ⟨e, hy⟩ := yy
    subst e
    obtain ⟨o2, rfl, sm⟩ := h
    simp only [List.length_cons, List.length_nil] at hi
    have ei : i = 0 := by omega
    subst ei
    have ey : vp = y := Option.some.inj hy
    subst ey
    exact ⟨_, rfl, g :: rest, R, _, rfl, G, tp.mono (Tk.same sm), lp, lp2, fun H3 s3 => ⟨_, rfl, fun b o e => s3 _ _ (sm _ _ e)⟩⟩
  · obtain ⟨o2, rfl, sm1⟩ := h
    refine ⟨_, rfl, qi, rfl, ⟨_, SqL.of (sm1 _ _ hq)⟩, for_it (walk_list (xs := [vp])) (fun i σ H1 => ∃ o2 : Option L2.V, σ = [some (.ref qi), some (.int (many : Int)), o2] ∧ Same H H1) ⟨_, rfl, sm1⟩ (fun i σ H1 _ h => ?_) (fun i y σ H2 H1 hi h yy => ?_) (fun σ H1 h => ?_)⟩
    · obtain ⟨_, _, sm⟩ := h
      exact SqL.of (sm _ _ hq)
    · obtain ⟨e, hy⟩ := yy
      subst e
      obtain ⟨o2, rfl, sm⟩ := h
      simp only [List.length_cons, List.length_nil] at hi
      have ei : i = 0 := by omega
      subst ei
      have ey : vp = y := Option.some.inj hy
      subst ey
      refine ⟨_, rfl, g :: rest, R, g, rest, _, rfl, G, rfl, tp.mono (Tk.same sm), lp, lp2, fun H3 s3 => ?_⟩
      have sm3 : Same H H3 := fun b o e => s3 _ _ (sm _ _ e)
      refine ⟨_, rfl, rfl, _, rfl, ite_b (fun hb => ?_) (fun _ => ?_)⟩
      · exfalso
        have hb : (!decide (L2.V.int ((g.ps.length : Nat) : Int) = L2.V.int (many : Int))) = true := hb
        rw [hg, decide_eq_true rfl] at hb
        cases hb
      · refine ⟨_, rfl, _, _, rfl, rfl, _, rfl, ite_b (fun hb => ?_) (fun _ => ⟨_, rfl, sm3⟩)⟩
        have z := of_decide_eq_true hb
        omega
    · obtain ⟨o2, rfl, sm⟩ := h
      exact q H1 sm
end
end K35
end

section
set_option Elab.async false
set_option linter.all false
set_option maxRecDepth 100000
namespace K35
open PySem PySem.Spec PyProof.Rows L2
section
variable {P : Program} {w : World} {K : PySem.W.Frag} {A : SA} {S : List Ent} {H H' : Hp} {x C dx : Addr} {fs : List (Str × L2.V)}
theorem StoreAt.fx (hS : StoreAt P w K A S H) (hx : H x = some (.ins C dx fs)) (hne : x ≠ A.self) (f : ∀ b o, H b = some o → b ≠ x → H' b = some o) : StoreAt P w K A S H' := by
  obtain ⟨wf, ap, ⟨dx2, hi⟩, v0, kvs, szs, dps, h0, hlk, he, hn, hs, hd, hk, hz⟩ := id hS
  exact hS.off (M := fun b => b = x) f fun b e => by
    subst e
    refine ⟨hne, ne_of hx he (by intro z; cases z), ne_of hx hn (by intro z; cases z), ne_of hx hs (by intro z; cases z), ne_of hx hd (by intro z; cases z), ?_⟩
    rw [hx]
    exact NoTup.ins
theorem StoreAt.ne4 (hS : StoreAt P w K A S H) (hx : H x = some (.ins C dx fs)) : x ≠ A.e ∧ x ≠ A.n ∧ x ≠ A.s ∧ x ≠ A.d := by
  obtain ⟨wf, ap, ⟨dx2, hi⟩, v0, kvs, szs, dps, h0, hlk, he, hn, hs, hd, hk, hz⟩ := id hS
  exact ⟨ne_of hx he (by intro z; cases z), ne_of hx hn (by intro z; cases z), ne_of hx hs (by intro z; cases z), ne_of hx hd (by intro z; cases z)⟩
theorem StoreAt.fd {kvs : KV} (hS : StoreAt P w K A S H) (hx : H x = some (.dK kvs)) (f : ∀ b o, H b = some o → b ≠ x → H' b = some o) : StoreAt P w K A S H' := by
  obtain ⟨wf, ap, ⟨dx2, hi⟩, v0, kvs, szs, dps, h0, hlk, he, hn, hs, hd, hk, hz⟩ := id hS
  exact hS.off (M := fun b => b = x) f fun b e => by
    subst e
    refine ⟨ne_of hx hi (by intro z; cases z), ne_of hx he (by intro z; cases z), ne_of hx hn (by intro z; cases z), ne_of hx hs (by intro z; cases z), ne_of hx hd (by intro z; cases z), ?_⟩
    rw [hx]
    exact NoTup.dK
theorem All2.ofMap {α β γ : Type} {R : β → γ → Prop} {f : α → β} : ∀ {xs : List α} {ys : List γ}, All2 R (xs.map f) ys → All2 (fun x y => R (f x) y) xs ys
  | [], _, h => h
  | _ :: _, _, ⟨y, r, e, h, t⟩ => ⟨y, r, e, h, t.ofMap⟩
/-- a field more -/
theorem fld_more {f : Str} {v : L2.V} (hl : fs.lookup f = none) : ∃ H1, H1 = upd H x (.ins C dx (putF f v fs)) ∧ H1 x = some (.ins C dx (fs ++ [(f, v)])) ∧ ∀ b, b ≠ x → H1 b = H b :=
  ⟨_, rfl, by rw [upd_same, putF_new hl], fun b h => upd_ne h⟩
end
theorem sc_Run_init : FnScope ["self", "kind", "value", "steps"] ["self", "kind", "value", "steps"] (defScope s_Run_init) := ⟨rfl, rfl, rfl, by decide +kernel, rfl, by decide +kernel, by decide +kernel⟩
theorem sc_Machine_init : FnScope ["self", "program", "inputs", "keeping", "function", "name", "parameters", "body", "main", "value"] ["self", "program", "inputs", "keeping"] (defScope s_Machine_init) := ⟨rfl, rfl, rfl, by decide +kernel, rfl, by decide +kernel, by decide +kernel⟩
section
variable {P : Program} {w : World} {K : PySem.W.Frag} {mg : Str → Option Value} {base : Heap} (C : Ctx w K mg)
include C
def rfields (a b c : L2.V) : List (Str × L2.V) := [("kind", a), ("value", b), ("steps", c)]
def spRunInit (K : PySem.W.Frag) : Sp := fun vs H Q _ => ∃ x dx a b c, vs = [.ref x, a, b, c] ∧ H x = some (.ins (He.ga K "Run") dx []) ∧
  ∀ H', H' x = some (.ins (He.ga K "Run") dx (rfields a b c)) → (∀ d o, H d = some o → d ≠ x → H' d = some o) → Q .non H'
theorem ok_run_init : ∃ f fd, FnOk P w K mg base CX0 1 f fd ["self", "kind", "value", "steps"] (spRunInit K) ∧ Binds K fd ["self", "kind", "value", "steps"] [] ∧ Mk K (He.ga K "Run") f := by
  obtain ⟨fd, F⟩ := C.f_Run_init
  refine ⟨_, fd, F.ok sc_Run_init (fun vs H Q E h => ?_) (fun cdv A outer s H vs Q E hr h => ?_), F.bindsN fun _ _ _ _ _ _ us hl => match us, hl with | [_, _, _, _], _ => rfl, C.m_Run⟩
  · obtain ⟨x, dx, a, b, c, rfl, _⟩ := h
    rfl
  obtain ⟨x, dx, a, b, c, rfl, hx, q⟩ := h
  refine ⟨_, PSs.nox (pss_cons (ps_fld (pv 0) (pv 1) rfl)
  (pss_cons (ps_fld (pv 0) (pv 2) rfl)
  (pss_one (ps_fld (pv 0) (pv 3) rfl)))), ?_⟩
  refine ⟨_, rfl, _, rfl, x, _, dx, _, rfl, hx, C.c_Run, C.n_Run_kind, by show 0 < 1000; decide, ?_⟩
  generalize g1 : upd H x _ = H1
  have e1 : H1 x = some (.ins (He.ga K "Run") dx [("kind", a)]) := by rw [← g1, upd_same] <;> rfl
  have f1 : ∀ b, b ≠ x → H1 b = H b := fun b hb => by rw [← g1]; exact upd_ne hb
  refine ⟨_, rfl, _, rfl, x, _, dx, _, rfl, e1, C.c_Run, C.n_Run_value, by show 1 < 1000; decide, ?_⟩
  generalize g2 : upd H1 x _ = H2
  have e2 : H2 x = some (.ins (He.ga K "Run") dx [("kind", a), ("value", b)]) := by rw [← g2, upd_same, putF_new rfl] <;> rfl
  have f2 : ∀ b, b ≠ x → H2 b = H1 b := fun b hb => by rw [← g2]; exact upd_ne hb
  refine ⟨_, rfl, _, rfl, x, _, dx, _, rfl, e2, C.c_Run, C.n_Run_steps, by show 2 < 1000; decide, ?_⟩
  refine q _ (by rw [upd_same, putF_new rfl] <;> rfl) fun d o e h => ?_
  rw [upd_ne h, f2 d h, f1 d h, e]
def spMachInit (P : Program) (w : World) (K : PySem.W.Frag) : Sp := fun vs H Q _ => ∃ (x dx qi : Addr) (p : List Fn) (g : Fn) (rest : List Fn) (u : T) (vp vi : L2.V), vs = [.ref x, vp, .ref qi, .bl false] ∧ H x = some (.ins (He.ga K "Machine") dx []) ∧ p = g :: rest ∧ TV K H (encP p) vp ∧ H qi = some (.lst [vi]) ∧ TV K H u vi ∧
  (p.map (·.name)).Nodup ∧ (∀ f ∈ p, f.ps.Nodup) ∧ g.ps.length = 1 ∧ (encP p).ok = true ∧ u.ok = true ∧ (encP p).parts ≤ 100000 ∧ u.parts ≤ 100000 ∧
  ∀ (M : MA) (S' : List Ent) (H' : Hp), M.self = x → MachAt P w K M p S' ⟨[.ev g.body (g.ps.zip [u])], [], 0⟩ H' → (∀ b o, H b = some o → b ≠ x → H' b = some o) → (∀ b o, H b = some o → b ≠ x → b ∉ mset M) → S'.length ≤ 1000000 → Q .non H'
theorem ok_mach_init : ∃ f fd, FnOk P w K mg base CX0 3 f fd ["self", "program", "inputs", "keeping"] (spMachInit P w K) ∧ (∃ g, KBn K fd ["self", "program", "inputs", "keeping"] 3 ["keeping"] g (fun vs zs => vs ++ zs)) ∧ Mk K (He.ga K "Machine") f := by
  obtain ⟨fSt, fdSt, FSt, BSt, MSt⟩ := ok_store_init C (P := P) (base := base)
  have M_put := ok_put C (P := P) (base := base)
  have M_items_of := ok_items_of C (P := P) (base := base)
  have M_begin := ok_begin C (P := P) (base := base)
  obtain ⟨fd, F⟩ := C.f_Machine_init
  refine ⟨_, fd, F.ok sc_Machine_init (fun vs H Q E h => ?_) (fun cdv A outer s H vs Q E hr h => ?_), ?_, C.m_Machine⟩
  · obtain ⟨x, dx, qi, p, g, rest, u, vp, vi, rfl, _⟩ := h
    rfl
  · obtain ⟨x, dx, qi, p, g, rest, u, vp, vi, rfl, hx, ep, tp, hqi, tu, nd, ndp, lg, okp, oku, lp, lu, q⟩ := h
    refine ⟨_, PSs.nox (pss_cons (ps_fld (pv 0) (pe_make0 MSt FSt (hr.mono (by decide)) (by rfl) C.g_Store BSt .nil pass0) rfl)
  (pss_cons (ps_fld (pv 0) (pe_mt (pe_fld (pv 0) rfl) C.c_Store M_put (hr.mono (by decide)) (pa_cons pe_str pa_nil)) rfl)
  (pss_cons (ps_fld (pv 0) pe_dnewK rfl)
  (pss_cons (ps_for PassesOwn.never rfl (pi_list (pe_mt (pe_fld (pv 0) rfl) C.c_Store M_items_of (hr.mono (by decide)) (pa_cons (pe_mt (pe_fld (pv 0) rfl) C.c_Store M_put (hr.mono (by decide)) (pa_cons (pv 1) pa_nil)) pa_nil))) (pg_name (i := 4) sc_Machine_init.nd rfl (Or.inl rfl)) (pss_cons (ps_asg (pe_mt (pe_fld (pv 0) rfl) C.c_Store M_items_of (hr.mono (by decide)) (pa_cons (pv 4) pa_nil)) (pg_unl rfl (pgs_cons (pg_name (i := 5) sc_Machine_init.nd rfl (Or.inl rfl)) (pgs_cons (pg_name (i := 6) sc_Machine_init.nd rfl (Or.inl rfl)) (pgs_cons (pg_name (i := 7) sc_Machine_init.nd rfl (Or.inl rfl)) pgs_nil)))))
  (pss_one (ps_dput (hu_of hr) (pe_fld (pv 0) rfl) (pv 5) (pe_tup (pa_cons (pe_mt (pe_fld (pv 0) rfl) C.c_Store M_items_of (hr.mono (by decide)) (pa_cons (pv 6) pa_nil)) (pa_cons (pv 7) pa_nil))) rfl))))
  (pss_cons (ps_fld (pv 0) (pv 3) rfl)
  (pss_cons (ps_fld (pv 0) pe_dnewK rfl)
  (pss_cons (ps_fld (pv 0) pe_non rfl)
  (pss_cons (ps_fld (pv 0) pe_int rfl)
  (pss_cons (ps_fld (pv 0) (pe_lst pa_nil) rfl)
  (pss_cons (ps_fld (pv 0) (pe_lst pa_nil) rfl)
  (pss_cons (ps_set (i := 8) sc_Machine_init.nd rfl (Or.inl rfl) (pe_mt (pe_fld (pv 0) rfl) C.c_Store M_put (hr.mono (by decide)) (pa_cons (pe_ix ix_tup (pe_ix ix_tup (pv 1) pe_int (fun _ _ => rfl)) pe_int (fun _ _ => rfl)) pa_nil)))
  (pss_one (ps_expr (pe_mt (pv 0) C.c_Machine M_begin (hr.mono (by decide)) (pa_cons (pv 8) (pa_cons (pe_callTy call_tuple_of (by rfl) C.z_tuple (by decide +kernel) (pa_cons (pe_lc (te := tMeth (He.ga K "Store") "put" (spPut P w K) [] E0 (tFld K (tVar 0) "store") (tCons (tVar 9) tNil)) (own := [("value", 9)]) (g := gName 9) (by rfl) sc_Machine_init.nd (pi_list (pv 2)) (blkOk_by (own := [("value", 9)]) (N := ["self", "program", "inputs", "keeping", "function", "name", "parameters", "body", "main", "value"]) (sc := defScope s_Machine_init) (by decide +kernel)) (fun _ _ _ _ _ => pg_name (i := 9) sc_Machine_init.nd rfl (Or.inl rfl)) (fun _ _ _ _ _ => pts_nil) (fun _ _ _ _ _ => (pe_mt (pe_fld (pv 0) rfl) C.c_Store M_put (hr.mono (by decide)) (pa_cons (pv 9) pa_nil)))) pa_nil)) pa_nil)))))))))))))))), ?_⟩
    -- the table
    intro sx sdx nsx nsdx hne
    refine ⟨sx, sdx, rfl, upd_same, fun B H1 eB hS1 fr1 b1 b2 b3 b4 => ⟨rfl, ?_⟩⟩
    subst eB
    have hxB : x ≠ B.self := ne_of_none hx nsx
    have sm1 : Same H H1 := fun b o e => fr1 b o (by rw [upd_ne (ne_of_none e nsx), upd_ne (ne_of_none e nsdx), e]) (ne_of_none e nsx)
    have hB : ∀ c, upd (upd H sdx (.own B.self)) B.self (.ins (He.ga K "Store") sdx []) c = none → H c = none := fun c e => (upd_none (upd_none e).1).1
    have c1 := hB _ b1
    have c2 := hB _ b2
    have c3 := hB _ b3
    have c4 := hB _ b4
    clear fr1 b1 b2 b3 b4 hB
    have hx1 := sm1 _ _ hx
    refine ⟨_, rfl, x, _, dx, [], rfl, hx1, C.c_Machine, C.n_Machine_store, by show 0 < 1000; decide, ?_⟩
    obtain ⟨H2, g2, e2, f2⟩ := fld_more (H := H1) (x := x) (C := He.ga K "Machine") (dx := dx) (fs := []) (f := "store") (v := .ref B.self) rfl
    rw [← g2]
    clear g2
    have fx2 : ∀ b o, H b = some o → b ≠ x → H2 b = some o := fun b o e n => (f2 b n).trans (sm1 _ _ e)
    have hS2 := hS1.fx hx1 hxB (fun b o e n => (f2 b n).trans e)
    obtain ⟨sd2, hs2⟩ := hS2.ins
    -- yes
    refine ⟨_, rfl, x, _, dx, _, _, rfl, e2, C.c_Machine, C.n_Machine_store, rfl, B.self, sd2, _, rfl, hs2, rfl, B, [], .w "yes", .str "yes", rfl, hS2, rfl, T.yes_ok, by decide, by decide, fun ny S3 H3 hS3 fr3 ex3 l3 dny => ?_⟩
    obtain ⟨n1, n2, n3, n4⟩ := hS2.ne4 e2
    have e3 := fr3 _ _ e2 n1 n2 n3 n4
    have fx3 : ∀ b o, H b = some o → b ≠ x → H3 b = some o := fun b o e n => fr3 _ _ (fx2 b o e n) (ne_of_none e c1) (ne_of_none e c2) (ne_of_none e c3) (ne_of_none e c4)
    refine ⟨_, rfl, x, _, dx, _, rfl, e3, C.c_Machine, C.n_Machine_yes, by show 1 < 1000; decide, ?_⟩
    generalize g4 : upd H3 x _ = H4
    have e4 : H4 x = some (.ins (He.ga K "Machine") dx [("store", .ref B.self), ("yes", .int (ny : Int))]) := by rw [← g4, upd_same, putF_new rfl] <;> rfl
    have f4 : ∀ b, b ≠ x → H4 b = H3 b := fun b n => by rw [← g4, upd_ne n]
    clear g4
    have fx4 : ∀ b o, H b = some o → b ≠ x → H4 b = some o := fun b o e n => (f4 b n).trans (fx3 _ _ e n)
    have hS4 := hS3.fx e3 hxB (fun b o e n => (f4 b n).trans e)
    -- functions
    intro fn nfn
    have xfn : x ≠ fn := ne_of_none e4 nfn
    refine ⟨_, rfl, x, _, dx, _, rfl, (upd_ne xfn).trans e4, C.c_Machine, C.n_Machine_functions, by show 2 < 1000; decide, ?_⟩
    generalize g5 : upd (upd H4 fn _) x _ = H5
    have e5 : H5 x = some (.ins (He.ga K "Machine") dx [("store", .ref B.self), ("yes", .int (ny : Int)), ("functions", .ref fn)]) := by rw [← g5, upd_same, putF_new rfl] <;> rfl
    have hfn5 : H5 fn = some (.dK []) := by rw [← g5, upd_ne xfn.symm, upd_same]
    have f5 : ∀ b o, H4 b = some o → b ≠ x → H5 b = some o := fun b o e n => by rw [← g5, upd_ne n, upd_ne (ne_of_none e nfn), e]
    clear g5
    have fx5 : ∀ b o, H b = some o → b ≠ x → H5 b = some o := fun b o e n => f5 _ _ (fx4 _ _ e n) n
    have hS5 := hS4.fx e4 hxB f5
    obtain ⟨sd5, hs5⟩ := hS5.ins
    have ntx : NoTup (H x) := by rw [hx]; exact NoTup.ins
    have tp5 : TV K H5 (encP p) vp := tp.mono (Tk.but ntx fx5)
    have l3' : S3.length ≤ 2 := by
      have z : S3.length ≤ 0 + 2 * 1 := l3
      omega
    refine ⟨_, rfl, x, _, dx, _, _, rfl, e5, C.c_Machine, C.n_Machine_store, rfl, B.self, sd5, _, rfl, hs5, rfl, _, rfl, x, _, dx, _, _, rfl, e5, C.c_Machine, C.n_Machine_store, rfl, B.self, sd5, _, rfl, hs5, rfl, _, rfl, B, S3, encP p, vp, rfl, hS5, tp5, okp, by omega, by omega, fun np S6 H6 hS6 fr6 ex6 l6 dnp => ?_⟩
    obtain ⟨m1, m2, m3, m4⟩ := hS5.ne4 e5
    have e6 := fr6 _ _ e5 m1 m2 m3 m4
    have fx6 : ∀ b o, H b = some o → b ≠ x → H6 b = some o := fun b o e n => fr6 _ _ (fx5 b o e n) (ne_of_none e c1) (ne_of_none e c2) (ne_of_none e c3) (ne_of_none e c4)
    obtain ⟨wf5, ap5, ⟨dx5, hi5⟩, v05, kvs5, szs5, dps5, h05, hlk5, he5, hn5, hss5, hdd5, hk5, hz5⟩ := id hS5
    have hfn6 : H6 fn = some (.dK []) := fr6 _ _ hfn5 (ne_of hfn5 he5 (by intro z; cases z)) (ne_of hfn5 hn5 (by intro z; cases z)) (ne_of hfn5 hss5 (by intro z; cases z)) (ne_of hfn5 hdd5 (by intro z; cases z))
    refine ⟨B, S6, np, p.map Fn.enc, rfl, hS6, dnp, by omega, fun D ns H7 nD hD7 a7 sm7 => ?_⟩
    have hS7 := hS6.same sm7
    have e7 := sm7 _ _ e6
    have hfn7 := sm7 _ _ hfn6
    have fx7 : ∀ b o, H b = some o → b ≠ x → H7 b = some o := fun b o e n => sm7 _ _ (fx6 _ _ e n)
    have lns := a7.length
    rw [List.length_map] at lns
    have lpp : p.length ≤ 100000 := by
      have z := T.len_partss (p.map Fn.enc)
      rw [List.length_map] at z
      have y : (encP p).parts = T.partss (p.map Fn.enc) + 1 := rfl
      omega
    refine ⟨D, rfl, ⟨_, SqL.of hD7⟩, for_it (walk_list (xs := nums ns)) (fun i σ H8 => ∃ (o4 o5 o6 o7 : Option L2.V) (kvs : KV), σ = [some (.ref x), some vp, some (.ref qi), some (.bl false), o4, o5, o6, o7, none, none] ∧ H8 fn = some (.dK kvs) ∧ (∀ b o, H7 b = some o → b ≠ fn → H8 b = some o) ∧ kvs.length ≤ i ∧
      (∀ (m : Nat) v, valV kvs (Sum.inl (m : Int)) = some v → ∃ (j : Nat) (f : Fn), j < i ∧ p[j]? = some f ∧ Den S6 m (.w f.name)) ∧
      ∀ (j : Nat) (f : Fn), j < i → p[j]? = some f → ∃ (k : Nat) (fa pa : Addr) (ks : List Nat) (b : Nat), Den S6 k (.w f.name) ∧ valV kvs (Sum.inl (k : Int)) = some (.ref fa) ∧ H8 fa = some (.tup [.ref pa, .int (b : Int)]) ∧ H8 pa = some (.lst (nums ks)) ∧ H7 pa = none ∧ All2 (fun x n => Den S6 n (.w x)) f.ps ks ∧ Den S6 b f.body.enc)
      ⟨_, _, _, _, [], rfl, hfn7, fun _ _ e _ => e, Nat.le_refl _, fun m v e => (by cases e), fun j f h => absurd h (Nat.not_lt_zero j)⟩ (fun i σ H8 _ h => ?_) (fun i y σ H9 H8 hi h yy => ?_) (fun σ H8 h => ?_)⟩
    · obtain ⟨_, _, _, _, _, _, _, f8, _⟩ := h
      exact SqL.of (f8 _ _ hD7 (ne_of hD7 hfn7 (by intro z; cases z)))
    · obtain ⟨e, hy⟩ := yy
      subst e
      obtain ⟨o4, o5, o6, o7, kvs, rfl, hfn8, f8, lk8, back, fwd⟩ := h
      rw [nums_len] at hi
      rw [nums_get (List.getElem?_eq_getElem hi)] at hy
      cases hy
      have hip : i < p.length := by omega
      have hpi := List.getElem?_eq_getElem hip
      obtain ⟨m, hm, dm⟩ := a7.get (by rw [List.getElem?_map, hpi] <;> rfl)
      rw [List.getElem?_eq_getElem hi] at hm
      cases hm
      generalize hfe : p[i] = fi at *
      have hS8 := hS7.fd hfn7 f8
      have e8 := f8 _ _ e7 xfn
      obtain ⟨sd8, hs8⟩ := hS8.ins
      refine ⟨_, rfl, x, _, dx, _, _, rfl, e8, C.c_Machine, C.n_Machine_store, rfl, B.self, sd8, _, rfl, hs8, rfl, _, rfl, B, S6, ns[i], [.w fi.name, .l (fi.ps.map .w), fi.body.enc], rfl, hS8, dm, by omega, fun D2 ns2 H10 nD2 hD10 a10 sm10 => ?_⟩
      obtain ⟨n1', _, rfl, dn1, n2', _, rfl, dn2, n3', _, rfl, dn3, e⟩ := a10
      cases (show _ = [] from e)
      refine ⟨D2, _, rfl, SqL.of hD10, rfl, _, _, rfl, _, _, rfl, _, _, rfl, rfl, ?_⟩
      have hS10 := hS8.same sm10
      have e10 := sm10 _ _ e8
      obtain ⟨sd10, hs10⟩ := hS10.ins
      refine ⟨_, rfl, x, _, dx, _, _, rfl, e10, C.c_Machine, C.n_Machine_store, rfl, B.self, sd10, _, rfl, hs10, rfl, _, rfl, B, S6, n2', _, rfl, hS10, dn2, by omega, fun pa ks H11 npa hpa a11 sm11 => ?_⟩
      refine ⟨_, rfl, by show 2 ≤ sizeLine; decide, fun fa nfa => ?_⟩
      have sm12 : Same H11 (upd H11 fa (.tup [.ref pa, .int (n3' : Int)])) := same_new nfa _
      have hfa : upd H11 fa (.tup [.ref pa, .int (n3' : Int)]) fa = some (.tup [.ref pa, .int (n3' : Int)]) := upd_same
      generalize upd H11 fa (.tup [.ref pa, .int (n3' : Int)]) = H12 at *
      have sm812 : Same H8 H12 := fun b o e => sm12 _ _ (sm11 _ _ (sm10 _ _ e))
      have e12 := sm812 _ _ e8
      have hfn12 := sm812 _ _ hfn8
      have hpa12 := sm12 _ _ hpa
      have npa7 : H7 pa = none := by
        cases e : H7 pa with
        | none => rfl
        | some o =>
          by_cases z : pa = fn
          · subst z
            rw [sm10 _ _ hfn8] at npa
            cases npa
          · rw [sm10 _ _ (f8 _ _ e z)] at npa
            cases npa
      have hno : valV kvs (Sum.inl (n1' : Int)) = none := by
        cases e : valV kvs (Sum.inl (n1' : Int)) with
        | none => rfl
        | some v =>
          obtain ⟨j, f, hj, hpj, dj⟩ := back n1' v e
          have en := T.w.inj (dj.func dn1)
          have z := nd_ix nd (i := j) (j := i) (by rw [List.getElem?_map, hpj] <;> rfl) (by rw [List.getElem?_map, hpi]; show some fi.name = some f.name; rw [en])
          omega
      refine ⟨_, rfl, x, _, dx, _, _, rfl, e12, C.c_Machine, C.n_Machine_functions, rfl, _, rfl, fn, _, rfl, DPut.k (k := Sum.inl (n1' : Int)) hfn12 (line_lt (by omega)), ?_⟩
      have nfa' : fa ≠ fn := ne_of hfa hfn12 (by intro z; cases z)
      have npa' : pa ≠ fn := ne_of hpa12 hfn12 (by intro z; cases z)
      have lpk := length_putK kvs (Sum.inl (n1' : Int)) (.ref fa)
      refine ⟨_, _, _, _, _, rfl, upd_same, fun b o e n => ?_, by omega, fun m v e => ?_, fun j f hj hpj => ?_⟩
      · rw [upd_ne n]
        exact sm812 _ _ (f8 _ _ e n)
      · rw [valV_put] at e
        by_cases z : (Sum.inl ((m : Nat) : Int) : Key) = Sum.inl (n1' : Int)
        · have zz : m = n1' := by
            injection z with z
            omega
          subst zz
          exact ⟨i, fi, Nat.lt_succ_self _, hpi, dn1⟩
        · rw [if_neg z] at e
          obtain ⟨j, f, hj, h1, h2⟩ := back m v e
          exact ⟨j, f, by omega, h1, h2⟩
      · by_cases z : j = i
        · subst z
          rw [hpi] at hpj
          cases hpj
          exact ⟨n1', fa, pa, ks, n3', dn1, by rw [valV_put, if_pos rfl], (upd_ne nfa').trans hfa, (upd_ne npa').trans hpa12, npa7, a11.ofMap, dn3⟩
        · obtain ⟨k, fa2, pa2, ks2, b2, h1, h2, h3, h4, h5, h6, h7⟩ := fwd j f (by omega) hpj
          have z1 : fa2 ≠ fn := ne_of h3 hfn8 (by intro z; cases z)
          have z2 : pa2 ≠ fn := ne_of h4 hfn8 (by intro z; cases z)
          refine ⟨k, fa2, pa2, ks2, b2, h1, ?_, (upd_ne z1).trans (sm812 _ _ h3), (upd_ne z2).trans (sm812 _ _ h4), h5, h6, h7⟩
          rw [valV_put, if_neg, h2]
          intro e
          have zz : k = n1' := by
            injection e with e
            omega
          subst zz
          rw [hno] at h2
          cases h2
    · obtain ⟨o4, o5, o6, o7, kvs, rfl, hfn8, f8, lk8, back, fwd⟩ := h
      rw [nums_len] at fwd
      have hS8 := hS7.fd hfn7 f8
      have e8 := f8 _ _ e7 xfn
      have fx8 : ∀ b o, H b = some o → b ≠ x → H8 b = some o := fun b o e n => f8 _ _ (fx7 _ _ e n) (ne_of_none (fx4 _ _ e n) nfn)
      -- keeping
      refine ⟨_, rfl, _, rfl, x, _, dx, _, rfl, e8, C.c_Machine, C.n_Machine_keeping, by show 3 < 1000; decide, ?_⟩
      generalize g9 : upd H8 x _ = H9
      have e9 : H9 x = some (.ins (He.ga K "Machine") dx [("store", .ref B.self), ("yes", .int (ny : Int)), ("functions", .ref fn), ("keeping", .bl false)]) := by rw [← g9, upd_same, putF_new rfl] <;> rfl
      have f9 : ∀ b o, H8 b = some o → b ≠ x → H9 b = some o := fun b o e n => by rw [← g9, upd_ne n, e]
      clear g9
      -- kept
      intro kd nkd
      have xkd : x ≠ kd := ne_of_none e9 nkd
      refine ⟨_, rfl, x, _, dx, _, rfl, (upd_ne xkd).trans e9, C.c_Machine, C.n_Machine_kept, by show 4 < 1000; decide, ?_⟩
      generalize g10 : upd (upd H9 kd _) x _ = H10
      have e10 : H10 x = some (.ins (He.ga K "Machine") dx [("store", .ref B.self), ("yes", .int (ny : Int)), ("functions", .ref fn), ("keeping", .bl false), ("kept", .ref kd)]) := by rw [← g10, upd_same, putF_new rfl] <;> rfl
      have f10 : ∀ b o, H8 b = some o → b ≠ x → H10 b = some o := fun b o e n => by rw [← g10, upd_ne n, upd_ne (ne_of_none (f9 _ _ e n) nkd), f9 _ _ e n]
      clear g10
      -- pair
      refine ⟨_, rfl, x, _, dx, _, rfl, e10, C.c_Machine, C.n_Machine_pair, by show 5 < 1000; decide, ?_⟩
      generalize g11 : upd H10 x _ = H11
      have e11 : H11 x = some (.ins (He.ga K "Machine") dx [("store", .ref B.self), ("yes", .int (ny : Int)), ("functions", .ref fn), ("keeping", .bl false), ("kept", .ref kd), ("pair", .non)]) := by rw [← g11, upd_same, putF_new rfl] <;> rfl
      have f11 : ∀ b o, H8 b = some o → b ≠ x → H11 b = some o := fun b o e n => by rw [← g11, upd_ne n, f10 _ _ e n]
      clear g11
      -- steps
      refine ⟨_, rfl, x, _, dx, _, rfl, e11, C.c_Machine, C.n_Machine_steps, by show 6 < 1000; decide, ?_⟩
      generalize g12 : upd H11 x _ = H12
      have e12 : H12 x = some (.ins (He.ga K "Machine") dx [("store", .ref B.self), ("yes", .int (ny : Int)), ("functions", .ref fn), ("keeping", .bl false), ("kept", .ref kd), ("pair", .non), ("steps", .int 0)]) := by rw [← g12, upd_same, putF_new rfl] <;> rfl
      have f12 : ∀ b o, H8 b = some o → b ≠ x → H12 b = some o := fun b o e n => by rw [← g12, upd_ne n, f11 _ _ e n]
      clear g12
      -- found
      refine ⟨Nat.zero_le _, fun fl nfl => ?_⟩
      have xfl : x ≠ fl := ne_of_none e12 nfl
      refine ⟨_, rfl, x, _, dx, _, rfl, (upd_ne xfl).trans e12, C.c_Machine, C.n_Machine_found, by show 7 < 1000; decide, ?_⟩
      generalize g13 : upd (upd H12 fl _) x _ = H13
      have e13 : H13 x = some (.ins (He.ga K "Machine") dx [("store", .ref B.self), ("yes", .int (ny : Int)), ("functions", .ref fn), ("keeping", .bl false), ("kept", .ref kd), ("pair", .non), ("steps", .int 0), ("found", .ref fl)]) := by rw [← g13, upd_same, putF_new rfl] <;> rfl
      have f13 : ∀ b o, H8 b = some o → b ≠ x → H13 b = some o := fun b o e n => by rw [← g13, upd_ne n, upd_ne (ne_of_none (f12 _ _ e n) nfl), f12 _ _ e n]
      have hfl13 : H13 fl = some (.lst []) := by rw [← g13, upd_ne xfl.symm, upd_same]
      clear g13
      -- todo
      refine ⟨Nat.zero_le _, fun tl ntl => ?_⟩
      have xtl : x ≠ tl := ne_of_none e13 ntl
      have fltl : fl ≠ tl := ne_of_none hfl13 ntl
      refine ⟨_, rfl, x, _, dx, _, rfl, (upd_ne xtl).trans e13, C.c_Machine, C.n_Machine_todo, by show 8 < 1000; decide, ?_⟩
      generalize g14 : upd (upd H13 tl _) x _ = H14
      have e14 : H14 x = some (.ins (He.ga K "Machine") dx (mfields ⟨x, B, fn, kd, fl, tl, ny⟩ 0)) := by rw [← g14, upd_same, putF_new rfl] <;> rfl
      have f14 : ∀ b o, H8 b = some o → b ≠ x → H14 b = some o := fun b o e n => by rw [← g14, upd_ne n, upd_ne (ne_of_none (f13 _ _ e n) ntl), f13 _ _ e n]
      have htl14 : H14 tl = some (.lst []) := by rw [← g14, upd_ne xtl.symm, upd_same]
      have hfl14 : H14 fl = some (.lst []) := by rw [← g14, upd_ne xfl.symm, upd_ne fltl]; exact hfl13
      clear g14
      have hS14 := hS8.fx e8 hxB f14
      have fx14 : ∀ b o, H b = some o → b ≠ x → H14 b = some o := fun b o e n => f14 _ _ (fx8 _ _ e n) n
      have nfl8 : H8 fl = none := by
        cases e : H8 fl with
        | none => rfl
        | some o =>
          rw [f12 _ _ e xfl.symm] at nfl
          cases nfl
      have ntl8 : H8 tl = none := by
        cases e : H8 tl with
        | none => rfl
        | some o =>
          rw [f13 _ _ e xtl.symm] at ntl
          cases ntl
      have neB : ∀ {c : Addr}, H8 c = none → c ≠ B.self ∧ c ≠ B.e ∧ c ≠ B.n ∧ c ≠ B.s ∧ c ≠ B.d := fun h => hS8.ne h
      have bfl := neB nfl8
      have btl := neB ntl8
      have hM14 : MachAt P w K ⟨x, B, fn, kd, fl, tl, ny⟩ p S6 ⟨[], [], 0⟩ H14 := by
        refine ⟨hS14, ⟨dx, e14⟩, ⟨kvs, f14 _ _ hfn8 xfn.symm, fun nm gg hg => ?_⟩, dny.ext ex6, ndp, ⟨fltl, ⟨bfl.2.1, bfl.2.2.2.1, bfl.2.2.2.2⟩, ⟨btl.2.1, btl.2.2.2.1, btl.2.2.2.2⟩, hxB⟩, ⟨[], hfl14, rfl⟩, [], htl14, rfl⟩
        obtain ⟨hgm, rfl⟩ := fnd_mem hg
        obtain ⟨j, hj, hpj⟩ := List.mem_iff_getElem.mp hgm
        obtain ⟨k, fa, pa, ks, b, h1, h2, h3, h4, h5, h6, h7⟩ := fwd j gg (by omega) (by rw [List.getElem?_eq_getElem hj, hpj])
        have z1 : fa ≠ x := ne_of h3 e8 (by intro z; cases z)
        have z2 : pa ≠ x := ne_of h4 e8 (by intro z; cases z)
        have z3 := hS7.ne h5
        refine ⟨k, fa, pa, ks, b, h1, h2, f14 _ _ h3 z1, f14 _ _ h4 z2, ?_, h6, h7⟩
        unfold mset
        simp only [List.mem_cons, List.not_mem_nil, or_false, not_or]
        exact ⟨z3.2.1, z3.2.2.1, z3.2.2.2.1, z3.2.2.2.2, ne_of_none h4 nfl8, ne_of_none h4 ntl8, z2⟩
      -- main
      have tp14 := tp.mono (Tk.but ntx fx14)
      subst ep
      obtain ⟨a0, us0, rfl, hsq0, v1, r1, rfl, t1, _⟩ := id tp14
      obtain ⟨a1, us1, rfl, hsq1, w1, r2, rfl, h1, _⟩ := id t1
      have h1 : w1 = .str g.name := h1
      subst h1
      obtain ⟨sd14, hs14⟩ := hS14.ins
      have okg : PyData.strOk g.name = true := by
        have z : T.oks ((g :: rest).map Fn.enc) = true := okp
        simp only [List.map_cons, T.oks, Bool.and_eq_true] at z
        have z1 : T.oks [.w g.name, .l (g.ps.map T.w), g.body.enc] = true := z.1
        simp only [T.oks, Bool.and_eq_true] at z1
        exact z1.1
      refine ⟨_, rfl, x, _, dx, _, _, rfl, e14, C.c_Machine, C.n_Machine_store, rfl, B.self, sd14, _, rfl, hs14, rfl, _, rfl, a0, _, _, _, rfl, rfl, hsq0, atI_nat (j := 0) rfl, a1, _, _, _, rfl, rfl, hsq1, atI_nat (j := 0) rfl, B, S6, .w g.name, _, rfl, hS14, rfl, okg, by show 1 ≤ _; omega, by omega, fun nm S15 H15 hS15 fr15 ex15 l15 dnm => ?_⟩
      have hM15 := hM14.grow hS15 fr15 ex15
      have l15 : S15.length ≤ S6.length + 2 * 1 := l15
      obtain ⟨q1, q2, q3, q4⟩ := hS14.ne4 e14
      have e15 := fr15 _ _ e14 q1 q2 q3 q4
      have fx15 : ∀ b o, H b = some o → b ≠ x → H15 b = some o := fun b o e n => fr15 _ _ (fx14 b o e n) (ne_of_none e c1) (ne_of_none e c2) (ne_of_none e c3) (ne_of_none e c4)
      have hqi15 := fx15 _ _ hqi (ne_of hqi hx (by intro z; cases z))
      have tu15 := tu.mono (Tk.but ntx fx15)
      refine ⟨_, rfl, x, dx, _, rfl, e15, rfl, _, rfl, _, rfl, qi, rfl, ⟨_, SqL.of hqi15⟩, fun D3 nD3 => lc_list (xs := [vi]) (fun i H16 => ∃ (S16 : List Ent) (js : List Nat), H16 D3 = some (.lst (nums js)) ∧ StoreAt P w K B S16 H16 ∧ Fr4 B H15 H16 ∧ ExtS S15 S16 ∧ S16.length ≤ S15.length + 2 * u.parts * i ∧ js.length = i ∧ All2 (fun t n => Den S16 n t) ([u].take i) js) ⟨S15, [], upd_same, hS15.same (same_new nD3 _), .same (same_new nD3 _), .refl _, Nat.le_refl _, rfl, rfl⟩ (fun i H16 _ h => ?_) (fun i y H16 hy h => ?_) (fun H16 h => ?_)⟩
      · obtain ⟨S16, js, _, _, f16, _⟩ := h
        have nq : ∀ {c : Addr}, H c = none → qi ≠ c := fun h => ne_of_none hqi h
        exact SqL.of (f16 _ _ hqi15 (nq c1) (nq c2) (nq c3) (nq c4))
      · obtain ⟨S16, js, hD16, hS16, f16, ex16, l16, ljs, ajs⟩ := h
        have hi0 := (List.getElem?_eq_some_iff.mp hy).1
        simp only [List.length_cons, List.length_nil] at hi0
        have ei : i = 0 := by omega
        subst ei
        have ey : y = vi := (Option.some.inj hy).symm
        subst ey
        cases js with
        | cons a b => cases ljs
        | nil =>
          have nx : ∀ {c : Addr}, H c = none → x ≠ c := fun h => ne_of_none hx h
          have e16 := f16 _ _ e15 (nx c1) (nx c2) (nx c3) (nx c4)
          obtain ⟨sd16, hs16⟩ := hS16.ins
          have tk16 : Tk H15 H16 := Fr4.tk hS15 f16
          refine ⟨rfl, _, rfl, x, _, dx, _, _, rfl, e16, C.c_Machine, C.n_Machine_store, rfl, B.self, sd16, _, rfl, hs16, rfl, _, rfl, B, S16, u, _, rfl, hS16, tu15.mono tk16, oku, by omega, by omega, fun j S17 H17 hS17 fr17 ex17 l17 dj => ?_⟩
          have aD := hS15.ne nD3
          have hD17 := fr17 _ _ hD16 aD.2.1 aD.2.2.1 aD.2.2.2.1 aD.2.2.2.2
          refine ⟨_, hD17, by rw [nums_len]; exact line_lt (by simp), S17, [j], upd_same, hS17.upd aD (by rw [hD17]; exact NoTup.lst), (f16.trans fr17).new nD3, ex16.trans ex17, ?_, rfl, .one dj⟩
          omega
      · obtain ⟨S16, js, hD16, hS16, f16, ex16, l16, ljs, ajs⟩ := h
        refine ⟨D3, _, rfl, .inl ⟨SqL.of hD16, fun l nl => ?_⟩⟩
        have sm17 : Same H16 (upd H16 l (.tup (nums js))) := same_new nl _
        have hM17 := (hM15.grow hS16 f16 ex16).same sm17
        have hl17 : upd H16 l (.tup (nums js)) l = some (.tup (nums js)) := upd_same
        generalize upd H16 l (.tup (nums js)) = H17 at *
        have l16' : S16.length ≤ S15.length + 2 * u.parts * 1 := l16
        have nfl0 : H fl = none := by
          cases e : H fl with
          | none => rfl
          | some o =>
            rw [fx8 _ _ e xfl.symm] at nfl8
            cases nfl8
        have ntl0 : H tl = none := by
          cases e : H tl with
          | none => rfl
          | some o =>
            rw [fx8 _ _ e xtl.symm] at ntl8
            cases ntl8
        have nmm : ∀ b o, H b = some o → b ≠ x → b ∉ mset ⟨x, B, fn, kd, fl, tl, ny⟩ := fun b o e n => by
          unfold mset
          simp only [List.mem_cons, List.not_mem_nil, or_false, not_or]
          exact ⟨ne_of_none e c1, ne_of_none e c2, ne_of_none e c3, ne_of_none e c4, ne_of_none e nfl0, ne_of_none e ntl0, n⟩
        exact ⟨⟨x, B, fn, kd, fl, tl, ny⟩, g :: rest, S16, ⟨[], [], 0⟩, g.name, g, nm, l, js, [u], rfl, hM17, by show (if g.name = g.name then some g else _) = _; rw [if_pos rfl], dnm.ext ex16, hl17, ajs, by rw [lg]; rfl, by omega, Nat.zero_le _, fun H18 h1 h2 => q _ S16 H18 rfl h1 (fun b o e n => h2 _ _ (sm17 _ _ (f16 _ _ (fx15 _ _ e n) (ne_of_none e c1) (ne_of_none e c2) (ne_of_none e c3) (ne_of_none e c4))) (nmm b o e n)) nmm (by omega)⟩
  · obtain ⟨mv, h⟩ := F.kbinds0 (ps := ["self", "program", "inputs", "keeping"]) 3 ["keeping"] [] (fun us mv ws => us ++ ws) (by simp) (fun q hq => (List.not_mem_nil hq).elim) (fun r1 _ r3 => r1.append r3) (fun D doc pm an cdv ct us mv ws l1 l2 l3 => by
      match us, l1, mv, l2, ws, l3 with
      | [_, _, _], _, [], _, [_], _ => exact rfl)
    exact ⟨_, h⟩
end
end K35
end

section
set_option Elab.async false
set_option linter.all false
set_option maxRecDepth 100000
namespace K35
open PySem PySem.Spec PyProof.Rows L2
theorem sc_started : FnScope ["program", "inputs", "keeping"] ["program", "inputs", "keeping"] (defScope s_started) := ⟨rfl, rfl, rfl, by decide +kernel, rfl, by decide +kernel, by decide +kernel⟩
theorem sc_run_program : FnScope ["program", "inputs", "limit", "machine"] ["program", "inputs", "limit"] (defScope s_run_program) := ⟨rfl, rfl, rfl, by decide +kernel, rfl, by decide +kernel, by decide +kernel⟩
section
variable {P : Program} {w : World} {K : PySem.W.Frag} {mg : Str → Option Value} {base : Heap} (C : Ctx w K mg)
include C
def spStarted (P : Program) (w : World) (K : PySem.W.Frag) : Sp := fun vs H Q _ => ∃ (p : List Fn) (R0 : Nat) (g : Fn) (rest : List Fn) (qi : Addr) (u : T) (vp vi : L2.V), vs = [vp, .ref qi, .bl false] ∧ Good p R0 ∧ p = g :: rest ∧ g.ps.length = 1 ∧ TV K H (encP p) vp ∧ H qi = some (.lst [vi]) ∧ TV K H u vi ∧ (encP p).ok = true ∧ u.ok = true ∧ (encP p).parts ≤ 100000 ∧ p.length ≤ 1000 ∧ u.parts ≤ 100000 ∧
  ∀ (M : MA) (S' : List Ent) (H' : Hp), Same H H' → MachAt P w K M p S' ⟨[.ev g.body (g.ps.zip [u])], [], 0⟩ H' → H M.self = none → (∀ b o, H b = some o → b ∉ mset M) → S'.length ≤ 1000000 → Q (.ref M.self) H'
theorem ok_started : FOk P w K mg base 6 "started" ["program", "inputs", "keeping"] (spStarted P w K) := by
  have F_check_program := ok_check_program C (P := P) (base := base)
  have F_inputs_of := ok_inputs_of C (P := P) (base := base)
  obtain ⟨fM, fdM, FM, ⟨gM, KM⟩, MM⟩ := ok_mach_init C (P := P) (base := base)
  refine fok C.f_started C.g_started (fun _ _ _ _ _ _ us hl => match us, hl with | [_, _, _], _ => rfl) sc_started (fun vs H Q E h => ?_) (fun f cdv A outer s H vs Q E hr h => ?_)
  · obtain ⟨p, R0, g, rest, qi, u, vp, vi, rfl, _⟩ := h
    rfl
  obtain ⟨p, R0, g, rest, qi, u, vp, vi, rfl, G, rfl, lg, tp, hq, tu, okp, oku, lp, lp2, lu, q⟩ := h
  refine ⟨_, (pss_cons (ps_expr (pe_fn F_check_program (hr.mono (by decide)) (by rfl) (pa_cons (pv 0) pa_nil)))
  (pss_cons (ps_if (pt_cmpR op_ne (pe_callB call_len_seq (by rfl) C.z_len PySem.boot_len (pa_cons (pv 1) pa_nil)) (pe_fn F_inputs_of (hr.mono (by decide)) (by rfl) (pa_cons (pv 0) pa_nil)) (nomark _)) pss_never pss_nil)
  (pss_one (ps_ret (pe_makeK (n := 2) MM FM (hr.mono (by decide)) (by rfl) C.g_Machine KM pass0 (pa_cons (pv 0) (pa_cons (pv 1) pa_nil)) (pk_cons (pv 2) pk_nil)))))), ?_⟩
  refine ⟨_, rfl, g :: rest, R0, _, rfl, G, tp, by omega, lp2, fun H1 s1 => ?_⟩
  refine ⟨_, rfl, qi, _, rfl, .inl (SqL.of (s1 _ _ hq)), _, rfl, g :: rest, R0, g, rest, _, rfl, G, rfl, tp.mono (Tk.same s1), by omega, lp2, fun H2 s2 => ?_⟩
  have sm2 : Same H H2 := fun b o e => s2 _ _ (s1 _ _ e)
  refine ⟨rfl, _, rfl, ite_b (fun hb => ?_) (fun _ => ?_)⟩
  · exfalso
    have hb : (!decide (L2.V.int (([vi].length : Nat) : Int) = L2.V.int ((g.ps.length : Nat) : Int))) = true := hb
    rw [lg, show decide (L2.V.int (([vi].length : Nat) : Int) = L2.V.int ((1 : Nat) : Int)) = true from decide_eq_true rfl] at hb
    cases hb
  refine ⟨_, rfl, _, rfl, _, rfl, rfl, rfl, fun x dx nx ndx hne => ?_⟩
  have sm3 : Same H2 (upd (upd H2 dx (.own x)) x (.ins (He.ga K "Machine") dx [])) := fun b o e => by
    rw [upd_ne (ne_of_none e nx), upd_ne (ne_of_none e ndx), e]
  have sm : Same H (upd (upd H2 dx (.own x)) x (.ins (He.ga K "Machine") dx [])) := fun b o e => sm3 _ _ (sm2 _ _ e)
  refine ⟨x, dx, qi, g :: rest, g, rest, u, vp, vi, rfl, upd_same, rfl, tp.mono (Tk.same sm), sm _ _ hq, tu.mono (Tk.same sm), G.wf.nd, fun f hf => (G.pars f hf).1, lg, okp, oku, lp, lu, fun M S' H' eM hM fr nmm l1 => ⟨rfl, ?_⟩⟩
  subst eM
  have nx0 : H M.self = none := by
    cases e : H M.self with
    | none => rfl
    | some o =>
      rw [sm2 _ _ e] at nx
      cases nx
  exact q M S' H' (fun b o e => fr _ _ (sm _ _ e) (ne_of_none e nx0)) hM nx0 (fun b o e => nmm b o (sm _ _ e) (ne_of_none e nx0)) l1
def spRunP (K : PySem.W.Frag) : Sp := fun vs H Q _ => ∃ (p : List Fn) (R0 R : Nat) (g : Fn) (rest : List Fn) (qi : Addr) (u t : T) (vp vi : L2.V) (lim k n : Nat), vs = [vp, .ref qi, .int (lim : Int)] ∧ Good p R0 ∧ p = g :: rest ∧ g.ps.length = 1 ∧ TV K H (encP p) vp ∧ H qi = some (.lst [vi]) ∧ TV K H u vi ∧ (encP p).ok = true ∧ (encP p).parts ≤ 100000 ∧ p.length ≤ 1000 ∧ u.parts ≤ 100000 ∧
  R0 ≤ R ∧ 1 ≤ R ∧ u.fine R ∧ mit p k ⟨[.ev g.body (g.ps.zip [u])], [], 0⟩ = ⟨[], [t], n⟩ ∧ n ≤ lim ∧ k ≤ 100000 ∧ t.parts ≤ 200000 ∧ t.depth ≤ 200 ∧
  ∀ (r dx : Addr) (v : L2.V) (H' : Hp), Same H H' → H' r = some (.ins (He.ga K "Run") dx (rfields (.str "done") v (.int (n : Int)))) → TV K H' t v → Q (.ref r) H'
theorem ok_run_program : FOk P w K mg base 7 "run_program" ["program", "inputs", "limit"] (spRunP K) := by
  have F_started := ok_started C (P := P) (base := base)
  have M_go_on := ok_go_on C (P := P) (base := base)
  have M_is_done := ok_is_done C (P := P) (base := base)
  have M_is_great := ok_is_great C (P := P) (base := base)
  have M_result := ok_result C (P := P) (base := base)
  obtain ⟨fR, fdR, FR, BR, MR⟩ := ok_run_init C (P := P) (base := base)
  refine fok C.f_run_program C.g_run_program (fun _ _ _ _ _ _ us hl => match us, hl with | [_, _, _], _ => rfl) sc_run_program (fun vs H Q E h => ?_) (fun f cdv A outer s H vs Q E hr h => ?_)
  · obtain ⟨p, R0, R, g, rest, qi, u, t, vp, vi, lim, k, n, rfl, _⟩ := h
    rfl
  obtain ⟨p, R0, R, g, rest, qi, u, t, vp, vi, lim, k, n, rfl, G, rfl, lg, tp, hq, tu, okp, lp, lp2, lu, hR, h1R, hu, hrun, hn, hk, ht1, ht2, q⟩ := h
  refine ⟨_, (pss_cons (ps_set (i := 3) sc_run_program.nd rfl (Or.inl rfl) (pe_fn F_started (hr.mono (by decide)) (by rfl) (pa_cons (pv 0) (pa_cons (pv 1) (pa_cons pe_bl pa_nil)))))
  (pss_cons (ps_expr (pe_mt (pv 3) C.c_Machine M_go_on (hr.mono (by decide)) (pa_cons (pv 2) pa_nil)))
  (pss_cons (ps_if (PW.pt (pw_and (pt_val (pe_mt0 (pv 3) C.c_Machine M_is_done (hr.mono (by decide)))) (pw_and1 (pt_val (pe_mt0 (pv 3) C.c_Machine M_is_great (hr.mono (by decide))))))) (pss_one (ps_ret (pe_make MR FR (hr.mono (by decide)) (by rfl) C.g_Run BR .nil pass0 (pa_cons pe_str (pa_cons pe_non (pa_cons (pe_fld (pv 3) rfl) pa_nil)))))) pss_nil)
  (pss_cons (ps_if (pt_val (pe_mt0 (pv 3) C.c_Machine M_is_done (hr.mono (by decide)))) (pss_one (ps_ret (pe_make MR FR (hr.mono (by decide)) (by rfl) C.g_Run BR .nil pass0 (pa_cons pe_str (pa_cons (pe_mt0 (pv 3) C.c_Machine M_result (hr.mono (by decide))) (pa_cons (pe_fld (pv 3) rfl) pa_nil)))))) pss_nil)
  (pss_one (ps_ret (pe_make MR FR (hr.mono (by decide)) (by rfl) C.g_Run BR .nil pass0 (pa_cons pe_str (pa_cons pe_non (pa_cons (pv 2) pa_nil)))))))))), ?_⟩
  refine ⟨_, rfl, _, rfl, g :: rest, R0, g, rest, qi, u, vp, vi, rfl, G, rfl, lg, tp, hq, tu, okp, hu.1, lp, lp2, lu, fun M S1 H1 sm1 hM nM nmm l1 => ?_⟩
  obtain ⟨dx1, hi1⟩ := hM.ins
  have env1 : (g.ps.zip [u]).map (·.1) = g.ps := List.map_fst_zip (by rw [lg]; exact Nat.le_refl _)
  have hW : WfS (g :: rest) R0 R ⟨[.ev g.body (g.ps.zip [u])], [], 0⟩ := by
    refine ⟨fun t ht => ?_, fun v hv => (List.not_mem_nil hv).elim, rfl⟩
    rw [List.mem_singleton.mp ht]
    refine ⟨by rw [env1]; exact (G.wf.ok g (List.mem_cons_self ..)).2, fun q hq => ?_⟩
    have := (List.of_mem_zip hq).2
    rw [List.mem_singleton.mp this]
    exact hu
  refine ⟨_, rfl, M.self, dx1, _, rfl, hi1, rfl, _, rfl, M, g :: rest, S1, _, R0, R, k, n, t, lim, rfl, hM, G.wf, hR, h1R, hW, fun f hf => (G.wf.ok f hf).1, hrun, hn, by omega, by show 1 + 12 * k ≤ _; omega, by show 0 + k ≤ _; omega, Nat.zero_le _, by omega, fun S2 H2 hM2 fr2 l2 => ?_⟩
  have sm2 : Same H H2 := fun b o e => fr2 _ _ (sm1 _ _ e) (nmm b o e)
  obtain ⟨dx2, hi2⟩ := hM2.ins
  refine ⟨_, rfl, M.self, dx2, _, rfl, hi2, rfl, M, g :: rest, S2, _, rfl, hM2, rfl, _, rfl, ite_b (fun _ => ?_) (fun hb => nomatch hb)⟩
  refine ⟨_, rfl, M.self, dx2, _, rfl, hi2, rfl, M, g :: rest, S2, _, t, rfl, hM2, rfl, ht1, ht2, _, rfl, ite_b (fun hb => nomatch hb) (fun _ => ?_)⟩
  refine ⟨_, rfl, M.self, dx2, _, rfl, hi2, rfl, M, g :: rest, S2, _, rfl, hM2, rfl, _, rfl, ite_b (fun _ => ?_) (fun hb => nomatch hb)⟩
  refine ⟨_, rfl, M.self, dx2, _, rfl, hi2, rfl, M, g :: rest, S2, _, t, rfl, hM2, rfl, ht1, by omega, fun v H3 s3 tv => ?_⟩
  have hi3 := s3 _ _ hi2
  refine ⟨_, rfl, M.self, _, dx2, _, _, rfl, hi3, C.c_Machine, C.n_Machine_steps, rfl, fun r dxr nr ndr hne => ?_⟩
  have sm4 : Same H3 (upd (upd H3 dxr (.own r)) r (.ins (He.ga K "Run") dxr [])) := fun b o e => by
    rw [upd_ne (ne_of_none e nr), upd_ne (ne_of_none e ndr), e]
  refine ⟨r, dxr, _, _, _, rfl, upd_same, fun H5 h5 fr5 => ⟨rfl, ?_⟩⟩
  have s35 : Same H3 H5 := fun b o e => fr5 _ _ (sm4 _ _ e) (ne_of_none e nr)
  exact q r dxr v H5 (fun b o e => s35 _ _ (s3 _ _ (sm2 _ _ e))) h5 (tv.mono (Tk.same s35))
end
end K35
end

section
set_option Elab.async false
set_option linter.all false
set_option maxRecDepth 100000
/-! Renaming. -/
namespace K35
open PySem PySem.Spec PyProof.Rows L2
theorem sc_renamed_expression : FnScope ["expression", "names", "waiting", "made", "one", "is_ready", "word", "part", "_"] ["expression", "names"] (defScope s_renamed_expression) := ⟨rfl, rfl, rfl, by decide +kernel, rfl, by decide +kernel, by decide +kernel⟩
abbrev RE := K35.E × Bool
def E.kids : K35.E → List K35.E
  | .var _ => []
  | .quo _ => []
  | .ite a b c => [a, b, c]
  | .app _ as => as
def E.hdw : K35.E → Str
  | .var x => x
  | .quo _ => "quote"
  | .ite _ _ _ => "if"
  | .app w _ => w
def E.isNode : K35.E → Bool
  | .var _ => false
  | .quo _ => false
  | _ => true
theorem node_enc {e : K35.E} (h : e.isNode = true) : e.enc = .l (.w e.hdw :: K35.E.encs e.kids) := by
  cases e with
  | var x => cases h
  | quo v => cases h
  | ite a b c => rfl
  | app w as => rfl
theorem node_nodes {e : K35.E} (h : e.isNode = true) : e.nodes = 1 + K35.E.nodess e.kids := by
  cases e with
  | var x => cases h
  | quo v => cases h
  | ite a b c =>
    show 1 + a.nodes + b.nodes + c.nodes = 1 + (a.nodes + (b.nodes + (c.nodes + 0)))
    omega
  | app w as => rfl
theorem node_ren {e : K35.E} (ρ : Str → Str) (h : e.isNode = true) : (e.ren ρ).enc = .l (.w (if isSpecial e.hdw then e.hdw else ρ e.hdw) :: K35.E.encs (e.kids.map (K35.E.ren ρ))) := by
  cases e with
  | var x => cases h
  | quo v => cases h
  | ite a b c => rfl
  | app w as =>
    show T.l (_ :: K35.E.encs (K35.E.rens ρ as)) = _
    rw [K35.E.rens_map]
    rfl
theorem leaf_ren {e : K35.E} (ρ : Str → Str) (h : e.isNode = false) : e.ren ρ = e := by
  cases e with
  | var x => rfl
  | quo v => rfl
  | ite a b c => cases h
  | app w as => cases h
theorem kids_wf {cs : Sig} {R : Nat} {ps : List Str} {e : K35.E} (h : WfE cs R ps e) : ∀ c ∈ e.kids, WfE cs R ps c := by
  cases e with
  | var x => exact fun c hc => (List.not_mem_nil hc).elim
  | quo v => exact fun c hc => (List.not_mem_nil hc).elim
  | ite a b c =>
    intro d hd
    simp only [E.kids, List.mem_cons, List.not_mem_nil, or_false] at hd
    rcases hd with e | e | e <;> subst e
    · exact h.1
    · exact h.2.1
    · exact h.2.2
  | app w as => exact fun c hc => h.2.2.mem hc
def rmu : List RE → Nat
  | [] => 0
  | (e, b) :: r => (if b then 1 else 2 * e.nodes) + rmu r
theorem rmu_app : ∀ (a b : List RE), rmu (a ++ b) = rmu a + rmu b
  | [], b => (Nat.zero_add _).symm
  | (t, x) :: a, b => by
    show _ + rmu (a ++ b) = _ + rmu a + rmu b
    rw [rmu_app a b, Nat.add_assoc]
theorem rmu_map : ∀ xs : List K35.E, rmu (xs.map (·, false)) = 2 * K35.E.nodess xs
  | [] => rfl
  | x :: xs => by
    show 2 * x.nodes + rmu (xs.map (·, false)) = 2 * (x.nodes + K35.E.nodess xs)
    rw [rmu_map xs]
    omega
theorem rlen_le : ∀ g : List RE, g.length ≤ rmu g
  | [] => Nat.le_refl _
  | (e, b) :: r => by
    have q := rlen_le r
    have p := K35.E.nodes_pos e
    show r.length + 1 ≤ (if b = true then 1 else 2 * e.nodes) + rmu r
    cases b
    · show r.length + 1 ≤ 2 * e.nodes + rmu r
      omega
    · show r.length + 1 ≤ 1 + rmu r
      omega
def RFin (ρ : Str → Str) (t : K35.E) : List RE → List K35.E → Prop
  | [], m => m = [t]
  | (e, false) :: r, m => RFin ρ t r (e.ren ρ :: m)
  | (e, true) :: r, m => e.isNode = true ∧ ∃ m', m = e.kids.map (K35.E.ren ρ) ++ m' ∧ RFin ρ t r (e.ren ρ :: m')
theorem RFin.push {ρ : Str → Str} {t : K35.E} : ∀ (xs : List K35.E) {r : List RE} {m : List K35.E}, RFin ρ t (xs.map (·, false) ++ r) m ↔ RFin ρ t r ((xs.map (K35.E.ren ρ)).reverse ++ m)
  | [], _, _ => Iff.rfl
  | x :: xs, r, m => by
    show RFin ρ t (xs.map (·, false) ++ r) (x.ren ρ :: m) ↔ _
    rw [RFin.push xs, List.map_cons, List.reverse_cons, List.append_assoc]
    exact Iff.rfl
def RwR (K : PySem.W.Frag) (H : Hp) : RE → L2.V → Prop := fun e v => ∃ q u, v = .ref q ∧ SqT K H q [u, .bl e.2] ∧ TV K H e.1.enc u
theorem RwR.mono {K : PySem.W.Frag} {H H' : Hp} (k : Tk H H') {e : RE} {v : L2.V} : RwR K H e v → RwR K H' e v := fun ⟨q, u, h1, h2, h3⟩ => ⟨q, u, h1, k.sqt h2, h3.mono k⟩
def REnc (K : PySem.W.Frag) (H : Hp) : K35.E → L2.V → Prop := fun e u => TV K H e.enc u
theorem all2_encs {K : PySem.W.Frag} {H : Hp} : ∀ {cs : List K35.E} {us : List L2.V}, TVs K H (K35.E.encs cs) us → All2 (REnc K H) cs us
  | [], _, h => h
  | _ :: _, _, ⟨v, r, e, h, t⟩ => ⟨v, r, e, h, all2_encs t⟩
theorem encs_all2 {K : PySem.W.Frag} {H : Hp} : ∀ {cs : List K35.E} {us : List L2.V}, All2 (REnc K H) cs us → TVs K H (K35.E.encs cs) us
  | [], _, h => h
  | _ :: _, _, ⟨v, r, e, h, t⟩ => ⟨v, r, e, h, encs_all2 t⟩
theorem special_in (w : Str) : inV (.str w) (specials.map L2.V.str) = isSpecial w := inV_strs w specials
section
variable {P : Program} {w : World} {K : PySem.W.Frag} {mg : Str → Option Value} {base : Heap} (C : Ctx w K mg)
include C
def spRenE (K : PySem.W.Frag) : Sp := fun vs H Q _ => ∃ (e : K35.E) (cs : Sig) (R : Nat) (ps : List Str) (ρ : Str → Str) (D : Addr) (kvs : KV) (v : L2.V), vs = [v, .ref D] ∧ TV K H e.enc v ∧ WfE cs R ps e ∧ H D = some (.dK kvs) ∧ (∀ q ∈ cs, valV kvs (kInr q.1) = some (.str (ρ q.1))) ∧ e.nodes ≤ 1000000 ∧
  ∀ v H', Same H H' → TV K H' (e.ren ρ).enc v → Q v H'
structure RenInv (K : PySem.W.Frag) (cs : Sig) (R : Nat) (ps : List Str) (ρ : Str → Str) (e0 : K35.E) (H0 : Hp) (wl ml : Addr) (g : List RE) (md : List K35.E) (H : Hp) : Prop where
  sm : Same H0 H
  w : ∃ vs, H wl = some (.lst vs.reverse) ∧ All2 (RwR K H) g vs
  m : ∃ vs, H ml = some (.lst vs.reverse) ∧ All2 (REnc K H) md vs
  fin : RFin ρ (e0.ren ρ) g md
  wf : ∀ x ∈ g, WfE cs R ps x.1
  len : md.length + rmu g ≤ 2 * e0.nodes
def renW (K : PySem.W.Frag) (cs : Sig) (R : Nat) (ps : List Str) (ρ : Str → Str) (e0 : K35.E) (H0 : Hp) (wl ml D : Addr) (v : L2.V) : Nat → L2.St → Hp → Prop := fun m σ H => ∃ (g : List RE) (md : List K35.E) (o4 o5 o6 o7 o8 : Option L2.V),
  σ = [some v, some (.ref D), some (.ref wl), some (.ref ml), o4, o5, o6, o7, o8] ∧ RenInv K cs R ps ρ e0 H0 wl ml g md H ∧ m = rmu g
theorem ok_renamed_expression : FOk P w K mg base 1 "renamed_expression" ["expression", "names"] (spRenE K) := by
  refine fok C.f_renamed_expression C.g_renamed_expression (fun _ _ _ _ _ _ us hl => match us, hl with | [_, _], _ => rfl) sc_renamed_expression (fun vs H Q E h => ?_) (fun f cdv A outer s H vs Q E hr h => ?_)
  · obtain ⟨e, cs, R, ps, ρ, D, kvs, v, rfl, _⟩ := h
    rfl
  obtain ⟨e0, cs, R, ps, ρ, D, kvs, v, rfl, tv, hW, hD, hn, ln, q⟩ := h
  refine ⟨_, (pss_cons (ps_set (i := 2) sc_renamed_expression.nd rfl (Or.inl rfl) (pe_lst (pa_cons (pe_tup (pa_cons (pv 0) (pa_cons pe_bl pa_nil))) pa_nil)))
  (pss_cons (ps_set (i := 3) sc_renamed_expression.nd rfl (Or.inr rfl) (pe_lst pa_nil))
  (pss_cons (ps_while PassesOwn.never (pt_cmpR op_gt (pe_callB call_len_seq (by rfl) C.z_len PySem.boot_len (pa_cons (pv 2) pa_nil)) pe_int (nomark _)) (pss_cons (ps_asg (pe_bm0 PySem.F.plainAttrs_list PySem.F.slot_list_pop PySem.F.type_list_pop mt_pop (pv 2)) (pg_tup rfl (pgs_cons (pg_name (i := 4) sc_renamed_expression.nd rfl (Or.inl rfl)) (pgs_cons (pg_name (i := 5) sc_renamed_expression.nd rfl (Or.inl rfl)) pgs_nil))))
  (pss_one (ps_if (PW.pt (pw_or (pt_val (pe_callB call_isS (by rfl) C.z_isinstance (by decide +kernel) (pa_cons (pv 4) (pa_cons (pe_bltn (v := .ty "str") (by rfl) C.z_str (by decide +kernel) rfl) pa_nil)))) (pw_or1 (pt_cmpR op_eq (pe_ix ix_tup (pv 4) pe_int (fun _ _ => rfl)) pe_str (nomark _))))) (pss_one (ps_expr (pe_bm PySem.F.plainAttrs_list PySem.F.slot_list_append PySem.F.type_list_append mt_append (pv 3) (pa_cons (pv 4) pa_nil)))) (pss_one (ps_if (pt_not (pt_val (pv 5))) (pss_cons (ps_expr (pe_bm PySem.F.plainAttrs_list PySem.F.slot_list_append PySem.F.type_list_append mt_append (pv 2) (pa_cons (pe_tup (pa_cons (pv 4) (pa_cons pe_bl pa_nil))) pa_nil)))
  (pss_one (ps_expr (pe_bm PySem.F.plainAttrs_list PySem.F.slot_list_extend PySem.F.type_list_extend mt_extend (pv 2) (pa_cons (pe_lc  (own := [("part", 7)]) (g := gName 7) (by rfl) sc_renamed_expression.nd (pi_tup (pe_slice sl_tup (pv 4) (po_some pe_int) po_none)) (blkOk_by (own := [("part", 7)]) (N := ["expression", "names", "waiting", "made", "one", "is_ready", "word", "part", "_"]) (sc := defScope s_renamed_expression) (by decide +kernel)) (fun _ _ _ _ _ => pg_name (i := 7) sc_renamed_expression.nd rfl (Or.inl rfl)) (fun _ _ _ _ _ => pts_nil) (fun _ _ _ _ _ => (pe_tup (pa_cons (pv 7) (pa_cons pe_bl pa_nil))))) pa_nil))))) (pss_cons (ps_set (i := 6) sc_renamed_expression.nd rfl (Or.inl rfl) (pe_ifExp (pt_cmpR op_in_seq (pe_ix ix_tup (pv 4) pe_int (fun _ _ => rfl)) (pe_glob (v := .ref _) (by rfl) C.g_SPECIAL rfl) (by rfl)) (pe_ix ix_tup (pv 4) pe_int (fun _ _ => rfl)) (pe_dget (hu_of hr) (pv 1) (pe_ix ix_tup (pv 4) pe_int (fun _ _ => rfl)) (fun _ _ => rfl))))
  (pss_one (ps_expr (pe_bm PySem.F.plainAttrs_list PySem.F.slot_list_append PySem.F.type_list_append mt_append (pv 3) (pa_cons (pe_op op_catT (pe_tup (pa_cons (pv 6) pa_nil)) (pe_callTy call_tuple_of (by rfl) C.z_tuple (by decide +kernel) (pa_cons (pe_lc (te := tBM0 K "list" rPop (tVar 3)) (own := [("_", 8)]) (g := gName 8) (by rfl) sc_renamed_expression.nd (pi_tup (pe_slice sl_tup (pv 4) (po_some pe_int) po_none)) (blkOk_by (own := [("_", 8)]) (N := ["expression", "names", "waiting", "made", "one", "is_ready", "word", "part", "_"]) (sc := defScope s_renamed_expression) (by decide +kernel)) (fun _ _ _ _ _ => pg_name (i := 8) sc_renamed_expression.nd rfl (Or.inl rfl)) (fun _ _ _ _ _ => pts_nil) (fun _ _ _ _ _ => (pe_bm0 PySem.F.plainAttrs_list PySem.F.slot_list_pop PySem.F.type_list_pop mt_pop (pv 3)))) pa_nil))) pa_nil)))))))))))
  (pss_one (ps_ret (pe_ix ix_list (pv 3) pe_int (fun _ _ => rfl))))))), ?_⟩
  refine ⟨_, rfl, by show 2 ≤ sizeLine; decide, fun p0 n0 => ⟨by show 1 ≤ sizeLine; decide, fun wl nw => ⟨Nat.zero_le _, fun ml nm => ?_⟩⟩⟩
  obtain ⟨nw0, nwp⟩ := upd_none nw
  obtain ⟨nm1, nmw⟩ := upd_none nm
  obtain ⟨nm0, nmp⟩ := upd_none nm1
  have s3 : Same H (upd (upd (upd H p0 (HO.tup [v, V.bl false])) wl (HO.lst [V.ref p0])) ml (HO.lst [])) := fun b o e => by
    rw [upd_ne (ne_of_none e nm0), upd_ne (ne_of_none e nw0), upd_ne (ne_of_none e n0)]
    exact e
  refine ⟨renW K cs R ps ρ e0 H wl ml D v, ⟨_, [(e0, false)], [], _, _, _, _, _, rfl, ⟨s3, ⟨[.ref p0], ?_, .one ⟨p0, v, rfl, .inl (.of ?_), tv.mono (Tk.same s3)⟩⟩, ⟨[], upd_same, rfl⟩, rfl, fun x hx => by rw [List.mem_singleton.mp hx]; exact hW, Nat.le_of_eq (by show 0 + (2 * e0.nodes + 0) = _; omega)⟩, rfl⟩, ?_⟩
  · rw [upd_ne nmw.symm, upd_same] <;> rfl
  · rw [upd_ne nmp.symm, upd_ne nwp.symm, upd_same]
  clear s3
  rintro m σ H1 ⟨g, md, o4, o5, o6, o7, o8, rfl, I, rfl⟩
  obtain ⟨vs, hw, aws⟩ := I.w
  obtain ⟨ms, hm, ams⟩ := I.m
  have lg := rlen_le g
  have lln := I.len
  have lvs := aws.length
  have lms := ams.length
  refine ⟨_, rfl, wl, _, rfl, .inl (SqL.of hw), _, _, rfl, rfl, _, rfl, ?_⟩
  cases g with
  | nil =>
    have e : vs = [] := aws
    subst e
    refine ite_b (fun hb => by simp at hb) (fun _ => ?_)
    have e2 : md = [e0.ren ρ] := I.fin
    subst e2
    obtain ⟨u, r, rfl, hd, e3⟩ := ams
    have e4 : r = [] := e3
    subst e4
    exact ⟨_, rfl, ml, _, _, _, rfl, rfl, SqL.of hm, rfl, q u H1 I.sm hd⟩
  | cons e r =>
    obtain ⟨e, b⟩ := e
    obtain ⟨x, vs, rfl, ⟨qa, z, rfl, hq, hz⟩, aws⟩ := aws
    refine ite_b (fun _ => ⟨_, fun _ _ h => h, ?_⟩) (fun hb => by simp at hb)
    refine ⟨_, rfl, .inl ⟨rfl, _, SqL.of hw⟩, wl, _, _, rfl, rfl, hw, rev_last, ?_⟩
    rw [rev_dropLast]
    have ntw : NoTup (H1 wl) := by rw [hw]; exact NoTup.lst
    have k2 : Tk H1 (upd H1 wl (.lst vs.reverse)) := Tk.upd ntw
    have sm2 : Same H (upd H1 wl (.lst vs.reverse)) := fun b o e => (upd_ne (ne_of_none e nw0)).trans (I.sm _ _ e)
    have hw2 : upd H1 wl (.lst vs.reverse) wl = some (.lst vs.reverse) := upd_same
    have hm2 : upd H1 wl (.lst vs.reverse) ml = some (.lst ms.reverse) := (upd_ne nmw).trans hm
    generalize upd H1 wl (.lst vs.reverse) = H2 at *
    have aws2 : All2 (RwR K H2) r vs := aws.mono fun _ _ h => h.mono k2
    have ams2 : All2 (REnc K H2) md ms := ams.mono fun _ _ h => TV.mono k2 h
    have hz2 : TV K H2 e.enc z := hz.mono k2
    have hq2 := k2.sqt hq
    refine ⟨qa, _, rfl, hq2, rfl, _, _, rfl, _, _, rfl, rfl, ?_⟩
    have hwe : WfE cs R ps e := I.wf (e, b) (List.mem_cons_self ..)
    have hwr : ∀ x ∈ r, WfE cs R ps x.1 := fun x hx => I.wf x (List.mem_cons_of_mem _ hx)
    have emu : rmu ((e, b) :: r) = (if b = true then 1 else 2 * e.nodes) + rmu r := rfl
    have npos := K35.E.nodes_pos e
    have ntm : NoTup (H2 ml) := by rw [hm2]; exact NoTup.lst
    -- a leaf goes over as it is
    have leaf : e.isNode = false → ∀ {o4 o5 o6 o7 o8 : Option L2.V}, ∃ m', m' < rmu ((e, b) :: r) ∧ renW K cs R ps ρ e0 H wl ml D v m' [some v, some (.ref D), some (.ref wl), some (.ref ml), o4, o5, o6, o7, o8] (upd H2 ml (.lst (ms.reverse ++ [z]))) := by
      intro hl o4 o5 o6 o7 o8
      have fin : RFin ρ (e0.ren ρ) r (e :: md) := by
        have f := I.fin
        cases b with
        | false =>
          have f : RFin ρ (e0.ren ρ) r (e.ren ρ :: md) := f
          rw [leaf_ren ρ hl] at f
          exact f
        | true =>
          have f := f.1
          rw [hl] at f
          cases f
      refine ⟨rmu r, by rw [emu]; split <;> omega, r, e :: md, o4, o5, o6, o7, o8, rfl, ⟨fun b o e => (upd_ne (ne_of_none e nm0)).trans (sm2 _ _ e), ⟨vs, (upd_ne nmw.symm).trans hw2, aws2.mono fun _ _ h => h.mono (Tk.upd ntm)⟩, ⟨z :: ms, by rw [upd_same, List.reverse_cons], .cons (TV.mono (Tk.upd ntm) hz2) (ams2.mono fun _ _ h => TV.mono (Tk.upd ntm) h)⟩, fin, hwr, ?_⟩, rfl⟩
      have z2 : md.length + rmu ((e, b) :: r) ≤ 2 * e0.nodes := lln
      rw [emu] at z2
      simp only [List.length_cons]
      split at z2 <;> omega
    have lm : md.length ≤ 2000000 := by omega
    by_cases hnode : e.isNode = true
    · have hq0 : e.hdw ≠ "quote" := by
        cases e with
        | var x => cases hnode
        | quo v => cases hnode
        | ite a b c => exact (by decide +kernel : ("if" : Str) ≠ "quote")
        | app w1 as =>
          rcases hwe.2.1 with ⟨hp, _⟩ | ⟨hs, _⟩
          · rcases plain_cases hp with e | e | e | e | e <;> subst e
            · exact (by decide +kernel : ("same" : Str) ≠ "quote")
            · exact (by decide +kernel : ("word" : Str) ≠ "quote")
            · exact (by decide +kernel : ("head" : Str) ≠ "quote")
            · exact (by decide +kernel : ("tail" : Str) ≠ "quote")
            · exact (by decide +kernel : ("join" : Str) ≠ "quote")
          · exact (special_ne hs).1
      have ez := node_enc hnode
      rw [ez] at hz2
      obtain ⟨a, us, rfl, ha, tus⟩ := id hz2
      obtain ⟨z0, us, rfl, t0, tus⟩ := tus
      have t0 : z0 = .str e.hdw := t0
      subst t0
      have aus := all2_encs tus
      have lus := aus.length
      have enod := node_nodes hnode
      have lkn := nodess_len e.kids
      refine ⟨_, rfl, _, _, rfl, hz2, _, rfl, ite_b (fun hb => nomatch hb) (fun _ => ?_)⟩
      refine ⟨_, rfl, a, _, _, _, rfl, rfl, ha, atI_nat (j := 0) rfl, rfl, _, rfl, ite_b (fun hb => absurd (L2.V.str.inj (of_decide_eq_true hb)) hq0) (fun _ => ?_)⟩
      have prop : ¬ (HT.sIx (L2.V.str e.hdw :: us).length 0 (some 1) = 0 ∧ HT.sIx (L2.V.str e.hdw :: us).length (L2.V.str e.hdw :: us).length none = (L2.V.str e.hdw :: us).length) := fun z => by
        have z1 := z.1
        rw [show (1 : Int) = ((1 : Nat) : Int) from rfl, HT.sIx_nat, List.length_cons] at z1
        omega
      have ecut : cutV (L2.V.str e.hdw :: us) (some 1) none = us := cut_from (L2.V.str e.hdw :: us) 1
      cases b with
      | false =>
        have emu : rmu ((e, false) :: r) = 2 * e.nodes + rmu r := rfl
        refine ⟨_, rfl, _, rfl, ite_b (fun _ => ?_) (fun hb => nomatch hb)⟩
        refine ⟨_, rfl, .inl ⟨rfl, _, SqL.of hw2⟩, _, rfl, by show 2 ≤ sizeLine; decide, fun p np => ?_⟩
        have s3 : Same H2 (upd H2 p (.tup [.ref a, .bl true])) := same_new np _
        have hp3 : upd H2 p (.tup [.ref a, .bl true]) p = some (.tup [.ref a, .bl true]) := upd_same
        generalize upd H2 p (.tup [.ref a, .bl true]) = H3 at *
        have k3 := Tk.same s3
        have hw3 := s3 _ _ hw2
        have hm3 := s3 _ _ hm2
        have ntw3 : NoTup (H3 wl) := by rw [hw3]; exact NoTup.lst
        simp only [List.length_cons] at lg lvs
        refine ⟨wl, _, _, rfl, rfl, hw3, by rw [List.length_reverse]; exact line_lt (by omega), ?_⟩
        have k4 : Tk H3 (upd H3 wl (.lst (vs.reverse ++ [.ref p]))) := Tk.upd ntw3
        have sm4 : Same H (upd H3 wl (.lst (vs.reverse ++ [.ref p]))) := fun b o e => (upd_ne (ne_of_none e nw0)).trans (s3 _ _ (sm2 _ _ e))
        have hw4 : upd H3 wl (.lst (vs.reverse ++ [.ref p])) wl = some (.lst (vs.reverse ++ [.ref p])) := upd_same
        have hm4 : upd H3 wl (.lst (vs.reverse ++ [.ref p])) ml = some (.lst ms.reverse) := (upd_ne nmw).trans hm3
        have hp4 : SqT K (upd H3 wl (.lst (vs.reverse ++ [.ref p]))) p [.ref a, .bl true] := k4.sqt (.inl (.of hp3))
        generalize upd H3 wl (.lst (vs.reverse ++ [.ref p])) = H4 at *
        have k24 := k3.trans k4
        have ha4 := k24.sqt ha
        have aus4 : All2 (REnc K H4) e.kids us := aus.mono fun _ _ h => TV.mono k24 h
        refine ⟨_, rfl, .inl ⟨rfl, _, SqL.of hw4⟩, _, rfl, _, rfl, a, _, rfl, ha4, prop, fun pS npS => ?_⟩
        rw [ecut]
        have sm5 : Same H4 (upd H4 pS (.tup us)) := same_new npS _
        have hp5 : upd H4 pS (.tup us) pS = some (.tup us) := upd_same
        generalize upd H4 pS (.tup us) = H5 at *
        have k5 := Tk.same sm5
        refine ⟨pS, rfl, ⟨us, SqT.of hp5⟩, fun D2 nD2 => lc_tup (xs := us) (fun i H6 => (∃ acc, H6 D2 = some (.lst acc) ∧ All2 (RwR K H6) ((e.kids.take i).map (·, false)) acc) ∧ Same H5 H6) ⟨⟨[], upd_same, rfl⟩, same_new nD2 _⟩ (fun i H6 _ h => (Tk.same h.2).sqt (SqT.of hp5)) (fun i y H6 hy h => ?_) (fun H6 h => ?_)⟩
        · obtain ⟨⟨acc, hacc, a2⟩, sm⟩ := h
          refine ⟨rfl, _, rfl, by show 2 ≤ sizeLine; decide, fun p2 np2 => ?_⟩
          have s7 : Same H6 (upd H6 p2 (.tup [y, .bl false])) := same_new np2 _
          have hi := (List.getElem?_eq_some_iff.mp hy).1
          have hix : i < e.kids.length := by omega
          obtain ⟨y', hy', ty⟩ := aus4.get (List.getElem?_eq_getElem hix)
          rw [hy] at hy'
          cases hy'
          have lacc := a2.length
          rw [List.length_map, List.length_take] at lacc
          have ntd : NoTup (upd H6 p2 (.tup [y, .bl false]) D2) := by rw [s7 _ _ hacc]; exact NoTup.lst
          refine ⟨acc, s7 _ _ hacc, line_lt (by omega), ⟨⟨_, upd_same, ?_⟩, fun b o e => ?_⟩⟩
          · have et : e.kids.take (i + 1) = e.kids.take i ++ [e.kids[i]] := by
              rw [List.take_succ, List.getElem?_eq_getElem hix]
              rfl
            rw [et, List.map_append]
            have k7 : Tk H6 (upd (upd H6 p2 (.tup [y, .bl false])) D2 (.lst (acc ++ [.ref p2]))) := (Tk.same s7).trans (Tk.upd ntd)
            exact (a2.mono fun _ _ h => h.mono k7).snoc ⟨p2, y, rfl, (Tk.upd ntd).sqt (.inl (.of upd_same)), TV.mono ((k5.trans (Tk.same sm)).trans k7) ty⟩
          · rw [upd_ne (ne_of_none e nD2)]
            exact s7 _ _ (sm _ _ e)
        · obtain ⟨⟨acc, hacc, a2⟩, sm⟩ := h
          rw [lus, List.take_length] at a2
          have lacc := a2.length
          rw [List.length_map] at lacc
          have sm46 : Same H4 H6 := fun b o e => sm _ _ (sm5 _ _ e)
          have hw6 := sm46 _ _ hw4
          have hm6 := sm46 _ _ hm4
          have ntw6 : NoTup (H6 wl) := by rw [hw6]; exact NoTup.lst
          have k7 : Tk H6 (upd H6 wl (.lst (vs.reverse ++ [.ref p] ++ acc))) := Tk.upd ntw6
          have k47 := (Tk.same sm46).trans k7
          have z2 : md.length + (2 * e.nodes + rmu r) ≤ 2 * e0.nodes := lln
          have e1 : rmu ((e.kids.map (·, false)).reverse ++ (e, true) :: r) = 2 * K35.E.nodess e.kids + (1 + rmu r) := by
            rw [rmu_app, ← List.map_reverse, rmu_map, nodess_rev] <;> rfl
          refine ⟨wl, D2, _, acc, rfl, rfl, hw6, hacc, ?_, rmu ((e.kids.map (·, false)).reverse ++ (e, true) :: r), by omega, (e.kids.map (·, false)).reverse ++ (e, true) :: r, md, _, _, _, _, _, rfl, ⟨fun b o e => (upd_ne (ne_of_none e nw0)).trans (sm46 _ _ (sm4 _ _ e)), ⟨acc.reverse ++ .ref p :: vs, ?_, ?_⟩, ⟨ms, (upd_ne nmw).trans hm6, ams2.mono fun _ _ h => TV.mono (k24.trans k47) h⟩, ?_, fun x hx => ?_, by omega⟩, rfl⟩
          · rw [List.length_append, List.length_reverse, List.length_singleton]
            exact line_le (by omega)
          · rw [upd_same]
            simp
          · exact ((a2.reverse).mono fun _ _ h => h.mono k7).append (.cons ⟨p, .ref a, rfl, k47.sqt hp4, by rw [ez]; exact hz2.mono (k24.trans k47)⟩ (aws2.mono fun _ _ h => (h.mono k24).mono k47))
          · rw [← List.map_reverse, RFin.push, List.map_reverse, List.reverse_reverse]
            exact ⟨hnode, md, rfl, I.fin⟩
          · rcases List.mem_append.mp hx with hx | hx
            · obtain ⟨c, hc, rfl⟩ := List.mem_map.mp (List.mem_reverse.mp hx)
              exact kids_wf hwe c hc
            · rcases List.mem_cons.mp hx with rfl | hx
              · exact hwe
              · exact hwr x hx
      | true =>
        refine ⟨_, rfl, _, rfl, ite_b (fun hb => nomatch hb) (fun _ => ?_)⟩
        obtain ⟨_, md', emd, fin⟩ := I.fin
        subst emd
        obtain ⟨m1, m2, rfl, am1, am2⟩ := ams2.split
        have l1 := am1.length
        rw [List.length_map] at l1
        have hmore := C.says.more
        obtain ⟨hsp, _⟩ := He.ba hmore
        obtain ⟨w', ew'⟩ : ∃ w', w' = if isSpecial e.hdw = true then e.hdw else ρ e.hdw := ⟨_, rfl⟩
        have dvs : (specials.map He.Dv.str).map (He.Dv.v K) = specials.map L2.V.str := by rw [List.map_map]; rfl
        have hword : isSpecial e.hdw = false → valV kvs (kInr e.hdw) = some (.str (ρ e.hdw)) := fun hs => by
          cases e with
          | var x => cases hnode
          | quo v => cases hnode
          | ite a b c => exact absurd hs (show ¬ isSpecial ("if" : Str) = false by decide +kernel)
          | app w1 as =>
            rcases hwe.2.1 with ⟨hp, _⟩ | ⟨_, hm⟩
            · have hs' : isSpecial w1 = false := hs
              rw [plain_special hs'] at hp
              cases hp
            · exact hn _ hm
        have lm1 : m1.length ≤ 2000000 := by
          simp only [List.length_append, List.length_map] at lm
          omega
        have wordstep : ∀ {o6 o7 o8 : Option L2.V} {Q' : L2.V → Hp → Prop}, Q' (.str w') H2 → tIf (tTest (tOp (rIn K false) (tOp (rIxT K) (tVar 4) (tC (.int 0))) (tC (.ref (He.ga K "SPECIAL"))))) (tOp (rIxT K) (tVar 4) (tC (.int 0))) (tDGet (tVar 1) (tOp (rIxT K) (tVar 4) (tC (.int 0)))) [some v, some (.ref D), some (.ref wl), some (.ref ml), some (.ref a), some (.bl true), o6, o7, o8] H2 Q' := by
          intro o6 o7 o8 Q' hQ
          refine ⟨_, rfl, a, _, _, _, rfl, rfl, ha, atI_nat (j := 0) rfl, _, _, rfl, .inr (He.tupB_ok hsp H2), rfl, by rw [dvs]; exact flat_strs _, _, rfl, ite_b (fun hb => ?_) (fun hb => ?_)⟩
          · have hb : inV (.str e.hdw) ((specials.map He.Dv.str).map (He.Dv.v K)) = true := hb
            rw [dvs, special_in] at hb
            rw [if_pos hb] at ew'
            subst ew'
            exact ⟨_, rfl, a, _, _, _, rfl, rfl, ha, atI_nat (j := 0) rfl, hQ⟩
          · have hb : inV (.str e.hdw) ((specials.map He.Dv.str).map (He.Dv.v K)) = false := hb
            rw [dvs, special_in] at hb
            rw [if_neg (by rw [hb]; exact Bool.noConfusion)] at ew'
            subst ew'
            have gd := DGet.k (k := kInr e.hdw) (sm2 _ _ hD)
            rw [hword hb] at gd
            exact ⟨_, rfl, _, rfl, a, _, _, _, rfl, rfl, ha, atI_nat (j := 0) rfl, D, _, rfl, gd, hQ⟩
        refine wordstep ?_
        refine ⟨_, rfl, .inl ⟨rfl, _, SqL.of hm2⟩, _, rfl, by show 1 ≤ sizeLine; decide, fun pw npw => ?_⟩
        have s3 : Same H2 (upd H2 pw (.tup [.str w'])) := same_new npw _
        have hw3 : upd H2 pw (.tup [.str w']) pw = some (.tup [.str w']) := upd_same
        generalize upd H2 pw (.tup [.str w']) = H3 at *
        refine ⟨_, rfl, _, rfl, a, _, rfl, (Tk.same s3).sqt ha, prop, fun pS npS => ?_⟩
        rw [ecut]
        have s4 : Same H3 (upd H3 pS (.tup us)) := same_new npS _
        have hp4 : upd H3 pS (.tup us) pS = some (.tup us) := upd_same
        generalize upd H3 pS (.tup us) = H4 at *
        have s24 : Same H2 H4 := fun b o e => s4 _ _ (s3 _ _ e)
        have hm4 := s24 _ _ hm2
        have nt4 : NoTup (H4 ml) := by rw [hm4]; exact NoTup.lst
        refine ⟨pS, rfl, ⟨us, SqT.of hp4⟩, fun D2 nD2 => lc_tup (xs := us) (fun i H5 => H5 D2 = some (.lst (m1.take i)) ∧ H5 ml = some (.lst (m1.drop i ++ m2).reverse) ∧ ∀ b o, H4 b = some o → b ≠ ml → H5 b = some o) ⟨upd_same, same_new nD2 _ _ _ hm4, fun b o e _ => same_new nD2 _ b o e⟩ (fun i H5 _ h => (Tk.but nt4 h.2.2).sqt (SqT.of hp4)) (fun i y H5 hy h => ?_) (fun H5 h => ?_)⟩
        · obtain ⟨hD5, hm5, fr5⟩ := h
          have hi := (List.getElem?_eq_some_iff.mp hy).1
          have hin : i < m1.length := by omega
          have nDm : D2 ≠ ml := fun e => by
            subst e
            rw [hm4] at nD2
            cases nD2
          rw [List.drop_eq_getElem_cons hin, List.cons_append] at hm5
          refine ⟨rfl, _, rfl, .inl ⟨rfl, _, SqL.of hm5⟩, ml, _, _, rfl, rfl, hm5, rev_last, m1.take i, (upd_ne nDm).trans hD5, ?_, ?_, ?_, fun b o e hb => ?_⟩
          · rw [List.length_take]
            exact line_lt (by omega)
          · rw [upd_same, List.take_succ, List.getElem?_eq_getElem hin] <;> rfl
          · rw [upd_ne nDm.symm, upd_same, rev_dropLast]
          · rw [upd_ne (ne_of_none e nD2), upd_ne hb]
            exact fr5 b o e hb
        · obtain ⟨hD5, hm5, fr5⟩ := h
          rw [show us.length = m1.length by omega, List.take_length] at hD5
          rw [show us.length = m1.length by omega, List.drop_length, List.nil_append] at hm5
          have nDm : D2 ≠ ml := fun e => by
            subst e
            rw [hm4] at nD2
            cases nD2
          have fr25 : ∀ b o, H2 b = some o → b ≠ ml → H5 b = some o := fun b o e n => fr5 _ _ (s24 _ _ e) n
          have k25 := Tk.but ntm fr25
          have npwm : pw ≠ ml := fun e => by
            subst e
            rw [hm2] at npw
            cases npw
          have hpw5 := fr5 _ _ (s4 _ _ hw3) npwm
          refine ⟨D2, m1, rfl, .inl ⟨SqL.of hD5, fun l nl => ?_⟩⟩
          have s6 : Same H5 (upd H5 l (.tup m1)) := same_new nl _
          have hl6 : upd H5 l (.tup m1) l = some (.tup m1) := upd_same
          generalize upd H5 l (.tup m1) = H6 at *
          have k26 := k25.trans (Tk.same s6)
          have hpw6 := s6 _ _ hpw5
          have hm6 := s6 _ _ hm5
          have hw6 := s6 _ _ (fr25 _ _ hw2 nmw.symm)
          have fr26 : ∀ b o, H b = some o → H6 b = some o := fun b o e => s6 _ _ (fr25 _ _ (sm2 _ _ e) (ne_of_none e nm0))
          have nt6 : NoTup (H6 ml) := by rw [hm6]; exact NoTup.lst
          have emu : rmu ((e, true) :: r) = 1 + rmu r := rfl
          simp only [List.length_append, List.length_map] at lm lln
          have l2 := am2.length
          have close : ∀ (z : L2.V) (H7 : Hp), Same H6 H7 → TV K H7 (e.ren ρ).enc z → ∀ {o4 o5 o6 o7 o8 : Option L2.V}, ∃ m', m' < rmu ((e, true) :: r) ∧ renW K cs R ps ρ e0 H wl ml D v m' [some v, some (.ref D), some (.ref wl), some (.ref ml), o4, o5, o6, o7, o8] (upd H7 ml (.lst (m2.reverse ++ [z]))) := by
            intro z H7 s7 tz o4 o5 o6 o7 o8
            have k7 : Tk H7 (upd H7 ml (.lst (m2.reverse ++ [z]))) := Tk.upd (by rw [s7 _ _ hm6]; exact NoTup.lst)
            have k27 := (k26.trans (Tk.same s7)).trans k7
            exact ⟨rmu r, by omega, r, e.ren ρ :: md', o4, o5, o6, o7, o8, rfl, ⟨fun b o e => (upd_ne (ne_of_none e nm0)).trans (s7 _ _ (fr26 _ _ e)), ⟨vs, (upd_ne nmw.symm).trans (s7 _ _ hw6), aws2.mono fun _ _ h => h.mono k27⟩, ⟨z :: m2, by rw [upd_same, List.reverse_cons], .cons (TV.mono k7 tz) (am2.mono fun _ _ h => TV.mono k27 h)⟩, fin, hwr, by simp only [List.length_cons]; omega⟩, rfl⟩
          have am6 : All2 (REnc K H6) (e.kids.map (K35.E.ren ρ)) m1 := am1.mono fun _ _ h => TV.mono k26 h
          refine ⟨pw, l, _, _, rfl, rfl, SqT.of hpw6, SqT.of hl6, by simp, by rw [List.length_singleton]; exact line_le (by omega), fun em => ?_, fun _ pc npc => ?_⟩
          · subst em
            refine ⟨ml, _, _, rfl, rfl, hm6, by rw [List.length_reverse]; exact line_lt (by omega), close _ H6 (fun _ _ e => e) ?_⟩
            rw [node_ren ρ hnode, ← ew']
            exact ⟨pw, _, rfl, SqT.of hpw6, .cons rfl (encs_all2 am6)⟩
          · have s7 : Same H6 (upd H6 pc (.tup ([.str w'] ++ m1))) := same_new npc _
            refine ⟨ml, _, _, rfl, rfl, s7 _ _ hm6, by rw [List.length_reverse]; exact line_lt (by omega), close _ _ s7 ?_⟩
            rw [node_ren ρ hnode, ← ew']
            exact ⟨pc, _, rfl, .inl (.of upd_same), .cons rfl (TVs.mono (Tk.same s7) (encs_all2 am6))⟩
    · have hl : e.isNode = false := by
        cases h : e.isNode with
        | true => exact absurd h hnode
        | false => rfl
      cases e with
      | var x =>
        exact ⟨_, rfl, _, _, rfl, hz2, _, rfl, ite_b (fun _ => ⟨_, rfl, .inl ⟨rfl, _, SqL.of hm2⟩, _, rfl, ml, _, _, rfl, rfl, hm2, by rw [List.length_reverse]; exact line_lt (by omega), leaf hl⟩) (fun hb => nomatch hb)⟩
      | quo t =>
        obtain ⟨a, us, rfl, ha, z0, us', rfl, t0, _⟩ := id hz2
        have t0 : z0 = .str "quote" := t0
        subst t0
        refine ⟨_, rfl, _, _, rfl, hz2, _, rfl, ite_b (fun hb => nomatch hb) (fun _ => ?_)⟩
        refine ⟨_, rfl, a, _, _, _, rfl, rfl, ha, atI_nat (j := 0) rfl, rfl, _, rfl, ite_b (fun _ => ⟨_, rfl, .inl ⟨rfl, _, SqL.of hm2⟩, _, rfl, ml, _, _, rfl, rfl, hm2, by rw [List.length_reverse]; exact line_lt (by omega), leaf hl⟩) (fun hb => ?_)⟩
        rw [decide_eq_true rfl] at hb
        cases hb
      | ite a b c => exact absurd rfl hnode
      | app w as => exact absurd rfl hnode
end
end K35
end

section
set_option Elab.async false
set_option linter.all false
set_option maxRecDepth 100000
namespace K35
open PySem PySem.Spec PyProof.Rows L2
theorem sc_renamed : FnScope ["program", "start", "names", "number", "name", "parameters", "body"] ["program", "start"] (defScope s_renamed) := ⟨rfl, rfl, rfl, by decide +kernel, rfl, by decide +kernel, by decide +kernel⟩
theorem place_at : ∀ {p : List Fn} {j : Nat} {f : Fn}, (p.map (·.name)).Nodup → p[j]? = some f → place p f.name = j
  | [], _, _, _, h => by simp at h
  | g :: r, 0, f, _, h => by
    have e : g = f := Option.some.inj h
    subst e
    exact if_pos rfl
  | g :: r, j + 1, f, nd, h => by
    obtain ⟨h1, h2⟩ := List.nodup_cons.mp nd
    have h : r[j]? = some f := h
    have hm : f.name ∈ r.map (·.name) := List.mem_map.mpr ⟨f, List.mem_of_getElem? h, rfl⟩
    show (if g.name = f.name then 0 else place r f.name + 1) = j + 1
    rw [if_neg (fun e : g.name = f.name => h1 (by rw [← e] at hm; exact hm)), place_at h2 h]
section
variable {P : Program} {w : World} {K : PySem.W.Frag} {mg : Str → Option Value} {base : Heap} (C : Ctx w K mg)
include C
def spRenamed (K : PySem.W.Frag) : Sp := fun vs H Q _ => ∃ (p : List Fn) (R start : Nat) (vp : L2.V), vs = [vp, .int (start : Int)] ∧ Good p R ∧ TV K H (encP p) vp ∧ (encP p).parts ≤ 900000 ∧ p.length ≤ 20 ∧ start + p.length ≤ 30 ∧ ∀ v H', Same H H' → TV K H' (encP (renP p start)) v → Q v H'
theorem ok_renamed : FOk P w K mg base 5 "renamed" ["program", "start"] (spRenamed K) := by
  have F_check_program := ok_check_program C (P := P) (base := base)
  have F_made_name := ok_made_name C (P := P) (base := base)
  have F_renamed_expression := ok_renamed_expression C (P := P) (base := base)
  refine fok C.f_renamed C.g_renamed (fun _ _ _ _ _ _ us hl => match us, hl with | [_, _], _ => rfl) sc_renamed (fun vs H Q E h => ?_) (fun f cdv A outer s H vs Q E hr h => ?_)
  · obtain ⟨p, R, start, vp, rfl, _⟩ := h
    rfl
  obtain ⟨p, R, start, vp, rfl, G, tp, lp, lp2, lst, q⟩ := h
  refine ⟨_, (pss_cons (ps_expr (pe_fn F_check_program (hr.mono (by decide)) (by rfl) (pa_cons (pv 0) pa_nil)))
  (pss_cons (ps_set (i := 2) sc_renamed.nd rfl (Or.inr rfl) pe_dnewK)
  (pss_cons (ps_for PassesOwn.never rfl (pi_enumT (by rfl) C.z_enumerate (pa_cons (pv 0) pa_nil)) (pg_tup rfl (pgs_cons (pg_name (i := 3) sc_renamed.nd rfl (Or.inl rfl)) (pgs_cons (pg_tup rfl (pgs_cons (pg_name (i := 4) sc_renamed.nd rfl (Or.inl rfl)) (pgs_cons (pg_name (i := 5) sc_renamed.nd rfl (Or.inl rfl)) (pgs_cons (pg_name (i := 6) sc_renamed.nd rfl (Or.inl rfl)) pgs_nil)))) pgs_nil))) (pss_one (ps_dput (hu_of hr) (pv 2) (pv 4) (pe_fn F_made_name (hr.mono (by decide)) (by rfl) (pa_cons (pe_op op_add (pv 1) (pv 3)) pa_nil)) rfl)))
  (pss_one (ps_ret (pe_callTy call_tuple_of (by rfl) C.z_tuple (by decide +kernel) (pa_cons (pe_lc  (own := [("name", 4), ("parameters", 5), ("body", 6)]) (g := gTup K 3 (gCons (gName 4) (gCons (gName 5) (gCons (gName 6) gNil)))) (by rfl) sc_renamed.nd (pi_tup (pv 0)) (blkOk_by (own := [("name", 4), ("parameters", 5), ("body", 6)]) (N := ["program", "start", "names", "number", "name", "parameters", "body"]) (sc := defScope s_renamed) (by decide +kernel)) (fun _ _ _ _ _ => pg_tup rfl (pgs_cons (pg_name (i := 4) sc_renamed.nd rfl (Or.inl rfl)) (pgs_cons (pg_name (i := 5) sc_renamed.nd rfl (Or.inl rfl)) (pgs_cons (pg_name (i := 6) sc_renamed.nd rfl (Or.inl rfl)) pgs_nil)))) (fun _ _ _ _ _ => pts_nil) (fun _ _ _ _ _ => (pe_tup (pa_cons (pe_dget (hu_of hr) (pv 2) (pv 4) (fun _ _ => rfl)) (pa_cons (pv 5) (pa_cons (pe_fn F_renamed_expression (hr.mono (by decide)) (by rfl) (pa_cons (pv 6) (pa_cons (pv 2) pa_nil))) pa_nil)))))) pa_nil))))))), ?_⟩
  refine ⟨_, rfl, p, R, _, rfl, G, tp, lp, by omega, fun H1 sm1 => ?_⟩
  intro N nN
  have hN : upd H1 N (.dK []) N = some (.dK []) := upd_same
  have sm2 : Same H1 (upd H1 N (.dK [])) := same_new nN _
  generalize upd H1 N (.dK []) = H2 at *
  have sm : Same H H2 := fun b o e => sm2 _ _ (sm1 _ _ e)
  have nN0 : H N = none := by
    cases e : H N with
    | none => rfl
    | some o =>
      rw [sm1 _ _ e] at nN
      cases nN
  obtain ⟨a, us, rfl, ha, tus⟩ := id tp
  have lus := tus.length
  rw [List.length_map] at lus
  have ha2 := (Tk.same sm).sqt ha
  refine ⟨_, rfl, a, _, rfl, ha2, for_it (walk_enumT (xs := us)) (fun i σ H3 => ∃ (o3 o4 o5 o6 : Option L2.V) (nk : KV), σ = [some (.ref a), some (.int (start : Int)), some (.ref N), o3, o4, o5, o6] ∧ H3 N = some (.dK nk) ∧ (∀ b o, H2 b = some o → b ≠ N → H3 b = some o) ∧ nk.length ≤ i ∧ ∀ (j : Nat) (f : Fn), j < i → p[j]? = some f → valV nk (kInr f.name) = some (.str (mkName (start + j))))
    ⟨_, _, _, _, [], rfl, hN, fun _ _ e _ => e, Nat.le_refl _, fun j f h => absurd h (Nat.not_lt_zero j)⟩ (fun i σ H3 _ h => ?_) (fun i y σ H3 H4 hi h yy => ?_) (fun σ H3 h => ?_)⟩
  · obtain ⟨_, _, _, _, _, _, _, f3, _⟩ := h
    exact (Tk.but (by rw [hN]; exact NoTup.dK) f3).sqt ha2
  · obtain ⟨o3, o4, o5, o6, nk, rfl, hN3, f3, lk, fwd⟩ := h
    obtain ⟨T0, x1, y1, rfl, hT, rfl, hx, hy⟩ := yy
    have hx : some (L2.V.int ((i : Nat) : Int)) = some x1 := hx
    have hy : us[i]? = some y1 := hy
    cases hx
    have hip : i < p.length := by omega
    have hpi := List.getElem?_eq_getElem hip
    have sm4 : Same H3 (upd H3 T0 (.tup [.int ((i : Nat) : Int), y1])) := same_new hT _
    have hT4 : upd H3 T0 (.tup [.int ((i : Nat) : Int), y1]) T0 = some (.tup [.int ((i : Nat) : Int), y1]) := upd_same
    generalize upd H3 T0 (.tup [.int ((i : Nat) : Int), y1]) = H4 at *
    have f4 : ∀ b o, H2 b = some o → b ≠ N → H4 b = some o := fun b o e n => sm4 _ _ (f3 b o e n)
    have hN4 := sm4 _ _ hN3
    have tk4 : Tk H2 H4 := Tk.but (by rw [hN]; exact NoTup.dK) f4
    obtain ⟨y', hy', ty⟩ := tus.get (i := i) (t := (p[i]).enc) (by rw [List.getElem?_map, hpi] <;> rfl)
    rw [hy] at hy'
    cases hy'
    have ty4 := (ty.mono (Tk.same sm)).mono tk4
    generalize hfe : p[i] = fi at *
    obtain ⟨b, ws, rfl, hb, v1, r1, rfl, h1, v2, r2, rfl, h2, v3, r3, rfl, h3, e⟩ := id ty4
    have e : r3 = [] := e
    subst e
    have h1 : v1 = .str fi.name := h1
    subst h1
    refine ⟨T0, _, rfl, SqT.of hT4, rfl, _, _, rfl, _, _, rfl, ⟨b, _, rfl, hb, rfl, _, _, rfl, _, _, rfl, _, _, rfl, rfl, rfl, ?_⟩⟩
    have lpk := length_putK nk (kInr fi.name) (.str (mkName (start + i)))
    refine ⟨_, rfl, _, rfl, _, _, rfl, rfl, start + i, rfl, by omega, _, rfl, _, rfl, N, _, rfl, DPut.k (k := kInr fi.name) hN4 (line_lt (by omega)), _, _, _, _, _, rfl, upd_same, fun c o e n => (upd_ne n).trans (f4 _ _ e n), by omega, fun j f hj hpj => ?_⟩
    rw [valV_put]
    by_cases z : j = i
    · subst z
      rw [hpi] at hpj
      cases hpj
      rw [if_pos rfl]
    · rw [if_neg, fwd j f (by omega) hpj]
      intro e
      have en : f.name = fi.name := Sum.inr.inj e
      have y := nd_ix G.wf.nd (i := j) (j := i) (by rw [List.getElem?_map, hpj]; show some f.name = _; rw [en]) (by rw [List.getElem?_map, hpi] <;> rfl)
      exact z y
  · obtain ⟨o3, o4, o5, o6, nk, rfl, hN3, f3, lk, fwd⟩ := h
    have sm3 : Same H H3 := fun b o e => f3 _ _ (sm _ _ e) (ne_of_none e nN0)
    have ha3 := (Tk.same sm3).sqt ha
    have hren : ∀ q ∈ sig p, valV nk (kInr q.1) = some (.str (mkName (start + place p q.1))) := fun q hq => by
      obtain ⟨f, hf, e⟩ := List.mem_map.mp hq
      obtain ⟨j, hj, hpj⟩ := List.mem_iff_getElem.mp hf
      have hpj : p[j]? = some f := by rw [List.getElem?_eq_getElem hj, hpj]
      rw [← e]
      show valV nk (kInr f.name) = _
      rw [fwd j f (by omega) hpj, place_at G.wf.nd hpj]
    refine ⟨_, rfl, a, rfl, ⟨us, ha3⟩, fun D nD => lc_tup (xs := us) (fun i H4 => (∃ acc, H4 D = some (.lst acc) ∧ TVs K H4 (((renP p start).take i).map Fn.enc) acc) ∧ Same H3 H4) ⟨⟨[], upd_same, rfl⟩, same_new nD _⟩ (fun i H4 _ h => (Tk.same h.2).sqt ha3) (fun i y H4 hy h => ?_) (fun H4 h => ?_)⟩
    · obtain ⟨⟨acc, hacc, tacc⟩, sm4⟩ := h
      have hi := (List.getElem?_eq_some_iff.mp hy).1
      have hip : i < p.length := by omega
      have hpi := List.getElem?_eq_getElem hip
      have smH4 : Same H H4 := fun b o e => sm4 _ _ (sm3 _ _ e)
      obtain ⟨y', hy', ty⟩ := tus.get (i := i) (t := (p[i]).enc) (by rw [List.getElem?_map, hpi] <;> rfl)
      rw [hy] at hy'
      cases hy'
      have ty4 := ty.mono (Tk.same smH4)
      have hren_i : (renP p start)[i]? = some ((p[i]).ren fun x => mkName (start + place p x)) := by
        unfold renP
        rw [List.getElem?_map, hpi] <;> rfl
      generalize hfe : p[i] = fi at *
      have hfm : fi ∈ p := List.mem_of_getElem? hpi
      obtain ⟨b, ws, rfl, hb, v1, r1, rfl, h1, v2, r2, rfl, h2, v3, r3, rfl, h3, e⟩ := id ty4
      have e : r3 = [] := e
      subst e
      have h1 : v1 = .str fi.name := h1
      subst h1
      have hN4 := sm4 _ _ hN3
      have gd := DGet.k (k := kInr fi.name) hN4
      rw [hren (fi.name, fi.ps.length) (List.mem_map.mpr ⟨fi, hfm, rfl⟩)] at gd
      have nod : fi.body.nodes ≤ 1000000 := by
        have z1 := K35.E.nodes_parts fi.body
        have z2 := body_parts fi
        have z3 := fn_parts hfm
        omega
      refine ⟨b, _, rfl, hb, rfl, _, _, rfl, _, _, rfl, _, _, rfl, rfl, ?_⟩
      refine ⟨rfl, _, rfl, _, rfl, N, _, rfl, gd, _, rfl, _, rfl, _, rfl, fi.body, sig p, R, fi.ps, (fun x => mkName (start + place p x)), N, nk, _, rfl, h3, (G.wf.ok fi hfm).2, hN4, hren, nod, fun z H5 s5 tz => ?_⟩
      refine ⟨by show 3 ≤ sizeLine; decide, fun pt npt => ?_⟩
      have s6 : Same H5 (upd H5 pt (.tup [.str (mkName (start + place p fi.name)), v2, z])) := same_new npt _
      have s46 : Same H4 (upd H5 pt (.tup [.str (mkName (start + place p fi.name)), v2, z])) := fun b o e => s6 _ _ (s5 _ _ e)
      have hacc6 := s46 _ _ hacc
      have lacc := tacc.length
      rw [List.length_map, List.length_take] at lacc
      have hpt : upd H5 pt (.tup [.str (mkName (start + place p fi.name)), v2, z]) pt = some (.tup [.str (mkName (start + place p fi.name)), v2, z]) := upd_same
      refine ⟨acc, hacc6, line_lt (by omega), ⟨_, upd_same, ?_⟩, fun b o e => ?_⟩
      · have k7 : Tk (upd H5 pt (.tup [.str (mkName (start + place p fi.name)), v2, z])) (upd (upd H5 pt (.tup [.str (mkName (start + place p fi.name)), v2, z])) D (.lst (acc ++ [.ref pt]))) := Tk.upd (by rw [hacc6]; exact NoTup.lst)
        rw [List.take_succ, hren_i, List.map_append]
        exact TVs.snoc (TVs.mono ((Tk.same s46).trans k7) tacc) ⟨pt, _, rfl, k7.sqt (.inl (.of hpt)), _, _, rfl, rfl, _, _, rfl, TV.mono ((Tk.same s46).trans k7) h2, _, _, rfl, TV.mono ((Tk.same s6).trans k7) tz, rfl⟩
      · rw [upd_ne (ne_of_none e nD)]
        exact s46 _ _ (sm4 _ _ (by exact e))
    · obtain ⟨⟨acc, hacc, tacc⟩, sm4⟩ := h
      have lr : (renP p start).length = p.length := List.length_map ..
      rw [List.take_of_length_le (by omega)] at tacc
      refine ⟨D, acc, rfl, .inl ⟨SqL.of hacc, fun l nl => ?_⟩⟩
      have s5 : Same H4 (upd H4 l (.tup acc)) := same_new nl _
      exact q _ _ (fun b o e => s5 _ _ (sm4 _ _ (sm3 _ _ e))) ⟨l, acc, rfl, .inl (.of upd_same), tacc.mono (Tk.same s5)⟩
end
end K35
end

section
set_option Elab.async false
set_option linter.all false
set_option maxRecDepth 100000
namespace K35
open PySem PySem.Spec PyProof.Rows L2
theorem sc_joined : FnScope ["programs", "functions", "mains", "program"] ["programs"] (defScope s_joined) := ⟨rfl, rfl, rfl, by decide +kernel, rfl, by decide +kernel, by decide +kernel⟩
theorem sc_lister_refuted : FnScope ["lister", "functions", "mains", "inner"] ["lister"] (defScope s_lister_refuted) := ⟨rfl, rfl, rfl, by decide +kernel, rfl, by decide +kernel, by decide +kernel⟩
theorem sc_refute_list : FnScope ["lister"] ["lister"] (defScope s_refute_list) := ⟨rfl, rfl, rfl, by decide +kernel, rfl, by decide +kernel, by decide +kernel⟩
def jstep (s : List Fn × List Str) (q : List Fn) : List Fn × List Str := (s.1 ++ renP q s.1.length, s.2 ++ [mkName s.1.length])
def jn (qs : List (List Fn)) : List Fn × List Str := qs.foldl jstep ([], [])
theorem jn_succ {qs : List (List Fn)} {i : Nat} (h : i < qs.length) : jn (qs.take (i + 1)) = jstep (jn (qs.take i)) qs[i] := by
  unfold jn
  rw [List.take_succ, List.getElem?_eq_getElem h]
  show (qs.take i ++ [qs[i]]).foldl jstep ([], []) = _
  rw [List.foldl_append]
  rfl
theorem jn_mains : ∀ (qs : List (List Fn)), (jn qs).2.length = qs.length := by
  have h : ∀ (qs : List (List Fn)) (s : List Fn × List Str), (qs.foldl jstep s).2.length = s.2.length + qs.length := by
    intro qs
    induction qs with
    | nil => exact fun s => rfl
    | cons q qs ih =>
      intro s
      show (qs.foldl jstep (jstep s q)).2.length = _
      rw [ih]
      show (s.2 ++ [_]).length + qs.length = s.2.length + (qs.length + 1)
      rw [List.length_append, List.length_singleton]
      omega
  intro qs
  rw [jn, h]
  exact Nat.zero_add _
theorem tv_new {K : PySem.W.Frag} {G : Hp} {p : Addr} {ts : List T} {vs : List L2.V} (h : TVs K G ts vs) (np : G p = none) : Same G (upd G p (.tup vs)) ∧ TV K (upd G p (.tup vs)) (.l ts) (.ref p) :=
  ⟨same_new np _, p, vs, rfl, .inl (.of upd_same), h.mono (Tk.same (same_new np _))⟩
theorem jn_lister {two : Bool} {test : K35.E} {A B : List Fn} (ht : WfE [] 5 ["n"] test) : (jn [uniP, listerP two test A B]).1 = uniR ++ listR two test A B ∧ (jn [uniP, listerP two test A B]).2 = [Str.ofString "f0", Str.ofString "f11"] := by
  have e1 : (jn [uniP, listerP two test A B]).1 = ([] ++ renP uniP 0) ++ renP (listerP two test A B) ([] ++ renP uniP 0).length := rfl
  have e2 : (jn [uniP, listerP two test A B]).2 = [mkName 0, mkName ([] ++ renP uniP 0).length] := rfl
  rw [e1, e2, List.nil_append, ren_uni, show uniR.length = 11 from rfl, ren_list ht]
  refine ⟨rfl, ?_⟩
  rw [show mkName 0 = "f0" by decide +kernel, show mkName 11 = "f11" by decide +kernel]
section
variable {P : Program} {w : World} {K : PySem.W.Frag} {mg : Str → Option Value} {base : Heap} (C : Ctx w K mg)
include C
def spJoined (K : PySem.W.Frag) : Sp := fun vs H Q _ => ∃ (qs : List (List Fn)) (R : Nat) (qi : Addr) (us : List L2.V), vs = [.ref qi] ∧ H qi = some (.lst us) ∧ All2 (fun q v => TV K H (encP q) v) qs us ∧ qs.length ≤ 10 ∧
  (∀ i q, qs[i]? = some q → Good q R ∧ (encP q).parts ≤ 900000 ∧ q.length ≤ 20 ∧ (jn (qs.take i)).1.length + q.length ≤ 30) ∧
  ∀ (tp m : Addr) (fv : L2.V) (H' : Hp), Same H H' → H' tp = some (.tup [fv, .ref m]) → TV K H' (encP (jn qs).1) fv → H' m = some (.lst ((jn qs).2.map L2.V.str)) → Q (.ref tp) H'
theorem ok_joined : FOk P w K mg base 6 "joined" ["programs"] (spJoined K) := by
  have F_made_name := ok_made_name C (P := P) (base := base)
  have F_renamed := ok_renamed C (P := P) (base := base)
  refine fok C.f_joined C.g_joined (fun _ _ _ _ _ _ us hl => match us, hl with | [_], _ => rfl) sc_joined (fun vs H Q E h => ?_) (fun f cdv A outer s H vs Q E hr h => ?_)
  · obtain ⟨qs, R, qi, us, rfl, _⟩ := h
    rfl
  obtain ⟨qs, R, qi, us, rfl, hq, aus, l10, hc, q⟩ := h
  refine ⟨_, (pss_cons (ps_set (i := 1) sc_joined.nd rfl (Or.inl rfl) (pe_tup pa_nil))
  (pss_cons (ps_set (i := 2) sc_joined.nd rfl (Or.inl rfl) (pe_lst pa_nil))
  (pss_cons (ps_for PassesOwn.never rfl (pi_list (pv 0)) (pg_name (i := 3) sc_joined.nd rfl (Or.inl rfl)) (pss_cons (ps_expr (pe_bm PySem.F.plainAttrs_list PySem.F.slot_list_append PySem.F.type_list_append mt_append (pv 2) (pa_cons (pe_fn F_made_name (hr.mono (by decide)) (by rfl) (pa_cons (pe_callB call_len_seq (by rfl) C.z_len PySem.boot_len (pa_cons (pv 1) pa_nil)) pa_nil)) pa_nil)))
  (pss_one (ps_set (i := 1) sc_joined.nd rfl (Or.inl rfl) (pe_op op_catA (pv 1) (pe_fn F_renamed (hr.mono (by decide)) (by rfl) (pa_cons (pv 3) (pa_cons (pe_callB call_len_seq (by rfl) C.z_len PySem.boot_len (pa_cons (pv 1) pa_nil)) pa_nil))))))))
  (pss_one (ps_ret (pe_tup (pa_cons (pv 1) (pa_cons (pv 2) pa_nil)))))))), ?_⟩
  refine ⟨Nat.zero_le _, fun p0 n0 => ⟨Nat.zero_le _, fun m nm => ?_⟩⟩
  obtain ⟨nm0, nmp⟩ := upd_none nm
  have sm2 : Same H (upd (upd H p0 (.tup [])) m (.lst [])) := fun b o e => by
    rw [upd_ne (ne_of_none e nm0), upd_ne (ne_of_none e n0), e]
  have hp2 : upd (upd H p0 (.tup [])) m (.lst []) p0 = some (.tup []) := by rw [upd_ne nmp.symm, upd_same]
  have hm2 : upd (upd H p0 (.tup [])) m (.lst []) m = some (.lst []) := upd_same
  generalize upd (upd H p0 (.tup [])) m (.lst []) = H2 at *
  have lus := aus.length
  refine ⟨_, rfl, qi, rfl, ⟨us, SqL.of (sm2 _ _ hq)⟩, for_it (walk_list (xs := us)) (fun i σ H3 => ∃ (fv : L2.V) (o3 : Option L2.V), σ = [some (.ref qi), some fv, some (.ref m), o3] ∧ TV K H3 (encP (jn (qs.take i)).1) fv ∧ H3 m = some (.lst ((jn (qs.take i)).2.map L2.V.str)) ∧ Same H H3) ⟨.ref p0, _, rfl, ⟨p0, [], rfl, .inl (.of hp2), rfl⟩, hm2, sm2⟩ (fun i σ H3 _ h => ?_) (fun i y σ H4 H3 hi h yy => ?_) (fun σ H3 h => ?_)⟩
  · obtain ⟨_, _, _, _, _, sm⟩ := h
    exact SqL.of (sm _ _ hq)
  · obtain ⟨e, hy⟩ := yy
    subst e
    obtain ⟨fv, o3, rfl, tf, hm3, sm3⟩ := h
    have hiq : i < qs.length := by omega
    obtain ⟨y', hy', ty⟩ := aus.get (List.getElem?_eq_getElem hiq)
    rw [hy] at hy'
    cases hy'
    obtain ⟨G, hp, hl, h30⟩ := hc i qs[i] (List.getElem?_eq_getElem hiq)
    obtain ⟨a, fs, rfl, ha, tfs⟩ := id tf
    have lfs := tfs.length
    rw [List.length_map] at lfs
    have lmn := jn_mains (qs.take i)
    rw [List.length_take] at lmn
    rw [show min i qs.length = i by omega] at lmn
    refine ⟨_, rfl, .inl ⟨rfl, _, SqL.of hm3⟩, _, rfl, a, _, rfl, .inr ha, fs.length, rfl, by omega, m, _, _, rfl, rfl, hm3, line_lt ?_, ?_⟩
    · rw [List.length_map, lmn]
      omega
    have nt3 : NoTup (H3 m) := by rw [hm3]; exact NoTup.lst
    have k4 : Tk H3 (upd H3 m (.lst ((jn (qs.take i)).2.map L2.V.str ++ [.str (mkName fs.length)]))) := Tk.upd nt3
    have sm4 : Same H (upd H3 m (.lst ((jn (qs.take i)).2.map L2.V.str ++ [.str (mkName fs.length)]))) := fun b o e => (upd_ne (ne_of_none e nm0)).trans (sm3 _ _ e)
    have hm4 : upd H3 m (.lst ((jn (qs.take i)).2.map L2.V.str ++ [.str (mkName fs.length)])) m = some (.lst ((jn (qs.take i)).2.map L2.V.str ++ [.str (mkName fs.length)])) := upd_same
    generalize upd H3 m (.lst ((jn (qs.take i)).2.map L2.V.str ++ [.str (mkName fs.length)])) = H4 at *
    have ha4 := k4.sqt ha
    have tfs4 := tfs.mono k4
    refine ⟨_, rfl, _, rfl, _, rfl, a, _, rfl, .inr ha4, qs[i], R, fs.length, _, rfl, G, ty.mono (Tk.same sm4), hp, hl, by omega, fun z H5 s5 tz => ?_⟩
    have ha5 := (Tk.same s5).sqt ha4
    have tfs5 := tfs4.mono (Tk.same s5)
    obtain ⟨b, zs, rfl, hb, tzs⟩ := id tz
    have lzs := tzs.length
    rw [List.length_map] at lzs
    have lrn : (renP qs[i] fs.length).length = qs[i].length := List.length_map ..
    have lst : (jn (qs.take (i + 1))) = ((jn (qs.take i)).1 ++ renP qs[i] fs.length, (jn (qs.take i)).2 ++ [mkName fs.length]) := by
      rw [jn_succ hiq, lfs]
      rfl
    have close : ∀ (g : L2.V) (H6 : Hp), Same H5 H6 → TV K H6 (encP ((jn (qs.take i)).1 ++ renP qs[i] fs.length)) g → ∀ {o3 : Option L2.V}, ∃ (fv : L2.V) (o3' : Option L2.V), ([some (.ref qi), some g, some (.ref m), o3] : L2.St) = [some (.ref qi), some fv, some (.ref m), o3'] ∧ TV K H6 (encP (jn (qs.take (i + 1))).1) fv ∧ H6 m = some (.lst ((jn (qs.take (i + 1))).2.map L2.V.str)) ∧ Same H H6 := by
      intro g H6 s6 tg o3
      refine ⟨g, o3, rfl, by rw [lst]; exact tg, ?_, fun b o e => s6 _ _ (s5 _ _ (sm4 _ _ e))⟩
      rw [lst, s6 _ _ (s5 _ _ hm4), List.map_append] <;> rfl
    refine ⟨a, b, fs, zs, rfl, rfl, ha5, hb, line_le (by omega), fun e => ?_, fun _ e => ?_, fun _ _ pc npc => ?_⟩
    · refine close _ H5 (fun _ _ e => e) ?_
      have e2 : (jn (qs.take i)).1 = [] := by
        subst e
        exact List.length_eq_zero_iff.mp lfs.symm
      rw [e2]
      exact tz
    · refine close _ H5 (fun _ _ e => e) ?_
      have e2 : renP qs[i] fs.length = [] := by
        subst e
        exact List.length_eq_zero_iff.mp lzs.symm
      rw [e2, List.append_nil]
      exact ⟨a, fs, rfl, ha5, tfs5⟩
    · have s6 : Same H5 (upd H5 pc (.tup (fs ++ zs))) := same_new npc _
      refine close _ _ s6 ?_
      refine ⟨pc, _, rfl, .inl (.of upd_same), ?_⟩
      rw [List.map_append]
      exact (tfs5.mono (Tk.same s6)).append (tzs.mono (Tk.same s6))
  · obtain ⟨fv, o3, rfl, tf, hm3, sm3⟩ := h
    rw [lus, List.take_length] at tf hm3
    refine ⟨_, rfl, _, rfl, by show 2 ≤ sizeLine; decide, fun tp ntp => ?_⟩
    have s4 : Same H3 (upd H3 tp (.tup [fv, .ref m])) := same_new ntp _
    exact q tp m fv _ (fun b o e => s4 _ _ (sm3 _ _ e)) upd_same (tf.mono (Tk.same s4)) (s4 _ _ hm3)
def spLister (K : PySem.W.Frag) : Sp := fun vs H Q _ => ∃ (two : Bool) (test : K35.E) (A B : List Fn) (v : L2.V), vs = [v] ∧ WfE [] 5 ["n"] test ∧ Drawn A ∧ Drawn B ∧ TV K H (encP (listerP two test A B)) v ∧ (encP (listerP two test A B)).parts ≤ 900000 ∧ ∀ v' H', Same H H' → TV K H' (encP (madeP two test A B)) v' → Q v' H'
theorem ok_lister_refuted : FOk P w K mg base 7 "lister_refuted" ["lister"] (spLister K) := by
  have F_universal := ok_universal C (P := P) (base := base)
  have F_joined := ok_joined C (P := P) (base := base)
  have F_with_main := ok_with_main C (P := P) (base := base)
  refine fok C.f_lister_refuted C.g_lister_refuted (fun _ _ _ _ _ _ us hl => match us, hl with | [_], _ => rfl) sc_lister_refuted (fun vs H Q E h => ?_) (fun f cdv A outer s H vs Q E hr h => ?_)
  · obtain ⟨two, test, A, B, v, rfl, _⟩ := h
    rfl
  obtain ⟨two, test, A, B, v, rfl, ht, hA, hB, tv, lp, q⟩ := h
  refine ⟨_, (pss_cons (ps_asg (pe_fn F_joined (hr.mono (by decide)) (by rfl) (pa_cons (pe_lst (pa_cons (pe_fn0 F_universal (hr.mono (by decide)) (by rfl)) (pa_cons (pv 0) pa_nil))) pa_nil)) (pg_tup rfl (pgs_cons (pg_name (i := 1) sc_lister_refuted.nd rfl (Or.inl rfl)) (pgs_cons (pg_name (i := 2) sc_lister_refuted.nd rfl (Or.inl rfl)) pgs_nil))))
  (pss_cons (ps_set (i := 3) sc_lister_refuted.nd rfl (Or.inl rfl) (pe_tup (pa_cons (pe_ix ix_list (pv 2) pe_int (fun _ _ => rfl)) (pa_cons (pe_tup (pa_cons (pe_ix ix_list (pv 2) pe_int (fun _ _ => rfl)) (pa_cons pe_str pa_nil))) (pa_cons (pe_tup (pa_cons pe_str (pa_cons pe_str (pa_cons (pe_tup (pa_cons pe_str (pa_cons (pe_tup pa_nil) pa_nil))) pa_nil)))) pa_nil)))))
  (pss_one (ps_ret (pe_fn F_with_main (hr.mono (by decide)) (by rfl) (pa_cons (pv 1) (pa_cons (pe_tup (pa_cons pe_str pa_nil)) (pa_cons (pe_tup (pa_cons pe_str (pa_cons (pe_tup (pa_cons pe_str (pa_cons pe_str pa_nil))) (pa_cons (pv 3) pa_nil)))) pa_nil)))))))), ?_⟩
  refine ⟨rfl, fun vu tu => ⟨_, rfl, by show 2 ≤ sizeLine; decide, fun ql nql => ?_⟩⟩
  have sm1 : Same H (upd H ql (.lst [vu, v])) := same_new nql _
  have hql : upd H ql (.lst [vu, v]) ql = some (.lst [vu, v]) := upd_same
  generalize upd H ql (.lst [vu, v]) = H1 at *
  have ll : (listerP two test A B).length ≤ 2 := by
    cases two with
    | true => exact Nat.le_refl 2
    | false => exact Nat.le_succ 1
  refine ⟨[uniP, listerP two test A B], 1000, ql, _, rfl, hql, .cons (tu.mono (Tk.same sm1)) (.one (tv.mono (Tk.same sm1))), by show 2 ≤ 10; decide, fun i z hz => ?_, fun tp m fv H2 sm2 htp tf hm => ?_⟩
  · match i, hz with
    | 0, hz =>
      have e : uniP = z := Option.some.inj hz
      subst e
      exact ⟨uniP_good.mono (by decide), Nat.le_trans uniP_parts (by decide), by decide, by show 0 + uniP.length ≤ 30; decide⟩
    | 1, hz =>
      have e : listerP two test A B = z := Option.some.inj hz
      subst e
      refine ⟨lister_good ht hA hB, lp, by omega, ?_⟩
      show (renP uniP 0).length + _ ≤ 30
      rw [show (renP uniP 0).length = 11 from rfl]
      omega
    | i + 2, hz => simp at hz
  obtain ⟨j1, j2⟩ := jn_lister (two := two) (A := A) (B := B) ht
  rw [j1] at tf
  rw [j2] at hm
  have hm : H2 m = some (.lst [.str "f0", .str "f11"]) := hm
  refine ⟨tp, _, rfl, SqT.of htp, rfl, _, _, rfl, _, _, rfl, rfl, ?_⟩
  refine ⟨_, rfl, m, _, _, _, rfl, rfl, SqL.of hm, rfl, _, rfl, m, _, _, _, rfl, rfl, SqL.of hm, rfl, by show 2 ≤ sizeLine; decide, fun q1 n1 => ?_⟩
  obtain ⟨s1, t1⟩ := tv_new (K := K) (ts := [.w "f11", .w "x1"]) (vs := [.str "f11", .str "x1"]) (.cons rfl (.one rfl)) n1
  refine ⟨Nat.zero_le _, fun q2 n2 => ?_⟩
  obtain ⟨s2, t2⟩ := tv_new (K := K) (ts := []) (vs := []) rfl n2
  refine ⟨by show 2 ≤ sizeLine; decide, fun q3 n3 => ?_⟩
  obtain ⟨s3, t3⟩ := tv_new (K := K) (ts := [.w "quote", .l []]) (vs := [.str "quote", .ref q2]) (.cons rfl (.one t2)) n3
  refine ⟨by show 3 ≤ sizeLine; decide, fun q4 n4 => ?_⟩
  obtain ⟨s4, t4⟩ := tv_new (K := K) (ts := [.w "join", .w "x1", .l [.w "quote", .l []]]) (vs := [.str "join", .str "x1", .ref q3]) (.cons rfl (.cons rfl (.one t3))) n4
  have t14 := TV.mono (Tk.same s4) (TV.mono (Tk.same s3) (TV.mono (Tk.same s2) t1))
  refine ⟨by show 3 ≤ sizeLine; decide, fun q5 n5 => ?_⟩
  obtain ⟨s5, t5⟩ := tv_new (K := K) (ts := [.w "f0", .l [.w "f11", .w "x1"], .l [.w "join", .w "x1", .l [.w "quote", .l []]]]) (vs := [.str "f0", .ref q1, .ref q4]) (.cons rfl (.cons t14 (.one t4))) n5
  have tf5 := TV.mono (Tk.same s5) (TV.mono (Tk.same s4) (TV.mono (Tk.same s3) (TV.mono (Tk.same s2) (TV.mono (Tk.same s1) tf))))
  have s15 : Same H2 _ := fun b o e => s5 _ _ (s4 _ _ (s3 _ _ (s2 _ _ (s1 b o e))))
  refine ⟨_, rfl, by show 1 ≤ sizeLine; decide, fun q6 n6 => ?_⟩
  obtain ⟨s6, t6⟩ := tv_new (K := K) (ts := [.w "x1"]) (vs := [.str "x1"]) (.one rfl) n6
  refine ⟨by show 2 ≤ sizeLine; decide, fun q7 n7 => ?_⟩
  obtain ⟨s7, t7⟩ := tv_new (K := K) (ts := [.w "quote", .w "x"]) (vs := [.str "quote", .str "x"]) (.cons rfl (.one rfl)) n7
  refine ⟨_, rfl, by show 3 ≤ sizeLine; decide, fun q8 n8 => ?_⟩
  obtain ⟨s8, t8⟩ := tv_new (K := K) (ts := [.w "join", .l [.w "quote", .w "x"], _]) (vs := [.str "join", .ref q7, .ref q5]) (.cons rfl (.cons t7 (.one (TV.mono (Tk.same s7) (TV.mono (Tk.same s6) t5))))) n8
  have s58 : Same H2 _ := fun b o e => s8 _ _ (s7 _ _ (s6 _ _ (s15 b o e)))
  have lfs : ((uniR ++ listR two test A B).map Fn.enc).length = uniR.length + (listR two test A B).length := by rw [List.length_map, List.length_append]
  have lr : (listR two test A B).length ≤ 2 := by
    cases two with
    | true => exact Nat.le_refl 2
    | false => exact Nat.le_succ 1
  refine ⟨(uniR ++ listR two test A B).map Fn.enc, ["x1"], mbody.enc, _, _, _, rfl, TV.mono (Tk.same s8) (TV.mono (Tk.same s7) (TV.mono (Tk.same s6) tf5)), TV.mono (Tk.same s8) (TV.mono (Tk.same s7) t6), t8, ?_, fun v' H9 s9 t9 => ?_⟩
  · rw [lfs, show uniR.length = 11 from rfl]
    omega
  · refine q v' H9 (fun b o e => s9 _ _ (s58 _ _ (sm2 _ _ (sm1 _ _ e)))) ?_
    have ename : mkName ((uniR ++ listR two test A B).map Fn.enc).length = mainN two := by
      rw [lfs]
      cases two with
      | true => exact (by decide +kernel : mkName 13 = "f13")
      | false => exact (by decide +kernel : mkName 12 = "f12")
    rw [ename] at t9
    exact t9
def spRefute (K : PySem.W.Frag) : Sp := spLister K
theorem ok_refute_list : FOk P w K mg base 8 "refute_list" ["lister"] (spRefute K) := by
  have F_check_inputs := ok_check_inputs C (P := P) (base := base)
  have F_lister_refuted := ok_lister_refuted C (P := P) (base := base)
  refine fok C.f_refute_list C.g_refute_list (fun _ _ _ _ _ _ us hl => match us, hl with | [_], _ => rfl) sc_refute_list (fun vs H Q E h => ?_) (fun f cdv A outer s H vs Q E hr h => ?_)
  · obtain ⟨two, test, A, B, v, rfl, _⟩ := h
    rfl
  obtain ⟨two, test, A, B, v, rfl, ht, hA, hB, tv, lp, q⟩ := h
  refine ⟨_, (pss_cons (ps_expr (pe_fn F_check_inputs (hr.mono (by decide)) (by rfl) (pa_cons (pe_lst (pa_cons (pv 0) pa_nil)) (pa_cons pe_int pa_nil))))
  (pss_one (ps_ret (pe_fn F_lister_refuted (hr.mono (by decide)) (by rfl) (pa_cons (pv 0) pa_nil))))), ?_⟩
  refine ⟨_, rfl, by show 1 ≤ sizeLine; decide, fun ql nql => ?_⟩
  have sm1 : Same H (upd H ql (.lst [v])) := same_new nql _
  obtain ⟨g, rest, eg, lg⟩ : ∃ g rest, listerP two test A B = g :: rest ∧ g.ps.length = 1 := by
    cases two with
    | true => exact ⟨_, _, rfl, rfl⟩
    | false => exact ⟨_, _, rfl, rfl⟩
  have ll : (listerP two test A B).length ≤ 2 := by
    cases two with
    | true => exact Nat.le_refl 2
    | false => exact Nat.le_succ 1
  refine ⟨listerP two test A B, 1000, g, rest, ql, v, 1, rfl, upd_same, lister_good ht hA hB, eg, tv.mono (Tk.same sm1), lp, by omega, lg, by decide, fun H2 sm2 => ?_⟩
  exact ⟨_, rfl, two, test, A, B, v, rfl, ht, hA, hB, tv.mono (Tk.same fun b o e => sm2 _ _ (sm1 b o e)), lp, fun v' H' s' t' => q v' H' (fun b o e => s' _ _ (sm2 _ _ (sm1 _ _ e))) t'⟩
end
end K35
end

section
set_option Elab.async false
set_option linter.all false
set_option maxRecDepth 100000
/-! The law's own defs: what is drawn. -/
namespace K35
open PySem PySem.Spec PyProof.Rows L2
theorem sc_law_draws : FnScope ["_law_script", "_law_many", "_law_rests", "_law_draws_here", "_law_k", "_law_cell", "_law_at", "_law_mixed"] ["_law_script", "_law_many"] (defScope s_law_draws) := ⟨rfl, rfl, rfl, by decide +kernel, rfl, by decide +kernel, by decide +kernel⟩
theorem sql_same {K : PySem.W.Frag} {H H' : Hp} {a : Addr} {xs : List L2.V} (s : Same H H') (h : SqL K H a xs) : SqL K H' a xs := by
  rcases h with (h | ⟨o, h⟩) | h
  · exact .inl (.inl (s _ _ h))
  · exact .inl (.inr ⟨o, s _ _ h⟩)
  · exact .inr h
theorem cm_self (x m : Int) (h0 : 0 < m) (h1 : m < 2 ^ 62) : CMul (x % m) (x % m) := by
  have a := Int.emod_nonneg x (Int.ne_of_gt h0)
  have b := Int.emod_lt_of_pos x h0
  exact .inl ⟨by omega, by omega⟩
theorem cm_r (x : Int) {c : Int} (h0 : 0 ≤ c) (h1 : c < 2 ^ 62) : CMul x c := .inr ⟨by omega, by omega⟩
section
variable {P : Program} {w : World} {K : PySem.W.Frag} {mg : Str → Option Value} {base : Heap} (C : Ctx w K mg)
include C
def spDraws (K : PySem.W.Frag) : Sp := fun vs H Q _ => ∃ (l : Addr) (ns : List Int) (many : Nat), vs = [.ref l, .int (many : Int)] ∧ SqL K H l (ns.map L2.V.int) ∧ ns.length ≤ 1000 ∧ many ≤ 1000 ∧ ∀ (D : Addr) (xs : List Int) (H' : Hp), Same H H' → H' D = some (.lst (xs.map L2.V.int)) → H D = none → xs.length ≤ many → Q (.ref D) H'
theorem ok_draws : FOk P w K mg base 1 "_law_draws" ["_law_script", "_law_many"] (spDraws K) := by
  refine fok C.f_law_draws C.g_law_draws (fun _ _ _ _ _ _ us hl => match us, hl with | [_, _], _ => rfl) sc_law_draws (fun vs H Q E h => ?_) (fun f cdv A outer s H vs Q E hr h => ?_)
  · obtain ⟨l, ns, many, rfl, _⟩ := h
    rfl
  obtain ⟨l, ns, many, rfl, hs, ln, lm, q⟩ := h
  refine ⟨_, (pss_cons (ps_setLc (i := 2)  (own := [("_law_cell", 5)]) (g := gName 5) (by rfl) sc_law_draws.nd rfl rfl (sw_true rfl rfl rfl (by decide +kernel)) (pi_list (pv 0)) (blkOk_by (own := [("_law_cell", 5)]) (N := ["_law_script", "_law_many", "_law_rests", "_law_draws_here", "_law_k", "_law_cell", "_law_at", "_law_mixed"]) (sc := defScope s_law_draws) (by decide +kernel)) (fun _ _ _ _ _ => pg_name (i := 5) sc_law_draws.nd rfl (Or.inl rfl)) (fun _ _ _ _ _ => pts_nil) (fun _ _ _ _ _ => (pe_callB call_abs (by rfl) C.z_abs (by decide +kernel) (pa_cons (pe_callTy call_int1 (by rfl) C.z_int (by decide +kernel) (pa_cons (pv 5) pa_nil)) pa_nil))))
  (pss_cons (ps_set (i := 3) sc_law_draws.nd rfl (Or.inl rfl) (pe_lst pa_nil))
  (pss_cons (ps_for PassesOwn.never rfl (pi_range1 (by rfl) C.z_range (pa_cons (pv 1) pa_nil)) (pg_name (i := 4) sc_law_draws.nd rfl (Or.inl rfl)) (pss_cons (ps_set (i := 5) sc_law_draws.nd rfl (Or.inl rfl) (pv 4))
  (pss_cons (ps_if (pt_cmpR op_gt (pe_callB call_len_seq (by rfl) C.z_len PySem.boot_len (pa_cons (pv 0) pa_nil)) pe_int (nomark _)) (pss_cons (ps_set (i := 6) sc_law_draws.nd rfl (Or.inl rfl) (pe_op op_mod (pv 4) (pe_callB call_len_seq (by rfl) C.z_len PySem.boot_len (pa_cons (pv 0) pa_nil))))
  (pss_cons (ps_set (i := 5) sc_law_draws.nd rfl (Or.inl rfl) (pe_callTy call_int1 (by rfl) C.z_int (by decide +kernel) (pa_cons (pe_ix ix_list (pv 0) (pv 6) (fun _ _ => rfl)) pa_nil)))
  (pss_one (ps_if (PW.pt (pw_and (pt_cmpR op_ge (pv 5) (pe_op op_pow pe_int pe_int) (nomark _)) (pw_and1 (pt_cmpR op_gt (pe_ix ix_list (pv 2) (pv 6) (fun _ _ => rfl)) pe_int (nomark _))))) (pss_cons (ps_expr (pe_bm PySem.F.plainAttrs_list PySem.F.slot_list_append PySem.F.type_list_append mt_append (pv 3) (pa_cons (pe_op op_mod (pe_callTy call_int1 (by rfl) C.z_int (by decide +kernel) (pa_cons (pe_ix ix_list (pv 2) (pv 6) (fun _ _ => rfl)) pa_nil)) pe_int) pa_nil)))
  (pss_cons (ps_asg (pe_op op_fdiv (pe_callTy call_int1 (by rfl) C.z_int (by decide +kernel) (pa_cons (pe_ix ix_list (pv 2) (pv 6) (fun _ _ => rfl)) pa_nil)) pe_int) (pg_sub (pv 2) (pv 6) set_list))
  (pss_one ps_continue))) pss_nil)))) pss_nil)
  (pss_cons (ps_set (i := 7) sc_law_draws.nd rfl (Or.inl rfl) (pe_op op_mod (pe_callTy call_int1 (by rfl) C.z_int (by decide +kernel) (pa_cons (pe_op op_add (pe_op op_add (pe_op op_mul (pv 5) pe_int) (pe_op op_mul (pv 4) pe_int)) pe_int) pa_nil)) pe_int))
  (pss_cons (ps_set (i := 7) sc_law_draws.nd rfl (Or.inl rfl) (pe_op op_mod (pe_callTy call_int1 (by rfl) C.z_int (by decide +kernel) (pa_cons (pe_op op_add (pe_op op_fdiv (pe_op op_mul (pv 7) (pv 7)) pe_int) (pv 7)) pa_nil)) pe_int))
  (pss_one (ps_expr (pe_bm PySem.F.plainAttrs_list PySem.F.slot_list_append PySem.F.type_list_append mt_append (pv 3) (pa_cons (pe_op op_mod (pe_callTy call_int1 (by rfl) C.z_int (by decide +kernel) (pa_cons (pe_op op_add (pe_op op_fdiv (pe_op op_mul (pv 7) (pv 7)) pe_int) (pe_op op_mul (pv 4) pe_int)) pa_nil)) pe_int) pa_nil)))))))))
  (pss_one (ps_ret (pv 3)))))), ?_⟩
  refine ⟨_, rfl, l, rfl, ⟨_, hs⟩, fun rl nrl => lc_list (xs := ns.map L2.V.int) (fun i H1 => (∃ rs : List Int, H1 rl = some (.lst (rs.map L2.V.int)) ∧ rs.length = i) ∧ Same H H1) ⟨⟨[], upd_same, rfl⟩, same_new nrl _⟩ (fun i H1 _ h => sql_same h.2 hs) (fun i y H1 hy h => ?_) (fun H1 h => ?_)⟩
  · obtain ⟨⟨rs, hr, lr⟩, sm⟩ := h
    have hi := (List.getElem?_eq_some_iff.mp hy).1
    rw [List.length_map] at hi
    rw [List.getElem?_map, List.getElem?_eq_getElem hi] at hy
    cases hy
    refine ⟨rfl, _, rfl, .inl ⟨_, rfl, _, rfl, _, hr, by rw [List.length_map]; exact line_lt (by omega), ⟨rs ++ [_], by rw [upd_same, List.map_append] <;> rfl, by rw [List.length_append, lr] <;> rfl⟩, fun b o e => ?_⟩⟩
    rw [upd_ne (ne_of_none e nrl)]
    exact sm _ _ e
  · obtain ⟨⟨rs, hr, lr⟩, sm1⟩ := h
    rw [List.length_map] at lr
    refine ⟨Nat.zero_le _, fun dl ndl => ?_⟩
    have nrd : rl ≠ dl := ne_of_none hr ndl
    have sm2 : Same H1 (upd H1 dl (.lst [])) := same_new ndl _
    have hd2 : upd H1 dl (.lst []) dl = some (.lst []) := upd_same
    have hr2 := sm2 _ _ hr
    have ndl0 : H dl = none := by
      cases e : H dl with
      | none => rfl
      | some o =>
        rw [sm1 _ _ e] at ndl
        cases ndl
    have nrl0 : H rl = none := nrl
    generalize upd H1 dl (.lst []) = H2 at *
    have sm12 : Same H H2 := fun b o e => sm2 _ _ (sm1 _ _ e)
    refine ⟨_, rfl, _, rfl, by omega, by omega, for_it walk_range (fun i σ H3 => ∃ (o4 o5 o6 o7 : Option L2.V) (rs xs : List Int), σ = [some (.ref l), some (.int (many : Int)), some (.ref rl), some (.ref dl), o4, o5, o6, o7] ∧ H3 rl = some (.lst (rs.map L2.V.int)) ∧ rs.length = ns.length ∧ H3 dl = some (.lst (xs.map L2.V.int)) ∧ xs.length ≤ i ∧ Same H H3) ⟨_, _, _, _, rs, [], rfl, hr2, lr, hd2, Nat.le_refl _, sm12⟩ (fun _ _ _ _ _ => True.intro) (fun i y σ H4 H3 hi h yy => ?_) (fun σ H3 h => ?_)⟩
    · obtain ⟨e, ey⟩ := yy
      subst e ey
      obtain ⟨o4, o5, o6, o7, rs, xs, rfl, hr3, lr3, hd3, lx, sm3⟩ := h
      have hs3 := sql_same sm3 hs
      have lxl : (xs.map L2.V.int).length < sizeLine := by rw [List.length_map]; exact line_lt (by omega)
      refine ⟨_, rfl, ?_⟩
      refine ⟨_, rfl, l, _, rfl, .inl hs3, _, _, rfl, rfl, _, rfl, ite_b (fun hb => ?_) (fun _ => ?_)⟩
      · have hpos : (0 : Int) < (((ns.map L2.V.int).length : Nat) : Int) := of_decide_eq_true hb
        have hpos' : 0 < ns.length := by rw [List.length_map] at hpos; omega
        have eat : ((0 : Int) + ((i : Nat) : Int)) % (((ns.map L2.V.int).length : Nat) : Int) = ((i % ns.length : Nat) : Int) := by
          rw [List.length_map, Int.zero_add]
          rfl
        have hat : i % ns.length < ns.length := Nat.mod_lt _ hpos'
        have a1 : atI (ns.map L2.V.int) (((0 : Int) + ((i : Nat) : Int)) % (((ns.map L2.V.int).length : Nat) : Int)) = some (.int ns[i % ns.length]) := by
          rw [eat]
          exact atI_int (List.getElem?_eq_getElem hat)
        have a2 : atI (rs.map L2.V.int) (((0 : Int) + ((i : Nat) : Int)) % (((ns.map L2.V.int).length : Nat) : Int)) = some (.int (rs[i % ns.length]'(by omega))) := by
          rw [eat]
          exact atI_int (List.getElem?_eq_getElem (by omega))
        have a3 : ixN (rs.map L2.V.int).length (((0 : Int) + ((i : Nat) : Int)) % (((ns.map L2.V.int).length : Nat) : Int)) = some (i % ns.length) := by
          rw [eat, List.length_map]
          unfold ixN
          rw [if_pos (by omega), if_pos (by omega)]
          rfl
        refine ⟨_, rfl, _, rfl, l, _, rfl, .inl hs3, _, _, rfl, rfl, hpos, ?_⟩
        refine ⟨_, rfl, _, rfl, l, _, _, _, rfl, rfl, hs3, a1, .inl ⟨_, rfl, ?_⟩⟩
        refine ⟨_, rfl, _, _, rfl, rfl, ⟨by decide, by decide, by decide⟩, _, _, rfl, rfl, _, rfl, ite_b (fun _ => ?_) (fun _ => ?_)⟩
        · refine ⟨_, rfl, _, rfl, rl, _, _, _, rfl, rfl, SqL.of hr3, a2, _, _, rfl, rfl, _, rfl, ite_b (fun _ => ?_) (fun _ => ?_)⟩
          · refine ⟨_, rfl, .inl ⟨rfl, _, SqL.of hd3⟩, _, rfl, _, rfl, rl, _, _, _, rfl, rfl, SqL.of hr3, a2, .inl ⟨_, rfl, _, _, rfl, rfl, (show (0 : Int) < 1000003 by decide), dl, _, _, rfl, rfl, hd3, lxl, ?_⟩⟩
            have hr4 : ∀ o, upd H3 dl o rl = some (.lst (rs.map L2.V.int)) := fun o => (upd_ne nrd).trans hr3
            refine ⟨_, rfl, _, rfl, rl, _, _, _, rfl, rfl, SqL.of (hr4 _), a2, .inl ⟨_, rfl, _, _, rfl, rfl, ⟨by decide, by decide⟩, _, rfl, _, rfl, rl, _, _, _, rfl, rfl, hr4 _, a3, ?_⟩⟩
            refine ⟨_, _, _, _, rs.set (i % ns.length) _, xs ++ [_], rfl, by rw [upd_same, List.map_set], by rw [List.length_set, lr3], by rw [upd_ne nrd.symm, upd_same, List.map_append] <;> rfl, by rw [List.length_append]; exact Nat.succ_le_succ lx, fun b o e => ?_⟩
            rw [upd_ne (ne_of_none e nrl0), upd_ne (ne_of_none e ndl0)]
            exact sm3 _ _ e
          · exact ⟨_, rfl, _, _, rfl, rfl, cm_r _ (by decide) (by decide), _, rfl, _, _, rfl, rfl, cm_r _ (by decide) (by decide), _, _, rfl, rfl, _, _, rfl, rfl, .inl ⟨_, rfl, _, _, rfl, rfl, (show (0 : Int) < 2147483647 by decide), _, rfl, _, rfl, _, _, rfl, rfl, cm_self _ _ (by decide) (by decide), _, _, rfl, rfl, ⟨by decide, by decide⟩, _, rfl, _, _, rfl, rfl, .inl ⟨_, rfl, _, _, rfl, rfl, (show (0 : Int) < 2147483629 by decide), _, rfl, .inl ⟨rfl, _, SqL.of hd3⟩, _, rfl, _, rfl, _, _, rfl, rfl, cm_self _ _ (by decide) (by decide), _, _, rfl, rfl, ⟨by decide, by decide⟩, _, rfl, _, _, rfl, rfl, cm_r _ (by decide) (by decide), _, _, rfl, rfl, .inl ⟨_, rfl, _, _, rfl, rfl, (show (0 : Int) < 2147483629 by decide), dl, _, _, rfl, rfl, hd3, lxl, _, _, _, _, rs, xs ++ [_], rfl, (upd_ne nrd).trans hr3, lr3, by rw [upd_same, List.map_append] <;> rfl, by rw [List.length_append]; exact Nat.succ_le_succ lx, fun b o e => (upd_ne (ne_of_none e ndl0)).trans (sm3 _ _ e)⟩⟩⟩⟩
        · exact ⟨_, rfl, _, _, rfl, rfl, cm_r _ (by decide) (by decide), _, rfl, _, _, rfl, rfl, cm_r _ (by decide) (by decide), _, _, rfl, rfl, _, _, rfl, rfl, .inl ⟨_, rfl, _, _, rfl, rfl, (show (0 : Int) < 2147483647 by decide), _, rfl, _, rfl, _, _, rfl, rfl, cm_self _ _ (by decide) (by decide), _, _, rfl, rfl, ⟨by decide, by decide⟩, _, rfl, _, _, rfl, rfl, .inl ⟨_, rfl, _, _, rfl, rfl, (show (0 : Int) < 2147483629 by decide), _, rfl, .inl ⟨rfl, _, SqL.of hd3⟩, _, rfl, _, rfl, _, _, rfl, rfl, cm_self _ _ (by decide) (by decide), _, _, rfl, rfl, ⟨by decide, by decide⟩, _, rfl, _, _, rfl, rfl, cm_r _ (by decide) (by decide), _, _, rfl, rfl, .inl ⟨_, rfl, _, _, rfl, rfl, (show (0 : Int) < 2147483629 by decide), dl, _, _, rfl, rfl, hd3, lxl, _, _, _, _, rs, xs ++ [_], rfl, (upd_ne nrd).trans hr3, lr3, by rw [upd_same, List.map_append] <;> rfl, by rw [List.length_append]; exact Nat.succ_le_succ lx, fun b o e => (upd_ne (ne_of_none e ndl0)).trans (sm3 _ _ e)⟩⟩⟩⟩
      · exact ⟨_, rfl, _, _, rfl, rfl, cm_r _ (by decide) (by decide), _, rfl, _, _, rfl, rfl, cm_r _ (by decide) (by decide), _, _, rfl, rfl, _, _, rfl, rfl, .inl ⟨_, rfl, _, _, rfl, rfl, (show (0 : Int) < 2147483647 by decide), _, rfl, _, rfl, _, _, rfl, rfl, cm_self _ _ (by decide) (by decide), _, _, rfl, rfl, ⟨by decide, by decide⟩, _, rfl, _, _, rfl, rfl, .inl ⟨_, rfl, _, _, rfl, rfl, (show (0 : Int) < 2147483629 by decide), _, rfl, .inl ⟨rfl, _, SqL.of hd3⟩, _, rfl, _, rfl, _, _, rfl, rfl, cm_self _ _ (by decide) (by decide), _, _, rfl, rfl, ⟨by decide, by decide⟩, _, rfl, _, _, rfl, rfl, cm_r _ (by decide) (by decide), _, _, rfl, rfl, .inl ⟨_, rfl, _, _, rfl, rfl, (show (0 : Int) < 2147483629 by decide), dl, _, _, rfl, rfl, hd3, lxl, _, _, _, _, rs, xs ++ [_], rfl, (upd_ne nrd).trans hr3, lr3, by rw [upd_same, List.map_append] <;> rfl, by rw [List.length_append]; exact Nat.succ_le_succ lx, fun b o e => (upd_ne (ne_of_none e ndl0)).trans (sm3 _ _ e)⟩⟩⟩⟩
    · obtain ⟨o4, o5, o6, o7, rs, xs, rfl, hr3, lr3, hd3, lx, sm3⟩ := h
      exact ⟨_, rfl, q dl xs H3 sm3 hd3 ndl0 (by omega)⟩
end
end K35
end

section
set_option Elab.async false
set_option linter.all false
set_option maxRecDepth 100000
namespace K35
open PySem PySem.Spec PyProof.Rows L2
theorem sc_law_take : FnScope ["_law_hand", "_law_many", "_law_at", "_law_draws_here"] ["_law_hand", "_law_many"] (defScope s_law_take) := ⟨rfl, rfl, rfl, by decide +kernel, rfl, by decide +kernel, by decide +kernel⟩
theorem sc_law_value : FnScope ["_law_hand", "_law_depth", "_law_k"] ["_law_hand", "_law_depth"] (defScope s_law_value) := ⟨rfl, rfl, rfl, by decide +kernel, rfl, by decide +kernel, by decide +kernel⟩
/-- the hand of draws -/
structure Hand where
  h : Addr
  d : Addr
  xs : List Int
def Hand.At (G : Hand) (H : Hp) : Prop := G.h ≠ G.d ∧ (∃ k : Nat, H G.h = some (.lst [.ref G.d, .int (k : Int)])) ∧ H G.d = some (.lst (G.xs.map L2.V.int))
def Hand.Fr (G : Hand) (H H' : Hp) : Prop := ∀ b o, H b = some o → b ≠ G.h → H' b = some o
theorem Hand.Fr.refl (G : Hand) (H : Hp) : G.Fr H H := fun _ _ h _ => h
theorem Hand.Fr.trans {G : Hand} {H H1 H2 : Hp} (a : G.Fr H H1) (b : G.Fr H1 H2) : G.Fr H H2 := fun c o h n => b c o (a c o h n) n
theorem Hand.Fr.same {G : Hand} {H H' : Hp} (s : Same H H') : G.Fr H H' := fun c o h _ => s c o h
theorem Hand.At.same {G : Hand} {H H' : Hp} (s : Same H H') (a : G.At H) : G.At H' := ⟨a.1, let ⟨k, h⟩ := a.2.1; ⟨k, s _ _ h⟩, s _ _ a.2.2⟩
theorem Hand.At.upd {G : Hand} {H : Hp} {p : Addr} {o : HO} (a : G.At H) (h1 : p ≠ G.h) (h2 : p ≠ G.d) : G.At (upd H p o) := ⟨a.1, let ⟨k, h⟩ := a.2.1; ⟨k, (upd_ne h1.symm).trans h⟩, (upd_ne h2.symm).trans a.2.2⟩
theorem Hand.At.ne {G : Hand} {H : Hp} {p : Addr} (a : G.At H) (h : H p = none) : p ≠ G.h ∧ p ≠ G.d := by
  obtain ⟨k, hk⟩ := a.2.1
  exact ⟨(ne_of_none hk h).symm, (ne_of_none a.2.2 h).symm⟩
theorem Hand.Fr.tk {G : Hand} {H H' : Hp} (a : G.At H) (f : G.Fr H H') : Tk H H' := by
  obtain ⟨k, hk⟩ := a.2.1
  exact Tk.but (by rw [hk]; exact NoTup.lst) f
theorem Hand.Fr.new {G : Hand} {H0 H : Hp} {p : Addr} {o : HO} (f : G.Fr H0 H) (hp : H0 p = none) : G.Fr H0 (upd H p o) := fun b u e n => by
  rw [upd_ne (ne_of_none e hp)]
  exact f b u e n
def vparts : Nat → Nat
  | 0 => 1
  | d + 1 => 3 * vparts d + 1
theorem vparts_pos : ∀ d, 1 ≤ vparts d
  | 0 => Nat.le_refl _
  | d + 1 => by
    show 1 ≤ 3 * vparts d + 1
    omega
/-- a drawn value -/
structure ValOk (d : Nat) (t : T) : Prop where
  ok : t.ok = true
  rank : t.rank ≤ d + 3
  parts : t.parts ≤ vparts d
theorem valOk_word {d : Nat} {x : Str} (h : PyData.strOk x = true) : ValOk d (.w x) := ⟨h, Nat.zero_le _, vparts_pos d⟩
theorem valOk_list {d : Nat} {xs : List T} (hl : xs.length ≤ 3) (h : ∀ x ∈ xs, ValOk d x) : ValOk (d + 1) (.l xs) := by
  refine ⟨T.oks_all fun x hx => (h x hx).ok, ?_, ?_⟩
  · have z := T.ranks_all fun x hx => (h x hx).rank
    show max (xs.length + 1) (T.ranks xs + 1) ≤ d + 1 + 3
    omega
  · have z : ∀ ys : List T, (∀ x ∈ ys, ValOk d x) → T.partss ys ≤ ys.length * vparts d := by
      intro ys
      induction ys with
      | nil => exact fun _ => Nat.zero_le _
      | cons y ys ih =>
        intro hy
        have h1 := (hy y (List.mem_cons_self ..)).parts
        have h2 := ih fun x hx => hy x (List.mem_cons_of_mem _ hx)
        show y.parts + T.partss ys ≤ (ys.length + 1) * vparts d
        rw [Nat.add_mul, Nat.one_mul]
        omega
    have z2 := z xs h
    have z3 : xs.length * vparts d ≤ 3 * vparts d := Nat.mul_le_mul_right _ hl
    show T.partss xs + 1 ≤ 3 * vparts d + 1
    omega
section
variable {P : Program} {w : World} {K : PySem.W.Frag} {mg : Str → Option Value} {base : Heap} (C : Ctx w K mg)
include C
def spTake (K : PySem.W.Frag) : Sp := fun vs H Q _ => ∃ (G : Hand) (m : Nat), vs = [.ref G.h, .int (m : Int)] ∧ G.At H ∧ 0 < m ∧ ∀ (v : Nat) (H' : Hp), G.At H' → G.Fr H H' → v < m → Q (.int (v : Int)) H'
theorem ok_take : FOk P w K mg base 1 "_law_take" ["_law_hand", "_law_many"] (spTake K) := by
  refine fok C.f_law_take C.g_law_take (fun _ _ _ _ _ _ us hl => match us, hl with | [_, _], _ => rfl) sc_law_take (fun vs H Q E h => ?_) (fun f cdv A outer s H vs Q E hr h => ?_)
  · obtain ⟨G, m, rfl, _⟩ := h
    rfl
  obtain ⟨G, m, rfl, hG, hm, q⟩ := h
  refine ⟨_, (pss_cons (ps_set (i := 2) sc_law_take.nd rfl (Or.inl rfl) (pe_ix ix_list (pv 0) pe_int (fun _ _ => rfl)))
  (pss_cons (ps_asg (pe_op op_add (pv 2) pe_int) (pg_sub (pv 0) pe_int set_list))
  (pss_cons (ps_set (i := 3) sc_law_take.nd rfl (Or.inl rfl) (pe_ix ix_list (pv 0) pe_int (fun _ _ => rfl)))
  (pss_cons (ps_if (pt_cmpR op_ge (pv 2) (pe_callB call_len_seq (by rfl) C.z_len PySem.boot_len (pa_cons (pv 3) pa_nil)) (nomark _)) (pss_one (ps_ret pe_int)) pss_nil)
  (pss_one (ps_ret (pe_op op_mod (pe_op op_fdiv (pe_callTy call_int1 (by rfl) C.z_int (by decide +kernel) (pa_cons (pe_ix ix_list (pv 3) (pv 2) (fun _ _ => rfl)) pa_nil)) pe_int) (pv 1)))))))), ?_⟩
  obtain ⟨hne, ⟨k, hk⟩, hd⟩ := id hG
  refine ⟨_, rfl, G.h, _, _, _, rfl, rfl, SqL.of hk, rfl, ?_⟩
  refine ⟨_, rfl, _, _, rfl, rfl, _, rfl, G.h, _, _, _, rfl, rfl, hk, rfl, ?_⟩
  have hh : upd H G.h (.lst [.ref G.d, .int ((k : Int) + 1)]) G.h = some (.lst [.ref G.d, .int ((k : Int) + 1)]) := upd_same
  have fr : G.Fr H (upd H G.h (.lst [.ref G.d, .int ((k : Int) + 1)])) := fun b o e n => (upd_ne n).trans e
  have hd1 : upd H G.h (.lst [.ref G.d, .int ((k : Int) + 1)]) G.d = some (.lst (G.xs.map L2.V.int)) := (upd_ne hne.symm).trans hd
  have hG1 : G.At (upd H G.h (.lst [.ref G.d, .int ((k : Int) + 1)])) := ⟨hne, ⟨k + 1, hh⟩, hd1⟩
  refine ⟨_, rfl, G.h, _, _, _, rfl, rfl, SqL.of hh, rfl, ?_⟩
  refine ⟨_, rfl, _, rfl, G.d, _, rfl, .inl (SqL.of hd1), _, _, rfl, rfl, _, rfl, ite_b (fun hb => ?_) (fun hb => ?_)⟩
  · exact q 0 _ hG1 fr hm
  · have hk2 : k < G.xs.length := by
      have z : decide ((((G.xs.map L2.V.int).length : Nat) : Int) ≤ (k : Int)) = false := hb
      have z2 := of_decide_eq_false z
      rw [List.length_map] at z2
      omega
    refine ⟨_, rfl, _, rfl, G.d, _, _, _, rfl, rfl, SqL.of hd1, atI_int (List.getElem?_eq_getElem hk2), .inl ⟨_, rfl, _, _, rfl, rfl, ⟨by decide, by decide⟩, _, rfl, _, _, rfl, rfl, (show (0 : Int) < (m : Int) by omega), ?_⟩⟩
    have a := Int.emod_nonneg (G.xs[k] / 7) (show (m : Int) ≠ 0 by omega)
    have b := Int.emod_lt_of_pos (G.xs[k] / 7) (show (0 : Int) < (m : Int) by omega)
    have z := q ((G.xs[k] / 7) % (m : Int)).toNat _ hG1 fr (by omega)
    rw [Int.toNat_of_nonneg a] at z
    exact z
def spVal (K : PySem.W.Frag) (d : Nat) : Sp := fun vs H Q _ => ∃ G : Hand, vs = [.ref G.h, .int (d : Int)] ∧ G.At H ∧ ∀ (t : T) (v : L2.V) (H' : Hp), ValOk d t → TV K H' t v → G.At H' → G.Fr H H' → Q v H'
def spValP (K : PySem.W.Frag) : Nat → Sp
  | 0 => fun _ _ _ _ => False
  | d + 1 => spVal K d
theorem value_never : FOk P w K mg base 1 "_law_value" ["_law_hand", "_law_depth"] (spValP K 0) := by
  refine fok C.f_law_value C.g_law_value (fun _ _ _ _ _ _ us hl => match us, hl with | [_, _], _ => rfl) sc_law_value (fun vs H Q E h => ?_) (fun f cdv A outer s H vs Q E hr h => ?_)
  · exact h.elim
  · exact h.elim
theorem value_body (d : Nat) (F_law_value : FOk P w K mg base (d + 1) "_law_value" ["_law_hand", "_law_depth"] (spValP K d)) : FOk P w K mg base (d + 2) "_law_value" ["_law_hand", "_law_depth"] (spVal K d) := by
  have F_law_take := ok_take C (P := P) (base := base)
  refine fok C.f_law_value C.g_law_value (fun _ _ _ _ _ _ us hl => match us, hl with | [_, _], _ => rfl) sc_law_value (fun vs H Q E h => ?_) (fun f cdv A outer s H vs Q E hr h => ?_)
  · obtain ⟨G, rfl, _⟩ := h
    rfl
  obtain ⟨G, rfl, hG, q⟩ := h
  refine ⟨_, (pss_cons (ps_if (PW.pt (pw_or (pt_cmpR op_eq (pv 1) pe_int (nomark _)) (pw_or1 (pt_cmpR op_eq (pe_fn F_law_take (hr.mono (by first | decide | omega)) (by rfl) (pa_cons (pv 0) (pa_cons pe_int pa_nil))) pe_int (nomark _))))) (pss_one (ps_ret (pe_ix ix_list (pe_lst (pa_cons pe_str (pa_cons pe_str (pa_cons pe_str (pa_cons pe_str (pa_cons pe_str (pa_cons pe_str (pa_cons pe_str (pa_cons pe_str pa_nil))))))))) (pe_fn F_law_take (hr.mono (by first | decide | omega)) (by rfl) (pa_cons (pv 0) (pa_cons pe_int pa_nil))) (fun _ _ => rfl)))) pss_nil)
  (pss_one (ps_ret (pe_callTy call_tuple_of (by rfl) C.z_tuple (by decide +kernel) (pa_cons (pe_lc  (own := [("_law_k", 2)]) (g := gName 2) (by rfl) sc_law_value.nd (pi_range1 (by rfl) C.z_range (pa_cons (pe_fn F_law_take (hr.mono (by first | decide | omega)) (by rfl) (pa_cons (pv 0) (pa_cons pe_int pa_nil))) pa_nil)) (blkOk_by (own := [("_law_k", 2)]) (N := ["_law_hand", "_law_depth", "_law_k"]) (sc := defScope s_law_value) (by decide +kernel)) (fun _ _ _ _ _ => pg_name (i := 2) sc_law_value.nd rfl (Or.inl rfl)) (fun _ _ _ _ _ => pts_nil) (fun _ _ _ _ _ => (pe_fn F_law_value (hr.mono (by first | decide | omega)) (by rfl) (pa_cons (pv 0) (pa_cons (pe_op op_sub (pv 1) pe_int) pa_nil))))) pa_nil))))), ?_⟩
  -- a word
  have word : ∀ (H1 : Hp), G.At H1 → G.Fr H H1 → ∀ o2 : Option L2.V, tRet (tOp (rIxL K) (tLst (tCons (tC (.str "yes")) (tCons (tC (.str "a")) (tCons (tC (.str "quote")) (tCons (tC (.str "f0")) (tCons (tC (.str "b2")) (tCons (tC (.str "done")) (tCons (tC (.str "spin")) (tCons (tC (.str "x")) tNil)))))))))
      (tCall (spTake K) [] E0 (tCons (tVar 0) (tCons (tC (.int 8)) tNil)))) { nx := fun x H' => Q .non H', rt := Q } [some (.ref G.h), some (.int (d : Int)), o2] H1 := by
    intro H1 hG1 f1 o2
    refine ⟨by show 8 ≤ sizeLine; decide, fun pl npl => ?_⟩
    have s2 : Same H1 (upd H1 pl (.lst [.str "yes", .str "a", .str "quote", .str "f0", .str "b2", .str "done", .str "spin", .str "x"])) := same_new npl _
    have hpl : upd H1 pl (.lst [.str "yes", .str "a", .str "quote", .str "f0", .str "b2", .str "done", .str "spin", .str "x"]) pl = some (.lst [.str "yes", .str "a", .str "quote", .str "f0", .str "b2", .str "done", .str "spin", .str "x"]) := upd_same
    generalize upd H1 pl (.lst [.str "yes", .str "a", .str "quote", .str "f0", .str "b2", .str "done", .str "spin", .str "x"]) = H2 at *
    have hG2 := hG1.same s2
    refine ⟨_, rfl, G, 8, rfl, hG2, by decide, fun v H3 hG3 f3 hv => ?_⟩
    have hne := (hG1.ne npl).1
    have hpl3 := f3 _ _ hpl hne
    have f13 : G.Fr H H3 := (f1.trans (.same s2)).trans f3
    have fin : ∀ x : Str, PyData.strOk x = true → Q (.str x) H3 := fun x hx => q (.w x) _ H3 (valOk_word hx) rfl hG3 f13
    match v, hv with
    | 0, _ => exact ⟨pl, _, _, _, rfl, rfl, SqL.of hpl3, rfl, fin _ (by decide +kernel)⟩
    | 1, _ => exact ⟨pl, _, _, _, rfl, rfl, SqL.of hpl3, rfl, fin _ (by decide +kernel)⟩
    | 2, _ => exact ⟨pl, _, _, _, rfl, rfl, SqL.of hpl3, rfl, fin _ (by decide +kernel)⟩
    | 3, _ => exact ⟨pl, _, _, _, rfl, rfl, SqL.of hpl3, rfl, fin _ (by decide +kernel)⟩
    | 4, _ => exact ⟨pl, _, _, _, rfl, rfl, SqL.of hpl3, rfl, fin _ (by decide +kernel)⟩
    | 5, _ => exact ⟨pl, _, _, _, rfl, rfl, SqL.of hpl3, rfl, fin _ (by decide +kernel)⟩
    | 6, _ => exact ⟨pl, _, _, _, rfl, rfl, SqL.of hpl3, rfl, fin _ (by decide +kernel)⟩
    | 7, _ => exact ⟨pl, _, _, _, rfl, rfl, SqL.of hpl3, rfl, fin _ (by decide +kernel)⟩
    | v + 8, hv => omega
  refine ⟨_, rfl, rfl, _, rfl, ite_b (fun _ => word H hG (.refl G H) _) (fun hd => ?_)⟩
  refine ⟨_, rfl, G, 3, rfl, hG, by decide, fun v H1 hG1 f1 hv => ⟨rfl, _, rfl, ite_b (fun _ => word H1 hG1 f1 _) (fun _ => ?_)⟩⟩
  have hd0 : d ≠ 0 := fun e => by
    subst e
    have hd : decide (L2.V.int ((0 : Nat) : Int) = L2.V.int 0) = false := hd
    exact absurd hd (by decide)
  obtain ⟨d, rfl⟩ : ∃ d', d = d' + 1 := ⟨d - 1, by omega⟩
  refine ⟨_, rfl, G, 4, rfl, hG1, by decide, fun n H2 hG2 f2 hn => ?_⟩
  refine ⟨_, rfl, by omega, by omega, fun D nD => lc_range (n := n) (fun i H3 => (∃ acc ts, H3 D = some (.lst acc) ∧ TVs K H3 ts acc ∧ ts.length = i ∧ ∀ t ∈ ts, ValOk d t) ∧ G.At H3 ∧ G.Fr H2 H3) ⟨⟨[], [], upd_same, rfl, rfl, fun t ht => (List.not_mem_nil ht).elim⟩, hG2.same (same_new nD _), .same (same_new nD _)⟩ (fun i H3 hi h => ?_) (fun H3 h => ?_)⟩
  · obtain ⟨⟨acc, ts, hacc, tts, lts, ok⟩, hG3, f3⟩ := h
    refine ⟨rfl, _, rfl, _, rfl, _, _, rfl, rfl, G, ?_, hG3, fun t v H4 ht tv hG4 f4 => ?_⟩
    · show [L2.V.ref G.h, L2.V.int (((d + 1 : Nat) : Int) - 1)] = [L2.V.ref G.h, L2.V.int (d : Int)]
      rw [show ((d + 1 : Nat) : Int) - 1 = (d : Int) by omega]
    have hne := hG2.ne nD
    have hacc4 := f4 _ _ hacc hne.1
    have k5 : Tk H4 (upd H4 D (.lst (acc ++ [v]))) := Tk.upd (by rw [hacc4]; exact NoTup.lst)
    have k34 := f4.tk hG3
    have lacc := tts.length
    refine ⟨acc, hacc4, line_lt (by omega), ⟨acc ++ [v], ts ++ [t], upd_same, (tts.mono (k34.trans k5)).snoc (tv.mono k5), by rw [List.length_append, lts] <;> rfl, fun u hu => ?_⟩, hG4.upd hne.1 hne.2, (f3.trans f4).new nD⟩
    rcases List.mem_append.mp hu with hu | hu
    · exact ok u hu
    · rw [List.mem_singleton.mp hu]
      exact ht
  · obtain ⟨⟨acc, ts, hacc, tts, lts, ok⟩, hG3, f3⟩ := h
    refine ⟨D, acc, rfl, .inl ⟨SqL.of hacc, fun l nl => ?_⟩⟩
    have s4 : Same H3 (upd H3 l (.tup acc)) := same_new nl _
    exact q (.l ts) _ _ (valOk_list (by omega) ok) ⟨l, acc, rfl, .inl (.of upd_same), tts.mono (Tk.same s4)⟩ (hG3.same s4) (((f1.trans f2).trans f3).trans (.same s4))
theorem ok_value : ∀ d, FOk P w K mg base (d + 2) "_law_value" ["_law_hand", "_law_depth"] (spVal K d)
  | 0 => value_body C 0 (value_never C)
  | d + 1 => value_body C (d + 1) (ok_value d)
end
end K35
end

section
set_option Elab.async false
set_option linter.all false
set_option maxRecDepth 100000
namespace K35
open PySem PySem.Spec PyProof.Rows L2
theorem sc_law_expression : FnScope ["_law_hand", "_law_parameters", "_law_calls", "_law_depth", "_law_kind", "_law_parts", "_law_left", "_law_name", "_law_many", "_law_k"] ["_law_hand", "_law_parameters", "_law_calls", "_law_depth"] (defScope s_law_expression) := ⟨rfl, rfl, rfl, by decide +kernel, rfl, by decide +kernel, by decide +kernel⟩
def eparts : Nat → Nat
  | 0 => 15
  | d + 1 => 3 * eparts d + 2
theorem eparts_ge : ∀ d, 15 ≤ eparts d
  | 0 => Nat.le_refl _
  | d + 1 => by
    have := eparts_ge d
    show 15 ≤ 3 * eparts d + 2
    omega
/-- a drawn expression -/
structure ExpOk (cs : Sig) (ps : List Str) (d : Nat) (e : K35.E) : Prop where
  wf : WfE cs 5 ps e
  ok : e.enc.ok = true
  parts : e.enc.parts ≤ eparts d
theorem encs_parts {cs : Sig} {ps : List Str} {d : Nat} : ∀ {as : List K35.E}, (∀ a ∈ as, ExpOk cs ps d a) → T.partss (K35.E.encs as) ≤ as.length * eparts d ∧ T.oks (K35.E.encs as) = true
  | [], _ => ⟨Nat.zero_le _, rfl⟩
  | a :: as, h => by
    have h1 := h a (List.mem_cons_self ..)
    obtain ⟨h2, h3⟩ := encs_parts fun x hx => h x (List.mem_cons_of_mem _ hx)
    refine ⟨?_, ?_⟩
    · show a.enc.parts + T.partss (K35.E.encs as) ≤ (as.length + 1) * eparts d
      have := h1.parts
      rw [Nat.add_mul, Nat.one_mul]
      omega
    · show (a.enc.ok && T.oks (K35.E.encs as)) = true
      rw [h1.ok, h3]
      rfl
theorem eo_app {cs : Sig} {ps : List Str} {d : Nat} {w : Str} {as : List K35.E} (hw : PyData.strOk w = true) (hl : as.length ≤ 3) (h : ∀ a ∈ as, ExpOk cs ps d a) (hh : (isPlain w = true ∧ as.length = arity w) ∨ (isSpecial w = false ∧ (w, as.length) ∈ cs)) : ExpOk cs ps (d + 1) (.app w as) := by
  obtain ⟨h2, h3⟩ := encs_parts h
  refine ⟨⟨by omega, hh, WfEs.all fun a ha => (h a ha).wf⟩, ?_, ?_⟩
  · show (PyData.strOk w && T.oks (K35.E.encs as)) = true
    rw [hw, h3]
    rfl
  · show (1 + T.partss (K35.E.encs as)) + 1 ≤ 3 * eparts d + 2
    have z3 : as.length * eparts d ≤ 3 * eparts d := Nat.mul_le_mul_right _ hl
    omega
theorem eo_ite {cs : Sig} {ps : List Str} {d : Nat} {a b c : K35.E} (ha : ExpOk cs ps d a) (hb : ExpOk cs ps d b) (hc : ExpOk cs ps d c) : ExpOk cs ps (d + 1) (.ite a b c) := by
  refine ⟨⟨ha.wf, hb.wf, hc.wf⟩, ?_, ?_⟩
  · show (PyData.strOk "if" && (a.enc.ok && (b.enc.ok && (c.enc.ok && true)))) = true
    rw [ha.ok, hb.ok, hc.ok]
    decide +kernel
  · show (1 + (a.enc.parts + (b.enc.parts + (c.enc.parts + 0)))) + 1 ≤ 3 * eparts d + 2
    have := ha.parts
    have := hb.parts
    have := hc.parts
    omega
theorem eo_var {cs : Sig} {ps : List Str} {d : Nat} {x : Str} (h : x ∈ ps) (hx : PyData.strOk x = true) : ExpOk cs ps d (.var x) := ⟨h, hx, Nat.le_trans (show 1 ≤ 15 by decide) (eparts_ge d)⟩
theorem eo_quo {cs : Sig} {ps : List Str} {d : Nat} {t : T} (h : ValOk 2 t) : ExpOk cs ps d (.quo t) := by
  refine ⟨⟨h.ok, h.rank⟩, ?_, ?_⟩
  · show (PyData.strOk "quote" && (t.ok && true)) = true
    rw [h.ok]
    decide +kernel
  · show (1 + (t.parts + 0)) + 1 ≤ eparts d
    have h1 : t.parts ≤ 13 := h.parts
    have := eparts_ge d
    omega
/-- the list of what may be called -/
def CallsAt (K : PySem.W.Frag) (H : Hp) (c : Addr) (cs : Sig) : Prop := ∃ us, H c = some (.lst us) ∧ All2 (fun (q : Str × Nat) v => ∃ a, v = .ref a ∧ SqT K H a [.str q.1, .int (q.2 : Int)]) cs us
theorem CallsAt.mono {K : PySem.W.Frag} {H H' : Hp} {c : Addr} {cs : Sig} (k : Tk H H') (hc : ∀ us, H c = some (.lst us) → H' c = some (.lst us)) (h : CallsAt K H c cs) : CallsAt K H' c cs := by
  obtain ⟨us, h1, h2⟩ := h
  exact ⟨us, hc us h1, h2.mono fun q v ⟨a, e, s⟩ => ⟨a, e, k.sqt s⟩⟩
section
variable {P : Program} {w : World} {K : PySem.W.Frag} {mg : Str → Option Value} {base : Heap} (C : Ctx w K mg)
include C
def spExp (K : PySem.W.Frag) (d : Nat) : Sp := fun vs H Q _ => ∃ (G : Hand) (ps : List Str) (cs : Sig) (c : Addr) (vp : L2.V), vs = [.ref G.h, vp, .ref c, .int (d : Int)] ∧ G.At H ∧ TV K H (.l (ps.map T.w)) vp ∧ ps.length ≤ 4 ∧ (∀ x ∈ ps, PyData.strOk x = true) ∧ CallsAt K H c cs ∧ c ≠ G.h ∧ cs.length ≤ 10 ∧ (∀ q ∈ cs, isSpecial q.1 = false ∧ PyData.strOk q.1 = true ∧ q.2 ≤ 3) ∧
  ∀ (e : K35.E) (v : L2.V) (H' : Hp), ExpOk cs ps d e → TV K H' e.enc v → G.At H' → G.Fr H H' → Q v H'
def spExpP (K : PySem.W.Frag) : Nat → Sp
  | 0 => fun _ _ _ _ => False
  | d + 1 => spExp K d
theorem exp_never : FOk P w K mg base 4 "_law_expression" ["_law_hand", "_law_parameters", "_law_calls", "_law_depth"] (spExpP K 0) := by
  refine fok C.f_law_expression C.g_law_expression (fun _ _ _ _ _ _ us hl => match us, hl with | [_, _, _, _], _ => rfl) sc_law_expression (fun vs H Q E h => ?_) (fun f cdv A outer s H vs Q E hr h => ?_)
  · exact h.elim
  · exact h.elim
theorem exp_body (d : Nat) (F_law_expression : FOk P w K mg base (d + 4) "_law_expression" ["_law_hand", "_law_parameters", "_law_calls", "_law_depth"] (spExpP K d)) : FOk P w K mg base (d + 5) "_law_expression" ["_law_hand", "_law_parameters", "_law_calls", "_law_depth"] (spExp K d) := by
  have F_law_take := ok_take C (P := P) (base := base)
  have F_law_value := ok_value C (P := P) (base := base) 2
  refine fok C.f_law_expression C.g_law_expression (fun _ _ _ _ _ _ us hl => match us, hl with | [_, _, _, _], _ => rfl) sc_law_expression (fun vs H Q E h => ?_) (fun f cdv A outer s H vs Q E hr h => ?_)
  · obtain ⟨G, ps, cs, c, vp, rfl, _⟩ := h
    rfl
  obtain ⟨G, ps, cs, c, vp, rfl, hG, tp, lps, hps, hc, hch, lcs, hcs, q⟩ := h
  refine ⟨_, (pss_cons (ps_set (i := 4) sc_law_expression.nd rfl (Or.inl rfl) (pe_fn F_law_take (hr.mono (by first | decide | omega)) (by rfl) (pa_cons (pv 0) (pa_cons pe_int pa_nil))))
  (pss_cons (ps_if (PW.pt (pw_or (pt_cmpR op_eq (pv 3) pe_int (nomark _)) (pw_or1 (pt_cmpR op_lt (pv 4) pe_int (nomark _))))) (pss_cons (ps_if (PW.pt (pw_and (pt_cmpR op_gt (pe_callB call_len_seq (by rfl) C.z_len PySem.boot_len (pa_cons (pv 1) pa_nil)) pe_int (nomark _)) (pw_and1 (pt_cmpR op_gt (pe_fn F_law_take (hr.mono (by first | decide | omega)) (by rfl) (pa_cons (pv 0) (pa_cons pe_int pa_nil))) pe_int (nomark _))))) (pss_one (ps_ret (pe_ix ix_tup (pv 1) (pe_fn F_law_take (hr.mono (by first | decide | omega)) (by rfl) (pa_cons (pv 0) (pa_cons (pe_callB call_len_seq (by rfl) C.z_len PySem.boot_len (pa_cons (pv 1) pa_nil)) pa_nil))) (fun _ _ => rfl)))) pss_nil)
  (pss_one (ps_ret (pe_tup (pa_cons pe_str (pa_cons (pe_fn F_law_value (hr.mono (by first | decide | omega)) (by rfl) (pa_cons (pv 0) (pa_cons pe_int pa_nil))) pa_nil)))))) pss_nil)
  (pss_cons (ps_if (pt_cmpR op_lt (pv 4) pe_int (nomark _)) (pss_cons (ps_setLc (i := 5)  (own := [("_law_k", 9)]) (g := gName 9) (by rfl) sc_law_expression.nd rfl rfl (sw_true rfl rfl rfl (by decide +kernel)) (pi_range1 (by rfl) C.z_range (pa_cons pe_int pa_nil)) (blkOk_by (own := [("_law_k", 9)]) (N := ["_law_hand", "_law_parameters", "_law_calls", "_law_depth", "_law_kind", "_law_parts", "_law_left", "_law_name", "_law_many", "_law_k"]) (sc := defScope s_law_expression) (by decide +kernel)) (fun _ _ _ _ _ => pg_name (i := 9) sc_law_expression.nd rfl (Or.inl rfl)) (fun _ _ _ _ _ => pts_nil) (fun _ _ _ _ _ => (pe_fn F_law_expression (hr.mono (by first | decide | omega)) (by rfl) (pa_cons (pv 0) (pa_cons (pv 1) (pa_cons (pv 2) (pa_cons (pe_op op_sub (pv 3) pe_int) pa_nil)))))))
  (pss_one (ps_ret (pe_tup (pa_cons pe_str (pa_cons (pe_ix ix_list (pv 5) pe_int (fun _ _ => rfl)) (pa_cons (pe_ix ix_list (pv 5) pe_int (fun _ _ => rfl)) (pa_cons (pe_ix ix_list (pv 5) pe_int (fun _ _ => rfl)) pa_nil)))))))) pss_nil)
  (pss_cons (ps_if (PW.pt (pw_or (pt_cmpR op_eq (pv 4) pe_int (nomark _)) (pw_or1 (pt_cmpR op_eq (pv 4) pe_int (nomark _))))) (pss_cons (ps_set (i := 6) sc_law_expression.nd rfl (Or.inl rfl) (pe_fn F_law_expression (hr.mono (by first | decide | omega)) (by rfl) (pa_cons (pv 0) (pa_cons (pv 1) (pa_cons (pv 2) (pa_cons (pe_op op_sub (pv 3) pe_int) pa_nil))))))
  (pss_one (ps_ret (pe_tup (pa_cons pe_str (pa_cons (pv 6) (pa_cons (pe_fn F_law_expression (hr.mono (by first | decide | omega)) (by rfl) (pa_cons (pv 0) (pa_cons (pv 1) (pa_cons (pv 2) (pa_cons (pe_op op_sub (pv 3) pe_int) pa_nil))))) pa_nil))))))) pss_nil)
  (pss_cons (ps_if (pt_cmpR op_lt (pv 4) pe_int (nomark _)) (pss_cons (ps_set (i := 6) sc_law_expression.nd rfl (Or.inl rfl) (pe_fn F_law_expression (hr.mono (by first | decide | omega)) (by rfl) (pa_cons (pv 0) (pa_cons (pv 1) (pa_cons (pv 2) (pa_cons (pe_op op_sub (pv 3) pe_int) pa_nil))))))
  (pss_one (ps_ret (pe_tup (pa_cons pe_str (pa_cons (pv 6) (pa_cons (pe_fn F_law_expression (hr.mono (by first | decide | omega)) (by rfl) (pa_cons (pv 0) (pa_cons (pv 1) (pa_cons (pv 2) (pa_cons (pe_op op_sub (pv 3) pe_int) pa_nil))))) pa_nil))))))) pss_nil)
  (pss_cons (ps_if (pt_cmpR op_eq (pv 4) pe_int (nomark _)) (pss_one (ps_ret (pe_tup (pa_cons pe_str (pa_cons (pe_fn F_law_expression (hr.mono (by first | decide | omega)) (by rfl) (pa_cons (pv 0) (pa_cons (pv 1) (pa_cons (pv 2) (pa_cons (pe_op op_sub (pv 3) pe_int) pa_nil))))) pa_nil))))) pss_nil)
  (pss_cons (ps_if (PW.pt (pw_or (pt_cmpR op_lt (pv 4) pe_int (nomark _)) (pw_or1 (pt_cmpR op_eq (pe_callB call_len_seq (by rfl) C.z_len PySem.boot_len (pa_cons (pv 2) pa_nil)) pe_int (nomark _))))) (pss_one (ps_ret (pe_tup (pa_cons (pe_ix ix_list (pe_lst (pa_cons pe_str (pa_cons pe_str pa_nil))) (pe_op op_mod (pv 4) pe_int) (fun _ _ => rfl)) (pa_cons (pe_fn F_law_expression (hr.mono (by first | decide | omega)) (by rfl) (pa_cons (pv 0) (pa_cons (pv 1) (pa_cons (pv 2) (pa_cons (pe_op op_sub (pv 3) pe_int) pa_nil))))) pa_nil))))) pss_nil)
  (pss_cons (ps_asg (pe_ix ix_list (pv 2) (pe_fn F_law_take (hr.mono (by first | decide | omega)) (by rfl) (pa_cons (pv 0) (pa_cons (pe_callB call_len_seq (by rfl) C.z_len PySem.boot_len (pa_cons (pv 2) pa_nil)) pa_nil))) (fun _ _ => rfl)) (pg_tup rfl (pgs_cons (pg_name (i := 7) sc_law_expression.nd rfl (Or.inl rfl)) (pgs_cons (pg_name (i := 8) sc_law_expression.nd rfl (Or.inl rfl)) pgs_nil))))
  (pss_one (ps_ret (pe_op op_catT (pe_tup (pa_cons (pv 7) pa_nil)) (pe_callTy call_tuple_of (by rfl) C.z_tuple (by decide +kernel) (pa_cons (pe_lc  (own := [("_law_k", 9)]) (g := gName 9) (by rfl) sc_law_expression.nd (pi_range1 (by rfl) C.z_range (pa_cons (pv 8) pa_nil)) (blkOk_by (own := [("_law_k", 9)]) (N := ["_law_hand", "_law_parameters", "_law_calls", "_law_depth", "_law_kind", "_law_parts", "_law_left", "_law_name", "_law_many", "_law_k"]) (sc := defScope s_law_expression) (by decide +kernel)) (fun _ _ _ _ _ => pg_name (i := 9) sc_law_expression.nd rfl (Or.inl rfl)) (fun _ _ _ _ _ => pts_nil) (fun _ _ _ _ _ => (pe_fn F_law_expression (hr.mono (by first | decide | omega)) (by rfl) (pa_cons (pv 0) (pa_cons (pv 1) (pa_cons (pv 2) (pa_cons (pe_op op_sub (pv 3) pe_int) pa_nil))))))) pa_nil))))))))))))), ?_⟩
  refine ⟨_, rfl, G, 12, rfl, hG, by decide, fun kind H1 hG1 f1 hk => ?_⟩
  obtain ⟨pa, us, rfl, hpa, tus⟩ := id tp
  have eus := tus.words
  subst eus
  -- a quote
  have quote : ∀ (Hx : Hp), G.At Hx → G.Fr H Hx → ∀ (o4 o5 o6 o7 o8 o9 : Option L2.V) (D : Ends), D.rt = Q → tRet (tTup (tCons (tC (.str "quote")) (tCons (tCall (spVal K 2) [] E0 (tCons (tVar 0) (tCons (tC (.int 2)) tNil))) tNil))) D [some (.ref G.h), some (.ref pa), some (.ref c), some (.int (d : Int)), o4, o5, o6, o7, o8, o9] Hx := by
    intro Hx hGx fx o4 o5 o6 o7 o8 o9 D eD
    refine ⟨_, rfl, G, rfl, hGx, fun t v H3 ht tv hG3 f3 => ⟨by show 2 ≤ sizeLine; decide, fun p np => ?_⟩⟩
    obtain ⟨s4, t4⟩ := tv_new (K := K) (ts := [.w "quote", t]) (vs := [.str "quote", v]) (.cons rfl (.one tv)) np
    rw [eD]
    exact q (.quo t) _ _ (eo_quo ht) t4 (hG3.same s4) ((fx.trans f3).trans (.same s4))
  have hpa1 := (f1.tk hG).sqt hpa
  refine ⟨_, rfl, rfl, _, rfl, ite_b (fun _ => ?_) (fun hd => ?_)⟩
  · skip
    refine ⟨_, rfl, pa, _, rfl, .inr hpa1, _, _, rfl, rfl, _, rfl, ite_b (fun hb => ?_) (fun _ => quote H1 hG1 f1 _ _ _ _ _ _ _ rfl)⟩
    have hpos : 0 < ps.length := by
      have z := of_decide_eq_true hb
      rw [List.length_map] at z
      omega
    refine ⟨_, rfl, G, 3, rfl, hG1, by decide, fun v2 H2 hG2 f2 hv2 => ⟨_, _, rfl, rfl, _, rfl, ite_b (fun _ => ?_) (fun _ => quote H2 hG2 (f1.trans f2) _ _ _ _ _ _ _ rfl)⟩⟩
    have hpa2 := (f2.tk hG1).sqt hpa1
    refine ⟨_, rfl, _, rfl, _, rfl, pa, _, rfl, .inr hpa2, G, (ps.map L2.V.str).length, rfl, hG2, by rw [List.length_map]; exact hpos, fun i H3 hG3 f3 hi => ?_⟩
    rw [List.length_map] at hi
    refine ⟨pa, _, _, _, rfl, rfl, (f3.tk hG2).sqt hpa2, atI_nat (by rw [List.getElem?_map, List.getElem?_eq_getElem hi] <;> rfl), q (.var ps[i]) _ H3 (eo_var (List.getElem_mem _) (hps _ (List.getElem_mem _))) rfl hG3 ((f1.trans f2).trans f3)⟩
  have hd0 : d ≠ 0 := fun e => by
    subst e
    exact absurd hd (by decide)
  obtain ⟨d, rfl⟩ : ∃ d', d = d' + 1 := ⟨d - 1, by omega⟩
  clear hd hd0
  refine ⟨_, rfl, _, _, rfl, rfl, _, rfl, ite_b (fun _ => ?_) (fun _ => ?_)⟩
  · skip
    refine ⟨_, rfl, pa, _, rfl, .inr hpa1, _, _, rfl, rfl, _, rfl, ite_b (fun hb => ?_) (fun _ => quote H1 hG1 f1 _ _ _ _ _ _ _ rfl)⟩
    have hpos : 0 < ps.length := by
      have z := of_decide_eq_true hb
      rw [List.length_map] at z
      omega
    refine ⟨_, rfl, G, 3, rfl, hG1, by decide, fun v2 H2 hG2 f2 hv2 => ⟨_, _, rfl, rfl, _, rfl, ite_b (fun _ => ?_) (fun _ => quote H2 hG2 (f1.trans f2) _ _ _ _ _ _ _ rfl)⟩⟩
    have hpa2 := (f2.tk hG1).sqt hpa1
    refine ⟨_, rfl, _, rfl, _, rfl, pa, _, rfl, .inr hpa2, G, (ps.map L2.V.str).length, rfl, hG2, by rw [List.length_map]; exact hpos, fun i H3 hG3 f3 hi => ?_⟩
    rw [List.length_map] at hi
    refine ⟨pa, _, _, _, rfl, rfl, (f3.tk hG2).sqt hpa2, atI_nat (by rw [List.getElem?_map, List.getElem?_eq_getElem hi] <;> rfl), q (.var ps[i]) _ H3 (eo_var (List.getElem_mem _) (hps _ (List.getElem_mem _))) rfl hG3 ((f1.trans f2).trans f3)⟩
  clear quote
  have callsMono : ∀ {H1 H2 : Hp}, G.At H1 → G.Fr H1 H2 → CallsAt K H1 c cs → CallsAt K H2 c cs := fun hg f h => h.mono (f.tk hg) fun us e => f _ _ e hch
  have rec_ : ∀ (H1 : Hp), G.At H1 → G.Fr H H1 → ∀ (Q' : VK), (∀ (e : K35.E) (v : L2.V) (H2 : Hp), ExpOk cs ps d e → TV K H2 e.enc v → G.At H2 → G.Fr H1 H2 → Q' v H2) → spExpP K (d + 1) [.ref G.h, .ref pa, .ref c, .int (((d + 1 : Nat) : Int) - 1)] H1 Q' E0 := by
    intro H1 hG1 f1 Q' hQ
    refine ⟨G, ps, cs, c, .ref pa, ?_, hG1, tp.mono (f1.tk hG), lps, hps, callsMono hG f1 hc, hch, lcs, hcs, hQ⟩
    rw [show ((d + 1 : Nat) : Int) - 1 = (d : Int) by omega]
  -- if
  refine ⟨_, rfl, _, _, rfl, rfl, _, rfl, ite_b (fun _ => ?_) (fun _ => ?_)⟩
  · refine ⟨_, rfl, by decide, by decide, fun D nD => lc_range (n := 3) (fun i H3 => (∃ (acc : List L2.V) (es : List K35.E), H3 D = some (.lst acc) ∧ All2 (REnc K H3) es acc ∧ es.length = i ∧ ∀ e ∈ es, ExpOk cs ps d e) ∧ G.At H3 ∧ G.Fr H1 H3) ⟨⟨[], [], upd_same, rfl, rfl, fun t ht => (List.not_mem_nil ht).elim⟩, hG1.same (same_new nD _), .same (same_new nD _)⟩ (fun i H3 hi h => ?_) (fun H3 h => ?_)⟩
    · obtain ⟨⟨acc, es, hacc, tes, les, ok⟩, hG3, f3⟩ := h
      refine ⟨rfl, _, rfl, _, rfl, _, rfl, _, rfl, _, _, rfl, rfl, rec_ H3 hG3 (f1.trans f3) _ fun e v H4 he tv hG4 f4 => ?_⟩
      have hne := hG1.ne nD
      have hacc4 := f4 _ _ hacc hne.1
      have k5 : Tk H4 (upd H4 D (.lst (acc ++ [v]))) := Tk.upd (by rw [hacc4]; exact NoTup.lst)
      have k34 := f4.tk hG3
      have lacc := tes.length
      refine ⟨acc, hacc4, line_lt (by omega), ⟨acc ++ [v], es ++ [e], upd_same, (tes.mono fun _ _ h => TV.mono (k34.trans k5) h).snoc (TV.mono k5 tv), by rw [List.length_append, les] <;> rfl, fun u hu => ?_⟩, hG4.upd hne.1 hne.2, (f3.trans f4).new nD⟩
      rcases List.mem_append.mp hu with hu | hu
      · exact ok u hu
      · rw [List.mem_singleton.mp hu]
        exact he
    · obtain ⟨⟨acc, es, hacc, tes, les, ok⟩, hG3, f3⟩ := h
      obtain ⟨e1, e2, e3, rfl⟩ : ∃ e1 e2 e3, es = [e1, e2, e3] := by
        match es, les with
        | [a, b, c], _ => exact ⟨a, b, c, rfl⟩
      obtain ⟨v1, _, rfl, t1, v2, _, rfl, t2, v3, _, rfl, t3, e⟩ := tes
      cases (show _ = [] from e)
      have o1 := ok e1 (by simp)
      have o2 := ok e2 (by simp)
      have o3 := ok e3 (by simp)
      refine ⟨_, rfl, D, _, _, _, rfl, rfl, SqL.of hacc, rfl, _, rfl, D, _, _, _, rfl, rfl, SqL.of hacc, rfl, _, rfl, D, _, _, _, rfl, rfl, SqL.of hacc, rfl, by show 4 ≤ sizeLine; decide, fun p np => ?_⟩
      obtain ⟨s4, t4⟩ := tv_new (K := K) (ts := [.w "if", e1.enc, e2.enc, e3.enc]) (vs := [.str "if", v1, v2, v3]) (.cons rfl (.cons t1 (.cons t2 (.one t3)))) np
      exact q (.ite e1 e2 e3) _ _ (eo_ite o1 o2 o3) t4 (hG3.same s4) ((f1.trans f3).trans (.same s4))
  -- two parts
  have two : ∀ (w0 : Str), PyData.strOk w0 = true → isPlain w0 = true → arity w0 = 2 → ∀ (o5 o6 o7 o8 o9 : Option L2.V) (D : Ends), D.rt = Q → tSeq (tAsg (tCall (spExpP K (d + 1)) [] E0 (tCons (tVar 0) (tCons (tVar 1) (tCons (tVar 2) (tCons (tOp (rI0 fun i j => .int (i - j)) (tVar 3) (tC (.int 1))) tNil))))) (gName 6))
      (tRet (tTup (tCons (tC (.str w0)) (tCons (tVar 6) (tCons (tCall (spExpP K (d + 1)) [] E0 (tCons (tVar 0) (tCons (tVar 1) (tCons (tVar 2) (tCons (tOp (rI0 fun i j => .int (i - j)) (tVar 3) (tC (.int 1))) tNil))))) tNil))))) D
      [some (.ref G.h), some (.ref pa), some (.ref c), some (.int ((d + 1 : Nat) : Int)), some (.int (kind : Int)), o5, o6, o7, o8, o9] H1 := by
    intro w0 hw hp ha o5 o6 o7 o8 o9 D eD
    refine ⟨_, rfl, _, rfl, _, rfl, _, rfl, _, _, rfl, rfl, rec_ H1 hG1 f1 _ fun e1 v1 H2 o1 t1 hG2 f2 => ?_⟩
    refine ⟨_, rfl, _, rfl, _, rfl, _, rfl, _, rfl, _, _, rfl, rfl, rec_ H2 hG2 (f1.trans f2) _ fun e2 v2 H3 o2 t2 hG3 f3 => ?_⟩
    refine ⟨by show 3 ≤ sizeLine; decide, fun p np => ?_⟩
    obtain ⟨s4, t4⟩ := tv_new (K := K) (ts := [.w w0, e1.enc, e2.enc]) (vs := [.str w0, v1, v2]) (.cons rfl (.cons (t1.mono (f3.tk hG2)) (.one t2))) np
    rw [eD]
    exact q (.app w0 [e1, e2]) _ _ (eo_app hw (by show 2 ≤ 3; decide) (fun a h => by
      simp only [List.mem_cons, List.not_mem_nil, or_false] at h
      rcases h with h | h <;> subst h
      · exact o1
      · exact o2) (.inl ⟨hp, ha.symm⟩)) t4 (hG3.same s4) (((f1.trans f2).trans f3).trans (.same s4))
  refine ⟨_, rfl, rfl, _, rfl, ite_b (fun _ => two "same" (by decide +kernel) (by decide +kernel) (by decide +kernel) _ _ _ _ _ _ rfl) (fun _ => ?_)⟩
  refine ⟨_, rfl, rfl, _, rfl, ite_b (fun _ => two "same" (by decide +kernel) (by decide +kernel) (by decide +kernel) _ _ _ _ _ _ rfl) (fun _ => ?_)⟩
  refine ⟨_, rfl, _, _, rfl, rfl, _, rfl, ite_b (fun _ => two "join" (by decide +kernel) (by decide +kernel) (by decide +kernel) _ _ _ _ _ _ rfl) (fun _ => ?_)⟩
  clear two
  -- word
  refine ⟨_, rfl, rfl, _, rfl, ite_b (fun _ => ?_) (fun _ => ?_)⟩
  · refine ⟨_, rfl, _, rfl, _, rfl, _, rfl, _, _, rfl, rfl, rec_ H1 hG1 f1 _ fun e1 v1 H2 o1 t1 hG2 f2 => ?_⟩
    refine ⟨by show 2 ≤ sizeLine; decide, fun p np => ?_⟩
    obtain ⟨s4, t4⟩ := tv_new (K := K) (ts := [.w "word", e1.enc]) (vs := [.str "word", v1]) (.cons rfl (.one t1)) np
    exact q (.app "word" [e1]) _ _ (eo_app (by decide +kernel) (by show 1 ≤ 3; decide) (fun a h => by rw [List.mem_singleton.mp h]; exact o1) (.inl ⟨by decide +kernel, by show 1 = arity "word"; decide +kernel⟩)) t4 (hG2.same s4) ((f1.trans f2).trans (.same s4))
  -- head, tail
  obtain ⟨ca, hca, aca⟩ := callsMono hG f1 hc
  have lca := aca.length
  have ht : ∀ (o5 o6 o7 o8 o9 : Option L2.V) (D : Ends), D.rt = Q → tRet (tTup (tCons (tOp (rIxL K) (tLst (tCons (tC (.str "head")) (tCons (tC (.str "tail")) tNil))) (tOp (rI (fun _ j => 0 < j) fun i j => .int (i % j)) (tVar 4) (tC (.int 2)))) (tCons (tCall (spExpP K (d + 1)) [] E0 (tCons (tVar 0) (tCons (tVar 1) (tCons (tVar 2) (tCons (tOp (rI0 fun i j => .int (i - j)) (tVar 3) (tC (.int 1))) tNil))))) tNil))) D
      [some (.ref G.h), some (.ref pa), some (.ref c), some (.int ((d + 1 : Nat) : Int)), some (.int (kind : Int)), o5, o6, o7, o8, o9] H1 := by
    intro o5 o6 o7 o8 o9 D eD
    refine ⟨by show 2 ≤ sizeLine; decide, fun pl npl => ?_⟩
    have s2 : Same H1 (upd H1 pl (.lst [.str "head", .str "tail"])) := same_new npl _
    have hpl : upd H1 pl (.lst [.str "head", .str "tail"]) pl = some (.lst [.str "head", .str "tail"]) := upd_same
    generalize upd H1 pl (.lst [.str "head", .str "tail"]) = H2 at *
    have fin : ∀ w0 : Str, PyData.strOk w0 = true → isPlain w0 = true → arity w0 = 1 → tCons (tCall (spExpP K (d + 1)) [] E0 (tCons (tVar 0) (tCons (tVar 1) (tCons (tVar 2) (tCons (tOp (rI0 fun i j => .int (i - j)) (tVar 3) (tC (.int 1))) tNil))))) tNil [some (.ref G.h), some (.ref pa), some (.ref c), some (.int ((d + 1 : Nat) : Int)), some (.int (kind : Int)), o5, o6, o7, o8, o9] H2
        fun xs H3 => (L2.V.str w0 :: xs).length ≤ sizeLine ∧ ∀ p, H3 p = none → D.rt (.ref p) (upd H3 p (.tup (L2.V.str w0 :: xs))) := by
      intro w0 hw hp ha
      refine ⟨_, rfl, _, rfl, _, rfl, _, rfl, _, _, rfl, rfl, rec_ H2 (hG1.same s2) (f1.trans (.same s2)) _ fun e1 v1 H3 o1 t1 hG3 f3 => ?_⟩
      refine ⟨by show 2 ≤ sizeLine; decide, fun p np => ?_⟩
      obtain ⟨s4, t4⟩ := tv_new (K := K) (ts := [.w w0, e1.enc]) (vs := [.str w0, v1]) (.cons rfl (.one t1)) np
      rw [eD]
      exact q (.app w0 [e1]) _ _ (eo_app hw (by show 1 ≤ 3; decide) (fun a h => by rw [List.mem_singleton.mp h]; exact o1) (.inl ⟨hp, ha.symm⟩)) t4 (hG3.same s4) (((f1.trans (.same s2)).trans f3).trans (.same s4))
    have two : kind % 2 = 0 ∨ kind % 2 = 1 := by omega
    have km : ((kind : Nat) : Int) % 2 = ((kind % 2 : Nat) : Int) := by omega
    rcases two with z | z
    · have a1 : atI [L2.V.str "head", L2.V.str "tail"] (((kind : Nat) : Int) % 2) = some (.str "head") := by rw [km, z] <;> rfl
      exact ⟨_, rfl, _, _, rfl, rfl, (show (0 : Int) < 2 by decide), pl, _, _, _, rfl, rfl, SqL.of hpl, a1, fin "head" (by decide +kernel) (by decide +kernel) (by decide +kernel)⟩
    · have a1 : atI [L2.V.str "head", L2.V.str "tail"] (((kind : Nat) : Int) % 2) = some (.str "tail") := by rw [km, z] <;> rfl
      exact ⟨_, rfl, _, _, rfl, rfl, (show (0 : Int) < 2 by decide), pl, _, _, _, rfl, rfl, SqL.of hpl, a1, fin "tail" (by decide +kernel) (by decide +kernel) (by decide +kernel)⟩
  refine ⟨_, rfl, _, _, rfl, rfl, _, rfl, ite_b (fun _ => ht _ _ _ _ _ _ rfl) (fun _ => ?_)⟩
  refine ⟨_, rfl, c, _, rfl, .inl (SqL.of hca), rfl, _, rfl, ite_b (fun _ => ht _ _ _ _ _ _ rfl) (fun hl => ?_)⟩
  clear ht
  -- a call
  have hl0 : 0 < cs.length := by
    rcases Nat.eq_zero_or_pos cs.length with z | z
    · have hl : decide (L2.V.int ((ca.length : Nat) : Int) = L2.V.int 0) = false := hl
      rw [lca, z] at hl
      exact absurd hl (by decide)
    · exact z
  refine ⟨_, rfl, _, rfl, _, rfl, c, _, rfl, .inl (SqL.of hca), G, ca.length, rfl, hG1, by omega, fun i H2 hG2 f2 hi => ?_⟩
  have hic : i < cs.length := by omega
  obtain ⟨cv, hcv, a, rfl, hsa⟩ := aca.get (List.getElem?_eq_getElem hic)
  have hq := hcs cs[i] (List.getElem_mem _)
  have hqm : cs[i] ∈ cs := List.getElem_mem _
  generalize cs[i] = qi at *
  obtain ⟨nm, n⟩ := qi
  refine ⟨c, ca, _, _, rfl, rfl, SqL.of (f2 _ _ hca hch), atI_nat hcv, a, _, rfl, (f2.tk hG1).sqt hsa, rfl, _, _, rfl, _, _, rfl, rfl, ?_⟩
  refine ⟨_, rfl, by show 1 ≤ sizeLine; decide, fun pw npw => ?_⟩
  have s3 : Same H2 (upd H2 pw (.tup [.str nm])) := same_new npw _
  have hpw : upd H2 pw (.tup [.str nm]) pw = some (.tup [.str nm]) := upd_same
  generalize upd H2 pw (.tup [.str nm]) = H3 at *
  have hG3 := hG2.same s3
  have f13 : G.Fr H1 H3 := f2.trans (.same s3)
  have hn3 : n ≤ 3 := hq.2.2
  refine ⟨_, rfl, _, rfl, by omega, by omega, fun D nD => lc_range (n := n) (fun i H4 => (∃ (acc : List L2.V) (es : List K35.E), H4 D = some (.lst acc) ∧ All2 (REnc K H4) es acc ∧ es.length = i ∧ ∀ e ∈ es, ExpOk cs ps d e) ∧ G.At H4 ∧ G.Fr H3 H4) ⟨⟨[], [], upd_same, rfl, rfl, fun t ht => (List.not_mem_nil ht).elim⟩, hG3.same (same_new nD _), .same (same_new nD _)⟩ (fun i H4 hi h => ?_) (fun H4 h => ?_)⟩
  · obtain ⟨⟨acc, es, hacc, tes, les, ok⟩, hG4, f4⟩ := h
    refine ⟨rfl, _, rfl, _, rfl, _, rfl, _, rfl, _, _, rfl, rfl, rec_ H4 hG4 ((f1.trans f13).trans f4) _ fun e v H5 he tv hG5 f5 => ?_⟩
    have hne := hG3.ne nD
    have hacc5 := f5 _ _ hacc hne.1
    have k6 : Tk H5 (upd H5 D (.lst (acc ++ [v]))) := Tk.upd (by rw [hacc5]; exact NoTup.lst)
    have k45 := f5.tk hG4
    have lacc := tes.length
    refine ⟨acc, hacc5, line_lt (by omega), ⟨acc ++ [v], es ++ [e], upd_same, (tes.mono fun _ _ h => TV.mono (k45.trans k6) h).snoc (TV.mono k6 tv), by rw [List.length_append, les] <;> rfl, fun u hu => ?_⟩, hG5.upd hne.1 hne.2, (f4.trans f5).new nD⟩
    rcases List.mem_append.mp hu with hu | hu
    · exact ok u hu
    · rw [List.mem_singleton.mp hu]
      exact he
  · obtain ⟨⟨acc, es, hacc, tes, les, ok⟩, hG4, f4⟩ := h
    have lacc := tes.length
    refine ⟨D, acc, rfl, .inl ⟨SqL.of hacc, fun l nl => ?_⟩⟩
    have s5 : Same H4 (upd H4 l (.tup acc)) := same_new nl _
    have hl5 : upd H4 l (.tup acc) l = some (.tup acc) := upd_same
    generalize upd H4 l (.tup acc) = H5 at *
    have hpwh : pw ≠ G.h := (hG2.ne npw).1
    have hpw5 := s5 _ _ (f4 _ _ hpw hpwh)
    have hG5 := hG4.same s5
    have f5 : G.Fr H H5 := ((f1.trans f13).trans f4).trans (.same s5)
    have tes5 : All2 (REnc K H5) es acc := tes.mono fun _ _ h => TV.mono (Tk.same s5) h
    have eok : ExpOk cs ps (d + 1) (.app nm es) := eo_app hq.2.1 (by omega) ok (.inr ⟨hq.1, by rw [les]; exact hqm⟩)
    refine ⟨pw, l, _, _, rfl, rfl, SqT.of hpw5, SqT.of hl5, by simp, by rw [List.length_singleton]; exact line_le (by omega), fun em => ?_, fun _ pc npc => ?_⟩
    · subst em
      exact q (.app nm es) _ H5 eok ⟨pw, _, rfl, SqT.of hpw5, .cons rfl (encs_all2 tes5)⟩ hG5 f5
    · have s6 : Same H5 (upd H5 pc (.tup ([.str nm] ++ acc))) := same_new npc _
      exact q (.app nm es) _ _ eok ⟨pc, _, rfl, .inl (.of upd_same), .cons rfl (TVs.mono (Tk.same s6) (encs_all2 tes5))⟩ (hG5.same s6) (f5.trans (.same s6))
theorem ok_expression : ∀ d, FOk P w K mg base (d + 5) "_law_expression" ["_law_hand", "_law_parameters", "_law_calls", "_law_depth"] (spExp K d)
  | 0 => exp_body C 0 (exp_never C)
  | d + 1 => exp_body C (d + 1) (ok_expression d)
end
end K35
end

section
set_option Elab.async false
set_option linter.all false
set_option maxRecDepth 100000
namespace K35
open PySem PySem.Spec PyProof.Rows L2
theorem sc_law_library : FnScope ["_law_has", "_law_within", "_law_put", "_law_turn"] [] (defScope s_law_library) := ⟨rfl, rfl, rfl, by decide +kernel, rfl, by decide +kernel, by decide +kernel⟩
/-! ### tuples of texts, written out -/
def tKt (K : PySem.W.Frag) (t : T) : TE := fun _ H Q => ∀ v H', Same H H' → TV K H' t v → Q v H'
def tKs (K : PySem.W.Frag) (ts : List T) : TA := fun _ H Q => ∀ vs H', Same H H' → TVs K H' ts vs → Q vs H'
section
variable {X : Cx}
theorem pe_weak {e : Expr} {t t' : TE} (h : PE X e t) (f : ∀ σ H Q, t' σ H Q → t σ H Q) : PE X e t' := ⟨fun pins s σ H Q I q => h.run pins s σ H Q I (f σ H Q q)⟩
theorem pa_weak {es : List Expr} {t t' : TA} (h : PA X es t) (f : ∀ σ H Q, t' σ H Q → t σ H Q) : PA X es t' := ⟨fun pos pins s σ H Q I q => h.run pos pins s σ H Q I (f σ H Q q)⟩
theorem pe_kw {x : Str} {k : Nat} {p : Pos} : PE X (.Constant (.str x) k p) (tKt X.K (.w x)) := pe_weak pe_str fun σ H Q q => q _ H (fun _ _ e => e) rfl
theorem pa_knil : PA X [] (tKs X.K []) := pa_weak pa_nil fun σ H Q q => q [] H (fun _ _ e => e) rfl
theorem pa_kcons {e : Expr} {es : List Expr} {t : T} {ts : List T} (h : PE X e (tKt X.K t)) (hr : PA X es (tKs X.K ts)) (hs : starEach (e :: es) X.env = (false, eval e X.env) :: starEach es X.env := by rfl) : PA X (e :: es) (tKs X.K (t :: ts)) :=
  pa_weak (pa_cons h hr hs) fun σ H Q q => fun v H1 s1 t1 vs H2 s2 t2 => q (v :: vs) H2 (fun b o e => s2 _ _ (s1 _ _ e)) (.cons (t1.mono (Tk.same s2)) t2)
theorem pe_kt {es : List Expr} {ts : List T} {k : Nat} {p : Pos} (h : PA X es (tKs X.K ts)) (hl : ts.length ≤ 1000) : PE X (.Tuple es k p) (tKt X.K (.l ts)) :=
  pe_weak (pe_tup h) fun σ H Q q => fun vs H1 s1 t1 => ⟨Nat.le_trans (by rw [t1.length]; exact hl) (by decide), fun p np => q _ _ (fun b o e => (same_new np _) _ _ (s1 _ _ e)) (tv_new t1 np).2⟩
end
abbrev EV (x : Str) : K35.E := .var x
abbrev EA1 (w : Str) (a : K35.E) : K35.E := .app w [a]
abbrev EA2 (w : Str) (a b : K35.E) : K35.E := .app w [a, b]
def fHas : Fn := ⟨"has", ["w", "v"], .ite (EA2 "same" (EV "w") (EV "v")) (.quo (.w "yes")) (EA2 "within" (EV "w") (EV "v"))⟩
def fWithin : Fn := ⟨"within", ["w", "v"], .ite (EV "v") (.ite (EA2 "has" (EV "w") (EA1 "head" (EV "v"))) (.quo (.w "yes")) (EA2 "within" (EV "w") (EA1 "tail" (EV "v")))) (.quo .nil)⟩
def fPut : Fn := ⟨"put", ["v", "l"], .ite (EV "l") (EA2 "join" (EA1 "head" (EV "l")) (EA2 "put" (EV "v") (EA1 "tail" (EV "l")))) (EA2 "join" (EV "v") (.quo .nil))⟩
def fTurn : Fn := ⟨"turn", ["l"], .ite (EV "l") (EA2 "put" (EA1 "head" (EV "l")) (EA1 "turn" (EA1 "tail" (EV "l")))) (.quo .nil)⟩
def libs : List (List Fn) := [[fHas, fWithin], [fPut, fTurn], [fPut]]
section
variable {P : Program} {w : World} {K : PySem.W.Frag} {mg : Str → Option Value} {base : Heap} (C : Ctx w K mg)
include C
def spLib (K : PySem.W.Frag) : Sp := fun vs H Q _ => vs = [] ∧ ∀ (L : Addr) (us : List L2.V) (H' : Hp), Same H H' → H' L = some (.lst us) → H L = none → All2 (fun p v => TV K H' (encP p) v) libs us → Q (.ref L) H'
theorem ok_library : FOk P w K mg base 1 "_law_library" [] (spLib K) := by
  refine fok C.f_law_library C.g_law_library (fun _ _ _ _ _ _ us hl => match us, hl with | [], _ => rfl) sc_law_library (fun vs H Q E h => ?_) (fun f cdv A outer s H vs Q E hr h => ?_)
  · obtain ⟨rfl, _⟩ := h
    rfl
  obtain ⟨rfl, q⟩ := h
  refine ⟨_, (pss_cons (ps_set (i := 0) sc_law_library.nd rfl (Or.inl rfl) (pe_kt (pa_kcons pe_kw (pa_kcons (pe_kt (pa_kcons pe_kw (pa_kcons pe_kw pa_knil)) (by show _ ≤ 1000; decide)) (pa_kcons (pe_kt (pa_kcons pe_kw (pa_kcons (pe_kt (pa_kcons pe_kw (pa_kcons pe_kw (pa_kcons pe_kw pa_knil))) (by show _ ≤ 1000; decide)) (pa_kcons (pe_kt (pa_kcons pe_kw (pa_kcons pe_kw pa_knil)) (by show _ ≤ 1000; decide)) (pa_kcons (pe_kt (pa_kcons pe_kw (pa_kcons pe_kw (pa_kcons pe_kw pa_knil))) (by show _ ≤ 1000; decide)) pa_knil)))) (by show _ ≤ 1000; decide)) pa_knil))) (by show _ ≤ 1000; decide)))
  (pss_cons (ps_set (i := 1) sc_law_library.nd rfl (Or.inl rfl) (pe_kt (pa_kcons pe_kw (pa_kcons (pe_kt (pa_kcons pe_kw (pa_kcons pe_kw pa_knil)) (by show _ ≤ 1000; decide)) (pa_kcons (pe_kt (pa_kcons pe_kw (pa_kcons pe_kw (pa_kcons (pe_kt (pa_kcons pe_kw (pa_kcons (pe_kt (pa_kcons pe_kw (pa_kcons pe_kw (pa_kcons (pe_kt (pa_kcons pe_kw (pa_kcons pe_kw pa_knil)) (by show _ ≤ 1000; decide)) pa_knil))) (by show _ ≤ 1000; decide)) (pa_kcons (pe_kt (pa_kcons pe_kw (pa_kcons pe_kw pa_knil)) (by show _ ≤ 1000; decide)) (pa_kcons (pe_kt (pa_kcons pe_kw (pa_kcons pe_kw (pa_kcons (pe_kt (pa_kcons pe_kw (pa_kcons pe_kw pa_knil)) (by show _ ≤ 1000; decide)) pa_knil))) (by show _ ≤ 1000; decide)) pa_knil)))) (by show _ ≤ 1000; decide)) (pa_kcons (pe_kt (pa_kcons pe_kw (pa_kcons (pe_kt pa_knil (by show _ ≤ 1000; decide)) pa_knil)) (by show _ ≤ 1000; decide)) pa_knil)))) (by show _ ≤ 1000; decide)) pa_knil))) (by show _ ≤ 1000; decide)))
  (pss_cons (ps_set (i := 2) sc_law_library.nd rfl (Or.inl rfl) (pe_kt (pa_kcons pe_kw (pa_kcons (pe_kt (pa_kcons pe_kw (pa_kcons pe_kw pa_knil)) (by show _ ≤ 1000; decide)) (pa_kcons (pe_kt (pa_kcons pe_kw (pa_kcons pe_kw (pa_kcons (pe_kt (pa_kcons pe_kw (pa_kcons (pe_kt (pa_kcons pe_kw (pa_kcons pe_kw pa_knil)) (by show _ ≤ 1000; decide)) (pa_kcons (pe_kt (pa_kcons pe_kw (pa_kcons pe_kw (pa_kcons (pe_kt (pa_kcons pe_kw (pa_kcons pe_kw pa_knil)) (by show _ ≤ 1000; decide)) pa_knil))) (by show _ ≤ 1000; decide)) pa_knil))) (by show _ ≤ 1000; decide)) (pa_kcons (pe_kt (pa_kcons pe_kw (pa_kcons pe_kw (pa_kcons (pe_kt (pa_kcons pe_kw (pa_kcons (pe_kt pa_knil (by show _ ≤ 1000; decide)) pa_knil)) (by show _ ≤ 1000; decide)) pa_knil))) (by show _ ≤ 1000; decide)) pa_knil)))) (by show _ ≤ 1000; decide)) pa_knil))) (by show _ ≤ 1000; decide)))
  (pss_cons (ps_set (i := 3) sc_law_library.nd rfl (Or.inl rfl) (pe_kt (pa_kcons pe_kw (pa_kcons (pe_kt (pa_kcons pe_kw pa_knil) (by show _ ≤ 1000; decide)) (pa_kcons (pe_kt (pa_kcons pe_kw (pa_kcons pe_kw (pa_kcons (pe_kt (pa_kcons pe_kw (pa_kcons (pe_kt (pa_kcons pe_kw (pa_kcons pe_kw pa_knil)) (by show _ ≤ 1000; decide)) (pa_kcons (pe_kt (pa_kcons pe_kw (pa_kcons (pe_kt (pa_kcons pe_kw (pa_kcons pe_kw pa_knil)) (by show _ ≤ 1000; decide)) pa_knil)) (by show _ ≤ 1000; decide)) pa_knil))) (by show _ ≤ 1000; decide)) (pa_kcons (pe_kt (pa_kcons pe_kw (pa_kcons (pe_kt pa_knil (by show _ ≤ 1000; decide)) pa_knil)) (by show _ ≤ 1000; decide)) pa_knil)))) (by show _ ≤ 1000; decide)) pa_knil))) (by show _ ≤ 1000; decide)))
  (pss_one (ps_ret (pe_lst (pa_cons (pe_tup (pa_cons (pv 0) (pa_cons (pv 1) pa_nil))) (pa_cons (pe_tup (pa_cons (pv 2) (pa_cons (pv 3) pa_nil))) (pa_cons (pe_tup (pa_cons (pv 2) pa_nil)) pa_nil)))))))))), ?_⟩
  intro v1 H1 s1 t1 v2 H2 s2 t2 v3 H3 s3 t3 v4 H4 s4 t4
  have t1 : TV K H1 fHas.enc v1 := t1
  have t2 : TV K H2 fWithin.enc v2 := t2
  have t3 : TV K H3 fPut.enc v3 := t3
  have t4 : TV K H4 fTurn.enc v4 := t4
  have u1 := TV.mono (Tk.same s4) (TV.mono (Tk.same s3) (TV.mono (Tk.same s2) t1))
  have u2 := TV.mono (Tk.same s4) (TV.mono (Tk.same s3) t2)
  have u3 := TV.mono (Tk.same s4) t3
  have s14 : Same H H4 := fun b o e => s4 _ _ (s3 _ _ (s2 _ _ (s1 _ _ e)))
  refine ⟨_, rfl, _, rfl, by show 2 ≤ sizeLine; decide, fun p1 n1 => ?_⟩
  obtain ⟨a1, b1⟩ := tv_new (K := K) (ts := [fHas.enc, fWithin.enc]) (vs := [v1, v2]) (.cons u1 (.one u2)) n1
  refine ⟨_, rfl, _, rfl, by show 2 ≤ sizeLine; decide, fun p2 n2 => ?_⟩
  obtain ⟨a2, b2⟩ := tv_new (K := K) (ts := [fPut.enc, fTurn.enc]) (vs := [v3, v4]) (.cons (u3.mono (Tk.same a1)) (.one (t4.mono (Tk.same a1)))) n2
  refine ⟨_, rfl, by show 1 ≤ sizeLine; decide, fun p3 n3 => ?_⟩
  obtain ⟨a3, b3⟩ := tv_new (K := K) (ts := [fPut.enc]) (vs := [v3]) (.one ((u3.mono (Tk.same a1)).mono (Tk.same a2))) n3
  refine ⟨by show 3 ≤ sizeLine; decide, fun L nL => ?_⟩
  have a4 : Same _ _ := same_new nL (.lst [.ref p1, .ref p2, .ref p3])
  have sAll : Same H (upd (upd (upd (upd H4 p1 (.tup [v1, v2])) p2 (.tup [v3, v4])) p3 (.tup [v3])) L (.lst [.ref p1, .ref p2, .ref p3])) := fun b o e => a4 _ _ (a3 _ _ (a2 _ _ (a1 _ _ (s14 _ _ e))))
  refine q L _ _ sAll upd_same ?_ (.cons (((b1.mono (Tk.same a2)).mono (Tk.same a3)).mono (Tk.same a4)) (.cons ((b2.mono (Tk.same a3)).mono (Tk.same a4)) (.one (b3.mono (Tk.same a4)))))
  cases e : H L with
  | none => rfl
  | some o =>
    have z := a3 _ _ (a2 _ _ (a1 _ _ (s14 _ _ e)))
    rw [z] at nL
    cases nL
end
end K35
end

section
set_option Elab.async false
set_option linter.all false
set_option maxRecDepth 100000
/-! What is drawn is a good program. -/
namespace K35
open PySem
def abc : List Str := ["a", "b", "c"]
def lqz : List Str := ["later", "q", "zz"]
structure FsOk (more fs : List Fn) : Prop where
  at_ : ∀ (j : Nat) (f : Fn), fs[j]? = some f → lqz[j]? = some f.name ∧ (∃ n, 1 ≤ n ∧ n ≤ 3 ∧ f.ps = abc.take n) ∧ ExpOk (sig more ++ sig (fs.take j)) f.ps 2 f.body
theorem FsOk.snoc {more fs : List Fn} (h : FsOk more fs) {f : Fn} (h1 : lqz[fs.length]? = some f.name) {n : Nat} (h2 : 1 ≤ n) (h3 : n ≤ 3) (h4 : f.ps = abc.take n) (h5 : ExpOk (sig more ++ sig fs) f.ps 2 f.body) : FsOk more (fs ++ [f]) := ⟨fun j g e => by
  rcases Nat.lt_or_ge j fs.length with l | l
  · rw [List.getElem?_append_left l] at e
    rw [List.take_append_of_le_length (by omega)]
    exact h.at_ j g e
  · rw [List.getElem?_append_right l] at e
    have l2 := (List.getElem?_eq_some_iff.mp e).1
    simp only [List.length_cons, List.length_nil] at l2
    have ej : j = fs.length := by omega
    subst ej
    rw [Nat.sub_self] at e
    cases e
    rw [List.take_left' rfl]
    exact ⟨h1, ⟨n, h2, h3, h4⟩, h5⟩⟩
theorem abc_take : ∀ n, n ≤ 3 → (abc.take n).length ≤ 3 ∧ (abc.take n).Nodup ∧ (∀ x ∈ abc.take n, isSpecial x = false) ∧ (∀ x ∈ abc.take n, PyData.strOk x = true)
  | 0, _ => by decide +kernel
  | 1, _ => by decide +kernel
  | 2, _ => by decide +kernel
  | 3, _ => by decide +kernel
  | n + 4, h => by omega
theorem partss_words : ∀ xs : List Str, T.partss (xs.map T.w) = xs.length ∧ (T.oks (xs.map T.w) = true ↔ ∀ x ∈ xs, PyData.strOk x = true)
  | [] => ⟨rfl, by simp [T.oks]⟩
  | x :: xs => by
    obtain ⟨h1, h2⟩ := partss_words xs
    refine ⟨?_, ?_⟩
    · show 1 + T.partss (xs.map T.w) = xs.length + 1
      omega
    · show (PyData.strOk x && T.oks (xs.map T.w)) = true ↔ _
      rw [Bool.and_eq_true, h2, List.forall_mem_cons]
theorem fn_enc_parts (f : Fn) : f.enc.parts = f.ps.length + f.body.enc.parts + 3 := by
  show (1 + ((T.partss (f.ps.map T.w) + 1) + (f.body.enc.parts + 0))) + 1 = _
  rw [(partss_words f.ps).1]
  omega
theorem fn_enc_ok {f : Fn} (h1 : PyData.strOk f.name = true) (h2 : ∀ x ∈ f.ps, PyData.strOk x = true) (h3 : f.body.enc.ok = true) : f.enc.ok = true := by
  show (PyData.strOk f.name && (T.oks (f.ps.map T.w) && (f.body.enc.ok && true))) = true
  rw [h1, (partss_words f.ps).2.mpr h2, h3]
  rfl
theorem partss_append : ∀ a b : List T, T.partss (a ++ b) = T.partss a + T.partss b
  | [], b => (Nat.zero_add _).symm
  | x :: a, b => by
    show x.parts + T.partss (a ++ b) = x.parts + T.partss a + T.partss b
    rw [partss_append a b, Nat.add_assoc]
/-- what is known of each of the library's programs -/
theorem lib_facts {more : List Fn} (h : more ∈ libs) : fnsB (sig more) 5 more = true ∧ more.length ≤ 2 ∧ T.partss (more.map Fn.enc) ≤ 100 ∧ T.oks (more.map Fn.enc) = true ∧ (∀ f ∈ more, f.ps.length ≤ 3) ∧ (∀ q ∈ sig more, isSpecial q.1 = false ∧ PyData.strOk q.1 = true ∧ q.2 ≤ 3) := by
  simp only [libs, List.mem_cons, List.not_mem_nil, or_false] at h
  rcases h with h | h | h <;> subst h <;> decide +kernel
theorem names_fit : ∀ (m : Fin 6), ∀ x ∈ [Str.ofString "main", Str.ofString "has", Str.ofString "within", Str.ofString "put", Str.ofString "turn", Str.ofString "later", Str.ofString "q"], nameFitsB x m.val = true ∧ isSpecial x = false ∧ PyData.strOk x = true := by decide +kernel
def mainF (b : K35.E) : Fn := ⟨"main", ["x"], b⟩
theorem drawn_of {more fs q : List Fn} {b : K35.E} (hm : more ∈ libs) (hf : FsOk more fs) (hl : fs.length ≤ 2) (hb : ExpOk (sig more ++ sig fs) [Str.ofString "x"] 3 b) (hq : q = more ++ fs ∨ q = fs ++ more) : Drawn (mainF b :: q) := by
  obtain ⟨l1, l2, l3, l4, l5, l6⟩ := lib_facts hm
  have hlib := fnsB_ok l1
  have mem : ∀ f, f ∈ q ↔ f ∈ more ∨ f ∈ fs := fun f => by
    rcases hq with e | e <;> subst e <;> rw [List.mem_append]
    exact Or.comm
  have sub1 : ∀ z ∈ sig more, z ∈ sig (mainF b :: q) := fun z hz => by
    obtain ⟨f, h1, h2⟩ := List.mem_map.mp hz
    exact List.mem_map.mpr ⟨f, List.mem_cons_of_mem _ ((mem f).mpr (.inl h1)), h2⟩
  have sub2 : ∀ z ∈ sig fs, z ∈ sig (mainF b :: q) := fun z hz => by
    obtain ⟨f, h1, h2⟩ := List.mem_map.mp hz
    exact List.mem_map.mpr ⟨f, List.mem_cons_of_mem _ ((mem f).mpr (.inr h1)), h2⟩
  have fsf : ∀ f ∈ fs, (∃ j, j < 2 ∧ lqz[j]? = some f.name) ∧ (∃ n, 1 ≤ n ∧ n ≤ 3 ∧ f.ps = abc.take n) ∧ WfE (sig (mainF b :: q)) 5 f.ps f.body ∧ f.body.enc.ok = true ∧ f.body.enc.parts ≤ 143 := fun f hfm => by
    obtain ⟨j, hj, e⟩ := List.mem_iff_getElem.mp hfm
    obtain ⟨h1, h2, h3⟩ := hf.at_ j f (by rw [List.getElem?_eq_getElem hj, e])
    refine ⟨⟨j, by omega, h1⟩, h2, WfE.mono (fun z hz => ?_) (Nat.le_refl _) (fun _ h => h) _ h3.wf, h3.ok, h3.parts⟩
    rcases List.mem_append.mp hz with hz | hz
    · exact sub1 z hz
    · obtain ⟨g, h4, h5⟩ := List.mem_map.mp hz
      exact sub2 z (List.mem_map.mpr ⟨g, List.mem_of_mem_take h4, h5⟩)
  have hlen : q.length ≤ 4 := by
    rcases hq with e | e <;> subst e <;> rw [List.length_append] <;> omega
  have nameIn : ∀ f ∈ mainF b :: q, f.name ∈ [Str.ofString "main", Str.ofString "has", Str.ofString "within", Str.ofString "put", Str.ofString "turn", Str.ofString "later", Str.ofString "q"] := fun f hfm => by
    rcases List.mem_cons.mp hfm with e | hfm
    · subst e
      exact List.mem_cons_self ..
    · rcases (mem f).mp hfm with h | h
      · have z : ∀ m ∈ libs, ∀ f ∈ m, f.name ∈ [Str.ofString "main", Str.ofString "has", Str.ofString "within", Str.ofString "put", Str.ofString "turn", Str.ofString "later", Str.ofString "q"] := by
          intro m hm
          simp only [libs, List.mem_cons, List.not_mem_nil, or_false] at hm
          rcases hm with h | h | h <;> subst h <;> decide +kernel
        exact z more hm f h
      · obtain ⟨⟨j, hj, e⟩, _⟩ := fsf f h
        match j, hj, e with
        | 0, _, e =>
          have e : Str.ofString "later" = f.name := Option.some.inj e
          rw [← e]
          decide +kernel
        | 1, _, e =>
          have e : Str.ofString "q" = f.name := Option.some.inj e
          rw [← e]
          decide +kernel
  have efs : fs.map (·.name) = lqz.take fs.length := by
    refine List.ext_getElem? fun j => ?_
    rw [List.getElem?_map, List.getElem?_take]
    by_cases hj : j < fs.length
    · rw [if_pos hj, (hf.at_ j fs[j] (List.getElem?_eq_getElem hj)).1, List.getElem?_eq_getElem hj]
      rfl
    · rw [if_neg hj, List.getElem?_eq_none (by omega)]
      rfl
  have nd : ((mainF b :: q).map (·.name)).Nodup := by
    have z : ∀ n : Fin 3, ∀ m ∈ libs, (Str.ofString "main" :: (m.map (·.name) ++ lqz.take n.val)).Nodup ∧ (Str.ofString "main" :: (lqz.take n.val ++ m.map (·.name))).Nodup := by decide +kernel
    have z2 := z ⟨fs.length, by omega⟩ more hm
    rcases hq with e | e <;> subst e <;> rw [List.map_cons, List.map_append, efs]
    · exact z2.1
    · exact z2.2
  refine ⟨⟨(fun h => nomatch h), ⟨nd, fun f hfm => ?_⟩, fun f hfm => ?_, fun f hfm => ?_⟩, ?_, fun f hfm => ?_, ⟨_, _, rfl, rfl⟩, ?_, ?_⟩
  · rcases List.mem_cons.mp hfm with e | hfm
    · subst e
      exact ⟨(show 1 ≤ 12 by decide), WfE.mono (fun z hz => (List.mem_append.mp hz).elim (sub1 z) (sub2 z)) (Nat.le_refl _) (fun _ h => h) _ hb.wf⟩
    · rcases (mem f).mp hfm with h | h
      · have z := hlib f h
        exact ⟨z.1, WfE.mono sub1 (Nat.le_refl _) (fun _ h => h) _ z.2.2.2⟩
      · obtain ⟨_, ⟨n, n1, n3, ep⟩, wf, _⟩ := fsf f h
        have z := abc_take n n3
        exact ⟨by rw [ep]; exact Nat.le_trans z.1 (by decide), wf⟩
  · have z := names_fit ⟨(mainF b :: q).length, by show q.length + 1 < 6; omega⟩ f.name (nameIn f hfm)
    exact ⟨nameFits_of z.1, z.2.1⟩
  · rcases List.mem_cons.mp hfm with e | hfm
    · subst e
      exact (by decide +kernel : ([Str.ofString "x"]).Nodup ∧ ∀ x ∈ [Str.ofString "x"], isSpecial x = false)
    · rcases (mem f).mp hfm with h | h
      · have z := hlib f h
        exact ⟨z.2.1, z.2.2.1⟩
      · obtain ⟨_, ⟨n, n1, n3, ep⟩, _⟩ := fsf f h
        have z := abc_take n n3
        rw [ep]
        exact ⟨z.2.1, z.2.2.1⟩
  · show q.length + 1 ≤ 5
    omega
  · rcases List.mem_cons.mp hfm with e | hfm
    · subst e
      exact (by decide : ([Str.ofString "x"]).length ≤ 3)
    · rcases (mem f).mp hfm with h | h
      · exact l5 f h
      · obtain ⟨_, ⟨n, n1, n3, ep⟩, _⟩ := fsf f h
        rw [ep]
        exact (abc_take n n3).1
  · have pm : (mainF b).enc.parts ≤ 435 := by
      rw [fn_enc_parts]
      have h1 : b.enc.parts ≤ 431 := hb.parts
      show 1 + b.enc.parts + 3 ≤ 435
      omega
    have pf : T.partss (fs.map Fn.enc) ≤ fs.length * 149 := by
      have z : ∀ gs : List Fn, (∀ f ∈ gs, f.enc.parts ≤ 149) → T.partss (gs.map Fn.enc) ≤ gs.length * 149 := by
        intro gs
        induction gs with
        | nil => exact fun _ => Nat.zero_le _
        | cons g gs ih =>
          intro hg
          have h1 := hg g (List.mem_cons_self ..)
          have h2 := ih fun x hx => hg x (List.mem_cons_of_mem _ hx)
          show g.enc.parts + T.partss (gs.map Fn.enc) ≤ (gs.length + 1) * 149
          omega
      refine z fs fun f hfm => ?_
      obtain ⟨_, ⟨n, n1, n3, ep⟩, _, _, h5⟩ := fsf f hfm
      rw [fn_enc_parts, ep]
      have := (abc_take n n3).1
      omega
    have pq : T.partss (q.map Fn.enc) = T.partss (more.map Fn.enc) + T.partss (fs.map Fn.enc) := by
      rcases hq with e | e <;> subst e <;> rw [List.map_append, partss_append]
      omega
    show ((mainF b).enc.parts + T.partss (q.map Fn.enc)) + 1 ≤ 1000
    omega
  · refine T.oks_all fun t ht => ?_
    obtain ⟨f, hfm, rfl⟩ := List.mem_map.mp ht
    rcases List.mem_cons.mp hfm with e | hfm
    · subst e
      exact fn_enc_ok (by decide +kernel : PyData.strOk "main" = true) (by decide +kernel : ∀ x ∈ [Str.ofString "x"], PyData.strOk x = true) hb.ok
    · rcases (mem f).mp hfm with h | h
      · exact T.oks_mem l4 (List.mem_map.mpr ⟨f, h, rfl⟩)
      · obtain ⟨_, ⟨n, n1, n3, ep⟩, _, h4, _⟩ := fsf f h
        refine fn_enc_ok (names_fit 0 f.name (nameIn f (List.mem_cons_of_mem _ hfm))).2.2 (fun x hx => ?_) h4
        rw [ep] at hx
        exact (abc_take n n3).2.2.2 x hx
end K35
end

section
set_option Elab.async false
set_option linter.all false
set_option maxRecDepth 100000
namespace K35
open PySem PySem.Spec PyProof.Rows L2
theorem sc_law_program : FnScope ["_law_hand", "_law_inputs", "_law_more", "_law_calls", "_law_functions", "_law_k", "_law_name", "_law_parameters", "_law_main", "_law_one"] ["_law_hand", "_law_inputs"] (defScope s_law_program) := ⟨rfl, rfl, rfl, by decide +kernel, rfl, by decide +kernel, by decide +kernel⟩
theorem catA {K : PySem.W.Frag} {H : Hp} {xs ys : List T} {a b : Addr} {Q' : VK} (ha : TV K H (.l xs) (.ref a)) (hb : TV K H (.l ys) (.ref b)) (hl : xs.length + ys.length ≤ 2000000) (h : ∀ v H', Same H H' → TV K H' (.l (xs ++ ys)) v → Q' v H') : rCatA K (.ref a) (.ref b) H Q' := by
  obtain ⟨a', us, e1, h1, t1⟩ := id ha
  obtain ⟨b', vs, e2, h2, t2⟩ := id hb
  cases e1
  cases e2
  have l1 := t1.length
  have l2 := t2.length
  refine ⟨a, b, us, vs, rfl, rfl, h1, h2, line_le (by omega), fun e => ?_, fun _ e => ?_, fun _ _ p np => ?_⟩
  · subst e
    have ex : xs = [] := List.length_eq_zero_iff.mp l1.symm
    subst ex
    exact h _ H (fun _ _ e => e) hb
  · subst e
    have ex : ys = [] := List.length_eq_zero_iff.mp l2.symm
    subst ex
    exact h _ H (fun _ _ e => e) (by rw [List.append_nil]; exact ha)
  · obtain ⟨s, t⟩ := tv_new (K := K) (t1.append t2) np
    exact h _ _ s t
theorem tvs_fns {K : PySem.W.Frag} {H : Hp} : ∀ {fs : List Fn} {us : List L2.V}, All2 (fun f v => TV K H (Fn.enc f) v) fs us → TVs K H (fs.map Fn.enc) us
  | [], _, h => h
  | _ :: _, _, ⟨v, r, e, h, t⟩ => ⟨v, r, e, h, tvs_fns t⟩
section
variable {P : Program} {w : World} {K : PySem.W.Frag} {mg : Str → Option Value} {base : Heap} (C : Ctx w K mg)
include C
def spProg (K : PySem.W.Frag) : Sp := fun vs H Q _ => ∃ G : Hand, vs = [.ref G.h, .int 1] ∧ G.At H ∧ ∀ (p : List Fn) (v : L2.V) (H' : Hp), Drawn p → TV K H' (encP p) v → G.At H' → G.Fr H H' → Q v H'
theorem ok_program : FOk P w K mg base 9 "_law_program" ["_law_hand", "_law_inputs"] (spProg K) := by
  have F_law_take := ok_take C (P := P) (base := base)
  have F_law_library := ok_library C (P := P) (base := base)
  have F_law_expression := ok_expression C (P := P) (base := base) 2
  have F_expr3 := ok_expression C (P := P) (base := base) 3
  refine fok C.f_law_program C.g_law_program (fun _ _ _ _ _ _ us hl => match us, hl with | [_, _], _ => rfl) sc_law_program (fun vs H Q E h => ?_) (fun f cdv A outer s H vs Q E hr h => ?_)
  · obtain ⟨G, rfl, _⟩ := h
    rfl
  obtain ⟨G, rfl, hG, q⟩ := h
  refine ⟨_, (pss_cons (ps_set (i := 2) sc_law_program.nd rfl (Or.inl rfl) (pe_ix ix_list (pe_fn0 F_law_library (hr.mono (by first | decide | omega)) (by rfl)) (pe_fn F_law_take (hr.mono (by first | decide | omega)) (by rfl) (pa_cons (pv 0) (pa_cons pe_int pa_nil))) (fun _ _ => rfl)))
  (pss_cons (ps_setLc (i := 3) (te := tTup (tCons (tOp (rIxT K) (tVar 9) (tC (.int 0))) (tCons (tCB (fun xs H Q => ∃ p ys, xs = [.ref p] ∧ (SqL K H p ys ∨ SqT K H p ys) ∧ Q (.int ys.length) H) (tCons (tOp (rIxT K) (tVar 9) (tC (.int 1))) tNil)) tNil))) (own := [("_law_one", 9)]) (g := gName 9) (by rfl) sc_law_program.nd rfl rfl (sw_true rfl rfl rfl (by decide +kernel)) (pi_tup (pv 2)) (blkOk_by (own := [("_law_one", 9)]) (N := ["_law_hand", "_law_inputs", "_law_more", "_law_calls", "_law_functions", "_law_k", "_law_name", "_law_parameters", "_law_main", "_law_one"]) (sc := defScope s_law_program) (by decide +kernel)) (fun _ _ _ _ _ => pg_name (i := 9) sc_law_program.nd rfl (Or.inl rfl)) (fun _ _ _ _ _ => pts_nil) (fun _ _ _ _ _ => (pe_tup (pa_cons (pe_ix ix_tup (pv 9) pe_int (fun _ _ => rfl)) (pa_cons (pe_callB call_len_seq (by rfl) C.z_len PySem.boot_len (pa_cons (pe_ix ix_tup (pv 9) pe_int (fun _ _ => rfl)) pa_nil)) pa_nil)))))
  (pss_cons (ps_set (i := 4) sc_law_program.nd rfl (Or.inl rfl) (pe_lst pa_nil))
  (pss_cons (ps_for PassesOwn.never rfl (pi_range1 (by rfl) C.z_range (pa_cons (pe_fn F_law_take (hr.mono (by first | decide | omega)) (by rfl) (pa_cons (pv 0) (pa_cons pe_int pa_nil))) pa_nil)) (pg_name (i := 5) sc_law_program.nd rfl (Or.inl rfl)) (pss_cons (ps_set (i := 6) sc_law_program.nd rfl (Or.inl rfl) (pe_ix ix_list (pe_lst (pa_cons pe_str (pa_cons pe_str (pa_cons pe_str pa_nil)))) (pv 5) (fun _ _ => rfl)))
  (pss_cons (ps_set (i := 7) sc_law_program.nd rfl (Or.inl rfl) (pe_callTy call_tuple_of (by rfl) C.z_tuple (by decide +kernel) (pa_cons (pe_slice sl_list (pe_lst (pa_cons pe_str (pa_cons pe_str (pa_cons pe_str pa_nil)))) po_none (po_some (pe_op op_add pe_int (pe_fn F_law_take (hr.mono (by first | decide | omega)) (by rfl) (pa_cons (pv 0) (pa_cons pe_int pa_nil)))))) pa_nil)))
  (pss_cons (ps_expr (pe_bm PySem.F.plainAttrs_list PySem.F.slot_list_append PySem.F.type_list_append mt_append (pv 4) (pa_cons (pe_tup (pa_cons (pv 6) (pa_cons (pv 7) (pa_cons (pe_fn F_law_expression (hr.mono (by first | decide | omega)) (by rfl) (pa_cons (pv 0) (pa_cons (pv 7) (pa_cons (pv 3) (pa_cons pe_int pa_nil))))) pa_nil)))) pa_nil)))
  (pss_one (ps_expr (pe_bm PySem.F.plainAttrs_list PySem.F.slot_list_append PySem.F.type_list_append mt_append (pv 3) (pa_cons (pe_tup (pa_cons (pv 6) (pa_cons (pe_callB call_len_seq (by rfl) C.z_len PySem.boot_len (pa_cons (pv 7) pa_nil)) pa_nil))) pa_nil))))))))
  (pss_cons (ps_set (i := 7) sc_law_program.nd rfl (Or.inl rfl) (pe_callTy call_tuple_of (by rfl) C.z_tuple (by decide +kernel) (pa_cons (pe_slice sl_list (pe_lst (pa_cons pe_str (pa_cons pe_str (pa_cons pe_str (pa_cons pe_str pa_nil))))) po_none (po_some (pv 1))) pa_nil)))
  (pss_cons (ps_set (i := 8) sc_law_program.nd rfl (Or.inl rfl) (pe_tup (pa_cons pe_str (pa_cons (pv 7) (pa_cons (pe_fn F_expr3 (hr.mono (by decide)) (by rfl) (pa_cons (pv 0) (pa_cons (pv 7) (pa_cons (pv 3) (pa_cons pe_int pa_nil))))) pa_nil)))))
  (pss_cons (ps_if (pt_cmpR op_eq (pe_fn F_law_take (hr.mono (by first | decide | omega)) (by rfl) (pa_cons (pv 0) (pa_cons pe_int pa_nil))) pe_int (nomark _)) (pss_one (ps_ret (pe_op op_catA (pe_op op_catA (pe_tup (pa_cons (pv 8) pa_nil)) (pv 2)) (pe_callTy call_tuple_of (by rfl) C.z_tuple (by decide +kernel) (pa_cons (pv 4) pa_nil))))) pss_nil)
  (pss_one (ps_ret (pe_op op_catA (pe_op op_catA (pe_tup (pa_cons (pv 8) pa_nil)) (pe_callTy call_tuple_of (by rfl) C.z_tuple (by decide +kernel) (pa_cons (pv 4) pa_nil))) (pv 2))))))))))), ?_⟩
  refine ⟨rfl, fun L us H1 s1 hL nL al => ?_⟩
  have hG1 := hG.same s1
  have hLh : L ≠ G.h := (hG.ne nL).1
  refine ⟨_, rfl, G, 3, rfl, hG1, by decide, fun v H2 hG2 f2 hv => ?_⟩
  obtain ⟨mv, hmv, tm⟩ := al.get (i := v) (List.getElem?_eq_getElem (show v < libs.length from hv))
  have hmore : libs[v]'(show v < libs.length from hv) ∈ libs := List.getElem_mem _
  generalize libs[v]'(show v < libs.length from hv) = more at *
  refine ⟨L, us, _, _, rfl, rfl, SqL.of (f2 _ _ hL hLh), atI_nat hmv, ?_⟩
  have tm2 := tm.mono (f2.tk hG1)
  obtain ⟨l1, l2, l3, l4, l5, l6⟩ := lib_facts hmore
  obtain ⟨ma, ms, rfl, hma, tms⟩ := id tm2
  have lms := tms.length
  rw [List.length_map] at lms
  -- the calls
  refine ⟨_, rfl, ma, rfl, ⟨ms, hma⟩, fun c nc => lc_tup (xs := ms) (fun i H3 => (∃ acc, H3 c = some (.lst acc) ∧ All2 (fun (q : Str × Nat) v => ∃ a, v = .ref a ∧ SqT K H3 a [.str q.1, .int (q.2 : Int)]) ((sig more).take i) acc) ∧ Same H2 H3) ⟨⟨[], upd_same, rfl⟩, same_new nc _⟩ (fun i H3 _ h => (Tk.same h.2).sqt hma) (fun i y H3 hy h => ?_) (fun H3 h => ?_)⟩
  · obtain ⟨⟨acc, hacc, aacc⟩, s3⟩ := h
    have hi := (List.getElem?_eq_some_iff.mp hy).1
    have him : i < more.length := by omega
    obtain ⟨y', hy', ty⟩ := tms.get (i := i) (t := (more[i]).enc) (by rw [List.getElem?_map, List.getElem?_eq_getElem him] <;> rfl)
    rw [hy] at hy'
    cases hy'
    have ty3 := ty.mono (Tk.same s3)
    have hsi : (sig more)[i]? = some ((more[i]).name, (more[i]).ps.length) := by
      unfold sig
      rw [List.getElem?_map, List.getElem?_eq_getElem him] <;> rfl
    generalize more[i] = fi at *
    obtain ⟨b, ws, rfl, hb, v1, r1, rfl, h1, v2, r2, rfl, h2, _⟩ := id ty3
    have h1 : v1 = .str fi.name := h1
    subst h1
    obtain ⟨b2, ps2, rfl, hb2, tps2⟩ := id h2
    have lps2 := tps2.length
    rw [List.length_map] at lps2
    refine ⟨rfl, _, rfl, b, _, _, _, rfl, rfl, hb, atI_nat (j := 0) rfl, _, rfl, b, _, _, _, rfl, rfl, hb, atI_nat (j := 1) rfl, b2, _, rfl, .inr hb2, by show 2 ≤ sizeLine; decide, fun tp ntp => ?_⟩
    have s4 : Same H3 (upd H3 tp (.tup [.str fi.name, .int ((ps2.length : Nat) : Int)])) := same_new ntp _
    have htp : upd H3 tp (.tup [.str fi.name, .int ((ps2.length : Nat) : Int)]) tp = some (.tup [.str fi.name, .int ((ps2.length : Nat) : Int)]) := upd_same
    have hacc4 := s4 _ _ hacc
    have lacc := aacc.length
    rw [List.length_take] at lacc
    have k5 : Tk (upd H3 tp (.tup [.str fi.name, .int ((ps2.length : Nat) : Int)])) (upd (upd H3 tp (.tup [.str fi.name, .int ((ps2.length : Nat) : Int)])) c (.lst (acc ++ [.ref tp]))) := Tk.upd (by rw [hacc4]; exact NoTup.lst)
    refine ⟨acc, hacc4, line_lt (by omega), ⟨_, upd_same, ?_⟩, fun d o e => ?_⟩
    · rw [List.take_succ, hsi]
      exact (aacc.mono fun q v ⟨a, e, z⟩ => ⟨a, e, k5.sqt ((Tk.same s4).sqt z)⟩).snoc ⟨tp, rfl, by rw [← lps2]; exact k5.sqt (.inl (.of htp))⟩
    · rw [upd_ne (ne_of_none e nc)]
      exact s4 _ _ (s3 _ _ e)
  · obtain ⟨⟨acc, hacc, aacc⟩, s3⟩ := h
    have lsg : (sig more).length = more.length := List.length_map ..
    rw [lms, ← lsg, List.take_length] at aacc
    refine ⟨Nat.zero_le _, fun fl nfl => ?_⟩
    have cfl : c ≠ fl := ne_of_none hacc nfl
    have s4 : Same H3 (upd H3 fl (.lst [])) := same_new nfl _
    have hfl4 : upd H3 fl (.lst []) fl = some (.lst []) := upd_same
    have hc4 := s4 _ _ hacc
    generalize upd H3 fl (.lst []) = H4 at *
    have s24 : Same H2 H4 := fun b o e => s4 _ _ (s3 _ _ e)
    have hG4 := hG2.same s24
    have f4 : G.Fr H H4 := ((Hand.Fr.same s1).trans f2).trans (.same s24)
    have chd := hG2.ne nc
    have fhd : fl ≠ G.h ∧ fl ≠ G.d := (hG2.same s3).ne nfl
    have nc0 : H c = none := by
      cases e : H c with
      | none => rfl
      | some o =>
        by_cases z : c = G.h
        · exact absurd z chd.1
        · rw [f2 _ _ (s1 _ _ e) z] at nc
          cases nc
    have nf0 : H fl = none := by
      cases e : H fl with
      | none => rfl
      | some o =>
        by_cases z : fl = G.h
        · exact absurd z fhd.1
        · rw [s3 _ _ (f2 _ _ (s1 _ _ e) z)] at nfl
          cases nfl
    have calls0 : CallsAt K H4 c (sig more) := ⟨acc, hc4, aacc.mono fun q v ⟨a, e, z⟩ => ⟨a, e, (Tk.same s4).sqt z⟩⟩
    have tm4 := tm2.mono (Tk.same s24)
    refine ⟨_, rfl, G, 3, rfl, hG4, by decide, fun n H5 hG5 f5 hn => ?_⟩
    refine ⟨_, rfl, by omega, by omega, for_it walk_range (fun i σ H6 => ∃ (o5 o6 o7 o8 o9 : Option L2.V) (fs : List Fn) (fv : List L2.V), σ = [some (.ref G.h), some (.int 1), some (.ref ma), some (.ref c), some (.ref fl), o5, o6, o7, o8, o9] ∧ G.At H6 ∧ G.Fr H H6 ∧ TV K H6 (encP more) (.ref ma) ∧ CallsAt K H6 c (sig more ++ sig fs) ∧ H6 fl = some (.lst fv) ∧ All2 (fun f v => TV K H6 (Fn.enc f) v) fs fv ∧ fs.length = i ∧ FsOk more fs)
      ⟨_, _, _, _, _, [], [], rfl, hG5, f4.trans f5, tm4.mono (f5.tk hG4), by rw [show sig ([] : List Fn) = [] from rfl, List.append_nil]; exact calls0.mono (f5.tk hG4) (fun us e => f5 _ _ e chd.1), f5 _ _ hfl4 fhd.1, rfl, rfl, ⟨fun j f e => by simp at e⟩⟩ (fun _ _ _ _ _ => True.intro) (fun i y σ H7 H6 hi h yy => ?_) (fun σ H6 h => ?_)⟩
    · obtain ⟨e, ey⟩ := yy
      subst e ey
      obtain ⟨o5, o6, o7, o8, o9, fs, fv, rfl, hG6, f6, tm6, hc6, hfl6, afs6, lfs, hfs⟩ := h
      have hn2 : n < 3 := hn
      have hi2 : i < 2 := by
        have hi' : i < ((n : Nat) : Int).toNat := hi
        omega
      obtain ⟨nm, hnm, hat, hnin⟩ : ∃ nm, lqz[i]? = some nm ∧ atI [L2.V.str "later", L2.V.str "q", L2.V.str "zz"] ((0 : Int) + ((i : Nat) : Int)) = some (.str nm) ∧ nm ∈ [Str.ofString "main", Str.ofString "has", Str.ofString "within", Str.ofString "put", Str.ofString "turn", Str.ofString "later", Str.ofString "q"] := by
        match i, hi2 with
        | 0, _ => exact ⟨_, rfl, rfl, by decide +kernel⟩
        | 1, _ => exact ⟨_, rfl, rfl, by decide +kernel⟩
      have hnmf := names_fit 0 nm hnin
      have lfv := afs6.length
      refine ⟨by show 3 ≤ sizeLine; decide, fun pl npl => ⟨_, rfl, pl, _, _, _, rfl, rfl, SqL.of upd_same, hat, ?_⟩⟩
      have s7 : Same H6 (upd H6 pl (.lst [.str "later", .str "q", .str "zz"])) := same_new npl _
      generalize upd H6 pl (.lst [.str "later", .str "q", .str "zz"]) = H7 at *
      refine ⟨by show 3 ≤ sizeLine; decide, fun p1 np1 => ?_⟩
      have s8 : Same H7 (upd H7 p1 (.lst [.str "a", .str "b", .str "c"])) := same_new np1 _
      have hp1 : upd H7 p1 (.lst [.str "a", .str "b", .str "c"]) p1 = some (.lst [.str "a", .str "b", .str "c"]) := upd_same
      generalize upd H7 p1 (.lst [.str "a", .str "b", .str "c"]) = H8 at *
      have s68 : Same H6 H8 := fun b o e => s8 _ _ (s7 _ _ e)
      have hG8 := hG6.same s68
      have hp1h : p1 ≠ G.h := ((hG6.same s7).ne np1).1
      refine ⟨_, rfl, G, 3, rfl, hG8, by decide, fun v2 H9 hG9 f9 hv2 => ?_⟩
      refine ⟨_, _, rfl, rfl, _, rfl, p1, _, rfl, SqL.of (f9 _ _ hp1 hp1h), fun p2 np2 => ?_⟩
      have ecut : cutV [L2.V.str "a", L2.V.str "b", L2.V.str "c"] none (some (1 + ((v2 : Nat) : Int))) = (abc.take (1 + v2)).map L2.V.str := by
        rw [show (1 : Int) + ((v2 : Nat) : Int) = ((1 + v2 : Nat) : Int) by omega, cut_to, List.map_take]
        rfl
      refine ⟨p2, _, rfl, .inl ⟨SqL.of upd_same, fun p3 np3 => ?_⟩⟩
      have s10 : Same H9 (upd H9 p2 (.lst (cutV [L2.V.str "a", L2.V.str "b", L2.V.str "c"] none (some (1 + ((v2 : Nat) : Int)))))) := same_new np2 _
      have s11 : Same _ (upd (upd H9 p2 (.lst (cutV [L2.V.str "a", L2.V.str "b", L2.V.str "c"] none (some (1 + ((v2 : Nat) : Int)))))) p3 (.tup (cutV [L2.V.str "a", L2.V.str "b", L2.V.str "c"] none (some (1 + ((v2 : Nat) : Int)))))) := same_new np3 _
      have hp3 : upd (upd H9 p2 (.lst (cutV [L2.V.str "a", L2.V.str "b", L2.V.str "c"] none (some (1 + ((v2 : Nat) : Int)))))) p3 (.tup (cutV [L2.V.str "a", L2.V.str "b", L2.V.str "c"] none (some (1 + ((v2 : Nat) : Int))))) p3 = some (.tup ((abc.take (1 + v2)).map L2.V.str)) := by rw [upd_same, ecut]
      generalize upd (upd H9 p2 (.lst (cutV [L2.V.str "a", L2.V.str "b", L2.V.str "c"] none (some (1 + ((v2 : Nat) : Int)))))) p3 (.tup (cutV [L2.V.str "a", L2.V.str "b", L2.V.str "c"] none (some (1 + ((v2 : Nat) : Int))))) = H10 at *
      have s910 : Same H9 H10 := fun b o e => s11 _ _ (s10 _ _ e)
      have hG10 := hG9.same s910
      have f610 : G.Fr H6 H10 := ((Hand.Fr.same s68).trans f9).trans (.same s910)
      have k610 := f610.tk hG6
      have hfl10 := f610 _ _ hfl6 fhd.1
      have hc10 : CallsAt K H10 c (sig more ++ sig fs) := hc6.mono k610 fun us e => f610 _ _ e chd.1
      have hat3 := abc_take (1 + v2) (by omega)
      have tps : TV K H10 (.l ((abc.take (1 + v2)).map T.w)) (.ref p3) := ⟨p3, _, rfl, .inl (.of hp3), TVs.ofWords _⟩
      have lcs : (sig more ++ sig fs).length ≤ 10 := by
        have e1 : (sig more).length = more.length := List.length_map ..
        have e2 : (sig fs).length = fs.length := List.length_map ..
        rw [List.length_append]
        omega
      have hcs : ∀ q ∈ sig more ++ sig fs, isSpecial q.1 = false ∧ PyData.strOk q.1 = true ∧ q.2 ≤ 3 := fun q hq => by
        rcases List.mem_append.mp hq with hq | hq
        · exact l6 q hq
        · obtain ⟨f, hf, e⟩ := List.mem_map.mp hq
          obtain ⟨j, hj, ej⟩ := List.mem_iff_getElem.mp hf
          obtain ⟨z1, ⟨m, m1, m3, mp⟩, _⟩ := hfs.at_ j f (by rw [List.getElem?_eq_getElem hj, ej])
          rw [← e]
          have hin : f.name ∈ [Str.ofString "main", Str.ofString "has", Str.ofString "within", Str.ofString "put", Str.ofString "turn", Str.ofString "later", Str.ofString "q"] := by
            have hj2 : j < 2 := by omega
            match j, hj2, z1 with
            | 0, _, z1 =>
              have z1 : Str.ofString "later" = f.name := Option.some.inj z1
              rw [← z1]
              decide +kernel
            | 1, _, z1 =>
              have z1 : Str.ofString "q" = f.name := Option.some.inj z1
              rw [← z1]
              decide +kernel
          have z := names_fit 0 f.name hin
          exact ⟨z.2.1, z.2.2, by show f.ps.length ≤ 3; rw [mp]; exact (abc_take m m3).1⟩
      refine ⟨_, rfl, .inl ⟨rfl, _, SqL.of hfl10⟩, _, rfl, _, rfl, _, rfl, _, rfl, _, rfl, G, abc.take (1 + v2), sig more ++ sig fs, c, .ref p3, rfl, hG10, tps, by omega, hat3.2.2.2, hc10, chd.1, lcs, hcs, fun e ev H11 he te hG11 f11 => ?_⟩
      refine ⟨by show 3 ≤ sizeLine; decide, fun tp ntp => ?_⟩
      have k1011 := f11.tk hG10
      obtain ⟨s12, t12⟩ := tv_new (K := K) (ts := [.w nm, .l ((abc.take (1 + v2)).map T.w), e.enc]) (vs := [.str nm, .ref p3, ev]) (.cons rfl (.cons (tps.mono k1011) (.one te))) ntp
      have hfl11 := f11 _ _ hfl10 fhd.1
      have hfl12 := s12 _ _ hfl11
      generalize upd H11 tp (.tup [.str nm, .ref p3, ev]) = H12 at *
      refine ⟨fl, _, _, rfl, rfl, hfl12, line_lt (by omega), ?_⟩
      have nt12 : NoTup (H12 fl) := by rw [hfl12]; exact NoTup.lst
      have k13 : Tk H12 (upd H12 fl (.lst (fv ++ [.ref tp]))) := Tk.upd nt12
      have hG12 := hG11.same s12
      have hG13 := hG12.upd (o := .lst (fv ++ [.ref tp])) fhd.1 fhd.2
      have hfl13 : upd H12 fl (.lst (fv ++ [.ref tp])) fl = some (.lst (fv ++ [.ref tp])) := upd_same
      have f613 : G.Fr H6 H12 := (f610.trans f11).trans (.same s12)
      have fH13 : G.Fr H (upd H12 fl (.lst (fv ++ [.ref tp]))) := (f6.trans f613).new nf0
      have k613 : Tk H6 (upd H12 fl (.lst (fv ++ [.ref tp]))) := (f613.tk hG6).trans k13
      have k1213 := k13
      obtain ⟨cu, hcu, acu⟩ := hc10
      have hcu13 : upd H12 fl (.lst (fv ++ [.ref tp])) c = some (.lst cu) := (upd_ne cfl).trans (s12 _ _ (f11 _ _ hcu chd.1))
      have k1013 : Tk H10 (upd H12 fl (.lst (fv ++ [.ref tp]))) := (k1011.trans (Tk.same s12)).trans k13
      generalize upd H12 fl (.lst (fv ++ [.ref tp])) = H13 at *
      have lcu := acu.length
      refine ⟨_, rfl, .inl ⟨rfl, _, SqL.of hcu13⟩, _, rfl, _, rfl, p3, _, rfl, .inr (k1013.sqt (.inl (.of hp3))), by show 2 ≤ sizeLine; decide, fun tq ntq => ?_⟩
      have s14 : Same H13 (upd H13 tq (.tup [.str nm, .int ((((abc.take (1 + v2)).map L2.V.str).length : Nat) : Int)])) := same_new ntq _
      have htq : upd H13 tq (.tup [.str nm, .int ((((abc.take (1 + v2)).map L2.V.str).length : Nat) : Int)]) tq = some (.tup [.str nm, .int ((((abc.take (1 + v2)).map L2.V.str).length : Nat) : Int)]) := upd_same
      generalize upd H13 tq (.tup [.str nm, .int ((((abc.take (1 + v2)).map L2.V.str).length : Nat) : Int)]) = H14 at *
      have hcu14 := s14 _ _ hcu13
      refine ⟨c, _, _, rfl, rfl, hcu14, line_lt (by omega), ?_⟩
      have k15 : Tk H14 (upd H14 c (.lst (cu ++ [.ref tq]))) := Tk.upd (by rw [hcu14]; exact NoTup.lst)
      have k1315 := (Tk.same s14).trans k15
      have esig : sig (fs ++ [⟨nm, abc.take (1 + v2), e⟩]) = sig fs ++ [(nm, (abc.take (1 + v2)).length)] := by
        unfold sig
        rw [List.map_append] <;> rfl
      refine ⟨_, _, _, _, _, fs ++ [⟨nm, abc.take (1 + v2), e⟩], fv ++ [.ref tp], rfl, (hG13.same s14).upd chd.1 chd.2, (fH13.trans (.same s14)).new nc0, tm6.mono (k613.trans k1315), ?_, (upd_ne cfl.symm).trans (s14 _ _ hfl13), ?_, by rw [List.length_append, lfs] <;> rfl, hfs.snoc (by rw [lfs]; exact hnm) (n := 1 + v2) (by omega) (by omega) rfl he⟩
      · rw [esig, ← List.append_assoc]
        refine ⟨_, upd_same, (acu.mono fun q v ⟨a, e, z⟩ => ⟨a, e, k15.sqt ((Tk.same s14).sqt (k1013.sqt z))⟩).snoc ⟨tq, rfl, ?_⟩⟩
        have htq' := htq
        rw [List.length_map] at htq'
        exact k15.sqt (.inl (.of htq'))
      · exact (afs6.mono fun f v z => TV.mono (k613.trans k1315) z).snoc (TV.mono (k1213.trans k1315) t12)
    · obtain ⟨o5, o6, o7, o8, o9, fs, fv, rfl, hG6, f6, tm6, hc6, hfl6, afs6, lfs, hfs⟩ := h
      have lfs2 : fs.length ≤ 2 := by
        have hn' : fs.length = ((n : Nat) : Int).toNat := lfs
        have : ((n : Nat) : Int).toNat = n := rfl
        have hn3 : n < 3 := hn
        omega
      refine ⟨by show 4 ≤ sizeLine; decide, fun pl npl => ⟨_, rfl, _, rfl, pl, _, rfl, SqL.of upd_same, fun p2 np2 => ⟨p2, _, rfl, .inl ⟨SqL.of upd_same, fun p3 np3 => ?_⟩⟩⟩⟩
      have ecut : cutV [L2.V.str "x", L2.V.str "y", L2.V.str "w", L2.V.str "v"] none (some 1) = [.str "x"] := cut_to _ 1
      have s7 : Same H6 (upd H6 pl (.lst [.str "x", .str "y", .str "w", .str "v"])) := same_new npl _
      generalize upd H6 pl (.lst [.str "x", .str "y", .str "w", .str "v"]) = H7 at *
      rw [ecut] at np3 ⊢
      have s8 : Same H7 (upd H7 p2 (.lst [.str "x"])) := same_new np2 _
      generalize upd H7 p2 (.lst [.str "x"]) = H8 at *
      obtain ⟨s9, t9⟩ := tv_new (K := K) (ts := [.w "x"]) (vs := [.str "x"]) (.one rfl) np3
      generalize upd H8 p3 (.tup [.str "x"]) = H9 at *
      have s69 : Same H6 H9 := fun b o e => s9 _ _ (s8 _ _ (s7 _ _ e))
      have hG9 := hG6.same s69
      have k69 : Tk H6 H9 := Tk.same s69
      have lcs : (sig more ++ sig fs).length ≤ 10 := by
        have e1 : (sig more).length = more.length := List.length_map ..
        have e2 : (sig fs).length = fs.length := List.length_map ..
        rw [List.length_append]
        omega
      have hcs : ∀ q ∈ sig more ++ sig fs, isSpecial q.1 = false ∧ PyData.strOk q.1 = true ∧ q.2 ≤ 3 := fun q hq => by
        rcases List.mem_append.mp hq with hq | hq
        · exact l6 q hq
        · obtain ⟨f, hf, e⟩ := List.mem_map.mp hq
          obtain ⟨j, hj, ej⟩ := List.mem_iff_getElem.mp hf
          obtain ⟨z1, ⟨m, m1, m3, mp⟩, _⟩ := hfs.at_ j f (by rw [List.getElem?_eq_getElem hj, ej])
          rw [← e]
          have hin : f.name ∈ [Str.ofString "main", Str.ofString "has", Str.ofString "within", Str.ofString "put", Str.ofString "turn", Str.ofString "later", Str.ofString "q"] := by
            have hj2 : j < 2 := by omega
            match j, hj2, z1 with
            | 0, _, z1 =>
              have z1 : Str.ofString "later" = f.name := Option.some.inj z1
              rw [← z1]
              decide +kernel
            | 1, _, z1 =>
              have z1 : Str.ofString "q" = f.name := Option.some.inj z1
              rw [← z1]
              decide +kernel
          have z := names_fit 0 f.name hin
          exact ⟨z.2.1, z.2.2, by show f.ps.length ≤ 3; rw [mp]; exact (abc_take m m3).1⟩
      refine ⟨_, rfl, _, rfl, _, rfl, _, rfl, G, [Str.ofString "x"], sig more ++ sig fs, c, .ref p3, rfl, hG9, t9, by decide, by decide +kernel, hc6.mono k69 (fun us e => s69 _ _ e), chd.1, lcs, hcs, fun e ev H10 he te hG10 f10 => ⟨by show 3 ≤ sizeLine; decide, fun mp nmp => ?_⟩⟩
      obtain ⟨s11, t11⟩ := tv_new (K := K) (ts := [.w "main", .l [.w "x"], e.enc]) (vs := [.str "main", .ref p3, ev]) (.cons rfl (.cons (t9.mono (f10.tk hG9)) (.one te))) nmp
      have hG11 := hG10.same s11
      have f611 : G.Fr H6 (upd H10 mp (.tup [.str "main", .ref p3, ev])) := ((Hand.Fr.same s69).trans f10).trans (.same s11)
      have t11 : TV K (upd H10 mp (.tup [.str "main", .ref p3, ev])) (mainF e).enc (.ref mp) := t11
      generalize upd H10 mp (.tup [.str "main", .ref p3, ev]) = H11 at *
      refine ⟨_, rfl, G, 4, rfl, hG11, by decide, fun v4 H12 hG12 f12 hv4 => ?_⟩
      have f612 := f611.trans f12
      have k612 := f612.tk hG6
      have fH12 := f6.trans f612
      have t12 := t11.mono (f12.tk hG11)
      have tm12 := tm6.mono k612
      have hfl12 := f612 _ _ hfl6 fhd.1
      have afs12 := afs6.mono fun f v z => TV.mono k612 z
      have lmore : more.length ≤ 2 := l2
      refine ⟨rfl, _, rfl, ite_b (fun _ => ?_) (fun _ => ?_)⟩
      · refine ⟨_, rfl, by show 1 ≤ sizeLine; decide, fun q1 nq1 => ?_⟩
        obtain ⟨s13, t13⟩ := tv_new (K := K) (ts := [(mainF e).enc]) (vs := [.ref mp]) (.one t12) nq1
        generalize upd H12 q1 (.tup [.ref mp]) = H13 at *
        refine ⟨_, rfl, catA t13 (tm12.mono (Tk.same s13)) (by rw [List.length_map]; show 1 + more.length ≤ 2000000; omega) fun v H14 s14 t14 => ?_⟩
        obtain ⟨va, vus, rfl, hva, tva⟩ := id t14
        have s1214 : Same H12 H14 := fun b o e => s14 _ _ (s13 _ _ e)
        refine ⟨_, rfl, fl, fv, rfl, .inl ⟨SqL.of (s1214 _ _ hfl12), fun l nl => ?_⟩⟩
        obtain ⟨s15, t15⟩ := tv_new (K := K) (tvs_fns (afs12.mono fun f v z => TV.mono (Tk.same s1214) z)) nl
        refine catA (t14.mono (Tk.same s15)) t15 (by rw [List.length_append, List.length_map, List.length_map]; show 1 + more.length + fs.length ≤ 2000000; omega) fun v H16 s16 t16 => ?_
        have sAll : Same H12 H16 := fun b o e => s16 _ _ (s15 _ _ (s1214 _ _ e))
        refine q (mainF e :: (more ++ fs)) v H16 (drawn_of hmore hfs lfs2 he (.inl rfl)) ?_ (hG12.same sAll) (fH12.trans (.same sAll))
        show TV K H16 (.l ((mainF e :: (more ++ fs)).map Fn.enc)) v
        rw [List.map_cons, List.map_append]
        exact t16
      · refine ⟨_, rfl, by show 1 ≤ sizeLine; decide, fun q1 nq1 => ?_⟩
        obtain ⟨s13, t13⟩ := tv_new (K := K) (ts := [(mainF e).enc]) (vs := [.ref mp]) (.one t12) nq1
        generalize upd H12 q1 (.tup [.ref mp]) = H13 at *
        refine ⟨_, rfl, fl, fv, rfl, .inl ⟨SqL.of (s13 _ _ hfl12), fun l nl => ?_⟩⟩
        obtain ⟨s15, t15⟩ := tv_new (K := K) (tvs_fns (afs12.mono fun f v z => TV.mono (Tk.same s13) z)) nl
        refine catA (t13.mono (Tk.same s15)) t15 (by rw [List.length_map]; show 1 + fs.length ≤ 2000000; omega) fun v H16 s16 t16 => ?_
        obtain ⟨va, vus, rfl, hva, tva⟩ := id t16
        have s1216 : Same H12 H16 := fun b o e => s16 _ _ (s15 _ _ (s13 _ _ e))
        refine ⟨_, rfl, catA t16 (tm12.mono (Tk.same s1216)) (by rw [List.length_append, List.length_map, List.length_map]; show 1 + fs.length + more.length ≤ 2000000; omega) fun v H17 s17 t17 => ?_⟩
        have sAll : Same H12 H17 := fun b o e => s17 _ _ (s1216 _ _ e)
        refine q (mainF e :: (fs ++ more)) v H17 (drawn_of hmore hfs lfs2 he (.inr rfl)) ?_ (hG12.same sAll) (fH12.trans (.same sAll))
        show TV K H17 (.l ((mainF e :: (fs ++ more)).map Fn.enc)) v
        rw [List.map_cons, List.map_append]
        exact t17
end
end K35
end

section
set_option Elab.async false
set_option linter.all false
set_option maxRecDepth 100000
namespace K35
open PySem PySem.Spec PyProof.Rows L2
theorem sc_law_do : FnScope ["_law_word", "_law_found", "_law_last", "_law_first"] ["_law_word", "_law_found"] (defScope s_law_do) := ⟨rfl, rfl, rfl, by decide +kernel, rfl, by decide +kernel, by decide +kernel⟩
theorem sc_law_small : FnScope ["_law_value_here", "_law_waiting", "_law_turn", "_law_one", "_law_item"] ["_law_value_here"] (defScope s_law_small) := ⟨rfl, rfl, rfl, by decide +kernel, rfl, by decide +kernel, by decide +kernel⟩
section
variable {P : Program} {w : World} {K : PySem.W.Frag} {mg : Str → Option Value} {base : Heap} (C : Ctx w K mg)
include C
def spLawDo (K : PySem.W.Frag) : Sp := fun vs H Q _ => ∃ (nm : Str) (fl : Addr) (f : List T) (us : List L2.V), vs = [.str nm, .ref fl] ∧ H fl = some (.lst us.reverse) ∧ All2 (fun t v => TV K H t v) f us ∧ isPlain nm = true ∧ arity nm ≤ f.length ∧ (∀ t ∈ f, t.ok = true ∧ t.depth ≤ 1400 ∧ t.items.length ≤ 1000000) ∧
  ∀ (v : L2.V) (us' : List L2.V) (H' : Hp), H' fl = some (.lst us'.reverse) → All2 (fun t v => TV K H' t v) (f.drop (arity nm)) us' → TV K H' (prim nm (f.take (arity nm)).reverse) v → (∀ b o, H b = some o → b ≠ fl → H' b = some o) → Q v H'
theorem ok_law_do : FOk P w K mg base 81 "_law_do" ["_law_word", "_law_found"] (spLawDo K) := by
  refine fok C.f_law_do C.g_law_do (fun _ _ _ _ _ _ us hl => match us, hl with | [_, _], _ => rfl) sc_law_do (fun vs H Q E h => ?_) (fun f cdv A outer s H vs Q E hr h => ?_)
  · obtain ⟨nm, fl, f, us, rfl, _⟩ := h
    rfl
  obtain ⟨nm, fl, fd, us, rfl, hfl, af, hp, ha, hok, q⟩ := h
  refine ⟨_, (pss_cons (ps_set (i := 2) sc_law_do.nd rfl (Or.inl rfl) (pe_bm0 PySem.F.plainAttrs_list PySem.F.slot_list_pop PySem.F.type_list_pop mt_pop (pv 1)))
  (pss_cons (ps_if (pt_cmpR op_eq (pv 0) pe_str (nomark _)) (pss_one (ps_ret (pe_ix ix_list (pe_lst (pa_cons pe_str (pa_cons (pe_tup pa_nil) pa_nil))) (pe_callTy call_int1 (by rfl) C.z_int (by decide +kernel) (pa_cons (pe_callB call_isU (by rfl) C.z_isinstance (by decide +kernel) (pa_cons (pv 2) (pa_cons (pe_bltn (v := .ty "tuple") (by rfl) C.z_tuple (by decide +kernel) rfl) pa_nil))) pa_nil)) (fun _ _ => rfl)))) pss_nil)
  (pss_cons (ps_if (pt_cmpR op_eq (pv 0) pe_str (nomark _)) (pss_cons (ps_if (PW.pt (pw_and (pt_val (pe_callB call_isU (by rfl) C.z_isinstance (by decide +kernel) (pa_cons (pv 2) (pa_cons (pe_bltn (v := .ty "tuple") (by rfl) C.z_tuple (by decide +kernel) rfl) pa_nil)))) (pw_and1 (pt_cmpR op_gt (pe_callB call_len_seq (by rfl) C.z_len PySem.boot_len (pa_cons (pv 2) pa_nil)) pe_int (nomark _))))) (pss_one (ps_ret (pe_ix ix_tup (pv 2) pe_int (fun _ _ => rfl)))) pss_nil)
  (pss_one (ps_ret (pe_tup pa_nil)))) pss_nil)
  (pss_cons (ps_if (pt_cmpR op_eq (pv 0) pe_str (nomark _)) (pss_cons (ps_if (pt_val (pe_callB call_isU (by rfl) C.z_isinstance (by decide +kernel) (pa_cons (pv 2) (pa_cons (pe_bltn (v := .ty "tuple") (by rfl) C.z_tuple (by decide +kernel) rfl) pa_nil)))) (pss_one (ps_ret (pe_slice sl_tupA (pv 2) (po_some pe_int) po_none))) pss_nil)
  (pss_one (ps_ret (pe_tup pa_nil)))) pss_nil)
  (pss_cons (ps_set (i := 3) sc_law_do.nd rfl (Or.inl rfl) (pe_bm0 PySem.F.plainAttrs_list PySem.F.slot_list_pop PySem.F.type_list_pop mt_pop (pv 1)))
  (pss_cons (ps_if (pt_cmpR op_eq (pv 0) pe_str (nomark _)) (pss_one (ps_ret (pe_ix ix_list (pe_lst (pa_cons (pe_tup pa_nil) (pa_cons pe_str pa_nil))) (pe_callTy call_int1 (by rfl) C.z_int (by decide +kernel) (pa_cons (pe_cmpR (op_eqT hr) (pv 3) (pv 2) (nomark _)) pa_nil)) (fun _ _ => rfl)))) pss_nil)
  (pss_cons (ps_if (pt_val (pe_callB call_isU (by rfl) C.z_isinstance (by decide +kernel) (pa_cons (pv 2) (pa_cons (pe_bltn (v := .ty "tuple") (by rfl) C.z_tuple (by decide +kernel) rfl) pa_nil)))) (pss_one (ps_ret (pe_op op_catA (pe_tup (pa_cons (pv 3) pa_nil)) (pv 2)))) pss_nil)
  (pss_one (ps_ret (pe_tup (pa_cons (pv 3) pa_nil))))))))))), ?_⟩
  obtain ⟨t2, fs, rfl⟩ : ∃ t2 fs, fd = t2 :: fs := by
    have := (arity_le nm).1
    cases fd with
    | nil => simp only [List.length_nil] at ha; omega
    | cons a b => exact ⟨a, b, rfl⟩
  obtain ⟨v2, us, rfl, tv2, af⟩ := af
  refine ⟨_, rfl, .inl ⟨rfl, _, SqL.of hfl⟩, fl, _, _, rfl, rfl, hfl, rev_last, ?_⟩
  rw [rev_dropLast]
  have nt : NoTup (H fl) := by rw [hfl]; exact NoTup.lst
  have k1 : Tk H (upd H fl (.lst us.reverse)) := Tk.upd nt
  have f1 : ∀ b o, H b = some o → b ≠ fl → upd H fl (.lst us.reverse) b = some o := fun b o e n => (upd_ne n).trans e
  have hfl1 : upd H fl (.lst us.reverse) fl = some (.lst us.reverse) := upd_same
  generalize upd H fl (.lst us.reverse) = H1 at *
  have tv2 := tv2.mono k1
  have af1 := af.mono fun _ _ h => TV.mono k1 h
  have no : ∀ {a b : Str} {A : Prop}, decide (L2.V.str a = L2.V.str b) = true → a ≠ b → A := fun {a b A} h e => absurd (L2.V.str.inj (of_decide_eq_true h)) e
  have yes : ∀ {a : L2.V} {A : Prop}, decide (a = a) = false → A := fun {a A} h => by
    rw [decide_eq_true rfl] at h
    cases h
  have ok2 := hok t2 (List.mem_cons_self ..)
  -- the end where one was taken
  have one : arity nm = 1 → ∀ (v : L2.V) (H2 : Hp), Same H1 H2 → TV K H2 (prim nm [t2]) v → Q v H2 := fun e v H2 s tv => by
    refine q v us H2 (s _ _ hfl1) ?_ ?_ fun b o e n => s _ _ (f1 b o e n)
    · rw [e]
      exact af1.mono fun _ _ h => TV.mono (Tk.same s) h
    · rw [e]
      exact tv
  -- the end where two were taken
  have two : arity nm = 2 → ∃ (t1 : T) (fs' : List T) (v1 : L2.V) (us' : List L2.V), fs = t1 :: fs' ∧ us = v1 :: us' ∧ TV K H1 t1 v1 ∧ t1.ok = true ∧ t1.depth ≤ 1400 ∧ ∀ H2, H2 = upd H1 fl (.lst us'.reverse) → Tk H1 H2 ∧ ∀ (v : L2.V) (H3 : Hp), Same H2 H3 → TV K H3 (prim nm [t1, t2]) v → Q v H3 := by
    intro e
    cases fs with
    | nil =>
      rw [e] at ha
      simp only [List.length_cons, List.length_nil] at ha
      omega
    | cons t1 fs' =>
      obtain ⟨v1, us', rfl, tv1, af2⟩ := af1
      have ok1 := hok t1 (List.mem_cons_of_mem _ (List.mem_cons_self ..))
      refine ⟨t1, fs', v1, us', rfl, rfl, tv1, ok1.1, ok1.2.1, fun H2 e2 => ?_⟩
      subst e2
      have k2 : Tk H1 (upd H1 fl (.lst us'.reverse)) := Tk.upd (by rw [hfl1]; exact NoTup.lst)
      refine ⟨k2, fun v H3 s tv => q v us' H3 (s _ _ upd_same) ?_ ?_ fun b o e n => s _ _ ((upd_ne n).trans (f1 b o e n))⟩
      · rw [e]
        exact af2.mono fun _ _ h => TV.mono (k2.trans (Tk.same s)) h
      · rw [e]
        exact tv
  rcases plain_cases hp with e | e | e | e | e <;> subst e
  · -- same
    obtain ⟨t1, fs', v1, us', rfl, rfl, tv1, ok1, d1, fin⟩ := two (by decide +kernel)
    refine ⟨_, rfl, rfl, _, rfl, ite_b (fun hb => no hb (by decide +kernel)) (fun _ => ?_)⟩
    refine ⟨_, rfl, rfl, _, rfl, ite_b (fun hb => no hb (by decide +kernel)) (fun _ => ?_)⟩
    refine ⟨_, rfl, rfl, _, rfl, ite_b (fun hb => no hb (by decide +kernel)) (fun _ => ?_)⟩
    refine ⟨_, rfl, .inl ⟨rfl, _, SqL.of hfl1⟩, fl, _, _, rfl, rfl, hfl1, rev_last, ?_⟩
    rw [rev_dropLast]
    obtain ⟨k2, fin⟩ := fin _ rfl
    generalize upd H1 fl (.lst us'.reverse) = H2 at *
    refine ⟨_, rfl, rfl, _, rfl, ite_b (fun _ => ?_) (fun hb => yes hb)⟩
    refine ⟨Nat.zero_le _, fun p0 n0 => ⟨by show 2 ≤ sizeLine; decide, fun pl npl => ?_⟩⟩
    obtain ⟨s3, t3⟩ := tv_new (K := K) (ts := []) (vs := []) rfl n0
    have s4 : Same _ (upd (upd H2 p0 (.tup [])) pl (.lst [.ref p0, .str "yes"])) := same_new npl _
    have hpl : upd (upd H2 p0 (.tup [])) pl (.lst [.ref p0, .str "yes"]) pl = some (.lst [.ref p0, .str "yes"]) := upd_same
    have s24 : Same H2 (upd (upd H2 p0 (.tup [])) pl (.lst [.ref p0, .str "yes"])) := fun b o e => s4 _ _ (s3 _ _ e)
    have t4 := t3.mono (Tk.same s4)
    generalize upd (upd H2 p0 (.tup [])) pl (.lst [.ref p0, .str "yes"]) = H4 at *
    have k14 := k2.trans (Tk.same s24)
    refine ⟨_, rfl, _, rfl, t1, t2, tv1.mono k14, tv2.mono k14, ok1, ok2.1, by omega, .inr ⟨_, rfl, ?_⟩⟩
    by_cases e : t1 = t2
    · rw [decide_eq_true e]
      refine ⟨pl, _, _, _, rfl, rfl, SqL.of hpl, rfl, fin _ H4 s24 ?_⟩
      rw [prim_same, if_pos e]
      exact (rfl : L2.V.str _ = L2.V.str _)
    · rw [decide_eq_false e]
      refine ⟨pl, _, _, _, rfl, rfl, SqL.of hpl, rfl, fin _ H4 s24 ?_⟩
      rw [prim_same, if_neg e]
      exact t4
  · -- word
    refine ⟨_, rfl, rfl, _, rfl, ite_b (fun _ => ?_) (fun hb => yes hb)⟩
    refine ⟨Nat.zero_le _, fun p0 n0 => ⟨by show 2 ≤ sizeLine; decide, fun pl npl => ?_⟩⟩
    obtain ⟨s3, t3⟩ := tv_new (K := K) (ts := []) (vs := []) rfl n0
    have s4 : Same _ (upd (upd H1 p0 (.tup [])) pl (.lst [.str "yes", .ref p0])) := same_new npl _
    have hpl : upd (upd H1 p0 (.tup [])) pl (.lst [.str "yes", .ref p0]) pl = some (.lst [.str "yes", .ref p0]) := upd_same
    have s24 : Same H1 (upd (upd H1 p0 (.tup [])) pl (.lst [.str "yes", .ref p0])) := fun b o e => s4 _ _ (s3 _ _ e)
    have t4 := t3.mono (Tk.same s4)
    generalize upd (upd H1 p0 (.tup [])) pl (.lst [.str "yes", .ref p0]) = H4 at *
    refine ⟨_, rfl, v2, t2, rfl, tv2.mono (Tk.same s24), .inr ⟨_, rfl, ?_⟩⟩
    cases t2 with
    | w x =>
      refine ⟨pl, _, _, _, rfl, rfl, SqL.of hpl, rfl, one (by decide +kernel) _ H4 s24 ?_⟩
      rw [prim_word]
      exact (rfl : L2.V.str _ = L2.V.str _)
    | l xs =>
      refine ⟨pl, _, _, _, rfl, rfl, SqL.of hpl, rfl, one (by decide +kernel) _ H4 s24 ?_⟩
      rw [prim_word]
      exact t4
  · -- head
    refine ⟨_, rfl, rfl, _, rfl, ite_b (fun hb => no hb (by decide +kernel)) (fun _ => ?_)⟩
    refine ⟨_, rfl, rfl, _, rfl, ite_b (fun _ => ?_) (fun hb => yes hb)⟩
    refine ⟨_, rfl, v2, t2, rfl, tv2, _, rfl, ite_b (fun hb => ?_) (fun hb => ?_)⟩
    · cases t2 with
      | w x => cases hb
      | l xs =>
        obtain ⟨a, ws, rfl, hsa, tws⟩ := id tv2
        refine ⟨_, rfl, a, _, rfl, .inr hsa, _, _, rfl, rfl, _, rfl, ite_b (fun hb2 => ?_) (fun hb2 => ?_)⟩
        · cases xs with
          | nil =>
            have e : ws = [] := tws
            subst e
            simp at hb2
          | cons x xs =>
            obtain ⟨x1, ws, rfl, tx, _⟩ := tws
            exact ⟨_, rfl, a, _, _, _, rfl, rfl, hsa, atI_nat (j := 0) rfl, one (by decide +kernel) _ H1 (fun _ _ e => e) (by rw [prim_head]; exact tx)⟩
        · cases xs with
          | nil =>
            refine ⟨Nat.zero_le _, fun p0 n0 => ?_⟩
            obtain ⟨s3, t3⟩ := tv_new (K := K) (ts := []) (vs := []) rfl n0
            exact one (by decide +kernel) _ _ s3 (by rw [prim_head]; exact t3)
          | cons x xs =>
            obtain ⟨x1, ws, rfl, tx, _⟩ := tws
            simp at hb2
    · cases t2 with
      | w x =>
        refine ⟨Nat.zero_le _, fun p0 n0 => ?_⟩
        obtain ⟨s3, t3⟩ := tv_new (K := K) (ts := []) (vs := []) rfl n0
        exact one (by decide +kernel) _ _ s3 (by rw [prim_head]; exact t3)
      | l xs => cases hb
  · -- tail
    refine ⟨_, rfl, rfl, _, rfl, ite_b (fun hb => no hb (by decide +kernel)) (fun _ => ?_)⟩
    refine ⟨_, rfl, rfl, _, rfl, ite_b (fun hb => no hb (by decide +kernel)) (fun _ => ?_)⟩
    refine ⟨_, rfl, rfl, _, rfl, ite_b (fun _ => ?_) (fun hb => yes hb)⟩
    refine ⟨_, rfl, v2, t2, rfl, tv2, _, rfl, ite_b (fun hb => ?_) (fun hb => ?_)⟩
    · cases t2 with
      | w x => cases hb
      | l xs =>
        obtain ⟨a, ws, rfl, hsa, tws⟩ := id tv2
        have lws := tws.length
        refine ⟨_, rfl, _, rfl, a, ws, rfl, hsa, fun z => ?_, fun z p np => ?_⟩
        · have z1 := z.1
          rw [show (1 : Int) = ((1 : Nat) : Int) from rfl, HT.sIx_nat] at z1
          have e : xs = [] := List.length_eq_zero_iff.mp (by omega)
          subst e
          exact one (by decide +kernel) _ H1 (fun _ _ e => e) (by rw [prim_tail]; exact tv2)
        · have ecut : cutV ws (some 1) none = ws.drop 1 := cut_from ws 1
          rw [ecut]
          obtain ⟨s3, t3⟩ := tv_new (K := K) (tws.drop 1) np
          refine one (by decide +kernel) _ _ s3 ?_
          rw [prim_tail]
          cases xs with
          | nil => exact t3
          | cons x xs => exact t3
    · cases t2 with
      | w x =>
        refine ⟨Nat.zero_le _, fun p0 n0 => ?_⟩
        obtain ⟨s3, t3⟩ := tv_new (K := K) (ts := []) (vs := []) rfl n0
        exact one (by decide +kernel) _ _ s3 (by rw [prim_tail]; exact t3)
      | l xs => cases hb
  · -- join
    obtain ⟨t1, fs', v1, us', rfl, rfl, tv1, ok1, d1, fin⟩ := two (by decide +kernel)
    refine ⟨_, rfl, rfl, _, rfl, ite_b (fun hb => no hb (by decide +kernel)) (fun _ => ?_)⟩
    refine ⟨_, rfl, rfl, _, rfl, ite_b (fun hb => no hb (by decide +kernel)) (fun _ => ?_)⟩
    refine ⟨_, rfl, rfl, _, rfl, ite_b (fun hb => no hb (by decide +kernel)) (fun _ => ?_)⟩
    refine ⟨_, rfl, .inl ⟨rfl, _, SqL.of hfl1⟩, fl, _, _, rfl, rfl, hfl1, rev_last, ?_⟩
    rw [rev_dropLast]
    obtain ⟨k2, fin⟩ := fin _ rfl
    generalize upd H1 fl (.lst us'.reverse) = H2 at *
    refine ⟨_, rfl, rfl, _, rfl, ite_b (fun hb => no hb (by decide +kernel)) (fun _ => ?_)⟩
    refine ⟨_, rfl, v2, t2, rfl, tv2.mono k2, _, rfl, ite_b (fun hb => ?_) (fun hb => ?_)⟩
    · cases t2 with
      | w x => cases hb
      | l xs =>
        obtain ⟨a, ws, rfl, hsa, tws⟩ := id tv2
        refine ⟨_, rfl, by show 1 ≤ sizeLine; decide, fun q1 nq1 => ?_⟩
        obtain ⟨s3, t3⟩ := tv_new (K := K) (ts := [t1]) (vs := [v1]) (.one (tv1.mono k2)) nq1
        have l1 : xs.length ≤ 1000000 := ok2.2.2
        refine ⟨_, rfl, catA t3 ((tv2.mono k2).mono (Tk.same s3)) (by show 1 + xs.length ≤ 2000000; omega) fun v H4 s4 t4 => fin v H4 (fun b o e => s4 _ _ (s3 _ _ e)) ?_⟩
        rw [prim_join]
        exact t4
    · cases t2 with
      | w x =>
        refine ⟨_, rfl, by show 1 ≤ sizeLine; decide, fun q1 nq1 => ?_⟩
        obtain ⟨s3, t3⟩ := tv_new (K := K) (ts := [t1]) (vs := [v1]) (.one (tv1.mono k2)) nq1
        refine fin _ _ s3 ?_
        rw [prim_join]
        exact t3
      | l xs => cases hb
def spSmall (K : PySem.W.Frag) : Sp := fun vs H Q _ => ∃ (t : T) (v : L2.V), vs = [v] ∧ TV K H t v ∧ t.rank ≤ 600 ∧ ∀ (b : Bool) (H' : Hp), Same H H' → (b = true → t.parts ≤ 20000) → Q (.bl b) H'
theorem ok_law_small : FOk P w K mg base 1 "_law_small" ["_law_value_here"] (spSmall K) := by
  refine fok C.f_law_small C.g_law_small (fun _ _ _ _ _ _ us hl => match us, hl with | [_], _ => rfl) sc_law_small (fun vs H Q E h => ?_) (fun f cdv A outer s H vs Q E hr h => ?_)
  · obtain ⟨t, v, rfl, _⟩ := h
    rfl
  obtain ⟨t, v, rfl, tv, hr5, q⟩ := h
  refine ⟨_, (pss_cons (ps_set (i := 1) sc_law_small.nd rfl (Or.inl rfl) (pe_lst (pa_cons (pv 0) pa_nil)))
  (pss_cons (ps_for PassesOwn.never rfl (pi_range1 (by rfl) C.z_range (pa_cons pe_int pa_nil)) (pg_name (i := 2) sc_law_small.nd rfl (Or.inl rfl)) (pss_cons (ps_if (pt_cmpR op_eq (pe_callB call_len_seq (by rfl) C.z_len PySem.boot_len (pa_cons (pv 1) pa_nil)) pe_int (nomark _)) (pss_one (ps_ret pe_bl)) pss_nil)
  (pss_cons (ps_set (i := 3) sc_law_small.nd rfl (Or.inl rfl) (pe_bm0 PySem.F.plainAttrs_list PySem.F.slot_list_pop PySem.F.type_list_pop mt_pop (pv 1)))
  (pss_one (ps_if (pt_val (pe_callB call_isU (by rfl) C.z_isinstance (by decide +kernel) (pa_cons (pv 3) (pa_cons (pe_bltn (v := .ty "tuple") (by rfl) C.z_tuple (by decide +kernel) rfl) pa_nil)))) (pss_one (ps_for PassesOwn.never rfl (pi_tup (pv 3)) (pg_name (i := 4) sc_law_small.nd rfl (Or.inl rfl)) (pss_one (ps_expr (pe_bm PySem.F.plainAttrs_list PySem.F.slot_list_append PySem.F.type_list_append mt_append (pv 1) (pa_cons (pv 4) pa_nil)))))) pss_nil)))))
  (pss_one (ps_ret pe_bl)))), ?_⟩
  refine ⟨_, rfl, by show 1 ≤ sizeLine; decide, fun wl nw => ?_⟩
  refine ⟨_, rfl, by decide, by decide, for_it walk_range (fun i σ H1 => ∃ (ts : List T) (vs : List L2.V) (o2 o3 o4 : Option L2.V), σ = [some v, some (.ref wl), o2, o3, o4] ∧ H1 wl = some (.lst vs.reverse) ∧ All2 (fun t v => TV K H1 t v) ts vs ∧ (∀ t ∈ ts, t.rank ≤ 600) ∧ T.partss ts + i = t.parts ∧ ts.length ≤ 1 + i * 600 ∧ Same H H1)
    ⟨[t], [v], _, _, _, rfl, upd_same, .one (tv.mono (Tk.same (same_new nw _))), fun u hu => by rw [List.mem_singleton.mp hu]; exact hr5, by show t.parts + 0 + 0 = _; omega, by simp, same_new nw _⟩ (fun _ _ _ _ _ => True.intro) (fun i y σ H2 H1 hi h yy => ?_) (fun σ H1 h => ?_)⟩
  · obtain ⟨e, ey⟩ := yy
    subst e ey
    obtain ⟨ts, vs, o2, o3, o4, rfl, hw, avs, hrk, hsum, hlen, sm⟩ := h
    have lvs := avs.length
    have hi' : i < 20000 := hi
    refine ⟨_, rfl, wl, _, rfl, .inl (SqL.of hw), rfl, _, rfl, ite_b (fun hb => ?_) (fun hb => ?_)⟩
    · have z := L2.V.int.inj (of_decide_eq_true hb)
      rw [List.length_reverse] at z
      have ets : ts = [] := List.length_eq_zero_iff.mp (by omega)
      subst ets
      have hs : 0 + i = t.parts := hsum
      exact q true H1 sm (fun _ => by omega)
    · cases ts with
      | nil =>
        have e : vs = [] := avs
        subst e
        exact absurd hb (by decide)
      | cons u ts =>
        obtain ⟨x, vs, rfl, tx, avs⟩ := avs
        refine ⟨_, rfl, .inl ⟨rfl, _, SqL.of hw⟩, wl, _, _, rfl, rfl, hw, rev_last, ?_⟩
        rw [rev_dropLast]
        have k2 : Tk H1 (upd H1 wl (.lst vs.reverse)) := Tk.upd (by rw [hw]; exact NoTup.lst)
        have sm2 : Same H (upd H1 wl (.lst vs.reverse)) := fun b o e => (upd_ne (ne_of_none e nw)).trans (sm _ _ e)
        have hw2 : upd H1 wl (.lst vs.reverse) wl = some (.lst vs.reverse) := upd_same
        generalize upd H1 wl (.lst vs.reverse) = H2 at *
        have tx2 := tx.mono k2
        have avs2 := avs.mono fun _ _ h => TV.mono k2 h
        have hru := hrk u (List.mem_cons_self ..)
        have hrt : ∀ t ∈ ts, t.rank ≤ 600 := fun t ht => hrk t (List.mem_cons_of_mem _ ht)
        have hsum' : u.parts + T.partss ts + i = t.parts := hsum
        simp only [List.length_cons] at hlen lvs
        refine ⟨_, rfl, x, u, rfl, tx2, _, rfl, ite_b (fun hu => ?_) (fun hu => ?_)⟩
        · cases u with
          | w x => cases hu
          | l xs =>
            obtain ⟨a, ws, rfl, hsa, tws⟩ := id tx2
            have lws := tws.length
            have hxs : xs.length ≤ 600 := by
              have z : max (xs.length + 1) (T.ranks xs + 1) ≤ 600 := hru
              omega
            have hup : (T.l xs).parts = T.partss xs + 1 := rfl
            refine ⟨_, rfl, a, rfl, ⟨ws, hsa⟩, for_it (walk_tup (xs := ws)) (fun j σ H3 => ∃ o4 : Option L2.V, σ = [some v, some (.ref wl), some (.int (0 + ((i : Nat) : Int))), some (.ref a), o4] ∧ H3 wl = some (.lst (vs.reverse ++ ws.take j)) ∧ (∀ b o, H2 b = some o → b ≠ wl → H3 b = some o)) ⟨_, rfl, by rw [List.take_zero, List.append_nil]; exact hw2, fun _ _ e _ => e⟩ (fun j σ H3 _ h => ?_) (fun j y σ H4 H3 hj h yy => ?_) (fun σ H3 h => ?_)⟩
            · obtain ⟨_, _, _, f3⟩ := h
              exact (Tk.but (by rw [hw2]; exact NoTup.lst) f3).sqt hsa
            · obtain ⟨e, hy⟩ := yy
              subst e
              obtain ⟨o4, rfl, hw3, f3⟩ := h
              refine ⟨_, rfl, .inl ⟨rfl, _, SqL.of hw3⟩, _, rfl, wl, _, _, rfl, rfl, hw3, line_lt (by rw [List.length_append, List.length_reverse, List.length_take]; omega), _, rfl, ?_, fun b o e n => (upd_ne n).trans (f3 b o e n)⟩
              rw [upd_same, List.take_succ, hy, List.append_assoc] <;> rfl
            · obtain ⟨o4, rfl, hw3, f3⟩ := h
              rw [List.take_length] at hw3
              have k3 : Tk H2 H3 := Tk.but (by rw [hw2]; exact NoTup.lst) f3
              have toAll : ∀ (zs : List T) (us : List L2.V), TVs K H3 zs us → All2 (fun t v => TV K H3 t v) zs us := by
                intro zs
                induction zs with
                | nil => exact fun _ h => h
                | cons z zs ih =>
                  rintro _ ⟨y, r, rfl, h, t⟩
                  exact .cons h (ih r t)
              refine ⟨xs.reverse ++ ts, ws.reverse ++ vs, _, _, _, rfl, by rw [hw3]; simp, ((toAll xs ws (tws.mono k3)).reverse).append (avs2.mono fun _ _ h => TV.mono k3 h), fun z hz => ?_, ?_, ?_, fun b o e => f3 _ _ (sm2 _ _ e) (ne_of_none e nw)⟩
              · rcases List.mem_append.mp hz with hz | hz
                · have z1 := T.ranks_mem (List.mem_reverse.mp hz)
                  have z2 : max (xs.length + 1) (T.ranks xs + 1) ≤ 600 := hru
                  omega
                · exact hrt z hz
              · rw [partss_append, partss_rev]
                omega
              · rw [List.length_append, List.length_reverse]
                omega
        · cases u with
          | l xs => cases hu
          | w x =>
            have hup : (T.w x).parts = 1 := rfl
            exact ⟨ts, vs, _, _, _, rfl, hw2, avs2, hrt, by omega, by omega, sm2⟩
  · obtain ⟨ts, vs, o2, o3, o4, rfl, hw, avs, hrk, hsum, hlen, sm⟩ := h
    exact q false H1 sm (fun h => nomatch h)
end
end K35
end

section
set_option Elab.async false
set_option linter.all false
set_option maxRecDepth 100000
/-! The law's own machine. -/
namespace K35
open PySem PySem.Spec PyProof.Rows L2
theorem sc_law_run : FnScope ["_law_program_here", "_law_inputs", "_law_limit", "_law_bodies", "_law_name", "_law_parameters", "_law_body", "_law_names", "_law_k", "_law_todo", "_law_found", "_law_steps", "_law_turn", "_law_task", "_law_branch", "_law_one", "_law_word"] ["_law_program_here", "_law_inputs", "_law_limit"] (defScope s_law_run) := ⟨rfl, rfl, rfl, by decide +kernel, rfl, by decide +kernel, by decide +kernel⟩
/-- tuples and dicts stand -/
def Kp (H H' : Hp) : Prop := Tk H H' ∧ ∀ (a : Addr) (kvs : KV), H a = some (.dK kvs) → H' a = some (.dK kvs)
theorem Kp.refl (H : Hp) : Kp H H := ⟨Tk.refl H, fun _ _ h => h⟩
theorem Kp.trans {H H1 H2 : Hp} (a : Kp H H1) (b : Kp H1 H2) : Kp H H2 := ⟨a.1.trans b.1, fun c k h => b.2 c k (a.2 c k h)⟩
theorem Kp.same {H H' : Hp} (s : Same H H') : Kp H H' := ⟨Tk.same s, fun _ _ h => s _ _ h⟩
theorem Kp.but {H H' : Hp} {p : Addr} {xs : List L2.V} (hp : H p = some (.lst xs)) (f : ∀ b o, H b = some o → b ≠ p → H' b = some o) : Kp H H' := by
  refine ⟨Tk.but (by rw [hp]; exact NoTup.lst) f, fun a kvs h => f a _ h fun e => ?_⟩
  subst e
  rw [hp] at h
  cases h
theorem Kp.upd {H : Hp} {p : Addr} {xs : List L2.V} {o : HO} (hp : H p = some (.lst xs)) : Kp H (upd H p o) := Kp.but hp fun b u e n => by rw [upd_ne n]; exact e
def LNames (K : PySem.W.Frag) (H : Hp) (env : Bs) (v : L2.V) : Prop := ∃ a kvs, v = .ref a ∧ H a = some (.dK kvs) ∧ ∀ x t, lk env x = some t → ∃ u, valV kvs (kInr x) = some u ∧ TV K H t u
theorem LNames.mono {K : PySem.W.Frag} {H H' : Hp} (k : Kp H H') {env : Bs} {v : L2.V} (h : LNames K H env v) : LNames K H' env v := by
  obtain ⟨a, kvs, e, h1, h2⟩ := h
  exact ⟨a, kvs, e, k.2 _ _ h1, fun x t hx => let ⟨u, h3, h4⟩ := h2 x t hx; ⟨u, h3, h4.mono k.1⟩⟩
def LTask (K : PySem.W.Frag) (H : Hp) : Task → L2.V → Prop
  | .ev e env, v => ∃ (q : Addr) (u nv : L2.V), v = .ref q ∧ SqT K H q [.str "eval", u, nv] ∧ TV K H e.enc u ∧ LNames K H env nv
  | .ite b c env, v => ∃ (q : Addr) (ub uc nv : L2.V), v = .ref q ∧ SqT K H q [.str "if", ub, uc, nv] ∧ TV K H b.enc ub ∧ TV K H c.enc uc ∧ LNames K H env nv
  | .doo w, v => ∃ q : Addr, v = .ref q ∧ SqT K H q [.str "do", .str w]
  | .call w, v => ∃ q : Addr, v = .ref q ∧ SqT K H q [.str "call", .str w]
theorem LTask.mono {K : PySem.W.Frag} {H H' : Hp} (k : Kp H H') : ∀ {t : Task} {v : L2.V}, LTask K H t v → LTask K H' t v
  | .ev _ _, _, ⟨q, u, nv, e, h1, h2, h3⟩ => ⟨q, u, nv, e, k.1.sqt h1, h2.mono k.1, h3.mono k⟩
  | .ite _ _ _, _, ⟨q, ub, uc, nv, e, h1, h2, h3, h4⟩ => ⟨q, ub, uc, nv, e, k.1.sqt h1, h2.mono k.1, h3.mono k.1, h4.mono k⟩
  | .doo _, _, ⟨q, e, h1⟩ => ⟨q, e, k.1.sqt h1⟩
  | .call _, _, ⟨q, e, h1⟩ => ⟨q, e, k.1.sqt h1⟩
def LBodies (K : PySem.W.Frag) (H : Hp) (bd : Addr) (p : List Fn) : Prop := ∃ kvs, H bd = some (.dK kvs) ∧ ∀ f ∈ p, ∃ (q : Addr) (v1 v2 : L2.V), valV kvs (kInr f.name) = some (.ref q) ∧ SqT K H q [v1, v2] ∧ TV K H (.l (f.ps.map T.w)) v1 ∧ TV K H f.body.enc v2
theorem LBodies.mono {K : PySem.W.Frag} {H H' : Hp} (k : Kp H H') {bd : Addr} {p : List Fn} (h : LBodies K H bd p) : LBodies K H' bd p := by
  obtain ⟨kvs, h1, h2⟩ := h
  exact ⟨kvs, k.2 _ _ h1, fun f hf => let ⟨q, v1, v2, h3, h4, h5, h6⟩ := h2 f hf; ⟨q, v1, v2, h3, k.1.sqt h4, h5.mono k.1, h6.mono k.1⟩⟩
theorem atI_nat' {xs : List L2.V} {j : Nat} {i : Int} {v : L2.V} (h : xs[j]? = some v) (e : i = (j : Int)) : atI xs i = some v := by
  rw [e]
  exact atI_nat h
/-- the machine's lists stand for the state -/
structure LInv (K : PySem.W.Frag) (H0 : Hp) (bd tl fl : Addr) (p : List Fn) (s : MS) (H : Hp) : Prop where
  t : ∃ vs, H tl = some (.lst vs.reverse) ∧ All2 (LTask K H) s.todo vs
  f : ∃ us, H fl = some (.lst us.reverse) ∧ All2 (fun t v => TV K H t v) s.found us
  b : LBodies K H bd p
  sm : Same H0 H
  ne : tl ≠ fl
  nt : H0 tl = none
  nf : H0 fl = none
theorem LInv.same {K : PySem.W.Frag} {H0 : Hp} {bd tl fl : Addr} {p : List Fn} {s : MS} {H H' : Hp} (x : LInv K H0 bd tl fl p s H) (m : Same H H') : LInv K H0 bd tl fl p s H' := by
  obtain ⟨vs, h1, h2⟩ := x.t
  obtain ⟨us, h3, h4⟩ := x.f
  have k := Kp.same (H := H) m
  exact ⟨⟨vs, m _ _ h1, h2.mono fun _ _ h => LTask.mono k h⟩, ⟨us, m _ _ h3, h4.mono fun _ _ h => TV.mono k.1 h⟩, x.b.mono k, fun b o e => m _ _ (x.sm _ _ e), x.ne, x.nt, x.nf⟩
theorem LInv.push {K : PySem.W.Frag} {H0 : Hp} {bd tl fl : Addr} {p : List Fn} {s : MS} {H : Hp} (x : LInv K H0 bd tl fl p s H) {xs cell : List L2.V} {tp : Addr} {t : Task} (ht : H tl = some (.lst xs)) (ntp : H tp = none)
    (h : ∀ H', Kp H H' → SqT K H' tp cell → LTask K H' t (.ref tp)) : upd H tp (.tup cell) tl = some (.lst xs) ∧ xs.length = s.todo.length ∧ LInv K H0 bd tl fl p ⟨t :: s.todo, s.found, s.steps⟩ (upd (upd H tp (.tup cell)) tl (.lst (xs ++ [.ref tp]))) ∧ Kp H (upd (upd H tp (.tup cell)) tl (.lst (xs ++ [.ref tp]))) := by
  obtain ⟨vs, h1, h2⟩ := x.t
  rw [ht] at h1
  cases h1
  have m : Same H (upd H tp (.tup cell)) := same_new ntp _
  have x1 := x.same m
  have htp : upd H tp (.tup cell) tp = some (.tup cell) := upd_same
  generalize upd H tp (.tup cell) = H1 at *
  have ht1 := m _ _ ht
  have k1 : Kp H1 (upd H1 tl (.lst (vs.reverse ++ [.ref tp]))) := Kp.upd ht1
  obtain ⟨us, h3, h4⟩ := x1.f
  have k := (Kp.same m).trans k1
  exact ⟨ht1, by rw [List.length_reverse, h2.length], ⟨⟨.ref tp :: vs, by rw [upd_same, List.reverse_cons], .cons (h _ k (k1.1.sqt (.inl (.of htp)))) (h2.mono fun _ _ h => LTask.mono k h)⟩, ⟨us, (upd_ne x.ne.symm).trans h3, h4.mono fun _ _ h => TV.mono k1.1 h⟩, x1.b.mono k1, fun b o e => (upd_ne (ne_of_none e x.nt)).trans (x1.sm _ _ e), x.ne, x.nt, x.nf⟩, k⟩
theorem LInv.setFound {K : PySem.W.Frag} {H0 : Hp} {bd tl fl : Addr} {p : List Fn} {s : MS} {H : Hp} (x : LInv K H0 bd tl fl p s H) {fs : List T} {us xs : List L2.V} (h : All2 (fun t v => TV K H t v) fs us) (e : xs = us.reverse) : LInv K H0 bd tl fl p ⟨s.todo, fs, s.steps⟩ (upd H fl (.lst xs)) ∧ Kp H (upd H fl (.lst xs)) := by
  obtain ⟨vs, h1, h2⟩ := x.t
  obtain ⟨us0, h3, h4⟩ := x.f
  have k : Kp H (upd H fl (.lst xs)) := Kp.upd h3
  exact ⟨⟨⟨vs, (upd_ne x.ne).trans h1, h2.mono fun _ _ h => LTask.mono k h⟩, ⟨us, by rw [upd_same, e], h.mono fun _ _ h => TV.mono k.1 h⟩, x.b.mono k, fun b o e => (upd_ne (ne_of_none e x.nf)).trans (x.sm _ _ e), x.ne, x.nt, x.nf⟩, k⟩
section
variable {P : Program} {w : World} {K : PySem.W.Frag} {mg : Str → Option Value} {base : Heap} (C : Ctx w K mg)
include C
def s0 (g : Fn) (u : T) : MS := ⟨[.ev g.body (g.ps.zip [u])], [], 0⟩
def spLawRun (K : PySem.W.Frag) : Sp := fun vs H Q _ => ∃ (p : List Fn) (R0 R : Nat) (g : Fn) (rest : List Fn) (qi : Addr) (u : T) (vp vi : L2.V) (lim : Nat), vs = [vp, .ref qi, .int (lim : Int)] ∧ Good p R0 ∧ p = g :: rest ∧ g.ps.length = 1 ∧ TV K H (encP p) vp ∧ H qi = some (.lst [vi]) ∧ TV K H u vi ∧ R0 ≤ R ∧ 1 ≤ R ∧ u.fine R ∧ lim ≤ 1000 ∧ p.length ≤ 1000 ∧
  (∀ j, j ≤ 4 * lim + 4 → (mit p j (s0 g u)).todo ≠ [] → ∀ v ∈ (mit p j (s0 g u)).found, v.ok = true ∧ v.depth ≤ 1400 ∧ v.items.length ≤ 1000000) ∧
  ∀ (tp : Addr) (H' : Hp), Same H H' → ((∃ (k : Nat) (t : T) (n : Nat) (tv : L2.V), k ≤ 4 * lim + 4 ∧ mit p k (s0 g u) = ⟨[], [t], n⟩ ∧ n ≤ lim ∧ H' tp = some (.tup [.str "done", tv, .int (n : Int)]) ∧ TV K H' t tv) ∨
    (H' tp = some (.tup [.str "tired"]) ∧ ((∀ j, j < 4 * lim + 4 → (mit p j (s0 g u)).todo ≠ []) ∨ ∃ j e env r, (mit p j (s0 g u)).todo = .ev e env :: r ∧ (mit p j (s0 g u)).steps = lim))) → Q (.ref tp) H'
theorem ok_law_run : FOk P w K mg base 82 "_law_run" ["_law_program_here", "_law_inputs", "_law_limit"] (spLawRun K) := by
  have F_law_do := ok_law_do C (P := P) (base := base)
  refine fok C.f_law_run C.g_law_run (fun _ _ _ _ _ _ us hl => match us, hl with | [_, _, _], _ => rfl) sc_law_run (fun vs H Q E h => ?_) (fun f cdv A outer s H vs Q E hr h => ?_)
  · obtain ⟨p, R0, R, g, rest, qi, u, vp, vi, lim, rfl, _⟩ := h
    rfl
  obtain ⟨p, R0, R, g, rest, qi, u, vp, vi, lim, rfl, G, hpg, lg, tp, hqi, tu, hR, h1R, hu, hlim, lp, hdep, q⟩ := h
  refine ⟨_, (pss_cons (ps_set (i := 3) sc_law_run.nd rfl (Or.inl rfl) pe_dnewK)
  (pss_cons (ps_for PassesOwn.never rfl (pi_tup (pv 0)) (pg_tup rfl (pgs_cons (pg_name (i := 4) sc_law_run.nd rfl (Or.inl rfl)) (pgs_cons (pg_name (i := 5) sc_law_run.nd rfl (Or.inl rfl)) (pgs_cons (pg_name (i := 6) sc_law_run.nd rfl (Or.inl rfl)) pgs_nil)))) (pss_one (ps_dput (hu_of hr) (pv 3) (pv 4) (pe_tup (pa_cons (pv 5) (pa_cons (pv 6) pa_nil))) rfl)))
  (pss_cons (ps_set (i := 7) sc_law_run.nd rfl (Or.inl rfl) pe_dnewK)
  (pss_cons (ps_for PassesOwn.never rfl (pi_range1 (by rfl) C.z_range (pa_cons (pe_callB call_len_seq (by rfl) C.z_len PySem.boot_len (pa_cons (pv 1) pa_nil)) pa_nil)) (pg_name (i := 8) sc_law_run.nd rfl (Or.inl rfl)) (pss_one (ps_dput (hu_of hr) (pv 7) (pe_ix ix_tup (pe_ix ix_tup (pe_ix ix_tup (pv 0) pe_int (fun _ _ => rfl)) pe_int (fun _ _ => rfl)) (pv 8) (fun _ _ => rfl)) (pe_ix ix_list (pv 1) (pv 8) (fun _ _ => rfl)) rfl)))
  (pss_cons (ps_set (i := 9) sc_law_run.nd rfl (Or.inl rfl) (pe_lst (pa_cons (pe_tup (pa_cons pe_str (pa_cons (pe_ix ix_tup (pe_ix ix_tup (pv 0) pe_int (fun _ _ => rfl)) pe_int (fun _ _ => rfl)) (pa_cons (pv 7) pa_nil)))) pa_nil)))
  (pss_cons (ps_set (i := 10) sc_law_run.nd rfl (Or.inl rfl) (pe_lst pa_nil))
  (pss_cons (ps_set (i := 11) sc_law_run.nd rfl (Or.inl rfl) pe_int)
  (pss_cons (ps_for PassesOwn.never rfl (pi_range1 (by rfl) C.z_range (pa_cons (pe_op op_add (pe_op op_mul pe_int (pv 2)) pe_int) pa_nil)) (pg_name (i := 12) sc_law_run.nd rfl (Or.inl rfl)) (pss_cons (ps_if (pt_cmpR op_eq (pe_callB call_len_seq (by rfl) C.z_len PySem.boot_len (pa_cons (pv 9) pa_nil)) pe_int (nomark _)) (pss_one (ps_ret (pe_tup (pa_cons pe_str (pa_cons (pe_ix ix_list (pv 10) pe_int (fun _ _ => rfl)) (pa_cons (pv 11) pa_nil)))))) pss_nil)
  (pss_cons (ps_set (i := 13) sc_law_run.nd rfl (Or.inl rfl) (pe_bm0 PySem.F.plainAttrs_list PySem.F.slot_list_pop PySem.F.type_list_pop mt_pop (pv 9)))
  (pss_one (ps_if (pt_cmpR op_eq (pe_ix ix_tup (pv 13) pe_int (fun _ _ => rfl)) pe_str (nomark _)) (pss_one (ps_expr (pe_bm PySem.F.plainAttrs_list PySem.F.slot_list_append PySem.F.type_list_append mt_append (pv 10) (pa_cons (pe_fn F_law_do (hr.mono (by first | decide | omega)) (by rfl) (pa_cons (pe_ix ix_tup (pv 13) pe_int (fun _ _ => rfl)) (pa_cons (pv 10) pa_nil))) pa_nil)))) (pss_one (ps_if (pt_cmpR op_eq (pe_ix ix_tup (pv 13) pe_int (fun _ _ => rfl)) pe_str (nomark _)) (pss_cons (ps_set (i := 14) sc_law_run.nd rfl (Or.inl rfl) (pe_ix ix_tup (pv 13) pe_int (fun _ _ => rfl)))
  (pss_cons (ps_if (pt_cmpR (op_eqT hr) (pe_bm0 PySem.F.plainAttrs_list PySem.F.slot_list_pop PySem.F.type_list_pop mt_pop (pv 10)) (pe_tup pa_nil) (nomark _)) (pss_one (ps_set (i := 14) sc_law_run.nd rfl (Or.inl rfl) (pe_ix ix_tup (pv 13) pe_int (fun _ _ => rfl)))) pss_nil)
  (pss_one (ps_expr (pe_bm PySem.F.plainAttrs_list PySem.F.slot_list_append PySem.F.type_list_append mt_append (pv 9) (pa_cons (pe_tup (pa_cons pe_str (pa_cons (pv 14) (pa_cons (pe_ix ix_tup (pv 13) pe_int (fun _ _ => rfl)) pa_nil)))) pa_nil)))))) (pss_one (ps_if (pt_cmpR op_eq (pe_ix ix_tup (pv 13) pe_int (fun _ _ => rfl)) pe_str (nomark _)) (pss_cons (ps_asg (pe_dget (hu_of hr) (pv 3) (pe_ix ix_tup (pv 13) pe_int (fun _ _ => rfl)) (fun _ _ => rfl)) (pg_tup rfl (pgs_cons (pg_name (i := 5) sc_law_run.nd rfl (Or.inl rfl)) (pgs_cons (pg_name (i := 6) sc_law_run.nd rfl (Or.inl rfl)) pgs_nil))))
  (pss_cons (ps_set (i := 7) sc_law_run.nd rfl (Or.inl rfl) pe_dnewK)
  (pss_cons (ps_for PassesOwn.never rfl (pi_range1 (by rfl) C.z_range (pa_cons (pe_callB call_len_seq (by rfl) C.z_len PySem.boot_len (pa_cons (pv 5) pa_nil)) pa_nil)) (pg_name (i := 8) sc_law_run.nd rfl (Or.inl rfl)) (pss_one (ps_dput (hu_of hr) (pv 7) (pe_ix ix_tup (pv 5) (pv 8) (fun _ _ => rfl)) (pe_ix ix_list (pv 10) (pe_op op_add (pe_op op_sub (pe_callB call_len_seq (by rfl) C.z_len PySem.boot_len (pa_cons (pv 10) pa_nil)) (pe_callB call_len_seq (by rfl) C.z_len PySem.boot_len (pa_cons (pv 5) pa_nil))) (pv 8)) (fun _ _ => rfl)) rfl)))
  (pss_cons (ps_set (i := 10) sc_law_run.nd rfl (Or.inl rfl) (pe_slice sl_list (pv 10) po_none (po_some (pe_op op_sub (pe_callB call_len_seq (by rfl) C.z_len PySem.boot_len (pa_cons (pv 10) pa_nil)) (pe_callB call_len_seq (by rfl) C.z_len PySem.boot_len (pa_cons (pv 5) pa_nil))))))
  (pss_one (ps_expr (pe_bm PySem.F.plainAttrs_list PySem.F.slot_list_append PySem.F.type_list_append mt_append (pv 9) (pa_cons (pe_tup (pa_cons pe_str (pa_cons (pv 6) (pa_cons (pv 7) pa_nil)))) pa_nil)))))))) (pss_cons (ps_if (pt_cmpR op_eq (pv 11) (pv 2) (nomark _)) (pss_one (ps_ret (pe_tup (pa_cons pe_str pa_nil)))) pss_nil)
  (pss_cons (ps_set (i := 11) sc_law_run.nd rfl (Or.inl rfl) (pe_op op_add (pv 11) pe_int))
  (pss_cons (ps_par (i := 15) (j := 7) (by rfl) sc_law_run.nd rfl rfl (by decide) rfl rfl (pa_cons (pe_ix ix_tup (pv 13) pe_int (fun _ _ => rfl)) (pa_cons (pe_ix ix_tup (pv 13) pe_int (fun _ _ => rfl)) pa_nil)) (by rfl))
  (pss_one (ps_if (pt_val (pe_callB call_isS (by rfl) C.z_isinstance (by decide +kernel) (pa_cons (pv 15) (pa_cons (pe_bltn (v := .ty "str") (by rfl) C.z_str (by decide +kernel) rfl) pa_nil)))) (pss_one (ps_expr (pe_bm PySem.F.plainAttrs_list PySem.F.slot_list_append PySem.F.type_list_append mt_append (pv 10) (pa_cons (pe_dget (hu_of hr) (pv 7) (pv 15) (fun _ _ => rfl)) pa_nil)))) (pss_one (ps_if (pt_cmpR op_eq (pe_ix ix_tup (pv 15) pe_int (fun _ _ => rfl)) pe_str (nomark _)) (pss_one (ps_expr (pe_bm PySem.F.plainAttrs_list PySem.F.slot_list_append PySem.F.type_list_append mt_append (pv 10) (pa_cons (pe_ix ix_tup (pv 15) pe_int (fun _ _ => rfl)) pa_nil)))) (pss_one (ps_if (pt_cmpR op_eq (pe_ix ix_tup (pv 15) pe_int (fun _ _ => rfl)) pe_str (nomark _)) (pss_cons (ps_expr (pe_bm PySem.F.plainAttrs_list PySem.F.slot_list_append PySem.F.type_list_append mt_append (pv 9) (pa_cons (pe_tup (pa_cons pe_str (pa_cons (pe_ix ix_tup (pv 15) pe_int (fun _ _ => rfl)) (pa_cons (pe_ix ix_tup (pv 15) pe_int (fun _ _ => rfl)) (pa_cons (pv 7) pa_nil))))) pa_nil)))
  (pss_one (ps_expr (pe_bm PySem.F.plainAttrs_list PySem.F.slot_list_append PySem.F.type_list_append mt_append (pv 9) (pa_cons (pe_tup (pa_cons pe_str (pa_cons (pe_ix ix_tup (pv 15) pe_int (fun _ _ => rfl)) (pa_cons (pv 7) pa_nil)))) pa_nil))))) (pss_cons (ps_set (i := 16) sc_law_run.nd rfl (Or.inl rfl) pe_str)
  (pss_cons (ps_if (pt_cmpR op_in_seq (pe_ix ix_tup (pv 15) pe_int (fun _ _ => rfl)) (pe_lst (pa_cons pe_str (pa_cons pe_str (pa_cons pe_str (pa_cons pe_str (pa_cons pe_str pa_nil)))))) (by rfl)) (pss_one (ps_set (i := 16) sc_law_run.nd rfl (Or.inl rfl) pe_str)) pss_nil)
  (pss_cons (ps_expr (pe_bm PySem.F.plainAttrs_list PySem.F.slot_list_append PySem.F.type_list_append mt_append (pv 9) (pa_cons (pe_tup (pa_cons (pv 16) (pa_cons (pe_ix ix_tup (pv 15) pe_int (fun _ _ => rfl)) pa_nil))) pa_nil)))
  (pss_one (ps_for PassesOwn.never rfl (pi_range1 (by rfl) C.z_range (pa_cons (pe_op op_sub (pe_callB call_len_seq (by rfl) C.z_len PySem.boot_len (pa_cons (pv 15) pa_nil)) pe_int) pa_nil)) (pg_name (i := 8) sc_law_run.nd rfl (Or.inl rfl)) (pss_one (ps_expr (pe_bm PySem.F.plainAttrs_list PySem.F.slot_list_append PySem.F.type_list_append mt_append (pv 9) (pa_cons (pe_tup (pa_cons pe_str (pa_cons (pe_ix ix_tup (pv 15) (pe_op op_sub (pe_op op_sub (pe_callB call_len_seq (by rfl) C.z_len PySem.boot_len (pa_cons (pv 15) pa_nil)) pe_int) (pv 8)) (fun _ _ => rfl)) (pa_cons (pv 7) pa_nil)))) pa_nil)))))))))))))))))))))))))))
  (pss_one (ps_ret (pe_tup (pa_cons pe_str pa_nil)))))))))))), ?_⟩
  obtain ⟨pa, us, rfl, hpa, tus⟩ := id tp
  have lus := tus.length
  rw [List.length_map] at lus
  -- the bodies
  intro bd nbd
  have s1 : Same H (upd H bd (.dK [])) := same_new nbd _
  have hbd1 : upd H bd (.dK []) bd = some (.dK []) := upd_same
  generalize upd H bd (.dK []) = H1 at *
  have hpa1 := (Tk.same s1).sqt hpa
  refine ⟨_, rfl, pa, rfl, ⟨us, hpa1⟩, for_it (walk_tup (xs := us)) (fun i σ H2 => ∃ (o4 o5 o6 : Option L2.V) (kvs : KV), σ = [some (.ref pa), some (.ref qi), some (.int (lim : Int)), some (.ref bd), o4, o5, o6, none, none, none, none, none, none, none, none, none, none] ∧ H2 bd = some (.dK kvs) ∧ kvs.length ≤ i ∧ (∀ b o, H1 b = some o → b ≠ bd → H2 b = some o) ∧
      ∀ (j : Nat) (f : Fn), j < i → p[j]? = some f → ∃ (q : Addr) (v1 v2 : L2.V), valV kvs (kInr f.name) = some (.ref q) ∧ SqT K H2 q [v1, v2] ∧ TV K H2 (.l (f.ps.map T.w)) v1 ∧ TV K H2 f.body.enc v2)
    ⟨_, _, _, [], rfl, hbd1, Nat.le_refl _, fun _ _ e _ => e, fun j f h => absurd h (Nat.not_lt_zero j)⟩ (fun i σ H2 _ h => ?_) (fun i y σ H3 H2 hi h yy => ?_) (fun σ H2 h => ?_)⟩
  · obtain ⟨_, _, _, _, _, _, _, f2, _⟩ := h
    exact (Tk.but (by rw [hbd1]; exact NoTup.dK) f2).sqt hpa1
  · obtain ⟨e, hy⟩ := yy
    subst e
    obtain ⟨o4, o5, o6, kvs, rfl, hbd2, lk, f2, fwd⟩ := h
    have hip : i < p.length := by omega
    have hpi := List.getElem?_eq_getElem hip
    have k12 : Tk H1 H2 := Tk.but (by rw [hbd1]; exact NoTup.dK) f2
    obtain ⟨y', hy', ty⟩ := tus.get (i := i) (t := (p[i]).enc) (by rw [List.getElem?_map, hpi] <;> rfl)
    rw [hy] at hy'
    cases hy'
    have ty2 := (ty.mono (Tk.same s1)).mono k12
    generalize p[i] = fi at *
    obtain ⟨b, ws, rfl, hb, v1, r1, rfl, h1, v2, r2, rfl, h2, v3, r3, rfl, h3, e⟩ := id ty2
    have e : r3 = [] := e
    subst e
    have h1 : v1 = .str fi.name := h1
    subst h1
    refine ⟨b, _, rfl, hb, rfl, _, _, rfl, _, _, rfl, _, _, rfl, rfl, ?_⟩
    refine ⟨_, rfl, _, rfl, by show 2 ≤ sizeLine; decide, fun tq ntq => ?_⟩
    have s3 : Same H2 (upd H2 tq (.tup [v2, v3])) := same_new ntq _
    have htq : upd H2 tq (.tup [v2, v3]) tq = some (.tup [v2, v3]) := upd_same
    generalize upd H2 tq (.tup [v2, v3]) = H3 at *
    have hbd3 := s3 _ _ hbd2
    have lpk := length_putK kvs (kInr fi.name) (.ref tq)
    have k4 : Tk H3 (upd H3 bd (.dK (putK kvs (kInr fi.name) (.ref tq)))) := Tk.upd (by rw [hbd3]; exact NoTup.dK)
    have k24 := (Tk.same s3).trans k4
    refine ⟨_, rfl, _, rfl, bd, _, rfl, DPut.k (k := kInr fi.name) hbd3 (line_lt (by omega)), _, _, _, _, rfl, upd_same, by omega, fun d o e n => (upd_ne n).trans (s3 _ _ (f2 d o e n)), fun j f hj hpj => ?_⟩
    rw [valV_put]
    by_cases z : j = i
    · subst z
      rw [hpi] at hpj
      cases hpj
      exact ⟨tq, v2, v3, by rw [if_pos rfl], k4.sqt (.inl (.of htq)), h2.mono k24, h3.mono k24⟩
    · obtain ⟨q2, w1, w2, z1, z2, z3, z4⟩ := fwd j f (by omega) hpj
      refine ⟨q2, w1, w2, ?_, k24.sqt z2, z3.mono k24, z4.mono k24⟩
      rw [if_neg, z1]
      intro e
      have en : f.name = fi.name := Sum.inr.inj e
      exact z (nd_ix G.wf.nd (i := j) (j := i) (by rw [List.getElem?_map, hpj]; show some f.name = _; rw [en]) (by rw [List.getElem?_map, hpi] <;> rfl))
  obtain ⟨o4, o5, o6, kvb, rfl, hbd2, _, f2, fwd⟩ := h
  have nbd0 : H bd = none := nbd
  have s2 : Same H H2 := fun b o e => f2 _ _ (s1 _ _ e) (ne_of_none e nbd0)
  have hB2 : LBodies K H2 bd p := ⟨kvb, hbd2, fun f hf => by
    obtain ⟨j, hj, e⟩ := List.mem_iff_getElem.mp hf
    exact fwd j f (by omega) (by rw [List.getElem?_eq_getElem hj, e])⟩
  clear fwd f2
  -- the first names
  intro nd nnd
  have s3 : Same H2 (upd H2 nd (.dK [])) := same_new nnd _
  have hnd3 : upd H2 nd (.dK []) nd = some (.dK []) := upd_same
  have bnd : bd ≠ nd := ne_of_none hbd2 nnd
  have nnd0 : H nd = none := by
    cases e : H nd with
    | none => rfl
    | some o =>
      rw [s2 _ _ e] at nnd
      cases nnd
  generalize upd H2 nd (.dK []) = H3 at *
  have s03 : Same H H3 := fun b o e => s3 _ _ (s2 _ _ e)
  obtain ⟨x0, hx0⟩ : ∃ x0, g.ps = [x0] := by
    match g.ps, lg with
    | [a], _ => exact ⟨a, rfl⟩
  refine ⟨_, rfl, qi, _, rfl, .inl (SqL.of (s03 _ _ hqi)), _, rfl, (show -(2 ^ 62) ≤ ((1 : Nat) : Int) by decide), (show ((1 : Nat) : Int) < 2 ^ 62 by decide), ?_⟩
  have hB3 := hB2.mono (Kp.same s3)
  refine for_it (walk_range (lo := 0) (n := 1)) (fun i σ H4 => ∃ (o8 : Option L2.V) (kvs : KV), σ = [some (.ref pa), some (.ref qi), some (.int (lim : Int)), some (.ref bd), o4, o5, o6, some (.ref nd), o8, none, none, none, none, none, none, none, none] ∧ H4 nd = some (.dK kvs) ∧ (∀ b o, H3 b = some o → b ≠ nd → H4 b = some o) ∧ (i = 1 → valV kvs (kInr x0) = some vi) ∧ kvs.length ≤ i) ⟨_, [], rfl, hnd3, fun _ _ e _ => e, (fun h => nomatch h), Nat.le_refl _⟩ (fun _ _ _ _ _ => True.intro) (fun i y σ H5 H4 hi h yy => ?_) (fun σ H4 h => ?_)
  · obtain ⟨e, ey⟩ := yy
    subst e ey
    obtain ⟨o8, kvs, rfl, hnd4, f4, _, lk⟩ := h
    have ei : i = 0 := by omega
    subst ei
    have k34 : Tk H3 H4 := Tk.but (by rw [hnd3]; exact NoTup.dK) f4
    have tp4 := (tp.mono (Tk.same s03)).mono k34
    have hqi4 := f4 _ _ (s03 _ _ hqi) (ne_of_none hqi nnd0)
    subst hpg
    obtain ⟨a0, us0, e0, hsq0, v1, r1, rfl, t1, _⟩ := id tp4
    cases e0
    obtain ⟨a1, us1, rfl, hsq1, w1, r2, rfl, _, w2, r3, rfl, h2, _⟩ := id t1
    rw [hx0] at h2
    obtain ⟨a2, us2, rfl, hsq2, z0, r4, rfl, hz0, _⟩ := id h2
    have hz0 : z0 = .str x0 := hz0
    subst hz0
    refine ⟨_, rfl, _, rfl, qi, _, _, _, rfl, rfl, SqL.of hqi4, rfl, _, rfl, _, rfl, pa, _, _, _, rfl, rfl, hsq0, atI_nat (j := 0) rfl, a1, _, _, _, rfl, rfl, hsq1, atI_nat (j := 1) rfl, _, rfl, a2, _, _, _, rfl, rfl, hsq2, atI_nat (j := 0) rfl, nd, _, rfl, DPut.k (k := kInr x0) hnd4 (line_lt (by omega)), _, _, rfl, upd_same, fun b o e n => (upd_ne n).trans (f4 b o e n), fun _ => by rw [valV_put, if_pos rfl], ?_⟩
    have := length_putK kvs (kInr x0) vi
    omega
  obtain ⟨o8, kvs, rfl, hnd4, f4, hval, _⟩ := h
  have hval := hval rfl
  have k34 : Tk H3 H4 := Tk.but (by rw [hnd3]; exact NoTup.dK) f4
  have s04 : Same H H4 := fun b o e => f4 _ _ (s03 _ _ e) (ne_of_none e nnd0)
  have hB4 : LBodies K H4 bd p := by
    obtain ⟨kb, z1, z2⟩ := hB3
    exact ⟨kb, f4 _ _ z1 bnd, fun f hf => let ⟨q, v1, v2, h3, h4, h5, h6⟩ := z2 f hf; ⟨q, v1, v2, h3, k34.sqt h4, h5.mono k34, h6.mono k34⟩⟩
  have hN4 : LNames K H4 (g.ps.zip [u]) (.ref nd) := ⟨nd, kvs, rfl, hnd4, fun x t hx => by
    rw [hx0] at hx
    have hx : (if x0 = x then some u else none) = some t := hx
    by_cases e : x0 = x
    · rw [if_pos e] at hx
      cases hx
      rw [← e]
      exact ⟨vi, hval, tu.mono (Tk.same s04)⟩
    · rw [if_neg e] at hx
      cases hx⟩
  have tp4 := tp.mono (Tk.same s04)
  have tpx := tp4
  subst hpg
  obtain ⟨a0, us0, e0, hsq0, v1, r1, rfl, t1, _⟩ := id tp4
  cases e0
  obtain ⟨a1, us1, rfl, hsq1, w1, r2, rfl, _, w2, r3, rfl, _, w3, r4, rfl, tbody, _⟩ := id t1
  refine ⟨_, rfl, pa, _, _, _, rfl, rfl, hsq0, atI_nat (j := 0) rfl, a1, _, _, _, rfl, rfl, hsq1, atI_nat (j := 2) rfl, _, rfl, by show 3 ≤ sizeLine; decide, fun tq ntq => ⟨by show 1 ≤ sizeLine; decide, fun tl ntl => ⟨Nat.zero_le _, fun fl nfl => ?_⟩⟩⟩
  obtain ⟨nfl1, nflt⟩ := upd_none nfl
  obtain ⟨nfl2, _⟩ := upd_none nfl1
  obtain ⟨ntl1, ntlq⟩ := upd_none ntl
  have none0 : ∀ {c : Addr}, H4 c = none → H c = none := fun {c} h => by
    cases e : H c with
    | none => rfl
    | some o =>
      rw [s04 _ _ e] at h
      cases h
  have s5 : Same H4 (upd (upd (upd H4 tq (.tup [.str "eval", w3, .ref nd])) tl (.lst [.ref tq])) fl (.lst [])) := fun b o e => by
    rw [upd_ne (ne_of_none e nfl2), upd_ne (ne_of_none e ntl1), upd_ne (ne_of_none e ntq), e]
  have htl5 : upd (upd (upd H4 tq (.tup [.str "eval", w3, .ref nd])) tl (.lst [.ref tq])) fl (.lst []) tl = some (.lst [.ref tq]) := by rw [upd_ne nflt.symm, upd_same]
  have htq5 : upd (upd (upd H4 tq (.tup [.str "eval", w3, .ref nd])) tl (.lst [.ref tq])) fl (.lst []) tq = some (.tup [.str "eval", w3, .ref nd]) := by
    have z : tq ≠ fl := fun e => by
      subst e
      rw [upd_ne ntlq.symm, upd_same] at nfl
      cases nfl
    rw [upd_ne z, upd_ne ntlq.symm, upd_same]
  have hfl5 : upd (upd (upd H4 tq (.tup [.str "eval", w3, .ref nd])) tl (.lst [.ref tq])) fl (.lst []) fl = some (.lst []) := upd_same
  generalize upd (upd (upd H4 tq (.tup [.str "eval", w3, .ref nd])) tl (.lst [.ref tq])) fl (.lst []) = H5 at *
  have kp5 : Kp H4 H5 := Kp.same s5
  have I0 : LInv K H bd tl fl (g :: rest) (s0 g u) H5 := ⟨⟨[.ref tq], htl5, .one ⟨tq, w3, _, rfl, .inl (.of htq5), tbody.mono kp5.1, hN4.mono kp5⟩⟩, ⟨[], hfl5, rfl⟩, hB4.mono kp5, fun b o e => s5 _ _ (s04 _ _ e), nflt.symm, none0 ntl1, none0 nfl2⟩
  have hWS0 : WfS (g :: rest) R0 R (s0 g u) := by
    have env1 : (g.ps.zip [u]).map (·.1) = g.ps := List.map_fst_zip (by rw [lg]; exact Nat.le_refl _)
    refine ⟨fun t ht => ?_, fun v hv => (List.not_mem_nil hv).elim, rfl⟩
    rw [List.mem_singleton.mp ht]
    refine ⟨by rw [env1]; exact (G.wf.ok g (List.mem_cons_self ..)).2, fun q hq => ?_⟩
    have := (List.of_mem_zip hq).2
    rw [List.mem_singleton.mp this]
    exact hu
  clear hB4 hN4 tbody tpx kp5 htl5 htq5 hfl5 s5 tp4 t1 hsq1
  refine ⟨_, rfl, _, _, rfl, rfl, .inl ⟨by decide, by decide⟩, _, _, rfl, rfl, _, rfl, by omega, by omega, for_it (walk_range (lo := 0) (n := 4 * lim + 4)) (fun i σ H6 => ∃ (fl : Addr) (o4 o5 o6 o7 o8 o12 o13 o14 o15 o16 : Option L2.V), σ = [some (.ref pa), some (.ref qi), some (.int (lim : Int)), some (.ref bd), o4, o5, o6, o7, o8, some (.ref tl), some (.ref fl), some (.int (((mit (g :: rest) i (s0 g u)).steps : Nat) : Int)), o12, o13, o14, o15, o16] ∧ LInv K H bd tl fl (g :: rest) (mit (g :: rest) i (s0 g u)) H6 ∧ (mit (g :: rest) i (s0 g u)).steps ≤ lim ∧ (mit (g :: rest) i (s0 g u)).todo.length ≤ 1 + 12 * i ∧ (mit (g :: rest) i (s0 g u)).found.length ≤ i ∧ ∀ j, j < i → (mit (g :: rest) j (s0 g u)).todo ≠ [])
    ⟨fl, _, _, _, _, _, _, _, _, _, _, rfl, I0, Nat.zero_le _, Nat.le_refl _, Nat.le_refl _, fun j h => absurd h (Nat.not_lt_zero j)⟩ (fun _ _ _ _ _ => True.intro) (fun i y σ H7 H6 hi h yy => ?_) (fun σ H6 h => ?_)⟩
  · obtain ⟨e, ey⟩ := yy
    subst e ey
    obtain ⟨fl, o4, o5, o6, o7, o8, o12, o13, o14, o15, o16, rfl, I, hst, htd, hfd, hall⟩ := h
    have hWS := hWS0.iter G.wf hR h1R i
    have hd := hdep i (by omega)
    have ems : mit (g :: rest) (i + 1) (s0 g u) = mstep (g :: rest) (mit (g :: rest) i (s0 g u)) := mit_succ _ _ _
    rw [ems]
    clear I0 hWS0 ems
    generalize hms : mit (g :: rest) i (s0 g u) = s1 at *
    obtain ⟨td, f, n⟩ := s1
    obtain ⟨vs, htl, avs⟩ := I.t
    obtain ⟨fu, hfl, afu⟩ := I.f
    have lvs : vs.length = td.length := avs.length
    have lfu : fu.length = f.length := afu.length
    have hst : n ≤ lim := hst
    have htd : td.length ≤ 1 + 12 * i := htd
    have hfd : f.length ≤ i := hfd
    refine ⟨_, rfl, tl, _, rfl, .inl (SqL.of htl), rfl, _, rfl, ite_b (fun hb => ?_) (fun hb => ?_)⟩
    · -- it is done
      have etd : td = [] := by
        have z := L2.V.int.inj (of_decide_eq_true hb)
        rw [List.length_reverse] at z
        exact List.length_eq_zero_iff.mp (by omega)
      subst etd
      obtain ⟨t, ef⟩ : ∃ t, f = [t] := by
        have z : f.length = 1 := hWS.fits
        match f, z with
        | [t], _ => exact ⟨t, rfl⟩
      subst ef
      obtain ⟨tv, r5, rfl, ht, e⟩ := afu
      have e : r5 = [] := e
      subst e
      refine ⟨_, rfl, fl, _, _, _, rfl, rfl, SqL.of hfl, rfl, _, rfl, by show 3 ≤ sizeLine; decide, fun rp nrp => ?_⟩
      have s8 : Same H6 (upd H6 rp (.tup [.str "done", tv, .int ((n : Nat) : Int)])) := same_new nrp _
      exact q rp _ (fun b o e => s8 _ _ (I.sm _ _ e)) (.inl ⟨i, t, n, tv, by omega, hms, hst, upd_same, ht.mono (Tk.same s8)⟩)
    · have htn : td ≠ [] := fun e => by
        subst e
        have e2 : vs = [] := List.length_eq_zero_iff.mp lvs
        subst e2
        exact absurd hb (by decide)
      have hall1 : ∀ j, j < i + 1 → (mit (g :: rest) j (s0 g u)).todo ≠ [] := fun j hj => by
        rcases Nat.lt_or_ge j i with l | l
        · exact hall j l
        · have e : j = i := by omega
          rw [e, hms]
          exact htn
      cases td with
      | nil => exact absurd rfl htn
      | cons tk r =>
      obtain ⟨v, vs, rfl, tv, avs⟩ := avs
      have ml := mstep_len hWS
      have ml1 : (mstep (g :: rest) ⟨tk :: r, f, n⟩).todo.length ≤ r.length + 1 + 12 := ml.1
      have ml2 : (mstep (g :: rest) ⟨tk :: r, f, n⟩).found.length ≤ f.length + 1 := ml.2
      simp only [List.length_cons] at htd
      -- what is to be shown behind the turn
      have next : ∀ {fl' : Addr} {H8 : Hp} {m : Nat} {o4 o5 o6 o7 o8 o12 o13 o14 o15 o16 : Option L2.V}, LInv K H bd tl fl' (g :: rest) (mstep (g :: rest) ⟨tk :: r, f, n⟩) H8 → (mstep (g :: rest) ⟨tk :: r, f, n⟩).steps = m → m ≤ lim →
          ∃ (fl : Addr) (p4 p5 p6 p7 p8 p12 p13 p14 p15 p16 : Option L2.V), ([some (.ref pa), some (.ref qi), some (.int (lim : Int)), some (.ref bd), o4, o5, o6, o7, o8, some (.ref tl), some (.ref fl'), some (.int ((m : Nat) : Int)), o12, o13, o14, o15, o16] : L2.St) = [some (.ref pa), some (.ref qi), some (.int (lim : Int)), some (.ref bd), p4, p5, p6, p7, p8, some (.ref tl), some (.ref fl), some (.int (((mstep (g :: rest) ⟨tk :: r, f, n⟩).steps : Nat) : Int)), p12, p13, p14, p15, p16] ∧ LInv K H bd tl fl (g :: rest) (mstep (g :: rest) ⟨tk :: r, f, n⟩) H8 ∧ (mstep (g :: rest) ⟨tk :: r, f, n⟩).steps ≤ lim ∧ (mstep (g :: rest) ⟨tk :: r, f, n⟩).todo.length ≤ 1 + 12 * (i + 1) ∧ (mstep (g :: rest) ⟨tk :: r, f, n⟩).found.length ≤ i + 1 ∧ ∀ j, j < i + 1 → (mit (g :: rest) j (s0 g u)).todo ≠ [] := by
        intro fl' H8 m o4 o5 o6 o7 o8 o12 o13 o14 o15 o16 h1 h2 h3
        subst h2
        exact ⟨fl', o4, o5, o6, o7, o8, o12, o13, o14, o15, o16, rfl, h1, h3, by omega, by omega, hall1⟩
      -- the pop
      refine ⟨_, rfl, .inl ⟨rfl, _, SqL.of htl⟩, tl, _, _, rfl, rfl, htl, rev_last, ?_⟩
      rw [rev_dropLast]
      have kp7 : Kp H6 (upd H6 tl (.lst vs.reverse)) := Kp.upd htl
      have htl7 : upd H6 tl (.lst vs.reverse) tl = some (.lst vs.reverse) := upd_same
      have hfl7 : upd H6 tl (.lst vs.reverse) fl = some (.lst fu.reverse) := (upd_ne I.ne.symm).trans hfl
      have sm7 : Same H (upd H6 tl (.lst vs.reverse)) := fun b o e => (upd_ne (ne_of_none e I.nt)).trans (I.sm _ _ e)
      generalize upd H6 tl (.lst vs.reverse) = H7 at *
      have tv7 := tv.mono kp7
      have avs7 := avs.mono fun _ _ h => LTask.mono kp7 h
      have afu7 := afu.mono fun _ _ h => TV.mono kp7.1 h
      have hB7 := I.b.mono kp7
      have hne := I.ne
      have hnt := I.nt
      have hnf := I.nf
      have htk := hWS.tasks tk (List.mem_cons_self ..)
      have hfit := hWS.fits
      have hd2 : ∀ v ∈ f, v.ok = true ∧ v.depth ≤ 1400 ∧ v.items.length ≤ 1000000 := hd (fun h => nomatch h)
      clear hd
      have I7 : LInv K H bd tl fl (g :: rest) ⟨r, f, n⟩ H7 := ⟨⟨vs, htl7, avs7⟩, ⟨fu, hfl7, afu7⟩, hB7, sm7, hne, hnt, hnf⟩
      clear I tv avs afu ml
      have no : ∀ {a b : Str} {A : Prop}, decide (L2.V.str a = L2.V.str b) = true → a ≠ b → A := fun {a b A} h e => absurd (L2.V.str.inj (of_decide_eq_true h)) e
      have yes : ∀ {a : L2.V} {A : Prop}, decide (a = a) = false → A := fun {a A} h => by
        rw [decide_eq_true rfl] at h
        cases h
      have line : ∀ m, m ≤ 100000 → m < sizeLine := fun m h => line_lt (by omega)
      cases tk with
      | doo w1 =>
        obtain ⟨q0, rfl, hq⟩ := tv7
        have hfit : arity w1 ≤ f.length ∧ _ := hfit
        refine ⟨_, rfl, q0, _, _, _, rfl, rfl, hq, rfl, rfl, _, rfl, ite_b (fun _ => ?_) (fun hb => yes hb)⟩
        refine ⟨_, rfl, .inl ⟨rfl, _, SqL.of hfl7⟩, _, rfl, q0, _, _, _, rfl, rfl, hq, rfl, _, rfl, w1, fl, f, fu, rfl, hfl7, afu7, htk, hfit.1, hd2, fun v us' H8 hfl8 aus8 tv8 f8 => ?_⟩
        have kp8 : Kp H7 H8 := Kp.but hfl7 f8
        have lus8 := aus8.length
        rw [List.length_drop] at lus8
        have kp9 : Kp H8 (upd H8 fl (.lst (us'.reverse ++ [v]))) := Kp.upd hfl8
        refine ⟨fl, _, _, rfl, rfl, hfl8, by rw [List.length_reverse]; exact line _ (by omega), next (m := n) ⟨⟨vs, (upd_ne hne).trans (f8 _ _ htl7 hne), avs7.mono fun _ _ h => LTask.mono (kp8.trans kp9) h⟩, ⟨v :: us', by rw [upd_same, List.reverse_cons], .cons (tv8.mono kp9.1) (aus8.mono fun _ _ h => TV.mono kp9.1 h)⟩, hB7.mono (kp8.trans kp9), fun b o e => (upd_ne (ne_of_none e hnf)).trans (f8 _ _ (sm7 _ _ e) (ne_of_none e hnf)), hne, hnt, hnf⟩ rfl hst⟩
      | ite b c env =>
        obtain ⟨q0, ub, uc, nv, rfl, hq, tb, tc, hnv⟩ := tv7
        have hfit : 1 ≤ f.length ∧ _ := hfit
        refine ⟨_, rfl, q0, _, _, _, rfl, rfl, hq, rfl, rfl, _, rfl, ite_b (fun hb => no hb (by decide +kernel)) (fun _ => ?_)⟩
        refine ⟨_, rfl, q0, _, _, _, rfl, rfl, hq, rfl, rfl, _, rfl, ite_b (fun _ => ?_) (fun hb => yes hb)⟩
        obtain ⟨t1, fs, rfl⟩ : ∃ t1 fs, f = t1 :: fs := by
          cases f with
          | nil => exact absurd hfit.1 (by decide)
          | cons a b => exact ⟨a, b, rfl⟩
        obtain ⟨v1, us1, rfl, tv1, af1⟩ := afu7
        refine ⟨_, rfl, q0, _, _, _, rfl, rfl, hq, rfl, _, rfl, .inl ⟨rfl, _, SqL.of hfl7⟩, fl, _, _, rfl, rfl, hfl7, rev_last, ?_⟩
        rw [rev_dropLast]
        obtain ⟨I8, kp8⟩ := I7.setFound (fs := fs) (us := us1) (xs := us1.reverse) af1 rfl
        generalize upd H7 fl (.lst us1.reverse) = H8 at *
        have ok1 := hd2 t1 (List.mem_cons_self ..)
        refine ⟨Nat.zero_le _, fun p0 n0 => ?_⟩
        obtain ⟨s9, t9⟩ := tv_new (K := K) (ts := []) (vs := []) rfl n0
        have I9 := I8.same s9
        have kp9 := kp8.trans (Kp.same s9)
        generalize upd H8 p0 (.tup []) = H9 at *
        have hq9 := kp9.1.sqt hq
        have hnv9 := hnv.mono kp9
        refine ⟨t1, .l [], tv1.mono kp9.1, t9, ok1.1, rfl, Nat.le_trans (Nat.min_le_left _ _) (by omega), _, rfl, ite_b (fun hb => ?_) (fun hb => ?_)⟩
        · have e1 : t1 = T.nil := of_decide_eq_true hb
          have es : mstep (g :: rest) ⟨.ite b c env :: r, t1 :: fs, n⟩ = ⟨.ev c env :: r, fs, n⟩ := by
            show (⟨.ev (if t1 = T.nil then c else b) env :: r, fs, n⟩ : MS) = _
            rw [if_pos e1]
          refine ⟨_, rfl, q0, _, _, _, rfl, rfl, hq9, rfl, ?_⟩
          obtain ⟨vs9, ht9, _⟩ := id I9.t
          refine ⟨_, rfl, .inl ⟨rfl, _, SqL.of ht9⟩, _, rfl, _, rfl, q0, _, _, _, rfl, rfl, hq9, rfl, by show 3 ≤ sizeLine; decide, fun tp2 ntp2 => ?_⟩
          obtain ⟨t10, l10, I10, _⟩ := I9.push (t := .ev c env) ht9 ntp2 (fun H' k h => ⟨tp2, _, nv, rfl, h, tc.mono (kp9.trans k).1, hnv9.mono k⟩)
          exact ⟨tl, _, _, rfl, rfl, t10, by rw [l10]; exact line _ (by show r.length ≤ _; omega), next (m := n) (by rw [es]; exact I10) (by rw [es]) hst⟩
        · have e1 : t1 ≠ T.nil := of_decide_eq_false hb
          have es : mstep (g :: rest) ⟨.ite b c env :: r, t1 :: fs, n⟩ = ⟨.ev b env :: r, fs, n⟩ := by
            show (⟨.ev (if t1 = T.nil then c else b) env :: r, fs, n⟩ : MS) = _
            rw [if_neg e1]
          obtain ⟨vs9, ht9, _⟩ := id I9.t
          refine ⟨_, rfl, .inl ⟨rfl, _, SqL.of ht9⟩, _, rfl, _, rfl, q0, _, _, _, rfl, rfl, hq9, rfl, by show 3 ≤ sizeLine; decide, fun tp2 ntp2 => ?_⟩
          obtain ⟨t10, l10, I10, _⟩ := I9.push (t := .ev b env) ht9 ntp2 (fun H' k h => ⟨tp2, _, nv, rfl, h, tb.mono (kp9.trans k).1, hnv9.mono k⟩)
          exact ⟨tl, _, _, rfl, rfl, t10, by rw [l10]; exact line _ (by show r.length ≤ _; omega), next (m := n) (by rw [es]; exact I10) (by rw [es]) hst⟩
      | call w1 =>
        obtain ⟨q0, rfl, hq⟩ := tv7
        obtain ⟨g1, hg1, hlen, _⟩ : ∃ g1, fnd (g :: rest) w1 = some g1 ∧ g1.ps.length ≤ f.length ∧ _ := hfit
        obtain ⟨hg2, eg2⟩ := fnd_mem hg1
        subst eg2
        have es : mstep (g :: rest) ⟨.call g1.name :: r, f, n⟩ = ⟨.ev g1.body (g1.ps.zip (f.take g1.ps.length).reverse) :: r, f.drop g1.ps.length, n⟩ := by
          unfold mstep
          dsimp only
          rw [hg1]
        have ndp := (G.pars g1 hg2).1
        have lps := (G.wf.ok g1 hg2).1
        refine ⟨_, rfl, q0, _, _, _, rfl, rfl, hq, rfl, rfl, _, rfl, ite_b (fun hb => no hb (by decide +kernel)) (fun _ => ?_)⟩
        refine ⟨_, rfl, q0, _, _, _, rfl, rfl, hq, rfl, rfl, _, rfl, ite_b (fun hb => no hb (by decide +kernel)) (fun _ => ?_)⟩
        refine ⟨_, rfl, q0, _, _, _, rfl, rfl, hq, rfl, rfl, _, rfl, ite_b (fun _ => ?_) (fun hb => yes hb)⟩
        obtain ⟨kvb, hkb, hbf⟩ := id I7.b
        obtain ⟨qb, v1, v2, hval, hqb, tps, tbd⟩ := hbf g1 hg2
        have gd := DGet.k (k := kInr g1.name) hkb
        rw [hval] at gd
        refine ⟨_, rfl, _, rfl, q0, _, _, _, rfl, rfl, hq, rfl, bd, _, rfl, gd, qb, _, rfl, hqb, rfl, _, _, rfl, _, _, rfl, rfl, ?_⟩
        obtain ⟨pp, pvs, rfl, hpp, tpp⟩ := id tps
        have epv := tpp.words
        subst epv
        intro nd2 nn2
        have sm8 : Same H7 (upd H7 nd2 (.dK [])) := same_new nn2 _
        have hnd8 : upd H7 nd2 (.dK []) nd2 = some (.dK []) := upd_same
        generalize upd H7 nd2 (.dK []) = H8 at *
        have hfl8 := sm8 _ _ hfl7
        have hpp8 := (Tk.same sm8).sqt hpp
        have fln : fl ≠ nd2 := ne_of_none hfl7 nn2
        have eL : fu.reverse.drop (fu.length - g1.ps.length) = (fu.take g1.ps.length).reverse := by
          rw [List.drop_reverse, show fu.length - (fu.length - g1.ps.length) = g1.ps.length by omega]
        have eT : fu.reverse.take (fu.length - g1.ps.length) = (fu.drop g1.ps.length).reverse := by
          rw [List.take_reverse, show fu.length - (fu.length - g1.ps.length) = g1.ps.length by omega]
        refine ⟨_, rfl, pp, _, rfl, .inr hpp8, _, rfl, by rw [List.length_map]; omega, by rw [List.length_map]; omega, ?_⟩
        rw [List.length_map]
        refine for_it (walk_range (lo := 0) (n := g1.ps.length)) (fun a σ H9 => ∃ (o8 : Option L2.V) (kv : KV), σ = [some (.ref pa), some (.ref qi), some (.int (lim : Int)), some (.ref bd), o4, some (.ref pp), some v2, some (.ref nd2), o8, some (.ref tl), some (.ref fl), some (.int ((n : Nat) : Int)), some (.int ((0 + i : Nat) : Int)), some (.ref q0), o14, o15, o16] ∧ H9 nd2 = some (.dK kv) ∧ (∀ b o, H8 b = some o → b ≠ nd2 → H9 b = some o) ∧ kv.length ≤ a ∧
          ∀ (j : Nat) (x : Str), j < a → g1.ps[j]? = some x → ∃ v, (fu.take g1.ps.length).reverse[j]? = some v ∧ valV kv (kInr x) = some v) ⟨_, [], rfl, hnd8, fun _ _ e _ => e, Nat.le_refl _, fun j x h => absurd h (Nat.not_lt_zero j)⟩ (fun _ _ _ _ _ => True.intro) (fun a y σ H10 H9 ha h yy => ?_) (fun σ H9 h => ?_)
        · obtain ⟨e, ey⟩ := yy
          subst e ey
          obtain ⟨o8, kv, rfl, hkv, fr9, lkv, all9⟩ := h
          have hpp9 : SqT K H9 pp (g1.ps.map L2.V.str) := (Tk.but (by rw [hnd8]; exact NoTup.dK) fr9).sqt hpp8
          have hfl9 := fr9 _ _ hfl8 fln
          have hja : a < (fu.take g1.ps.length).reverse.length := by
            rw [List.length_reverse, List.length_take]
            omega
          have hv := List.getElem?_eq_getElem hja
          generalize (fu.take g1.ps.length).reverse[a] = va at *
          have hv2 : fu.reverse[fu.length - g1.ps.length + a]? = some va := by
            rw [← List.getElem?_drop, eL]
            exact hv
          have hx := List.getElem?_eq_getElem ha
          generalize hxa : g1.ps[a] = xa at *
          have e0 : (L2.V.int (0 + ((a : Nat) : Int))) = .int ((a : Nat) : Int) := by rw [Int.zero_add]
          refine ⟨_, rfl, _, rfl, fl, _, rfl, .inl (SqL.of hfl9), _, rfl, pp, _, rfl, .inr hpp9, _, _, rfl, rfl, _, rfl, _, _, rfl, rfl, fl, _, _, va, rfl, rfl, SqL.of hfl9, ?_, ?_⟩
          · refine atI_nat' hv2 ?_
            rw [List.length_reverse, List.length_map]
            omega
          refine ⟨_, rfl, _, rfl, _, rfl, pp, _, _, _, rfl, rfl, hpp9, atI_nat' (j := a) (by rw [List.getElem?_map, hx] <;> rfl) (by omega), nd2, _, rfl, DPut.k (k := kInr xa) hkv (line _ (by omega)), _, _, rfl, upd_same, fun b o e hc => (upd_ne hc).trans (fr9 b o e hc), ?_, fun j x hj hjx => ?_⟩
          · have := length_putK kv (kInr xa) va
            omega
          · rw [valV_put]
            by_cases z : j = a
            · subst z
              rw [hx] at hjx
              cases hjx
              exact ⟨va, hv, by rw [if_pos rfl]⟩
            · obtain ⟨v, h1, h2⟩ := all9 j x (by omega) hjx
              refine ⟨v, h1, ?_⟩
              rw [if_neg, h2]
              intro e
              have en : x = xa := Sum.inr.inj e
              exact z (nd_ix ndp hjx (by rw [en]; exact hx))
        · obtain ⟨o8, kv, rfl, hkv, fr9, lkv, all9⟩ := h
          have sm9 : Same H7 H9 := fun b o e => fr9 _ _ (sm8 _ _ e) (ne_of_none e nn2)
          have I9 := I7.same sm9
          have kp9 : Kp H7 H9 := Kp.same sm9
          have hN9 : LNames K H9 (g1.ps.zip (f.take g1.ps.length).reverse) (.ref nd2) := ⟨nd2, kv, rfl, hkv, fun x t hx => by
            obtain ⟨j, h1, h2⟩ := lk_at hx
            obtain ⟨v, h3, h4⟩ := all9 j x (List.getElem?_eq_some_iff.mp h1).1 h1
            obtain ⟨v', h5, h6⟩ := (afu7.take g1.ps.length).reverse.get h2
            rw [h3] at h5
            cases h5
            exact ⟨v, h4, h6.mono kp9.1⟩⟩
          have hfl9 := sm9 _ _ hfl7
          have hpp9 := kp9.1.sqt hpp
          have hq9 := kp9.1.sqt hq
          have tbd9 := tbd.mono kp9.1
          refine ⟨_, rfl, _, rfl, fl, _, rfl, .inl (SqL.of hfl9), _, rfl, pp, _, rfl, .inr hpp9, _, _, rfl, rfl, _, rfl, fl, _, rfl, SqL.of hfl9, fun f2 nf2 => ?_⟩
          have ecut : cutV fu.reverse none (some ((fu.reverse.length : Int) - ((g1.ps.map L2.V.str).length : Int))) = (fu.drop g1.ps.length).reverse := by
            rw [List.length_reverse, List.length_map, show ((fu.length : Int) - (g1.ps.length : Int)) = ((fu.length - g1.ps.length : Nat) : Int) by omega, cut_to, eT]
          rw [ecut]
          have sm10 : Same H9 (upd H9 f2 (.lst (fu.drop g1.ps.length).reverse)) := same_new nf2 _
          have hf210 : upd H9 f2 (.lst (fu.drop g1.ps.length).reverse) f2 = some (.lst (fu.drop g1.ps.length).reverse) := upd_same
          generalize upd H9 f2 (.lst (fu.drop g1.ps.length).reverse) = H10 at *
          have I10' := I9.same sm10
          have kp10 : Kp H7 H10 := kp9.trans (Kp.same sm10)
          obtain ⟨vs10, ht10, at10⟩ := id I10'.t
          have I10 : LInv K H bd tl f2 (g :: rest) ⟨r, f.drop g1.ps.length, n⟩ H10 := ⟨⟨vs10, ht10, at10⟩, ⟨_, hf210, (afu7.drop g1.ps.length).mono fun _ _ h => TV.mono kp10.1 h⟩, I10'.b, I10'.sm, (ne_of_none (sm9 _ _ htl7) nf2), I10'.nt, by
            cases e : H f2 with
            | none => rfl
            | some o =>
              rw [I9.sm _ _ e] at nf2
              cases nf2⟩
          have hN10 := hN9.mono (Kp.same sm10)
          refine ⟨_, rfl, .inl ⟨rfl, _, SqL.of ht10⟩, _, rfl, _, rfl, by show 3 ≤ sizeLine; decide, fun tp2 ntp2 => ?_⟩
          obtain ⟨t11, l11, I11, _⟩ := I10.push (t := .ev g1.body (g1.ps.zip (f.take g1.ps.length).reverse)) ht10 ntp2 (fun H' k h => ⟨tp2, _, _, rfl, h, tbd.mono (kp10.trans k).1, hN10.mono k⟩)
          exact ⟨tl, _, _, rfl, rfl, t11, by rw [l11]; exact line _ (by show r.length ≤ _; omega), next (m := n) (by rw [es]; exact I11) (by rw [es]) hst⟩
      | ev e env =>
        obtain ⟨q0, u1, nv, rfl, hq, tu1, hnv⟩ := tv7
        have htk : WfE (sig (g :: rest)) R0 (env.map (·.1)) e ∧ envFine (R + i) env := htk
        refine ⟨_, rfl, q0, _, _, _, rfl, rfl, hq, rfl, rfl, _, rfl, ite_b (fun hb => no hb (by decide +kernel)) (fun _ => ?_)⟩
        refine ⟨_, rfl, q0, _, _, _, rfl, rfl, hq, rfl, rfl, _, rfl, ite_b (fun hb => no hb (by decide +kernel)) (fun _ => ?_)⟩
        refine ⟨_, rfl, q0, _, _, _, rfl, rfl, hq, rfl, rfl, _, rfl, ite_b (fun hb => no hb (by decide +kernel)) (fun _ => ?_)⟩
        refine ⟨_, rfl, _, rfl, rfl, _, rfl, ite_b (fun hb => ?_) (fun hb => ?_)⟩
        · have en : n = lim := by
            have z : ((n : Nat) : Int) = (lim : Int) := L2.V.int.inj (of_decide_eq_true hb)
            omega
          refine ⟨by show 1 ≤ sizeLine; decide, fun rp nrp => ?_⟩
          have s8 : Same H7 (upd H7 rp (.tup [.str "tired"])) := same_new nrp _
          exact q rp _ (fun b o e => s8 _ _ (I7.sm _ _ e)) (.inr ⟨upd_same, .inr ⟨i, e, env, r, by rw [hms], by rw [hms]; exact en⟩⟩)
        · have hnl : n + 1 ≤ lim := by
            have z : n ≠ lim := fun z => by
              subst z
              exact yes hb
            omega
          have es0 : ∀ {td f}, LInv K H bd tl fl (g :: rest) ⟨td, f, n⟩ H7 → LInv K H bd tl fl (g :: rest) ⟨td, f, n + 1⟩ H7 := fun x => ⟨x.t, x.f, x.b, x.sm, x.ne, x.nt, x.nf⟩
          have I8 := es0 I7
          refine ⟨_, rfl, _, _, rfl, rfl, _, rfl, q0, _, _, _, rfl, rfl, hq, rfl, _, rfl, q0, _, _, _, rfl, rfl, hq, rfl, _, _, rfl, _, rfl, u1, e.enc, rfl, tu1, _, rfl, ?_⟩
          cases e with
          | var x =>
            refine ite_b (fun _ => ?_) (fun hb => nomatch hb)
            have tu1 : u1 = .str x := tu1
            subst tu1
            obtain ⟨na, kvs, rfl, hna, nok⟩ := id hnv
            obtain ⟨v, hv⟩ := lk_some (show x ∈ env.map (·.1) from htk.1)
            obtain ⟨v1, hval, tv1⟩ := nok x v hv
            have gd := DGet.k (k := kInr x) hna
            rw [hval] at gd
            have es : mstep (g :: rest) ⟨.ev (.var x) env :: r, f, n⟩ = ⟨r, v :: f, n + 1⟩ := by
              show (⟨r, (lk env x).getD .nil :: f, n + 1⟩ : MS) = _
              rw [hv] <;> rfl
            obtain ⟨I9, _⟩ := I8.setFound (fs := v :: f) (us := v1 :: fu) (xs := fu.reverse ++ [v1]) (.cons tv1 afu7) (by rw [List.reverse_cons])
            exact ⟨_, rfl, .inl ⟨rfl, _, SqL.of hfl7⟩, _, rfl, _, rfl, na, _, rfl, gd, fl, _, _, rfl, rfl, hfl7, by rw [List.length_reverse]; exact line _ (by omega), next (m := n + 1) (by rw [es]; exact I9) (by rw [es]) hnl⟩
          | quo v =>
            refine ite_b (fun hb => nomatch hb) (fun _ => ?_)
            obtain ⟨qo, us1, rfl, hqo, w1, r1, rfl, e1, w2, r2, rfl, tv1, e2⟩ := id tu1
            have e1 : w1 = .str "quote" := e1
            subst e1
            refine ⟨_, rfl, qo, _, _, _, rfl, rfl, hqo, atI_nat (j := 0) rfl, rfl, _, rfl, ite_b (fun _ => ?_) (fun hb => yes hb)⟩
            have es : mstep (g :: rest) ⟨.ev (.quo v) env :: r, f, n⟩ = ⟨r, v :: f, n + 1⟩ := rfl
            obtain ⟨I9, _⟩ := I8.setFound (fs := v :: f) (us := w2 :: fu) (xs := fu.reverse ++ [w2]) (.cons tv1 afu7) (by rw [List.reverse_cons])
            exact ⟨_, rfl, .inl ⟨rfl, _, SqL.of hfl7⟩, _, rfl, qo, _, _, _, rfl, rfl, hqo, atI_nat (j := 1) rfl, fl, _, _, rfl, rfl, hfl7, by rw [List.length_reverse]; exact line _ (by omega), next (m := n + 1) (by rw [es]; exact I9) (by rw [es]) hnl⟩
          | ite a b c =>
            refine ite_b (fun hb => nomatch hb) (fun _ => ?_)
            obtain ⟨qo, us1, rfl, hqo, w1, r1, rfl, e1, w2, r2, rfl, ta, w3, r3, rfl, tb, w4, r4, rfl, tc, e2⟩ := id tu1
            have e1 : w1 = .str "if" := e1
            subst e1
            refine ⟨_, rfl, qo, _, _, _, rfl, rfl, hqo, atI_nat (j := 0) rfl, rfl, _, rfl, ite_b (fun hb => no hb (by decide +kernel)) (fun _ => ?_)⟩
            refine ⟨_, rfl, qo, _, _, _, rfl, rfl, hqo, atI_nat (j := 0) rfl, rfl, _, rfl, ite_b (fun _ => ?_) (fun hb => yes hb)⟩
            have es : mstep (g :: rest) ⟨.ev (.ite a b c) env :: r, f, n⟩ = ⟨.ev a env :: .ite b c env :: r, f, n + 1⟩ := rfl
            refine ⟨_, rfl, .inl ⟨rfl, _, SqL.of htl7⟩, _, rfl, qo, _, _, _, rfl, rfl, hqo, atI_nat (j := 2) rfl, _, rfl, qo, _, _, _, rfl, rfl, hqo, atI_nat (j := 3) rfl, _, rfl, by show 4 ≤ sizeLine; decide, fun tp2 ntp2 => ?_⟩
            obtain ⟨t11, l11, I9, kp9⟩ := I8.push (t := .ite b c env) htl7 ntp2 (fun H' k h => ⟨tp2, _, _, _, rfl, h, tb.mono k.1, tc.mono k.1, hnv.mono k⟩)
            refine ⟨tl, _, _, rfl, rfl, t11, by rw [l11]; exact line _ (by show r.length ≤ _; omega), ?_⟩
            generalize upd (upd H7 tp2 _) tl _ = H9 at *
            have hqo9 := kp9.1.sqt hqo
            obtain ⟨vs9, ht9, _⟩ := id I9.t
            refine ⟨_, rfl, .inl ⟨rfl, _, SqL.of ht9⟩, _, rfl, qo, _, _, _, rfl, rfl, hqo9, atI_nat (j := 1) rfl, _, rfl, by show 3 ≤ sizeLine; decide, fun tp3 ntp3 => ?_⟩
            obtain ⟨t12, l12, I10, _⟩ := I9.push (t := .ev a env) ht9 ntp3 (fun H' k h => ⟨tp3, _, _, rfl, h, (ta.mono kp9.1).mono k.1, (hnv.mono kp9).mono k⟩)
            exact ⟨tl, _, _, rfl, rfl, t12, by rw [l12]; exact line _ (by show r.length + 1 ≤ _; omega), next (m := n + 1) (by rw [es]; exact I10) (by rw [es]) hnl⟩
          | app w0 as =>
            refine ite_b (fun hb => nomatch hb) (fun _ => ?_)
            obtain ⟨qo, us1, rfl, hqo, w1, ws, rfl, e1, tas⟩ := id tu1
            have e1 : w1 = .str w0 := e1
            subst e1
            have sp : w0 ≠ "quote" ∧ w0 ≠ "if" := by
              rcases htk.1.2.1 with ⟨hp, _⟩ | ⟨hs, _⟩
              · rcases plain_cases hp with e | e | e | e | e <;> subst e <;> exact ⟨by decide +kernel, by decide +kernel⟩
              · exact ⟨(special_ne hs).1, (special_ne hs).2.1⟩
            have las : as.length ≤ 12 := htk.1.1
            have lws : ws.length = as.length := by rw [TVs.length tas, K35.E.encs_length]
            have es : mstep (g :: rest) ⟨.ev (.app w0 as) env :: r, f, n⟩ = ⟨as.map (Task.ev · env) ++ (if isPlain w0 then .doo w0 else .call w0) :: r, f, n + 1⟩ := rfl
            refine ⟨_, rfl, qo, _, _, _, rfl, rfl, hqo, atI_nat (j := 0) rfl, rfl, _, rfl, ite_b (fun hb => no hb sp.1) (fun _ => ?_)⟩
            refine ⟨_, rfl, qo, _, _, _, rfl, rfl, hqo, atI_nat (j := 0) rfl, rfl, _, rfl, ite_b (fun hb => no hb sp.2) (fun _ => ?_)⟩
            refine ⟨_, rfl, qo, _, _, _, rfl, rfl, hqo, atI_nat (j := 0) rfl, by show 5 ≤ sizeLine; decide, fun pl npl => ?_⟩
            have sm8 : Same H7 (upd H7 pl (.lst [.str "same", .str "word", .str "head", .str "tail", .str "join"])) := same_new npl _
            have hpl8 : upd H7 pl (.lst [.str "same", .str "word", .str "head", .str "tail", .str "join"]) pl = some (.lst [.str "same", .str "word", .str "head", .str "tail", .str "join"]) := upd_same
            have I8' := I8.same sm8
            have hqo8 := (Tk.same sm8).sqt hqo
            have elen : (((L2.V.str w0 :: ws).length : Nat) : Int) - 1 = ((as.length : Nat) : Int) := by
              rw [List.length_cons]
              omega
            refine ⟨pl, _, rfl, .inl (SqL.of hpl8), rfl, flat_strs plainsL, _, rfl, ?_⟩
            have ht8 := sm8 _ _ htl7
            generalize upd H7 pl (.lst [.str "same", .str "word", .str "head", .str "tail", .str "join"]) = H8 at *
            refine ite_b (fun hb => ?_) (fun hb => ?_)
            · have hb : isPlain w0 = true := by rw [← hb]; exact (inV_strs w0 plainsL).symm
              rw [hb, if_pos rfl] at es
              refine ⟨_, rfl, .inl ⟨rfl, _, SqL.of ht8⟩, _, rfl, _, rfl, qo, _, _, _, rfl, rfl, hqo8, atI_nat (j := 0) rfl, by show 2 ≤ sizeLine; decide, fun tp2 ntp2 => ?_⟩
              obtain ⟨t11, l11, I9, kp9⟩ := I8'.push (t := .doo w0) ht8 ntp2 (fun H' k h => ⟨tp2, rfl, h⟩)
              refine ⟨tl, _, _, rfl, rfl, t11, by rw [l11]; exact line _ (by show r.length ≤ _; omega), ?_⟩
              generalize upd (upd H8 tp2 _) tl _ = H9 at *
              have kp89 := (Kp.same sm8).trans kp9
              have hqo9 := kp9.1.sqt hqo8
              refine ⟨_, rfl, qo, _, rfl, .inr hqo9, _, _, rfl, rfl, _, rfl, by rw [elen]; omega, by rw [elen]; omega, ?_⟩
              rw [elen]
              refine for_it (walk_range (lo := 0) (n := as.length)) (fun k σ H10 => ∃ o8 : Option L2.V, σ = [some (.ref pa), some (.ref qi), some (.int (lim : Int)), some (.ref bd), o4, o5, o6, some nv, o8, some (.ref tl), some (.ref fl), some (.int (((n : Nat) : Int) + 1)), some (.int ((0 : Int) + ((i : Nat) : Int))), some (.ref q0), o14, some (.ref qo), some (.str "do")] ∧ LInv K H bd tl fl (g :: rest) ⟨(as.drop (as.length - k)).map (Task.ev · env) ++ .doo w0 :: r, f, n + 1⟩ H10 ∧ Kp H9 H10) ⟨_, rfl, ?_, .refl H9⟩ (fun _ _ _ _ _ => True.intro) (fun k y σ H11 H10 hk h yy => ?_) (fun σ H10 h => ?_)
              · rw [Nat.sub_zero, List.drop_length]
                exact I9
              · obtain ⟨e, ey⟩ := yy
                subst e ey
                obtain ⟨p8, rfl, I10, kp10⟩ := h
                have hqo10 := kp10.1.sqt hqo9
                have hka : as.length - 1 - k < as.length := by omega
                have hen : (K35.E.encs as)[as.length - 1 - k]? = some (as[as.length - 1 - k]).enc := by
                  rw [K35.E.encs_map, List.getElem?_map, List.getElem?_eq_getElem hka] <;> rfl
                obtain ⟨v, hv, tv⟩ := TVs.get tas hen
                obtain ⟨vs10, ht10, at10⟩ := id I10.t
                refine ⟨_, rfl, .inl ⟨rfl, _, SqL.of ht10⟩, _, rfl, _, rfl, qo, _, rfl, .inr hqo10, _, _, rfl, rfl, _, rfl, _, _, rfl, rfl, qo, _, _, v, rfl, rfl, hqo10, atI_nat' (j := as.length - 1 - k + 1) hv (by rw [List.length_cons]; omega), _, rfl, by show 3 ≤ sizeLine; decide, fun tp3 ntp3 => ?_⟩
                obtain ⟨t12, l12, I11, kp11⟩ := I10.push (t := .ev as[as.length - 1 - k] env) ht10 ntp3 (fun H' k h => ⟨tp3, _, _, rfl, h, ((tv.mono kp89.1).mono kp10.1).mono k.1, ((hnv.mono kp89).mono kp10).mono k⟩)
                refine ⟨tl, _, _, rfl, rfl, t12, ?_, _, rfl, ?_, kp10.trans kp11⟩
                · rw [l12]
                  refine line _ ?_
                  show ((as.drop (as.length - k)).map (Task.ev · env) ++ .doo w0 :: r).length ≤ _
                  rw [List.length_append, List.length_map, List.length_drop, List.length_cons]
                  omega
                · rw [show as.length - (k + 1) = as.length - 1 - k by omega, List.drop_eq_getElem_cons hka, show as.length - 1 - k + 1 = as.length - k by omega]
                  exact I11
              · obtain ⟨p8, rfl, I10, kp10⟩ := h
                rw [Nat.sub_self, List.drop_zero] at I10
                exact next (m := n + 1) (by rw [es]; exact I10) (by rw [es]) hnl
            · have hb : isPlain w0 = false := by rw [← hb]; exact (inV_strs w0 plainsL).symm
              rw [hb, if_neg Bool.noConfusion] at es
              refine ⟨_, rfl, .inl ⟨rfl, _, SqL.of ht8⟩, _, rfl, _, rfl, qo, _, _, _, rfl, rfl, hqo8, atI_nat (j := 0) rfl, by show 2 ≤ sizeLine; decide, fun tp2 ntp2 => ?_⟩
              obtain ⟨t11, l11, I9, kp9⟩ := I8'.push (t := .call w0) ht8 ntp2 (fun H' k h => ⟨tp2, rfl, h⟩)
              refine ⟨tl, _, _, rfl, rfl, t11, by rw [l11]; exact line _ (by show r.length ≤ _; omega), ?_⟩
              generalize upd (upd H8 tp2 _) tl _ = H9 at *
              have kp89 := (Kp.same sm8).trans kp9
              have hqo9 := kp9.1.sqt hqo8
              refine ⟨_, rfl, qo, _, rfl, .inr hqo9, _, _, rfl, rfl, _, rfl, by rw [elen]; omega, by rw [elen]; omega, ?_⟩
              rw [elen]
              refine for_it (walk_range (lo := 0) (n := as.length)) (fun k σ H10 => ∃ o8 : Option L2.V, σ = [some (.ref pa), some (.ref qi), some (.int (lim : Int)), some (.ref bd), o4, o5, o6, some nv, o8, some (.ref tl), some (.ref fl), some (.int (((n : Nat) : Int) + 1)), some (.int ((0 : Int) + ((i : Nat) : Int))), some (.ref q0), o14, some (.ref qo), some (.str "call")] ∧ LInv K H bd tl fl (g :: rest) ⟨(as.drop (as.length - k)).map (Task.ev · env) ++ .call w0 :: r, f, n + 1⟩ H10 ∧ Kp H9 H10) ⟨_, rfl, ?_, .refl H9⟩ (fun _ _ _ _ _ => True.intro) (fun k y σ H11 H10 hk h yy => ?_) (fun σ H10 h => ?_)
              · rw [Nat.sub_zero, List.drop_length]
                exact I9
              · obtain ⟨e, ey⟩ := yy
                subst e ey
                obtain ⟨p8, rfl, I10, kp10⟩ := h
                have hqo10 := kp10.1.sqt hqo9
                have hka : as.length - 1 - k < as.length := by omega
                have hen : (K35.E.encs as)[as.length - 1 - k]? = some (as[as.length - 1 - k]).enc := by
                  rw [K35.E.encs_map, List.getElem?_map, List.getElem?_eq_getElem hka] <;> rfl
                obtain ⟨v, hv, tv⟩ := TVs.get tas hen
                obtain ⟨vs10, ht10, at10⟩ := id I10.t
                refine ⟨_, rfl, .inl ⟨rfl, _, SqL.of ht10⟩, _, rfl, _, rfl, qo, _, rfl, .inr hqo10, _, _, rfl, rfl, _, rfl, _, _, rfl, rfl, qo, _, _, v, rfl, rfl, hqo10, atI_nat' (j := as.length - 1 - k + 1) hv (by rw [List.length_cons]; omega), _, rfl, by show 3 ≤ sizeLine; decide, fun tp3 ntp3 => ?_⟩
                obtain ⟨t12, l12, I11, kp11⟩ := I10.push (t := .ev as[as.length - 1 - k] env) ht10 ntp3 (fun H' k h => ⟨tp3, _, _, rfl, h, ((tv.mono kp89.1).mono kp10.1).mono k.1, ((hnv.mono kp89).mono kp10).mono k⟩)
                refine ⟨tl, _, _, rfl, rfl, t12, ?_, _, rfl, ?_, kp10.trans kp11⟩
                · rw [l12]
                  refine line _ ?_
                  show ((as.drop (as.length - k)).map (Task.ev · env) ++ .call w0 :: r).length ≤ _
                  rw [List.length_append, List.length_map, List.length_drop, List.length_cons]
                  omega
                · rw [show as.length - (k + 1) = as.length - 1 - k by omega, List.drop_eq_getElem_cons hka, show as.length - 1 - k + 1 = as.length - k by omega]
                  exact I11
              · obtain ⟨p8, rfl, I10, kp10⟩ := h
                rw [Nat.sub_self, List.drop_zero] at I10
                exact next (m := n + 1) (by rw [es]; exact I10) (by rw [es]) hnl
  · obtain ⟨fl, o4, o5, o6, o7, o8, o12, o13, o14, o15, o16, rfl, I, hst, htd, hfd, hall⟩ := h
    refine ⟨by show 1 ≤ sizeLine; decide, fun rp nrp => ?_⟩
    have s8 : Same H6 (upd H6 rp (.tup [.str "tired"])) := same_new nrp _
    exact q rp _ (fun b o e => s8 _ _ (I.sm _ _ e)) (.inr ⟨upd_same, .inl hall⟩)
end
end K35
end

section
set_option Elab.async false
set_option linter.all false
set_option maxRecDepth 100000
/-! What the law's runs give, in plain words. -/
namespace K35
theorem T.partss_append : ∀ xs ys : List T, T.partss (xs ++ ys) = T.partss xs + T.partss ys
  | [], _ => by simp [T.partss]
  | x :: xs, ys => by
    rw [List.cons_append]
    simp only [T.partss]
    rw [T.partss_append xs ys]
    omega
theorem T.oks_append {xs ys : List T} (h : T.oks xs = true) (g : T.oks ys = true) : T.oks (xs ++ ys) = true :=
  T.oks_all fun x hx => (List.mem_append.mp hx).elim (T.oks_mem h) (T.oks_mem g)
section
variable {two : Bool} {test : E} {A B : List Fn} (ht : WfE [] 5 ["n"] test) (hA : Drawn A) (hB : Drawn B)
include hA hB
theorem lbody_parts (tp : test.enc.parts ≤ 1000) (tk : test.enc.ok = true) : (bodyL test A B).enc.parts ≤ 3010 ∧ (bodyL test A B).enc.ok = true := by
  have h1 := hA.parts
  have h2 := hB.parts
  refine ⟨?_, ?_⟩
  · simp only [bodyL, E.enc, T.parts, T.partss]
    omega
  · simp only [bodyL, E.enc, T.ok, T.oks, tk, hA.ok, hB.ok, Bool.and_true, Bool.true_and]
    decide +kernel
theorem lister_parts (tp : test.enc.parts ≤ 1000) (tk : test.enc.ok = true) : (encP (listerP two test A B)).parts ≤ 900000 ∧ (encP (listerP two test A B)).ok = true := by
  obtain ⟨h1, h2⟩ := lbody_parts hA hB tp tk
  cases two with
  | true =>
    refine ⟨?_, ?_⟩
    · simp only [encP, listerP, List.map_cons, List.map_nil, Fn.enc, T.parts, T.partss, E.encs, E.enc] at h1 ⊢
      omega
    · simp only [encP, listerP, List.map_cons, List.map_nil, Fn.enc, T.ok, T.oks, h2, Bool.and_true, Bool.true_and]
      decide +kernel
  | false =>
    refine ⟨?_, ?_⟩
    · simp only [encP, listerP, List.map_cons, List.map_nil, Fn.enc, T.parts, T.partss, E.encs, E.enc] at h1 ⊢
      omega
    · simp only [encP, listerP, List.map_cons, List.map_nil, Fn.enc, T.ok, T.oks, h2, Bool.and_true, Bool.true_and]
      decide +kernel
theorem listR_parts (tp : test.enc.parts ≤ 1000) (tk : test.enc.ok = true) : (encP (listR two test A B)).parts ≤ 4000 ∧ (encP (listR two test A B)).ok = true := by
  obtain ⟨h1, h2⟩ := lbody_parts hA hB tp tk
  cases two with
  | true =>
    refine ⟨?_, ?_⟩
    · simp only [encP, listR, List.map_cons, List.map_nil, Fn.enc, T.parts, T.partss, E.encs, E.enc] at h1 ⊢
      omega
    · simp only [encP, listR, List.map_cons, List.map_nil, Fn.enc, T.ok, T.oks, h2, Bool.and_true, Bool.true_and]
      decide +kernel
  | false =>
    refine ⟨?_, ?_⟩
    · simp only [encP, listR, List.map_cons, List.map_nil, Fn.enc, T.parts, T.partss, E.encs, E.enc] at h1 ⊢
      omega
    · simp only [encP, listR, List.map_cons, List.map_nil, Fn.enc, T.ok, T.oks, h2, Bool.and_true, Bool.true_and]
      decide +kernel
theorem made_parts (tp : test.enc.parts ≤ 1000) (tk : test.enc.ok = true) : (encP (madeP two test A B)).parts ≤ 100000 ∧ (encP (madeP two test A B)).ok = true := by
  obtain ⟨h1, h2⟩ := listR_parts (two := two) hA hB tp tk
  have h3 := uniR_parts
  have h4 : (encP uniR).ok = true := by decide +kernel
  have h5 : (Fn.enc ⟨mainN two, ["x1"], mbody⟩).parts ≤ 1000 := by
    cases two <;> decide +kernel
  have h6 : (Fn.enc ⟨mainN two, ["x1"], mbody⟩).ok = true := by
    cases two <;> decide +kernel
  have e : encP (madeP two test A B) = .l (Fn.enc ⟨mainN two, ["x1"], mbody⟩ :: (uniR.map Fn.enc ++ (listR two test A B).map Fn.enc)) := by
    unfold encP madeP
    rw [List.map_cons, List.map_append]
  rw [e]
  refine ⟨?_, ?_⟩
  · simp only [T.parts, T.partss, T.partss_append]
    simp only [encP, T.parts] at h1 h3
    omega
  · have h7 : T.oks (uniR.map Fn.enc ++ (listR two test A B).map Fn.enc) = true := T.oks_append h4 h2
    simp only [T.ok, T.oks, h7, Bool.and_true]
    exact h6
end
/-- two ends of one run are one -/
theorem end_one {p : List Fn} {s : MS} {k j : Nat} {f f' : List T} {n n' : Nat} (h : mit p k s = ⟨[], f, n⟩) (g : mit p j s = ⟨[], f', n'⟩) : f = f' ∧ n = n' := by
  have key : ∀ {a b : Nat} {fa fb : List T} {na nb : Nat}, a ≤ b → mit p a s = ⟨[], fa, na⟩ → mit p b s = ⟨[], fb, nb⟩ → fa = fb ∧ na = nb := by
    intro a b fa fb na nb l ha hb
    obtain ⟨d, rfl⟩ := Nat.le.dest l
    rw [mit_add, ha, mit_end] at hb
    injection hb with _ h1 h2
    exact ⟨h1, h2⟩
  rcases Nat.le_total k j with l | l
  · exact key l h g
  · obtain ⟨h1, h2⟩ := key l g h
    exact ⟨h1.symm, h2.symm⟩
/-- a run that ends is not tired -/
theorem not_tired {p : List Fn} {s : MS} {k lim : Nat} {f : List T} {n : Nat} (h : mit p k s = ⟨[], f, n⟩) (hk : k < 4 * lim + 4) (hn : n ≤ lim) (t : (∀ j, j < 4 * lim + 4 → (mit p j s).todo ≠ []) ∨ ∃ j e env r, (mit p j s).todo = .ev e env :: r ∧ (mit p j s).steps = lim) : False := by
  rcases t with t | ⟨j, e, env, r, h1, h2⟩
  · exact t k hk (by rw [h])
  · rcases Nat.lt_or_ge j k with l | l
    · obtain ⟨d, rfl⟩ := Nat.le.dest l
      rw [show j + 1 + d = j + (1 + d) by omega, mit_add, mit_add] at h
      have h3 := mit_steps p d (mit p 1 (mit p j s))
      rw [h] at h3
      have h4 : (mit p 1 (mit p j s)).steps = lim + 1 := by
        show (mstep p (mit p j s)).steps = _
        generalize mit p j s = z at h1 h2
        obtain ⟨td, fd, st⟩ := z
        cases h1
        rw [mstep_ev]
        exact congrArg (· + 1) h2
      have h5 : (mit p 1 (mit p j s)).steps ≤ n := h3
      omega
    · obtain ⟨d, rfl⟩ := Nat.le.dest l
      rw [mit_add, h, mit_end] at h1
      cases h1
/-- how deep the values of a run are -/
theorem run_deep {p : List Fn} {R0 R : Nat} (W : WfP p R0) {g : Fn} {u : T} (hg : WfE (sig p) R0 g.ps g.body) (lg : g.ps.length = 1) (h0 : R0 ≤ R) (h1 : 1 ≤ R) (hu : u.fine R) (j : Nat) (hj : R + j ≤ 1400) : ∀ v ∈ (mit p j (s0 g u)).found, v.fine (R + j) ∧ v.ok = true ∧ v.depth ≤ 1400 ∧ v.items.length ≤ 1000000 := by
  have W0 : WfS p R0 R (s0 g u) := by
    have env1 : (g.ps.zip [u]).map (·.1) = g.ps := List.map_fst_zip (by rw [lg]; exact Nat.le_refl _)
    refine ⟨fun t ht => ?_, fun v hv => (List.not_mem_nil hv).elim, rfl⟩
    rw [List.mem_singleton.mp ht]
    refine ⟨by rw [env1]; exact hg, fun q hq => ?_⟩
    have := (List.of_mem_zip hq).2
    rw [List.mem_singleton.mp this]
    exact hu
  intro v hv
  have hf := (W0.iter W h0 h1 j).found v hv
  refine ⟨hf, hf.1, Nat.le_trans (T.depth_le v) (Nat.le_trans hf.2 hj), ?_⟩
  cases v with
  | w x => exact Nat.zero_le _
  | l xs =>
    have := T.len_le xs
    have := hf.2
    show xs.length ≤ _
    omega
/-- the lister's own run -/
theorem lister_run {two : Bool} {test : E} {A B : List Fn} (ht : WfE [] 5 ["n"] test) (hA : Drawn A) (hB : Drawn B) (tp : test.enc.parts ≤ 150) (x : T) : ∃ C, Drawn C ∧ (∃ k n, mit (listerP two test A B) k ⟨[.ev (lmain two test A B) [("n", x)]], [], 0⟩ = ⟨[], [encP C], n⟩ ∧ k ≤ 310 ∧ n ≤ 155) ∧
    ∀ {env : Bs} {a : E} {i : Nat}, Bd (madeP two test A B) env a x i → Bd (madeP two test A B) env (C1 "f11" a) (encP C) (i + 160) := by
  obtain ⟨C, hC, ⟨n, h1, h2⟩, h3⟩ := lister_runs (two := two) ht x (A := A) (B := B)
  have hn := E.nodes_parts test
  have G := lister_good (two := two) ht hA hB
  have hw : WfEs (sig (listerP two test A B)) 1000 (([("n", x)] : Bs).map (·.1)) [lmain two test A B] := by
    refine ⟨?_, trivial⟩
    cases two with
    | true => exact (G.wf.ok _ (List.mem_cons_self ..)).2
    | false => exact (G.wf.ok _ (List.mem_cons_self ..)).2
  obtain ⟨k, hk, hr⟩ := run_of h1 G.wf hw [] [] 0
  refine ⟨C, by rcases hC with e | e <;> rw [e] <;> assumption, ⟨k, 0 + n, hr, by omega, by omega⟩, fun {env a i} hb => (h3 hb).mono (by omega)⟩
/-- the made program's run on a value on which the listed one ends -/
theorem made_run {two : Bool} {test : E} {A B C : List Fn} (ht : WfE [] 5 ["n"] test) (hA : Drawn A) (hB : Drawn B) (hC : Drawn C) {x : T} (hx : x.fine 5)
    (hl : ∀ {env : Bs} {a : E} {i : Nat}, Bd (madeP two test A B) env a x i → Bd (madeP two test A B) env (C1 "f11" a) (encP C) (i + 160))
    {f : Fn} {r : List Fn} (e : C = f :: r) {t : T} {k n : Nat} (h : mit C k (s0 f x) = ⟨[], [t], n⟩) (hn : n ≤ 60) :
    ∃ j m, mit (madeP two test A B) j ⟨[.ev mbody [("x1", x)]], [], 0⟩ = ⟨[], [T.cons (.w "x") t], m⟩ ∧ m ≤ 40000 ∧ j ≤ 100000 ∧ t.fine 65 := by
  have hps : f.ps = [PySem.Str.ofString "x"] := by
    obtain ⟨f', r', e', h'⟩ := hC.head
    rw [e] at e'
    injection e' with e1 _
    rw [e1, h']
  have hwf := hC.good.wf.ok f (by rw [e]; exact List.mem_cons_self ..)
  have hw : WfEs (sig C) 5 ((f.ps.zip [x]).map (·.1)) [f.body] := by
    refine ⟨?_, trivial⟩
    rw [List.map_fst_zip (by rw [hps]; exact Nat.le_refl _)]
    exact hwf.2
  obtain ⟨vs, n', j, h1, _, h2⟩ := worth_of hC.good.wf k [f.body] (f.ps.zip [x]) [] [] 0 hw h
  rw [mit_end] at h2
  injection h2 with _ h3 h4
  have e1 : vs = [t] := by
    rw [List.append_nil] at h3
    rw [← List.reverse_reverse vs, h3]
    rfl
  have e2 : n' = n := by omega
  have hf : t.fine 65 := by
    have z := ev_fine hC.good.wf h1 5 (Nat.le_refl _) (by decide) hw (fun q hq => by rw [List.mem_singleton.mp (List.of_mem_zip hq).2]; exact hx) t (by rw [e1]; exact List.mem_singleton.mpr rfl)
    exact z.mono (by omega)
  rw [e1, e2, hps] at h1
  obtain ⟨m, h5, h6⟩ := made_runs hC (hl (bd_var rfl)) e h1
  have G := made_good (two := two) ht hA hB
  have hw2 : WfEs (sig (madeP two test A B)) 1000 (([("x1", x)] : Bs).map (·.1)) [mbody] := ⟨(G.wf.ok _ (List.mem_cons_self ..)).2, trivial⟩
  obtain ⟨i, hi, hr⟩ := run_of h5 G.wf hw2 [] [] 0
  exact ⟨i, 0 + m, hr, by omega, by omega, hf⟩
theorem cons_ne (t : T) : T.cons (.w "x") t ≠ t := fun e => by
  cases t with
  | w x => cases e
  | l xs =>
    have e1 : (T.w "x" :: xs) = xs := T.l.inj e
    have e2 := congrArg List.length e1
    rw [List.length_cons] at e2
    omega
end K35
end

section
set_option Elab.async false
set_option linter.all false
set_option maxRecDepth 100000
set_option maxHeartbeats 4000000
/-! The law. -/
namespace K35
open PySem PySem.Spec PyProof.Rows L2
theorem sc_law : FnScope ["_law_script", "_law_hand", "_law_first", "_law_second", "_law_test", "_law_told", "_law_lister", "_law_made", "_law_value_here", "_law_given", "_law_listed", "_law_items", "_law_run_here"] ["_law_script"] (defScope s_law) := ⟨rfl, rfl, rfl, by decide +kernel, rfl, by decide +kernel, by decide +kernel⟩
section
variable {P : Program} {w : World} {K : PySem.W.Frag} {mg : Str → Option Value} (C : Ctx w K mg)
include C
def spLaw (K : PySem.W.Frag) : Sp := fun vs H Q _ => ∃ (l : Addr) (ns : List Int), vs = [.ref l] ∧ SqL K H l (ns.map L2.V.int) ∧ ns.length ≤ 1000 ∧ ∀ H', Q (.bl true) H'
theorem ok_law : ∃ (f : Addr) (fd : FuncData), mg "law" = some (.ref f) ∧ (∀ (s : Shared) (v : Value), BindsTo s fd ⟨[v], []⟩ [("_law_script", v)]) ∧ ∀ base : Heap, FnOk P w K mg base CX0 83 f fd ["_law_script"] (spLaw K) := by
  obtain ⟨fd, F⟩ := C.f_law
  have b := FunD.bindsA (ps := ["_law_script"]) F fun _ _ _ _ _ _ us hl => match us, hl with | [_], _ => rfl
  refine ⟨_, fd, C.g_law, fun s v => b s [v] rfl, fun base => ?_⟩
  have F_law_draws := ok_draws C (P := P) (base := base)
  have F_law_program := ok_program C (P := P) (base := base)
  have F_law_expression := ok_expression C (P := P) (base := base) 2
  have F_law_value := ok_value C (P := P) (base := base) 2
  have F_law_take := ok_take C (P := P) (base := base)
  have F_refute_list := ok_refute_list C (P := P) (base := base)
  have F_check_program := ok_check_program C (P := P) (base := base)
  have F_law_run := ok_law_run C (P := P) (base := base)
  have F_law_small := ok_law_small C (P := P) (base := base)
  have F_run_program := ok_run_program C (P := P) (base := base)
  refine F.ok sc_law (fun vs H Q E h => ?_) (fun cdv A outer s H vs Q E hr h => ?_)
  · obtain ⟨l, ns, rfl, _⟩ := h
    rfl
  obtain ⟨l, ns, rfl, hl, ln, q⟩ := h
  refine ⟨_, (pss_cons (ps_set (i := 1) sc_law.nd rfl (Or.inl rfl) (pe_lst (pa_cons (pe_fn F_law_draws (hr.mono (by first | decide | omega)) (by rfl) (pa_cons (pv 0) (pa_cons pe_int pa_nil))) (pa_cons pe_int pa_nil))))
  (pss_cons (ps_set (i := 2) sc_law.nd rfl (Or.inl rfl) (pe_fn F_law_program (hr.mono (by first | decide | omega)) (by rfl) (pa_cons (pv 1) (pa_cons pe_int pa_nil))))
  (pss_cons (ps_set (i := 3) sc_law.nd rfl (Or.inl rfl) (pe_fn F_law_program (hr.mono (by first | decide | omega)) (by rfl) (pa_cons (pv 1) (pa_cons pe_int pa_nil))))
  (pss_cons (ps_set (i := 4) sc_law.nd rfl (Or.inl rfl) (pe_fn F_law_expression (hr.mono (by first | decide | omega)) (by rfl) (pa_cons (pv 1) (pa_cons (pe_tup (pa_cons pe_str pa_nil)) (pa_cons (pe_lst pa_nil) (pa_cons pe_int pa_nil))))))
  (pss_cons (ps_set (i := 5) sc_law.nd rfl (Or.inl rfl) (pe_tup (pa_cons pe_str (pa_cons (pe_tup (pa_cons pe_str pa_nil)) (pa_cons (pe_tup (pa_cons pe_str (pa_cons (pv 4) (pa_cons (pe_tup (pa_cons pe_str (pa_cons (pv 2) pa_nil))) (pa_cons (pe_tup (pa_cons pe_str (pa_cons (pv 3) pa_nil))) pa_nil))))) pa_nil)))))
  (pss_cons (ps_set (i := 6) sc_law.nd rfl (Or.inl rfl) (pe_ix ix_list (pe_lst (pa_cons (pe_tup (pa_cons (pe_op op_catA (pe_tup (pa_cons pe_str pa_nil)) (pe_slice sl_tupA (pv 5) (po_some pe_int) po_none)) pa_nil)) (pa_cons (pe_tup (pa_cons (pe_tup (pa_cons pe_str (pa_cons (pe_tup (pa_cons pe_str pa_nil)) (pa_cons (pe_tup (pa_cons pe_str (pa_cons pe_str pa_nil))) pa_nil)))) (pa_cons (pv 5) pa_nil))) pa_nil))) (pe_fn F_law_take (hr.mono (by first | decide | omega)) (by rfl) (pa_cons (pv 1) (pa_cons pe_int pa_nil))) (fun _ _ => rfl)))
  (pss_cons (ps_set (i := 7) sc_law.nd rfl (Or.inl rfl) (pe_fn F_refute_list (hr.mono (by first | decide | omega)) (by rfl) (pa_cons (pv 6) pa_nil)))
  (pss_cons (ps_if (PW.pt (pw_or (pt_cmpR op_notN (pe_fn F_check_program (hr.mono (by first | decide | omega)) (by rfl) (pa_cons (pv 7) pa_nil)) pe_non (nomark _)) (pw_or1 (pt_cmpR op_ne (pe_callB call_len_seq (by rfl) C.z_len PySem.boot_len (pa_cons (pe_ix ix_tup (pe_ix ix_tup (pv 7) pe_int (fun _ _ => rfl)) pe_int (fun _ _ => rfl)) pa_nil)) pe_int (nomark _))))) (pss_one (ps_ret pe_bl)) pss_nil)
  (pss_cons (ps_set (i := 8) sc_law.nd rfl (Or.inl rfl) (pe_fn F_law_value (hr.mono (by first | decide | omega)) (by rfl) (pa_cons (pv 1) (pa_cons pe_int pa_nil))))
  (pss_cons (ps_set (i := 9) sc_law.nd rfl (Or.inl rfl) (pe_fn F_law_run (hr.mono (by first | decide | omega)) (by rfl) (pa_cons (pv 6) (pa_cons (pe_lst (pa_cons (pv 8) pa_nil)) (pa_cons pe_int pa_nil)))))
  (pss_cons (ps_set (i := 10) sc_law.nd rfl (Or.inl rfl) (pe_fn F_law_run (hr.mono (by first | decide | omega)) (by rfl) (pa_cons (pe_ix ix_tup (pv 9) pe_int (fun _ _ => rfl)) (pa_cons (pe_lst (pa_cons (pv 8) pa_nil)) (pa_cons pe_int pa_nil)))))
  (pss_cons (ps_if (PW.pt (pw_or (pt_cmpR op_ne (pe_ix ix_tup (pv 10) pe_int (fun _ _ => rfl)) pe_str (nomark _)) (pw_or1 (pt_not (pt_val (pe_fn F_law_small (hr.mono (by first | decide | omega)) (by rfl) (pa_cons (pe_ix ix_tup (pv 10) pe_int (fun _ _ => rfl)) pa_nil))))))) (pss_one (ps_ret pe_bl)) pss_nil)
  (pss_cons (ps_set (i := 11) sc_law.nd rfl (Or.inl rfl) (pe_ix ix_tup (pv 10) pe_int (fun _ _ => rfl)))
  (pss_cons (ps_if (pt_val (pe_callB call_isS (by rfl) C.z_isinstance (by decide +kernel) (pa_cons (pv 11) (pa_cons (pe_bltn (v := .ty "str") (by rfl) C.z_str (by decide +kernel) rfl) pa_nil)))) (pss_one (ps_set (i := 11) sc_law.nd rfl (Or.inl rfl) (pe_tup pa_nil))) pss_nil)
  (pss_cons (ps_set (i := 12) sc_law.nd rfl (Or.inl rfl) (pe_fn F_run_program (hr.mono (by first | decide | omega)) (by rfl) (pa_cons (pv 7) (pa_cons (pe_lst (pa_cons (pv 8) pa_nil)) (pa_cons pe_int pa_nil)))))
  (pss_one (ps_ret (pe_and (pe_cmpR op_eq (pe_fld (pv 12) rfl) pe_str (nomark _)) (pe_and (pe_cmpR (op_eqT hr) (pe_fld (pv 12) rfl) (pe_op op_catA (pe_tup (pa_cons pe_str pa_nil)) (pv 11)) (nomark _)) (pe_one (pe_cmpR (op_neT hr) (pe_fld (pv 12) rfl) (pe_ix ix_tup (pv 10) pe_int (fun _ _ => rfl)) (nomark _)))))))))))))))))))))), ?_⟩
  -- the hand
  refine ⟨_, rfl, l, ns, 200, rfl, hl, ln, by decide, fun D xs H1 s1 hD nD lxs => ?_⟩
  refine ⟨by show 2 ≤ sizeLine; decide, fun hp nhp => ?_⟩
  have hne : hp ≠ D := (ne_of_none hD nhp).symm
  obtain ⟨G, eG⟩ : ∃ G : Hand, G = ⟨hp, D, xs⟩ := ⟨_, rfl⟩
  have hG : G.At (upd H1 hp (.lst [.ref D, .int 0])) := by
    rw [eG]
    exact ⟨hne, ⟨0, upd_same⟩, (upd_ne hne.symm).trans hD⟩
  have ehp : hp = G.h := by rw [eG]
  clear eG
  subst ehp
  generalize upd H1 G.h (.lst [.ref D, .int 0]) = H2 at *
  -- two programs
  refine ⟨_, rfl, G, rfl, hG, fun A va H3 dA tA hG3 f3 => ?_⟩
  refine ⟨_, rfl, G, rfl, hG3, fun B vb H4 dB tB hG4 f4 => ?_⟩
  have tA4 := tA.mono (f4.tk hG3)
  -- the test
  refine ⟨_, rfl, by show 1 ≤ sizeLine; decide, fun p1 n1 => ⟨Nat.zero_le _, fun c1 nc1 => ?_⟩⟩
  obtain ⟨s5, t1⟩ := tv_new (K := K) (ts := [.w "n"]) (vs := [.str "n"]) (.one rfl) n1
  have s6 := same_new nc1 (HO.lst [])
  have hc1 : upd (upd H4 p1 (.tup [.str "n"])) c1 (.lst []) c1 = some (.lst []) := upd_same
  have s46 : Same H4 (upd (upd H4 p1 (.tup [.str "n"])) c1 (.lst [])) := fun b o e => s6 _ _ (s5 _ _ e)
  have t1' := t1.mono (Tk.same s6)
  have nc : c1 ≠ G.h := ((hG4.same s5).ne nc1).1
  generalize upd (upd H4 p1 (.tup [.str "n"])) c1 (.lst []) = H6 at *
  refine ⟨G, ["n"], [], c1, _, rfl, hG4.same s46, t1', by decide, by decide +kernel, ⟨[], hc1, rfl⟩, nc, by decide, (fun _ h => nomatch h), fun test vt H7 dt tt hG7 f7 => ?_⟩
  have k47 : Tk H4 H7 := (Tk.same s46).trans (f7.tk (hG4.same s46))
  have tA7 := tA4.mono k47
  have tB7 := tB.mono k47
  clear s5 s6 t1 t1' hc1 s46 nc f3 f4 f7 hG3 hG4
  -- what is told
  refine ⟨by show 1 ≤ sizeLine; decide, fun p2 n2 => ?_⟩
  obtain ⟨s8, t2⟩ := tv_new (K := K) (ts := [.w "n"]) (vs := [.str "n"]) (.one rfl) n2
  generalize upd H7 p2 (.tup [.str "n"]) = H8 at *
  refine ⟨_, rfl, _, rfl, by show 2 ≤ sizeLine; decide, fun p3 n3 => ?_⟩
  obtain ⟨s9, t3⟩ := tv_new (K := K) (ts := [.w "quote", encP A]) (vs := [.str "quote", va]) (.cons rfl (.one (tA7.mono (Tk.same s8)))) n3
  generalize upd H8 p3 (.tup [.str "quote", va]) = H9 at *
  have s79 : Same H7 H9 := fun b o e => s9 _ _ (s8 _ _ e)
  refine ⟨_, rfl, by show 2 ≤ sizeLine; decide, fun p4 n4 => ?_⟩
  obtain ⟨s10, t4⟩ := tv_new (K := K) (ts := [.w "quote", encP B]) (vs := [.str "quote", vb]) (.cons rfl (.one (tB7.mono (Tk.same s79)))) n4
  generalize upd H9 p4 (.tup [.str "quote", vb]) = H10 at *
  have s710 : Same H7 H10 := fun b o e => s10 _ _ (s79 _ _ e)
  refine ⟨by show 4 ≤ sizeLine; decide, fun p5 n5 => ?_⟩
  obtain ⟨s11, t5⟩ := tv_new (K := K) (ts := [.w "if", test.enc, .l [.w "quote", encP A], .l [.w "quote", encP B]]) (vs := [.str "if", vt, .ref p3, .ref p4]) (.cons rfl (.cons (tt.mono (Tk.same s710)) (.cons (t3.mono (Tk.same s10)) (.one t4)))) n5
  generalize upd H10 p5 (.tup [.str "if", vt, .ref p3, .ref p4]) = H11 at *
  have s811 : Same H8 H11 := fun b o e => s11 _ _ (s10 _ _ (s9 _ _ e))
  refine ⟨by show 3 ≤ sizeLine; decide, fun p6 n6 => ?_⟩
  have tail11 : TVs K H11 [.l [.w "n"], (bodyL test A B).enc] [.ref p2, .ref p5] := .cons (t2.mono (Tk.same s811)) (.one t5)
  have s12 : Same H11 (upd H11 p6 (.tup [.str "apply", .ref p2, .ref p5])) := same_new n6 _
  have hp6 : upd H11 p6 (.tup [.str "apply", .ref p2, .ref p5]) p6 = some (.tup [.str "apply", .ref p2, .ref p5]) := upd_same
  generalize upd H11 p6 (.tup [.str "apply", .ref p2, .ref p5]) = H12 at *
  have tail12 := TVs.mono (Tk.same s12) tail11
  have told12 : TV K H12 (Fn.enc ⟨"apply", ["n"], bodyL test A B⟩) (.ref p6) := ⟨p6, _, rfl, .inl (.of hp6), .cons rfl tail12⟩
  have s712 : Same H7 H12 := fun b o e => s12 _ _ (s811 _ _ (s8 _ _ e))
  have hG12 := hG7.same s712
  clear s8 s9 s10 s11 s12 s79 s710 s811 t2 t3 t4 t5 tail11 s712 hG7
  -- the lister
  refine ⟨by show 1 ≤ sizeLine; decide, fun q1 nq1 => ?_⟩
  obtain ⟨s13, t1⟩ := tv_new (K := K) (ts := [.w "lister"]) (vs := [.str "lister"]) (.one rfl) nq1
  generalize upd H12 q1 (.tup [.str "lister"]) = H13 at *
  refine ⟨_, rfl, _, rfl, p6, _, rfl, .inl (.of (s13 _ _ hp6)), fun z => ?_, fun z p7 n7 => ?_⟩
  · have z1 := z.1
    rw [show (1 : Int) = ((1 : Nat) : Int) from rfl, HT.sIx_nat] at z1
    exact absurd z1 (by show ¬ (1 = 0); decide)
  have ecut : cutV [L2.V.str "apply", .ref p2, .ref p5] (some 1) none = [.ref p2, .ref p5] := cut_from _ 1
  rw [ecut]
  obtain ⟨s14, t7⟩ := tv_new (K := K) (TVs.mono (Tk.same s13) tail12) n7
  refine catA (t1.mono (Tk.same s14)) t7 (by show 1 + 2 ≤ 2000000; decide) fun v1 H15 s15 tl1 => ?_
  have s1215 : Same H12 H15 := fun b o e => s15 _ _ (s14 _ _ (s13 _ _ e))
  clear s13 s14 s15 t1 t7
  refine ⟨by show 1 ≤ sizeLine; decide, fun q2 nq2 => ?_⟩
  obtain ⟨s16, tL1⟩ := tv_new (K := K) (ts := [Fn.enc ⟨"lister", ["n"], bodyL test A B⟩]) (vs := [v1]) (.one tl1) nq2
  generalize upd H15 q2 (.tup [v1]) = H16 at *
  refine ⟨by show 1 ≤ sizeLine; decide, fun q3 nq3 => ?_⟩
  obtain ⟨s17, t3⟩ := tv_new (K := K) (ts := [.w "n"]) (vs := [.str "n"]) (.one rfl) nq3
  generalize upd H16 q3 (.tup [.str "n"]) = H17 at *
  refine ⟨by show 2 ≤ sizeLine; decide, fun q4 nq4 => ?_⟩
  obtain ⟨s18, t4⟩ := tv_new (K := K) (ts := [.w "apply", .w "n"]) (vs := [.str "apply", .str "n"]) (.cons rfl (.one rfl)) nq4
  generalize upd H17 q4 (.tup [.str "apply", .str "n"]) = H18 at *
  refine ⟨by show 3 ≤ sizeLine; decide, fun q5 nq5 => ?_⟩
  obtain ⟨s19, t5⟩ := tv_new (K := K) (ts := [.w "main", .l [.w "n"], .l [.w "apply", .w "n"]]) (vs := [.str "main", .ref q3, .ref q4]) (.cons rfl (.cons (t3.mono (Tk.same s18)) (.one t4))) nq5
  generalize upd H18 q5 (.tup [.str "main", .ref q3, .ref q4]) = H19 at *
  have s1519 : Same H16 H19 := fun b o e => s19 _ _ (s18 _ _ (s17 _ _ e))
  have s1219 : Same H12 H19 := fun b o e => s1519 _ _ (s16 _ _ (s1215 _ _ e))
  refine ⟨_, rfl, by show 2 ≤ sizeLine; decide, fun q6 nq6 => ?_⟩
  obtain ⟨s20, tL2⟩ := tv_new (K := K) (ts := [.l [.w "main", .l [.w "n"], .l [.w "apply", .w "n"]], Fn.enc ⟨"apply", ["n"], bodyL test A B⟩]) (vs := [.ref q5, .ref p6]) (.cons t5 (.one (told12.mono (Tk.same s1219)))) nq6
  have tL1' := (tL1.mono (Tk.same s1519)).mono (Tk.same s20)
  have hG20 := (hG12.same s1219).same s20
  generalize upd H19 q6 (.tup [.ref q5, .ref p6]) = H20 at *
  refine ⟨by show 2 ≤ sizeLine; decide, fun pl npl => ?_⟩
  have s21 : Same H20 (upd H20 pl (.lst [.ref q2, .ref q6])) := same_new npl _
  have hpl : upd H20 pl (.lst [.ref q2, .ref q6]) pl = some (.lst [.ref q2, .ref q6]) := upd_same
  have hplG := (hG20.ne npl).1
  have hG21 := hG20.same s21
  have tL1 := tL1'.mono (Tk.same s21)
  have tL2 := tL2.mono (Tk.same s21)
  generalize upd H20 pl (.lst [.ref q2, .ref q6]) = H21 at *
  clear s16 s17 s18 s19 s20 s21 s1519 s1219 s1215 tl1 t3 t4 t5 tL1' hG20 hG12 told12 tail12 hp6
  refine ⟨_, rfl, G, 2, rfl, hG21, by decide, fun v H22 hG22 f22 hv => ?_⟩
  have k22 := f22.tk hG21
  have hpl22 := f22 _ _ hpl hplG
  obtain ⟨two, vl, hvl, tl⟩ : ∃ (two : Bool) (vl : L2.V), [L2.V.ref q2, .ref q6][v]? = some vl ∧ TV K H22 (encP (listerP two test A B)) vl := by
    match v, hv with
    | 0, _ => exact ⟨false, _, rfl, tL1.mono k22⟩
    | 1, _ => exact ⟨true, _, rfl, tL2.mono k22⟩
  refine ⟨pl, _, _, _, rfl, rfl, SqL.of hpl22, atI_nat hvl, ?_⟩
  clear tL1 tL2 hvl hpl hpl22 f22 hG21 k22
  -- what is made of it
  have tpp : test.enc.parts ≤ 150 := Nat.le_trans dt.parts (by decide)
  obtain ⟨lp, lk2⟩ := lister_parts (two := two) dA dB (Nat.le_trans tpp (by decide)) dt.ok
  obtain ⟨mp, mk⟩ := made_parts (two := two) dA dB (Nat.le_trans tpp (by decide)) dt.ok
  have LG := lister_good (two := two) dt.wf dA dB
  have MG := made_good (two := two) dt.wf dA dB
  have ml : (madeP two test A B).length ≤ 1000 := by
    cases two
    · show 13 ≤ 1000
      decide
    · show 14 ≤ 1000
      decide
  refine ⟨_, rfl, two, test, A, B, vl, rfl, dt.wf, dA, dB, tl, lp, fun vm H23 s23 tm => ?_⟩
  have hG23 := hG22.same s23
  have tl23 := tl.mono (Tk.same s23)
  clear tl s23 hG22
  refine ⟨_, rfl, _, _, vm, rfl, MG, tm, Nat.le_trans mp (by decide), ml, fun H24 s24 => ⟨rfl, _, rfl, ite_b (fun hb => nomatch hb) (fun _ => ?_)⟩⟩
  have hG24 := hG23.same s24
  have tl24 := tl23.mono (Tk.same s24)
  have tm24 := tm.mono (Tk.same s24)
  clear tl23 tm s24 hG23
  obtain ⟨ma, ms, rfl, hma, w1, r1, rfl, tw, _⟩ := id tm24
  obtain ⟨ma1, ms1, rfl, hma1, w2, r2, rfl, _, w3, r3, rfl, tw3, _⟩ := id tw
  obtain ⟨ma2, ms2, rfl, hma2, tw4⟩ := id tw3
  have l4 := tw4.length
  have l4 : ms2.length = 1 := l4
  refine ⟨_, rfl, ma, _, _, _, rfl, rfl, hma, atI_nat (j := 0) rfl, ma1, _, _, _, rfl, rfl, hma1, atI_nat (j := 1) rfl, _, _, rfl, .inr hma2, rfl, _, rfl, ?_⟩
  rw [l4]
  refine ite_b (fun hb => nomatch hb) (fun _ => ?_)
  clear hma hma1 hma2 tw tw3 tw4 l4
  -- a value
  refine ⟨_, rfl, G, rfl, hG24, fun x vx H25 ox tx hG25 f25 => ?_⟩
  have k25 := f25.tk hG24
  have tl25 := tl24.mono k25
  have tm25 := tm24.mono k25
  clear f25 k25 tl24 tm24 hG24
  have fx : x.fine 5 := ⟨ox.ok, ox.rank⟩
  have xp : x.parts ≤ 100000 := Nat.le_trans ox.parts (by decide)
  -- the lister's run
  obtain ⟨Cc, dC, ⟨k0, n0, hrun, hk0, hn0⟩, hbd⟩ := lister_run (two := two) dt.wf dA dB tpp x
  obtain ⟨g, rest, hpg, hps, hbody⟩ : ∃ g rest, listerP two test A B = g :: rest ∧ g.ps = [Str.ofString "n"] ∧ g.body = lmain two test A B := by
    cases two
    · exact ⟨_, _, rfl, rfl, rfl⟩
    · exact ⟨_, _, rfl, rfl, rfl⟩
  have hs0 : s0 g x = ⟨[.ev (lmain two test A B) [("n", x)]], [], 0⟩ := by
    unfold s0
    rw [hps, hbody]
    rfl
  rw [← hs0] at hrun
  have lg : g.ps.length = 1 := by rw [hps] <;> rfl
  refine ⟨_, rfl, _, rfl, by show 1 ≤ sizeLine; decide, fun r1 nr1 => ?_⟩
  have s26 : Same H25 (upd H25 r1 (.lst [vx])) := same_new nr1 _
  have hr1 : upd H25 r1 (.lst [vx]) r1 = some (.lst [vx]) := upd_same
  generalize upd H25 r1 (.lst [vx]) = H26 at *
  refine ⟨listerP two test A B, 1000, 1000, g, rest, r1, x, vl, vx, 1000, rfl, LG, hpg, lg, tl25.mono (Tk.same s26), hr1, tx.mono (Tk.same s26), Nat.le_refl _, by decide, fx.mono (by decide), Nat.le_refl _, ?_, fun j hj hnz v hv => ?_, fun tp H27 s27 hd => ?_⟩
  · cases two
    · show 1 ≤ 1000
      decide
    · show 2 ≤ 1000
      decide
  · have hjk : j < k0 := by
      rcases Nat.lt_or_ge j k0 with l | l
      · exact l
      · obtain ⟨d, rfl⟩ := Nat.le.dest l
        rw [mit_add, hrun, mit_end] at hnz
        exact absurd rfl hnz
    exact (run_deep LG.wf (LG.wf.ok g (by rw [hpg]; exact List.mem_cons_self ..)).2 lg (Nat.le_refl _) (by decide) (fx.mono (by decide)) j (by omega) v hv).2
  obtain ⟨tg, htp, ttg⟩ : ∃ tg : L2.V, (∃ n : Int, H27 tp = some (.tup [.str "done", tg, .int n])) ∧ TV K H27 (encP Cc) tg := by
    rcases hd with ⟨k1, t1, m1, tv1, _, h1, _, h2, h3⟩ | ⟨_, h1⟩
    · obtain ⟨e1, _⟩ := end_one hrun h1
      cases e1
      exact ⟨tv1, ⟨_, h2⟩, h3⟩
    · exact (not_tired hrun (by omega) (by omega) h1).elim
  obtain ⟨n1, htp⟩ := htp
  have s2527 : Same H25 H27 := fun b o e => s27 _ _ (s26 _ _ e)
  clear hd s26 s27
  -- the listed program's run
  obtain ⟨f, rc, eC, hpsC⟩ := dC.head
  have lf : f.ps.length = 1 := by rw [hpsC] <;> rfl
  refine ⟨_, rfl, tp, _, _, _, rfl, rfl, .inl (.of htp), atI_nat (j := 1) rfl, _, rfl, by show 1 ≤ sizeLine; decide, fun r2 nr2 => ?_⟩
  have s28 : Same H27 (upd H27 r2 (.lst [vx])) := same_new nr2 _
  have hr2 : upd H27 r2 (.lst [vx]) r2 = some (.lst [vx]) := upd_same
  generalize upd H27 r2 (.lst [vx]) = H28 at *
  have s2528 : Same H25 H28 := fun b o e => s28 _ _ (s2527 _ _ e)
  refine ⟨Cc, 5, 5, f, rc, r2, x, tg, vx, 60, rfl, dC.good, eC, lf, ttg.mono (Tk.same s28), hr2, tx.mono (Tk.same s2528), Nat.le_refl _, by decide, fx, by decide, Nat.le_trans dC.len (by decide), fun j hj _ v hv => (run_deep dC.good.wf (dC.good.wf.ok f (by rw [eC]; exact List.mem_cons_self ..)).2 lf (Nat.le_refl _) (by decide) fx j (by omega) v hv).2, fun tp2 H29 s29 hd => ?_⟩
  have s2529 : Same H25 H29 := fun b o e => s29 _ _ (s2528 _ _ e)
  clear s28 s29 s2527 s2528 htp
  have no : ∀ {a b : Str} {A : Prop}, decide (L2.V.str a = L2.V.str b) = true → a ≠ b → A := fun {a b A} h e => absurd (L2.V.str.inj (of_decide_eq_true h)) e
  rcases hd with ⟨k1, t, m1, tv, _, h1, hm1, htp2, tt2⟩ | ⟨htp2, _⟩
  · obtain ⟨j, m, hrun2, hm, hj, ft⟩ := made_run (two := two) dt.wf dA dB dC fx (@hbd) eC h1 hm1
    have ft1 : (T.cons (.w "x") t).fine 66 := T.fine_cons (show (T.w "x").fine 65 from ⟨by decide +kernel, Nat.zero_le _⟩) ft (by decide)
    refine ⟨_, rfl, tp2, _, _, _, rfl, rfl, .inl (.of htp2), atI_nat (j := 0) rfl, rfl, _, rfl, ite_b (fun hb => ?_) (fun _ => ?_)⟩
    · exact q _
    refine ⟨_, rfl, tp2, _, _, _, rfl, rfl, .inl (.of htp2), atI_nat (j := 1) rfl, t, tv, rfl, tt2, Nat.le_trans ft.2 (by decide), fun b H30 s30 hb => ?_⟩
    have s2530 : Same H25 H30 := fun c o e => s30 _ _ (s2529 _ _ e)
    have htp3 := s30 _ _ htp2
    have tt3 := tt2.mono (Tk.same s30)
    refine ⟨_, rfl, ite_b (fun _ => q _) (fun hnb => ?_)⟩
    have hbp : t.parts ≤ 20000 := hb (by cases b <;> first | rfl | cases hnb)
    refine ⟨_, rfl, tp2, _, _, _, rfl, rfl, .inl (.of htp3), atI_nat (j := 1) rfl, _, rfl, tv, t, rfl, tt3, _, rfl, ?_⟩
    cases t with
    | w y =>
      refine ite_b (fun _ => ?_) (fun hb => nomatch hb)
      refine ⟨Nat.zero_le _, fun p0 n0 => ?_⟩
      obtain ⟨s31, t31⟩ := tv_new (K := K) (ts := []) (vs := []) rfl n0
      generalize upd H30 p0 (.tup []) = H31 at *
      have s2531 : Same H25 H31 := fun c o e => s31 _ _ (s2530 _ _ e)
      have htp4 := s31 _ _ htp3
      have tt4 := tt3.mono (Tk.same s31)
      have tpz : (T.cons (.w "x") (.w y)).parts ≤ 200000 := by
        have z := hbp
        simp only [T.cons, T.items, T.parts, T.partss] at z ⊢
        omega
      refine ⟨_, rfl, _, rfl, by show 1 ≤ sizeLine; decide, fun r3 nr3 => ?_⟩
      have s32 : Same H31 (upd H31 r3 (.lst [vx])) := same_new nr3 _
      have hr3 : upd H31 r3 (.lst [vx]) r3 = some (.lst [vx]) := upd_same
      generalize upd H31 r3 (.lst [vx]) = H32 at *
      have s2532 : Same H25 H32 := fun c o e => s32 _ _ (s2531 _ _ e)
      refine ⟨madeP two test A B, 1000, 1000, _, _, r3, x, (T.cons (.w "x") (.w y)), _, vx, 40000, j, m, rfl, MG, rfl, rfl, tm25.mono (Tk.same s2532), hr3, tx.mono (Tk.same s2532), mk, mp, ml, xp, Nat.le_refl _, by decide, fx.mono (by decide), hrun2, hm, hj, tpz, Nat.le_trans (T.depth_le _) (Nat.le_trans ft1.2 (by decide)), fun ra dx vv H33 s33 hra tvv => ?_⟩
      refine ⟨_, rfl, ra, _, dx, _, _, rfl, hra, C.c_Run, C.n_Run_kind, rfl, rfl, _, rfl, ite_b (fun _ => ?_) (fun hb => nomatch hb)⟩
      refine ⟨_, rfl, ra, _, dx, _, _, rfl, hra, C.c_Run, C.n_Run_value, rfl, by show 1 ≤ sizeLine; decide, fun q1 nq1 => ?_⟩
      obtain ⟨s34, t34⟩ := tv_new (K := K) (ts := [.w "x"]) (vs := [.str "x"]) (.one rfl) nq1
      generalize upd H33 q1 (.tup [.str "x"]) = H34 at *
      have sZ : Same H31 H34 := fun c o e => s34 _ _ (s33 _ _ (s32 _ _ e))
      refine ⟨_, rfl, catA t34 (t31.mono (Tk.same sZ)) (by show 1 + 0 ≤ 2000000; omega) fun vc H35 s35 tc => ?_⟩
      have sY : Same H31 H35 := fun c o e => s35 _ _ (sZ _ _ e)
      have hra5 := s35 _ _ (s34 _ _ hra)
      have tv5 := tvv.mono (Tk.same (fun c o e => s35 _ _ (s34 _ _ e) : Same H33 H35))
      have ft2 : ((T.cons (.w "x") (.w y))).depth ≤ 66 := Nat.le_trans (T.depth_le _) ft1.2
      refine ⟨(T.cons (.w "x") (.w y)), (T.cons (.w "x") (.w y)), tv5, tc, ft1.1, ft1.1, Nat.le_trans (Nat.min_le_left _ _) (Nat.le_trans ft2 (by decide)), _, rfl, ite_b (fun _ => ?_) (fun hb => ?_)⟩
      · refine ⟨_, rfl, ra, _, dx, _, _, rfl, hra5, C.c_Run, C.n_Run_value, rfl, _, rfl, tp2, _, _, _, rfl, rfl, .inl (.of (sY _ _ htp4)), atI_nat (j := 1) rfl, (T.cons (.w "x") (.w y)), (.w y), tv5, tt4.mono (Tk.same sY), ft1.1, ft.1, Nat.le_trans (Nat.min_le_left _ _) (Nat.le_trans ft2 (by decide)), ?_⟩
        rw [decide_eq_false (cons_ne _)]
        exact q _
      · rw [decide_eq_true rfl] at hb
        cases hb
    | l ys =>
      refine ite_b (fun hb => nomatch hb) (fun _ => ?_)
      obtain ⟨ta, ws, rfl, hta, _⟩ := id tt3
      have hly : ys.length ≤ 65 := by
        have z1 := T.len_le ys
        have z2 := ft.2
        omega
      have tpz : (T.cons (.w "x") (.l ys)).parts ≤ 200000 := by
        have z := hbp
        simp only [T.cons, T.items, T.parts, T.partss] at z ⊢
        omega
      refine ⟨_, rfl, _, rfl, by show 1 ≤ sizeLine; decide, fun r3 nr3 => ?_⟩
      have s32 : Same H30 (upd H30 r3 (.lst [vx])) := same_new nr3 _
      have hr3 : upd H30 r3 (.lst [vx]) r3 = some (.lst [vx]) := upd_same
      generalize upd H30 r3 (.lst [vx]) = H32 at *
      have s2532 : Same H25 H32 := fun c o e => s32 _ _ (s2530 _ _ e)
      refine ⟨madeP two test A B, 1000, 1000, _, _, r3, x, (T.cons (.w "x") (.l ys)), _, vx, 40000, j, m, rfl, MG, rfl, rfl, tm25.mono (Tk.same s2532), hr3, tx.mono (Tk.same s2532), mk, mp, ml, xp, Nat.le_refl _, by decide, fx.mono (by decide), hrun2, hm, hj, tpz, Nat.le_trans (T.depth_le _) (Nat.le_trans ft1.2 (by decide)), fun ra dx vv H33 s33 hra tvv => ?_⟩
      refine ⟨_, rfl, ra, _, dx, _, _, rfl, hra, C.c_Run, C.n_Run_kind, rfl, rfl, _, rfl, ite_b (fun _ => ?_) (fun hb => nomatch hb)⟩
      refine ⟨_, rfl, ra, _, dx, _, _, rfl, hra, C.c_Run, C.n_Run_value, rfl, by show 1 ≤ sizeLine; decide, fun q1 nq1 => ?_⟩
      obtain ⟨s34, t34⟩ := tv_new (K := K) (ts := [.w "x"]) (vs := [.str "x"]) (.one rfl) nq1
      generalize upd H33 q1 (.tup [.str "x"]) = H34 at *
      have sZ : Same H30 H34 := fun c o e => s34 _ _ (s33 _ _ (s32 _ _ e))
      refine ⟨_, rfl, catA t34 (tt3.mono (Tk.same sZ)) (by show 1 + ys.length ≤ 2000000; omega) fun vc H35 s35 tc => ?_⟩
      have sY : Same H30 H35 := fun c o e => s35 _ _ (sZ _ _ e)
      have hra5 := s35 _ _ (s34 _ _ hra)
      have tv5 := tvv.mono (Tk.same (fun c o e => s35 _ _ (s34 _ _ e) : Same H33 H35))
      have ft2 : ((T.cons (.w "x") (.l ys))).depth ≤ 66 := Nat.le_trans (T.depth_le _) ft1.2
      refine ⟨(T.cons (.w "x") (.l ys)), (T.cons (.w "x") (.l ys)), tv5, tc, ft1.1, ft1.1, Nat.le_trans (Nat.min_le_left _ _) (Nat.le_trans ft2 (by decide)), _, rfl, ite_b (fun _ => ?_) (fun hb => ?_)⟩
      · refine ⟨_, rfl, ra, _, dx, _, _, rfl, hra5, C.c_Run, C.n_Run_value, rfl, _, rfl, tp2, _, _, _, rfl, rfl, .inl (.of (sY _ _ htp3)), atI_nat (j := 1) rfl, (T.cons (.w "x") (.l ys)), (.l ys), tv5, tt3.mono (Tk.same sY), ft1.1, ft.1, Nat.le_trans (Nat.min_le_left _ _) (Nat.le_trans ft2 (by decide)), ?_⟩
        rw [decide_eq_false (cons_ne _)]
        exact q _
      · rw [decide_eq_true rfl] at hb
        cases hb
  · refine ⟨_, rfl, tp2, _, _, _, rfl, rfl, .inl (.of htp2), atI_nat (j := 0) rfl, rfl, _, rfl, ite_b (fun _ => ?_) (fun hb => ?_)⟩
    · exact q _
    · cases hb
end
end K35
end

section
set_option Elab.async false
set_option linter.all false
set_option maxRecDepth 100000
set_option maxHeartbeats 0
open PySem PySem.W PySem.Calls PyProof.Rows
theorem PySem.Challenge.cw_ownglass_k35_listers_holds : PySem.Challenge.rw_ownglass_k35_listers.Holds := by
  w_on; o_law
  refine HandSHeadRun.head_any (r := OpenLaw.row PySem.Challenge.rw_ownglass_k35_listers) (q := view (OpenLaw.row PySem.Challenge.rw_ownglass_k35_listers).prog [53]) (H := K35.hookU) (ob := K35.ob) (M := 20000) (loose := K35.looseA ++ K35.looseB) (d := HandSHeadRun.topDef (OpenLaw.row PySem.Challenge.rw_ownglass_k35_listers).prog 53) (kwd := []) K35.ob_eq
    (by kernel_rfl) (fun s => by kernel_rfl) K35.run (by kernel_rfl) (by kernel_rfl) (by kernel_rfl) (by rfl) (by first | assumption | decide +kernel) (by decide +kernel) ⟨rfl, rfl, rfl, rfl, rfl, by decide +kernel⟩ ?hw ?hc
  case hw => w_witness2
  case hc =>
    refine L2.walk_ofE (l := PySem.Challenge.rw_ownglass_k35_listers) (n := 63) (k := 83) (x := "_law_script") (CX := L2.CX0) rfl (by decide) (by kernel_rfl) ⟨rfl, by decide, by decide⟩ ?F (fun _ _ _ _ z => z)
    intro w mg fa h Y G hmg0
    obtain ⟨K, KX, c⟩ := Y
    have hmg : mg ("law" : PySem.Str) = some (.ref fa) := by
      have e : (HandSHeadRun.topDef (OpenLaw.row PySem.Challenge.rw_ownglass_k35_listers).prog 53).name = ("law" : PySem.Str) := by kernel_rfl
      rw [← e]
      exact hmg0
    obtain ⟨f, fd, hf, hb, hF⟩ := K35.ok_law (P := (PySem.Challenge.rw_ownglass_k35_listers).prog) (K35.Ctx.mk c ⟨h, KX, G⟩)
    have e := hmg.symm.trans hf
    cases e
    exact ⟨K, fd, K35.spLaw K, KX, hb, fun H a ns hl _ hS => ⟨a, ns, rfl, hS, Nat.le_trans hl (by decide), fun _ => rfl⟩, fun base _ _ => hF base⟩
end
