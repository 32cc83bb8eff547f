import PyProof.Rows.All
import Wide.All
import OpenK.AllK
import Wide.FinOn
import HandS.ForMost
import HandS.ForExc
import HandS.Deep
import HandS.TupAny
import HandS.ExcCtx
import HandS.HotCalls
import HandS.Flow
import KE.KExcIs
import HandS.IsInst
import HandS.ExcField
import HandS.Property
import HandS.CallSlots
import HandS.Comp
import HandS.Iter
import HandS.Text
import HandS.SortInts
import HandS.TryMany
import HandS.More
import HandS.ExcInit
import HandS.ExcInitHot
import HandS.Words
import HandS.Ends
import KE.KIsAll
import PySem.Challenge.RW_anymap_k80_rule_texts
set_option Elab.async false
set_option linter.all false
set_option maxRecDepth 100000
/-! SLCore: values without a heap, and how they stand in one. -/
namespace SL
open PySem L2

/-- a Python value as plain data. `lst true`, `ins true`: owned by the one who holds it -/
inductive D where
  | non
  | bl (b : Bool)
  | int (i : Int)
  | str (x : Str)
  | scr (ns : List Int)
  | tup (xs : List D)
  | lst (o : Bool) (xs : List D)
  | ins (o : Bool) (c : Nat) (xs : List D)
  | exn (c : Nat) (xs : List D)

mutual
def D.frz : D → D
  | .lst _ xs => .lst false (D.frzL xs)
  | .ins _ c xs => .ins false c (D.frzL xs)
  | .non => .non
  | .bl b => .bl b
  | .int i => .int i
  | .str x => .str x
  | .scr ns => .scr ns
  | .tup xs => .tup xs
  | .exn c xs => .exn c xs
def D.frzL : List D → List D
  | [] => []
  | d :: ds => d.frz :: D.frzL ds
end
mutual
/-- neither a list nor an instance in it -/
def D.imm : D → Bool
  | .tup xs => D.immL xs
  | .lst _ _ => false
  | .ins _ _ _ => false
  | .exn _ _ => false
  | .non => true
  | .bl _ => true
  | .int _ => true
  | .str _ => true
  | .scr _ => true
def D.immL : List D → Bool
  | [] => true
  | d :: ds => d.imm && D.immL ds
end
mutual
/-- no frozen list in it -/
def D.noF : D → Bool
  | .tup xs => D.noFL xs
  | .lst o xs => o && D.noFL xs
  | .ins _ _ xs => D.noFL xs
  | .exn _ xs => D.noFL xs
  | .non => true
  | .bl _ => true
  | .int _ => true
  | .str _ => true
  | .scr _ => true
def D.noFL : List D → Bool
  | [] => true
  | d :: ds => d.noF && D.noFL ds
end
mutual
/-- as the library's data -/
def D.py : D → Option PyData
  | .non => some .none
  | .bl b => some (.bool b)
  | .int i => some (.int i)
  | .str x => some (.str x)
  | .scr _ => none
  | .tup xs => (D.pyL xs).map PyData.tuple
  | .lst _ xs => (D.pyL xs).map PyData.list
  | .ins _ _ _ => none
  | .exn _ _ => none
def D.pyL : List D → Option (List PyData)
  | [] => some []
  | d :: ds => match d.py, D.pyL ds with
    | some p, some ps => some (p :: ps)
    | _, _ => none
end
mutual
def D.dep : D → Nat
  | .tup xs => D.depL xs + 1
  | .lst _ xs => D.depL xs + 1
  | _ => 1
def D.depL : List D → Nat
  | [] => 0
  | d :: ds => max d.dep (D.depL ds)
end
mutual
/-- == of data -/
def D.eqv : D → D → Bool
  | .non, .non => true
  | .bl a, .bl b => a == b
  | .bl a, .int j => (if a then 1 else 0) == j
  | .int i, .bl b => i == (if b then 1 else 0)
  | .int i, .int j => i == j
  | .str x, .str y => x == y
  | .lst _ xs, .lst _ ys => D.eqvL xs ys
  | .tup xs, .tup ys => D.eqvL xs ys
  | _, _ => false
def D.eqvL : List D → List D → Bool
  | [], [] => true
  | x :: xs, y :: ys => x.eqv y && D.eqvL xs ys
  | _, _ => false
end
abbrev Env := List (Option D)
end SL
set_option Elab.async false
set_option linter.all false
set_option maxRecDepth 100000
/-! SLRep: how plain data stands in the abstract heap: F the frozen part, H the heap. -/
namespace SL
open PySem L2

structure Wd where
  K : PySem.W.Frag
  /-- a class's address, its fields' names in the order of __init__ -/
  ca : Nat → Addr
  fn : Nat → List Str
  /-- the exception that is handled: where, its class, its dict -/
  hx : Option (Addr × Nat × Option Addr)

def MutO : HO → Prop
  | .lst _ => True
  | .ins _ _ _ => True
  | _ => False

/-- the script -/
def ScrAt (K : PySem.W.Frag) (F : Hp) (a : Addr) (xs : List V) : Prop :=
  (∃ o, F a = some (.frz o (.lst xs))) ∨ ∀ H : Hp, SqL K H a xs
theorem ScrAt.mono {K : PySem.W.Frag} {F G : Hp} {a : Addr} {xs : List V} (h : ScrAt K F a xs) (s : ∀ o u, F a = some (.frz o u) → G a = some (.frz o u)) : ScrAt K G a xs := by
  rcases h with ⟨o, h⟩ | h
  · exact .inl ⟨o, s _ _ h⟩
  · exact .inr h
theorem ScrAt.sql {K : PySem.W.Frag} {F : Hp} {a : Addr} {xs : List V} (h : ScrAt K F a xs) : SqL K F a xs := by
  rcases h with ⟨o, h⟩ | h
  · exact .inl (.inr ⟨o, h⟩)
  · exact h F

inductive RepL (w : Wd) (F H : Hp) : List V → List D → List Addr → Prop
  | nil : RepL w F H [] [] []
  | non {vs ds A} : RepL w F H vs ds A → RepL w F H (.non :: vs) (.non :: ds) A
  | bl {b vs ds A} : RepL w F H vs ds A → RepL w F H (.bl b :: vs) (.bl b :: ds) A
  | int {i vs ds A} : RepL w F H vs ds A → RepL w F H (.int i :: vs) (.int i :: ds) A
  | str {x vs ds A} : PySem.PyData.strOk x = true → RepL w F H vs ds A → RepL w F H (.str x :: vs) (.str x :: ds) A
  | scr {a ns vs ds A} : ScrAt w.K F a (ns.map V.int) → RepL w F H vs ds A → RepL w F H (.ref a :: vs) (.scr ns :: ds) A
  | tup {a ws xs vs ds A} : SqT w.K F a ws → RepL w F H ws xs [] → RepL w F H vs ds A → RepL w F H (.ref a :: vs) (.tup xs :: ds) A
  | lstF {a ws xs vs ds A} : F a = some (.lst ws) → RepL w F H ws xs [] → RepL w F H vs ds A → RepL w F H (.ref a :: vs) (.lst false xs :: ds) A
  | lstO {a ws xs vs ds A B} : H a = some (.lst ws) → RepL w F H ws xs B → RepL w F H vs ds A → RepL w F H (.ref a :: vs) (.lst true xs :: ds) (a :: (B ++ A))
  | insF {a dx c ws xs vs ds A} : F a = some (.ins (w.ca c) dx ((w.fn c).zip ws)) → ws.length ≤ (w.fn c).length → RepL w F H ws xs [] → RepL w F H vs ds A → RepL w F H (.ref a :: vs) (.ins false c xs :: ds) A
  | insO {a dx c ws xs vs ds A B} : H a = some (.ins (w.ca c) dx ((w.fn c).zip ws)) → ws.length ≤ (w.fn c).length → RepL w F H ws xs B → RepL w F H vs ds A → RepL w F H (.ref a :: vs) (.ins true c xs :: ds) (a :: (B ++ A))
  | exn {a c d ws xs vs ds A} : w.hx = some (a, c, some d) → F d = some (.xd ((w.fn c).zip ws)) → ws.length ≤ (w.fn c).length → RepL w F H ws xs [] → RepL w F H vs ds A → RepL w F H (.ref a :: vs) (.exn c xs :: ds) A
  | exn0 {a c vs ds A} : w.hx = some (a, c, none) → RepL w F H vs ds A → RepL w F H (.ref a :: vs) (.exn c [] :: ds) A

abbrev Rep (w : Wd) (F H : Hp) (v : V) (d : D) (A : List Addr) : Prop := RepL w F H [v] [d] A

section
variable {w : Wd} {F H F' H' G : Hp} {vs : List V} {ds : List D} {A : List Addr}

theorem RepL.len (r : RepL w F H vs ds A) : vs.length = ds.length := by
  induction r <;> simp_all

theorem sqT_mono {K : PySem.W.Frag} {a : Addr} {xs : List V} (s : Same F F') (h : SqT K F a xs) : SqT K F' a xs := by
  rcases h with (h | ⟨o, h⟩) | h
  · exact .inl (.inl (s _ _ h))
  · exact .inl (.inr ⟨o, s _ _ h⟩)
  · exact .inr h

theorem RepL.mono (r : RepL w F H vs ds A) (s : Same F F') (h : ∀ a, 0 < A.count a → H' a = H a) : RepL w F' H' vs ds A := by
  induction r with
  | nil => exact .nil
  | non _ ih => exact .non (ih h)
  | bl _ ih => exact .bl (ih h)
  | int _ ih => exact .int (ih h)
  | str k _ ih => exact .str k (ih h)
  | scr k _ ih => exact .scr (k.mono fun _ _ => s _ _) (ih h)
  | tup k _ _ i1 i2 => exact .tup (sqT_mono s k) (i1 (by simp)) (i2 h)
  | lstF k _ _ i1 i2 => exact .lstF (s _ _ k) (i1 (by simp)) (i2 h)
  | @lstO b _ _ _ _ A1 B1 k _ _ i1 i2 =>
    refine .lstO (a := b) ?_ (i1 fun a q => h a ?_) (i2 fun a q => h a ?_)
    · rw [h b (by simp [List.count_cons])]; exact k
    · simp only [List.count_cons, List.count_append]; omega
    · simp only [List.count_cons, List.count_append]; omega
  | insF k l _ _ i1 i2 => exact .insF (s _ _ k) l (i1 (by simp)) (i2 h)
  | @insO b dx _ _ _ _ _ A1 B1 k l _ _ i1 i2 =>
    refine .insO (a := b) (dx := dx) ?_ l (i1 fun a q => h a ?_) (i2 fun a q => h a ?_)
    · rw [h b (by simp [List.count_cons])]; exact k
    · simp only [List.count_cons, List.count_append]; omega
    · simp only [List.count_cons, List.count_append]; omega
  | exn e k l _ _ i1 i2 => exact .exn e (s _ _ k) l (i1 (by simp)) (i2 h)
  | exn0 e _ ih => exact .exn0 e (ih h)

theorem RepL.own (r : RepL w F H vs ds A) : ∀ a, 0 < A.count a → ∃ o, H a = some o ∧ MutO o := by
  induction r with
  | nil => intro a h; simp at h
  | non _ ih => exact ih
  | bl _ ih => exact ih
  | int _ ih => exact ih
  | str _ _ ih => exact ih
  | scr _ _ ih => exact ih
  | tup _ _ _ _ i2 => exact i2
  | lstF _ _ _ _ i2 => exact i2
  | @lstO b _ _ _ _ A1 B1 k _ _ i1 i2 =>
    intro a h
    by_cases e : a = b
    · subst e; exact ⟨_, k, trivial⟩
    · simp only [List.count_cons, List.count_append, beq_iff_eq, Ne.symm e, if_false] at h
      by_cases q : 0 < List.count a B1
      · exact i1 a q
      · exact i2 a (by omega)
  | insF _ _ _ _ _ i2 => exact i2
  | @insO b _ _ _ _ _ _ A1 B1 k _ _ _ i1 i2 =>
    intro a h
    by_cases e : a = b
    · subst e; exact ⟨_, k, trivial⟩
    · simp only [List.count_cons, List.count_append, beq_iff_eq, Ne.symm e, if_false] at h
      by_cases q : 0 < List.count a B1
      · exact i1 a q
      · exact i2 a (by omega)
  | exn _ _ _ _ _ _ i2 => exact i2
  | exn0 _ _ ih => exact ih

theorem RepL.app {us : List V} {es : List D} {B : List Addr} (r : RepL w F H vs ds A) (q : RepL w F H us es B) : RepL w F H (vs ++ us) (ds ++ es) (A ++ B) := by
  induction r with
  | nil => exact q
  | non _ ih => exact .non ih
  | bl _ ih => exact .bl ih
  | int _ ih => exact .int ih
  | str k _ ih => exact .str k ih
  | scr k _ ih => exact .scr k ih
  | tup k a _ _ i2 => exact .tup k a i2
  | lstF k a _ _ i2 => exact .lstF k a i2
  | lstO k a _ _ i2 =>
    have := RepL.lstO k a i2
    simpa using this
  | insF k l a _ _ i2 => exact .insF k l a i2
  | insO k l a _ _ i2 =>
    have := RepL.insO k l a i2
    simpa using this
  | exn e k l a _ _ i2 => exact .exn e k l a i2
  | exn0 e _ ih => exact .exn0 e ih

/-- the first item apart -/
theorem RepL.uncons {d : D} (r : RepL w F H vs (d :: ds) A) : ∃ v us B C, vs = v :: us ∧ Rep w F H v d B ∧ RepL w F H us ds C ∧ ∀ a, A.count a = B.count a + C.count a := by
  cases r with
  | non r => exact ⟨_, _, _, _, rfl, .non .nil, r, by simp⟩
  | bl r => exact ⟨_, _, _, _, rfl, .bl .nil, r, by simp⟩
  | int r => exact ⟨_, _, _, _, rfl, .int .nil, r, by simp⟩
  | str k r => exact ⟨_, _, _, _, rfl, .str k .nil, r, by simp⟩
  | scr k r => exact ⟨_, _, _, _, rfl, .scr k .nil, r, by simp⟩
  | tup k a r => exact ⟨_, _, _, _, rfl, .tup k a .nil, r, by simp⟩
  | lstF k a r => exact ⟨_, _, _, _, rfl, .lstF k a .nil, r, by simp⟩
  | lstO k a r => exact ⟨_, _, _, _, rfl, .lstO k a .nil, r, by intro b; simp only [List.count_cons, List.count_append, List.count_nil]; omega⟩
  | insF k l a r => exact ⟨_, _, _, _, rfl, .insF k l a .nil, r, by simp⟩
  | insO k l a r => exact ⟨_, _, _, _, rfl, .insO k l a .nil, r, by intro b; simp only [List.count_cons, List.count_append, List.count_nil]; omega⟩
  | exn e k l a r => exact ⟨_, _, _, _, rfl, .exn e k l a .nil, r, by simp⟩
  | exn0 e r => exact ⟨_, _, _, _, rfl, .exn0 e .nil, r, by simp⟩
theorem RepL.cons {v : V} {d : D} {B : List Addr} (q : Rep w F H v d B) (r : RepL w F H vs ds A) : RepL w F H (v :: vs) (d :: ds) (B ++ A) := q.app r

theorem RepL.take (n : Nat) (r : RepL w F H vs ds A) : ∃ B, RepL w F H (vs.take n) (ds.take n) B ∧ ∀ a, B.count a ≤ A.count a := by
  induction n generalizing vs ds A with
  | zero => exact ⟨[], by simpa using RepL.nil, by simp⟩
  | succ n ih =>
    cases ds with
    | nil => cases r; exact ⟨[], by simpa using RepL.nil, by simp⟩
    | cons d ds =>
      obtain ⟨v, us, B, C, rfl, q, r, hc⟩ := r.uncons
      obtain ⟨C', r', hc'⟩ := ih r
      exact ⟨B ++ C', by simpa using RepL.cons q r', fun a => by have h1 := hc a; have h2 := hc' a; simp only [List.count_append]; omega⟩
theorem RepL.drop (n : Nat) (r : RepL w F H vs ds A) : ∃ B, RepL w F H (vs.drop n) (ds.drop n) B ∧ ∀ a, B.count a ≤ A.count a := by
  induction n generalizing vs ds A with
  | zero => exact ⟨A, by simpa using r, fun _ => Nat.le_refl _⟩
  | succ n ih =>
    cases ds with
    | nil => cases r; exact ⟨[], by simpa using RepL.nil, by simp⟩
    | cons d ds =>
      obtain ⟨v, us, B, C, rfl, q, r, hc⟩ := r.uncons
      obtain ⟨C', r', hc'⟩ := ih r
      exact ⟨C', by simpa using r', fun a => by have h1 := hc a; have h2 := hc' a; omega⟩
theorem RepL.get {i : Nat} {d : D} (r : RepL w F H vs ds A) (h : ds[i]? = some d) : ∃ v B, vs[i]? = some v ∧ Rep w F H v d B ∧ ∀ a, B.count a ≤ A.count a := by
  induction i generalizing vs ds A with
  | zero =>
    cases ds with
    | nil => simp at h
    | cons e ds =>
      simp at h; subst h
      obtain ⟨v, us, B, C, rfl, q, r, hc⟩ := r.uncons
      exact ⟨v, B, rfl, q, fun a => by have := hc a; omega⟩
  | succ i ih =>
    cases ds with
    | nil => simp at h
    | cons e ds =>
      obtain ⟨v, us, B, C, rfl, q, r, hc⟩ := r.uncons
      obtain ⟨v', B', h1, h2, h3⟩ := ih r (by simpa using h)
      exact ⟨v', B', by simpa using h1, h2, fun a => by have := hc a; have := h3 a; omega⟩
/-- an item is put in an item's place -/
theorem RepL.set {i : Nat} {d e : D} {u : V} {C : List Addr} (r : RepL w F H vs ds A) (h : ds[i]? = some d) (q : Rep w F H u e C) :
    ∃ v B A', vs[i]? = some v ∧ Rep w F H v d B ∧ RepL w F H (vs.set i u) (ds.set i e) A' ∧ ∀ a, A'.count a + B.count a = A.count a + C.count a := by
  induction i generalizing vs ds A with
  | zero =>
    cases ds with
    | nil => simp at h
    | cons e' ds =>
      simp at h; subst h
      obtain ⟨v, us, B, A1, rfl, q1, r, hc⟩ := r.uncons
      exact ⟨v, B, C ++ A1, rfl, q1, by simpa using RepL.cons q r, fun a => by have := hc a; simp only [List.count_append]; omega⟩
  | succ i ih =>
    cases ds with
    | nil => simp at h
    | cons e' ds =>
      obtain ⟨v, us, B, A1, rfl, q1, r, hc⟩ := r.uncons
      obtain ⟨v', B', A', h1, h2, h3, h4⟩ := ih r (by simpa using h)
      exact ⟨v', B', B ++ A', by simpa using h1, h2, by simpa using RepL.cons q1 h3, fun a => by have := hc a; have := h4 a; simp only [List.count_append]; omega⟩

/-- frozen: what was owned is in the frozen part -/
theorem RepL.frz (r : RepL w F H vs ds A) (s : Same F G) (h : ∀ a, 0 < A.count a → G a = H a) : RepL w G H' vs (D.frzL ds) [] := by
  induction r with
  | nil => exact .nil
  | non _ ih => exact .non (ih h)
  | bl _ ih => exact .bl (ih h)
  | int _ ih => exact .int (ih h)
  | str k _ ih => exact .str k (ih h)
  | scr k _ ih => exact .scr (k.mono fun _ _ => s _ _) (ih h)
  | tup k r _ i1 i2 => exact .tup (sqT_mono s k) (r.mono s (by simp)) (i2 h)
  | lstF k _ _ i1 i2 => exact .lstF (s _ _ k) (i1 (by simp)) (i2 h)
  | @lstO b _ _ _ _ A1 B1 k _ _ i1 i2 =>
    refine .lstF (a := b) ?_ (i1 fun a q => h a ?_) (i2 fun a q => h a ?_)
    · rw [h b (by simp [List.count_cons])]; exact k
    · simp only [List.count_cons, List.count_append]; omega
    · simp only [List.count_cons, List.count_append]; omega
  | insF k l _ _ i1 i2 => exact .insF (s _ _ k) l (i1 (by simp)) (i2 h)
  | @insO b dx _ _ _ _ _ A1 B1 k l _ _ i1 i2 =>
    refine .insF (a := b) (dx := dx) ?_ l (i1 fun a q => h a ?_) (i2 fun a q => h a ?_)
    · rw [h b (by simp [List.count_cons])]; exact k
    · simp only [List.count_cons, List.count_append]; omega
    · simp only [List.count_cons, List.count_append]; omega
  | exn e k l r _ i1 i2 => exact .exn e (s _ _ k) l (r.mono s (by simp)) (i2 h)
  | exn0 e _ ih => exact .exn0 e (ih h)

theorem sqT_but {K : PySem.W.Frag} {a : Addr} {xs : List V} (s : ∀ a o, F a = some o → ¬ MutO o → G a = some o) (h : SqT K F a xs) : SqT K G a xs := by
  rcases h with (h | ⟨o, h⟩) | h
  · exact .inl (.inl (s _ _ h id))
  · exact .inl (.inr ⟨o, s _ _ h id⟩)
  · exact .inr h

/-- no frozen list in it: frozen lists may be thawed -/
theorem RepL.thaw (r : RepL w F H vs ds A) (n : D.noFL ds = true) (s : ∀ a o, F a = some o → (∀ xs, o ≠ .lst xs) → G a = some o) : RepL w G H vs ds A := by
  have s' : ∀ a o, F a = some o → ¬ MutO o → G a = some o := fun a o h m => s a o h fun xs e => m (by subst e; trivial)
  induction r with
  | nil => exact .nil
  | non _ ih => exact .non (ih (by simpa [D.noFL, D.noF] using n))
  | bl _ ih => exact .bl (ih (by simpa [D.noFL, D.noF] using n))
  | int _ ih => exact .int (ih (by simpa [D.noFL, D.noF] using n))
  | str k _ ih => exact .str k (ih (by simpa [D.noFL, D.noF] using n))
  | scr k _ ih => exact .scr (k.mono fun o u h => s _ _ h (fun _ => by intro z; cases z)) (ih (by simpa [D.noFL, D.noF] using n))
  | tup k _ _ i1 i2 =>
    simp only [D.noFL, D.noF, Bool.and_eq_true] at n
    exact .tup (sqT_but s' k) (i1 n.1) (i2 n.2)
  | lstF k _ _ i1 i2 => simp [D.noFL, D.noF] at n
  | lstO k _ _ i1 i2 =>
    simp only [D.noFL, D.noF, Bool.and_eq_true] at n
    exact .lstO k (i1 n.1.2) (i2 n.2)
  | insF k l _ _ i1 i2 =>
    simp only [D.noFL, D.noF, Bool.and_eq_true] at n
    exact .insF (s _ _ k fun _ => by intro z; cases z) l (i1 n.1) (i2 n.2)
  | insO k l _ _ i1 i2 =>
    simp only [D.noFL, D.noF, Bool.and_eq_true] at n
    exact .insO k l (i1 n.1) (i2 n.2)
  | exn e k l _ _ i1 i2 =>
    simp only [D.noFL, D.noF, Bool.and_eq_true] at n
    exact .exn e (s _ _ k fun _ => by intro z; cases z) l (i1 n.1) (i2 n.2)
  | exn0 e _ ih => exact .exn0 e (ih (by simpa [D.noFL, D.noF] using n))

/-- neither list nor instance in it: it leans on nothing that changes -/
theorem RepL.immC (r : RepL w F H vs ds A) (n : D.immL ds = true) (s : ∀ a o, F a = some o → ¬ MutO o → G a = some o) : RepL w G H' vs ds [] ∧ A = [] := by
  induction r with
  | nil => exact ⟨.nil, rfl⟩
  | non _ ih => have := ih (by simpa [D.immL, D.imm] using n); exact ⟨.non this.1, this.2⟩
  | bl _ ih => have := ih (by simpa [D.immL, D.imm] using n); exact ⟨.bl this.1, this.2⟩
  | int _ ih => have := ih (by simpa [D.immL, D.imm] using n); exact ⟨.int this.1, this.2⟩
  | str k _ ih => have := ih (by simpa [D.immL, D.imm] using n); exact ⟨.str k this.1, this.2⟩
  | scr k _ ih => have := ih (by simpa [D.immL, D.imm] using n); exact ⟨.scr (k.mono fun o u h => s _ _ h id) this.1, this.2⟩
  | tup k _ _ i1 i2 =>
    simp only [D.immL, D.imm, Bool.and_eq_true] at n
    exact ⟨.tup (sqT_but s k) (i1 n.1).1 (i2 n.2).1, (i2 n.2).2⟩
  | lstF k _ _ i1 i2 => simp [D.immL, D.imm] at n
  | lstO k _ _ i1 i2 => simp [D.immL, D.imm] at n
  | insF k l _ _ i1 i2 => simp [D.immL, D.imm] at n
  | insO k l _ _ i1 i2 => simp [D.immL, D.imm] at n
  | exn e k l _ _ i1 i2 => simp [D.immL, D.imm] at n
  | exn0 e _ ih => simp [D.immL, D.imm] at n

theorem frzL_imm : ∀ ds : List D, D.immL ds = true → D.frzL ds = ds
  | [], _ => rfl
  | d :: ds, h => by
    simp only [D.immL, Bool.and_eq_true] at h
    rw [D.frzL, frzL_imm ds h.2]
    cases d <;> first | rfl | simp [D.imm] at h

/-! ### the library's data -/
theorem RepL.dp (r : RepL w F H vs ds A) (s : Same F H) : ∀ ps, D.pyL ds = some ps → DpAll w.K H vs ps ∧ PyData.canLayAll0 ps = true := by
  induction r with
  | nil => intro ps h; simp [D.pyL] at h; subst h; exact ⟨.nil, rfl⟩
  | @non vs ds A _ ih =>
    intro ps h
    simp only [D.pyL, D.py] at h
    cases q : D.pyL ds with
    | none => rw [q] at h; simp at h
    | some qs => rw [q] at h; simp at h; subst h; exact ⟨.cons .non (ih qs q).1, by simp [PyData.canLayAll0, PyData.canLay0, (ih qs q).2]⟩
  | @bl b vs ds A _ ih =>
    intro ps h
    simp only [D.pyL, D.py] at h
    cases q : D.pyL ds with
    | none => rw [q] at h; simp at h
    | some qs => rw [q] at h; simp at h; subst h; exact ⟨.cons (.bl b) (ih qs q).1, by simp [PyData.canLayAll0, PyData.canLay0, (ih qs q).2]⟩
  | @int b vs ds A _ ih =>
    intro ps h
    simp only [D.pyL, D.py] at h
    cases q : D.pyL ds with
    | none => rw [q] at h; simp at h
    | some qs => rw [q] at h; simp at h; subst h; exact ⟨.cons (.int b) (ih qs q).1, by simp [PyData.canLayAll0, PyData.canLay0, (ih qs q).2]⟩
  | @str b vs ds A k _ ih =>
    intro ps h
    simp only [D.pyL, D.py] at h
    cases q : D.pyL ds with
    | none => rw [q] at h; simp at h
    | some qs => rw [q] at h; simp at h; subst h; exact ⟨.cons (.str b) (ih qs q).1, by simp [PyData.canLayAll0, PyData.canLay0, (ih qs q).2, k]⟩
  | scr _ _ ih => intro ps h; simp [D.pyL, D.py] at h
  | @tup a ws xs vs ds A k _ _ i1 i2 =>
    intro ps h
    simp only [D.pyL, D.py] at h
    cases q1 : D.pyL xs with
    | none => rw [q1] at h; simp at h
    | some qs1 =>
      cases q : D.pyL ds with
      | none => rw [q] at h; simp at h
      | some qs => rw [q, q1] at h; simp at h; subst h; exact ⟨.cons (.tup (sqT_mono s k) (i1 _ q1).1) (i2 qs q).1, by simp [PyData.canLayAll0, PyData.canLay0, (i2 qs q).2, (i1 _ q1).2]⟩
  | @lstF a ws xs vs ds A k _ _ i1 i2 =>
    intro ps h
    simp only [D.pyL, D.py] at h
    cases q1 : D.pyL xs with
    | none => rw [q1] at h; simp at h
    | some qs1 =>
      cases q : D.pyL ds with
      | none => rw [q] at h; simp at h
      | some qs => rw [q, q1] at h; simp at h; subst h; exact ⟨.cons (.lst (.of (s _ _ k)) (i1 _ q1).1) (i2 qs q).1, by simp [PyData.canLayAll0, PyData.canLay0, (i2 qs q).2, (i1 _ q1).2]⟩
  | @lstO a ws xs vs ds A B k _ _ i1 i2 =>
    intro ps h
    simp only [D.pyL, D.py] at h
    cases q1 : D.pyL xs with
    | none => rw [q1] at h; simp at h
    | some qs1 =>
      cases q : D.pyL ds with
      | none => rw [q] at h; simp at h
      | some qs => rw [q, q1] at h; simp at h; subst h; exact ⟨.cons (.lst (.of k) (i1 _ q1).1) (i2 qs q).1, by simp [PyData.canLayAll0, PyData.canLay0, (i2 qs q).2, (i1 _ q1).2]⟩
  | insF _ _ _ _ _ _ => intro ps h; simp [D.pyL, D.py] at h
  | insO _ _ _ _ _ _ => intro ps h; simp [D.pyL, D.py] at h
  | exn _ _ _ _ _ _ _ => intro ps h; simp [D.pyL, D.py] at h
  | exn0 _ _ _ => intro ps h; simp [D.pyL, D.py] at h
theorem RepL.dp1 {v : V} {d : D} {p : PyData} (r : Rep w F H v d A) (s : Same F H) (h : d.py = some p) : Dp w.K H v p ∧ p.canLay0 = true := by
  have q := r.dp s [p] (by simp [D.pyL, h])
  cases q.1 with
  | cons a _ => exact ⟨a, by simpa [PyData.canLayAll0] using q.2⟩
end

mutual
theorem py_dep : ∀ (d : D) (p : PyData), d.py = some p → p.depth ≤ d.dep
  | .non, p, h => by simp [D.py] at h; subst h; simp [PyData.depth]
  | .bl _, p, h => by simp [D.py] at h; subst h; simp [PyData.depth]
  | .int _, p, h => by simp [D.py] at h; subst h; simp [PyData.depth]
  | .str _, p, h => by simp [D.py] at h; subst h; simp [PyData.depth]
  | .scr _, p, h => by simp [D.py] at h
  | .ins _ _ _, p, h => by simp [D.py] at h
  | .exn _ _, p, h => by simp [D.py] at h
  | .tup xs, p, h => by
    simp only [D.py, Option.map_eq_some_iff] at h
    obtain ⟨ps, h, rfl⟩ := h
    have := py_depL xs ps h
    simp only [PyData.depth, D.dep]; omega
  | .lst _ xs, p, h => by
    simp only [D.py, Option.map_eq_some_iff] at h
    obtain ⟨ps, h, rfl⟩ := h
    have := py_depL xs ps h
    simp only [PyData.depth, D.dep]; omega
theorem py_depL : ∀ (ds : List D) (ps : List PyData), D.pyL ds = some ps → PyData.depthAll ps ≤ D.depL ds
  | [], ps, h => by simp [D.pyL] at h; subst h; simp [PyData.depthAll]
  | d :: ds, ps, h => by
    simp only [D.pyL] at h
    cases q1 : d.py with
    | none => rw [q1] at h; simp at h
    | some p =>
      cases q2 : D.pyL ds with
      | none => rw [q2] at h; simp at h
      | some qs =>
        rw [q1, q2] at h; simp at h; subst h
        have h1 := py_dep d p q1
        have h2 := py_depL ds qs q2
        simp only [PyData.depthAll, D.depL]; omega
end
mutual
theorem py_eqv : ∀ (d e : D) (p q : PyData), d.py = some p → e.py = some q → PyData.eqv p q = d.eqv e
  | d, e, p, q, h1, h2 => by
    cases d <;> cases e <;> simp only [D.py, Option.some.injEq, Option.map_eq_some_iff, reduceCtorEq] at h1 h2 <;>
      first
      | exact h1.elim
      | exact h2.elim
      | (subst h1; subst h2; first | rfl | simp [PyData.eqv, D.eqv])
      | (obtain ⟨ps, h1, rfl⟩ := h1; obtain ⟨qs, h2, rfl⟩ := h2
         simp only [PyData.eqv, D.eqv]
         first | rfl | exact py_eqvL _ _ ps qs h1 h2)
      | (obtain ⟨ps, h1, rfl⟩ := h1; obtain ⟨qs, h2, rfl⟩ := h2; simp [PyData.eqv, D.eqv]; done)
      | (obtain ⟨ps, h1, rfl⟩ := h1; subst h2; simp [PyData.eqv, D.eqv])
      | (obtain ⟨qs, h2, rfl⟩ := h2; subst h1; simp [PyData.eqv, D.eqv])
termination_by d => sizeOf d
theorem py_eqvL : ∀ (ds es : List D) (ps qs : List PyData), D.pyL ds = some ps → D.pyL es = some qs → PyData.eqvAll ps qs = D.eqvL ds es
  | [], [], ps, qs, h1, h2 => by simp [D.pyL] at h1 h2; subst h1; subst h2; rfl
  | [], e :: es, ps, qs, h1, h2 => by
    simp only [D.pyL] at h1 h2
    simp at h1; subst h1
    cases a1 : e.py <;> cases a2 : D.pyL es <;> rw [a1, a2] at h2 <;> simp at h2
    subst h2; rfl
  | d :: ds, [], ps, qs, h1, h2 => by
    simp only [D.pyL] at h1 h2
    simp at h2; subst h2
    cases a1 : d.py <;> cases a2 : D.pyL ds <;> rw [a1, a2] at h1 <;> simp at h1
    subst h1; rfl
  | d :: ds, e :: es, ps, qs, h1, h2 => by
    simp only [D.pyL] at h1 h2
    cases a1 : d.py <;> cases a2 : D.pyL ds <;> rw [a1, a2] at h1 <;> simp at h1
    cases b1 : e.py <;> cases b2 : D.pyL es <;> rw [b1, b2] at h2 <;> simp at h2
    subst h1; subst h2
    simp only [PyData.eqvAll, D.eqvL]
    rw [py_eqv d e _ _ a1 b1, py_eqvL ds es _ _ a2 b2]
termination_by ds => sizeOf ds
end
end SL
set_option Elab.async false
set_option linter.all false
set_option maxRecDepth 100000
/-! SLEval: slim Python, and what it does to plain values. -/
namespace SL
open PySem L2

inductive Bop | add | sub | mul | fdiv | mod | pow
  deriving DecidableEq
inductive Cop | eq | ne | lt | le | gt | ge | isn | notn | in_ | nin
  deriving DecidableEq
inductive Bi | len | int | str | list | tuple | sum | any | all | min | max | abs | sorted
  deriving DecidableEq
inductive Bm | split | join | index | upper
  deriving DecidableEq
/-- what isinstance asks for -/
inductive Ic | int | bool | str | tuple | list | ve | cls (c : Nat)
  deriving DecidableEq
inductive Ik | plain | range1 | range2 | enum | zip
  deriving DecidableEq
inductive Tg | nm (i : Nat) | tp (is : List Nat)
  deriving DecidableEq

mutual
inductive Ex where
  | var (i : Nat) | take (i : Nat)
  | non | bl (b : Bool) | int (i : Int) | str (x : Str)
  | glob (g : Nat)
  | bin (o : Bop) (a b : Ex)
  | neg (a : Ex) | not_ (a : Tx)
  | bop (isAnd : Bool) (es : List Ex)
  | cmp (o : Cop) (a b : Ex)
  | chain (o o' : Cop) (a b c : Ex)
  | ife (c : Tx) (a b : Ex)
  | call (f : Nat) (es : List Ex)
  | new (c : Nat) (es : List Ex)
  | meth (m : Nat) (o : Ex) (es : List Ex)
  | fld (a : Ex) (f : Nat)
  | bi (b : Bi) (es : List Ex)
  | bm (m : Bm) (o : Ex) (es : List Ex)
  | isin (a : Ex) (c : Ic)
  | idx (a b : Ex)
  | slc (a : Ex) (lo hi : List Ex)
  | lst (es : List Ex) | tup (es : List Ex)
  | comp (own : List Nat) (elt : Ex) (tg : Tg) (ik : Ik) (ie : List Ex) (cs : List Tx)
/-- a test -/
inductive Tx where
  | e (e : Ex)
  | not_ (t : Tx)
  | bop (isAnd : Bool) (ts : List Tx)
  | ife (c a b : Tx)
end

inductive Sx where
  | set (i : Nat) (e : Ex)
  | unp (is : List Nat) (e : Ex)
  | sset (i : Nat) (path : List Ex) (e : Ex)
  | sfld (f : Nat) (e : Ex)
  | app (i : Nat) (path : List Ex) (e : Ex)
  | apop (i j : Nat) (e : Ex)
  | aug (i : Nat) (o : Bop) (e : Ex)
  | ex (e : Ex)
  | ret (e : Ex) | ret0
  | ite (c : Tx) (a b : List Sx)
  | for_ (tg : Tg) (ik : Ik) (ie : List Ex) (body : List Sx)
  | while_ (c : Tx) (body : List Sx)
  | raise_ (c : Nat) (es : List Ex)
  | try_ (body : List Sx) (c : Nat) (j : Option Nat) (suite : List Sx)
  | brk | cont | pass

inductive R | val (d : D) | brw (i : Nat) (d : D)
inductive Res (α : Type) | bad | ok (a : α) (ρ : Env) | exc (c : Nat) (xs : List D) (ρ : Env)
inductive Out | ret (d : D) | exc (c : Nat) (xs : List D)
inductive Fl | nx | rt (d : D) | ex (c : Nat) (xs : List D) | bk | ct

@[inline] def Res.bind {α β : Type} (r : Res α) (k : α → Env → Res β) : Res β :=
  match r with
  | .bad => .bad
  | .ok a ρ => k a ρ
  | .exc c xs ρ => .exc c xs ρ
@[simp] theorem Res.bind_bad {α β : Type} (k : α → Env → Res β) : (Res.bad : Res α).bind k = .bad := rfl
@[simp] theorem Res.bind_ok {α β : Type} (a : α) (ρ : Env) (k : α → Env → Res β) : (Res.ok a ρ).bind k = k a ρ := rfl
@[simp] theorem Res.bind_exc {α β : Type} (c : Nat) (xs : List D) (ρ : Env) (k : α → Env → Res β) : (Res.exc c xs ρ : Res α).bind k = .exc c xs ρ := rfl
/-- a value that may be lacking -/
def Res.of {α : Type} (o : Option α) (ρ : Env) : Res α := match o with | some a => .ok a ρ | none => .bad
@[simp] theorem Res.of_some {α : Type} (a : α) (ρ : Env) : Res.of (some a) ρ = .ok a ρ := rfl
@[simp] theorem Res.of_none {α : Type} (ρ : Env) : (Res.of none ρ : Res α) = .bad := rfl

structure Tab where
  /-- a class's fields (ids) in the order of its __init__; an exception's -/
  fields : Nat → List Nat
  xf : Nat → List Nat
  meth : Nat → Nat → Option Nat
  prop : Nat → Nat → Option Nat
  /-- isinstance of an instance of a class; an except clause's answer -/
  kit : Nat → Ic → Option Bool
  xkit : Nat → Ic → Option Bool
  exm : Nat → Nat → Option Bool
  glob : Nat → Option D

structure Sem where
  fn : Bool → Nat → List D → Option Out
  new : Bool → Nat → List D → Option Out
  tab : Tab

def R.d : R → D
  | .val d => d
  | .brw _ d => d
def frzAt (i : Nat) (ρ : Env) : Env := match ρ[i]? with
  | some (some d) => ρ.set i (some d.frz)
  | _ => ρ
/-- the variable still has its value -/
def live (i : Nat) (ρ : Env) : Bool := match ρ[i]? with
  | some (some _) => true
  | _ => false
/-- for keeping: it is owned, or frozen -/
def settle (r : R) (ρ : Env) : Res D := match r with
  | .val d => .ok d ρ
  | .brw i d => if live i ρ then .ok d (if d.imm then ρ else frzAt i ρ) else .bad
/-- its items, for keeping (frozen) -/
def elems (r : R) (ρ : Env) : Res (List D) := match r with
  | .val (.lst o xs) => .ok (if o then D.frzL xs else xs) ρ
  | .val (.tup xs) => .ok xs ρ
  | .val (.scr ns) => .ok (ns.map D.int) ρ
  | .brw i (.lst _ xs) => if live i ρ then .ok xs (if D.immL xs then ρ else frzAt i ρ) else .bad
  | .brw i (.tup xs) => if live i ρ then .ok xs (if D.immL xs then ρ else frzAt i ρ) else .bad
  | _ => .bad
mutual
def D.noI : D → Bool
  | .tup xs => D.noIL xs
  | .lst _ xs => D.noIL xs
  | .ins _ _ _ => false
  | .exn _ _ => true
  | .non => true
  | .bl _ => true
  | .int _ => true
  | .str _ => true
  | .scr _ => true
def D.noIL : List D → Bool
  | [] => true
  | d :: ds => d.noI && D.noIL ds
end
/-- an argument: an instance is frozen at once, a list may be handed out and come back -/
def argR (r : R) (ρ : Env) : Res R := match r with
  | .val d => .ok (.val d) ρ
  | .brw i d => match ρ[i]? with
    | some (some e) => if e.noI then .ok (.brw i d) ρ else (settle r ρ).bind fun d ρ => .ok (.val d) ρ
    | _ => .bad
def frzAll : List R → Env → Env
  | [], ρ => ρ
  | .brw i _ :: rs, ρ => frzAll rs (frzAt i ρ)
  | .val _ :: rs, ρ => frzAll rs ρ
def liveAll : List R → Env → Bool
  | [], _ => true
  | .brw i _ :: rs, ρ => (match ρ[i]? with
    | some (some e) => e.noI
    | _ => false) && liveAll rs ρ
  | .val _ :: rs, ρ => liveAll rs ρ
mutual
/-- no exception in it -/
def D.noX : D → Bool
  | .tup xs => D.noXL xs
  | .lst _ xs => D.noXL xs
  | .ins _ _ xs => D.noXL xs
  | .exn _ _ => false
  | .non => true
  | .bl _ => true
  | .int _ => true
  | .str _ => true
  | .scr _ => true
def D.noXL : List D → Bool
  | [] => true
  | d :: ds => d.noX && D.noXL ds
end
def argsOf (rs : List R) : List D := D.frzL (rs.map R.d)
/-- a call's end -/
def after (rs : List R) (o : Option Out) (ρ : Env) : Res R := match o with
  | none => .bad
  | some (.ret d) => .ok (.val d) (if d.noF then ρ else frzAll rs ρ)
  | some (.exc c xs) => .exc c xs (if D.noFL xs then ρ else frzAll rs ρ)
def callR (h : Bool) (rs : List R) (o : List D → Option Out) (ρ : Env) : Res R :=
  if liveAll rs ρ && (!h || D.noXL (argsOf rs)) then after rs (o (argsOf rs)) ρ else .bad
/-- a property is asked: nothing may be raised -/
def propR (h : Bool) (d : D) (o : List D → Option Out) (ρ : Env) : Res R :=
  if h then .bad else (match o [d.frz] with
    | some (.ret x) => .ok (.val x) ρ
    | _ => .bad)

/-- truth -/
def truth : D → Option Bool
  | .non => some false
  | .bl b => some b
  | .int i => some (i != 0)
  | .str x => if x.length ≤ sizeLine then some (x.length != 0) else none
  | .lst _ xs => some (!xs.isEmpty)
  | .tup xs => some (!xs.isEmpty)
  | _ => none

def mulOk (i j : Int) : Bool := decide ((-(2 ^ 64) < i ∧ i < 2 ^ 64) ∨ (-(2 ^ 64) < j ∧ j < 2 ^ 64))
def binI (o : Bop) (i j : Int) : Option Int := match o with
  | .add => some (i + j)
  | .sub => some (i - j)
  | .mul => if mulOk i j then some (i * j) else none
  | .fdiv => if 0 < j ∧ j < 1073741824 then some (i / j) else none
  | .mod => if 0 < j then some (i % j) else none
  | .pow => if 0 ≤ j ∧ j ≤ 1000000 ∧ i.natAbs < 2 ^ 64 then some (i ^ j.toNat) else none
def binR (o : Bop) (a b : R) (ρ : Env) : Res R := match a.d, b.d with
  | .int i, .int j => (Res.of (binI o i j) ρ).bind fun k ρ => .ok (.val (.int k)) ρ
  | .str x, .str y => if o = .add ∧ x.length + y.length ≤ sizeLine then .ok (.val (.str (x ++ y))) ρ else .bad
  | .lst _ _, .lst _ _ => (elems a ρ).bind fun us ρ => (elems b ρ).bind fun vs ρ => if o = .add ∧ us.length + vs.length ≤ sizeLine then .ok (.val (.lst true (us ++ vs))) ρ else .bad
  | .tup _, .tup _ => match a, b with
    | .val (.tup xs), .val (.tup ys) => if o = .add ∧ xs.length + ys.length ≤ sizeLine then .ok (.val (.tup (xs ++ ys))) ρ else .bad
    | _, _ => .bad
  | .lst _ _, .int k => (elems a ρ).bind fun us ρ => if o = .mul ∧ (-(2 ^ 63) ≤ k ∧ k < 2 ^ 63) ∧ us.length * k.toNat ≤ sizeLine then .ok (.val (.lst true (List.replicate k.toNat us).flatten)) ρ else .bad
  | _, _ => .bad

/-- one text within another -/
def strIn (x y : Str) : Bool := !(Builtin.Str.occurrences y x 0 y.length 1).isEmpty
def isData (d : D) : Bool := d.py.isSome
def ordD (f : Int → Int → Bool) (g : Str → Str → Bool) : D → D → Option Bool
  | .int i, .int j => some (f i j)
  | .str x, .str y => some (g x y)
  | _, _ => none
def cmpD (o : Cop) (a b : D) : Option Bool := match o with
  | .eq => if isData a && isData b && decide (a.dep ≤ 64 ∨ b.dep ≤ 64) then some (a.eqv b) else none
  | .ne => if isData a && isData b && decide (a.dep ≤ 64 ∨ b.dep ≤ 64) then some (!a.eqv b) else none
  | .lt => ordD (fun i j => decide (i < j)) (fun x y => decide (x.cps.toList < y.cps.toList)) a b
  | .le => ordD (fun i j => decide (i ≤ j)) (fun x y => !decide (y.cps.toList < x.cps.toList)) a b
  | .gt => ordD (fun i j => decide (j < i)) (fun x y => decide (y.cps.toList < x.cps.toList)) a b
  | .ge => ordD (fun i j => decide (j ≤ i)) (fun x y => !decide (x.cps.toList < y.cps.toList)) a b
  | .isn => match a with
    | .non => some true
    | _ => some false
  | .notn => match a with
    | .non => some false
    | _ => some true
  | .in_ => match b with
    | .lst _ xs => if isData a && isData b && decide (a.dep ≤ 64) then some (xs.any fun x => x.eqv a) else none
    | .tup xs => if isData a && isData b && decide (a.dep ≤ 64) then some (xs.any fun x => x.eqv a) else none
    | .str y => match a with
      | .str x => some (strIn x y)
      | _ => none
    | _ => none
  | .nin => match b with
    | .lst _ xs => if isData a && isData b && decide (a.dep ≤ 64) then some (!xs.any fun x => x.eqv a) else none
    | .tup xs => if isData a && isData b && decide (a.dep ≤ 64) then some (!xs.any fun x => x.eqv a) else none
    | .str y => match a with
      | .str x => some (!strIn x y)
      | _ => none
    | _ => none

def D.ints : List D → Option (List Int)
  | [] => some []
  | .int i :: ds => (D.ints ds).map (i :: ·)
  | _ :: _ => none
def D.bls : List D → Option (List Bool)
  | [] => some []
  | .bl b :: ds => (D.bls ds).map (b :: ·)
  | _ :: _ => none
def D.strs : List D → Option (List Str)
  | [] => some []
  | .str x :: ds => (D.strs ds).map (x :: ·)
  | _ :: _ => none
/-- a list's ints -/
def lstInts : D → Option (List Int)
  | .lst _ xs => D.ints xs
  | .scr ns => some ns
  | _ => none
def seqStrs : D → Option (List Str)
  | .lst _ xs => D.strs xs
  | .tup xs => D.strs xs
  | _ => none
def lenD : D → Option Nat
  | .lst _ xs => some xs.length
  | .tup xs => some xs.length
  | .scr ns => some ns.length
  | .str x => if x.length ≤ sizeLine then some x.length else none
  | _ => none
def maxL : List Int → Option Int
  | [] => none
  | x :: xs => some (xs.foldl max x)
def minL : List Int → Option Int
  | [] => none
  | x :: xs => some (xs.foldl min x)
def insI (x : Int) : List Int → List Int
  | [] => [x]
  | y :: ys => if x ≤ y then x :: y :: ys else y :: insI x ys
def sortI (xs : List Int) : List Int := xs.foldr insI []
/-- a built-in function's plain answer -/
def biD (b : Bi) (ds : List D) : Option D := match b, ds with
  | .len, [d] => (lenD d).map fun (n : Nat) => .int (n : Int)
  | .int, [.int i] => some (.int i)
  | .int, [.bl b] => some (.int (if b then 1 else 0))
  | .int, [.str x] => match PySem.intText? x with
    | some n => if x.length ≤ 640 then some (.int n) else none
    | none => none
  | .str, [.int i] => if i.natAbs.log2 < 1920 then some (.str (toString i)) else none
  | .sum, [d] => (lstInts d).map fun ns => .int ns.sum
  | .any, [.lst _ xs] => (D.bls xs).map fun bs => .bl (bs.any id)
  | .all, [.lst _ xs] => (D.bls xs).map fun bs => .bl (bs.all id)
  | .abs, [.int i] => some (.int (if i < 0 then -i else i))
  | .max, [.int i, .int j] => some (.int (if j > i then j else i))
  | .min, [.int i, .int j] => some (.int (if j < i then j else i))
  | .max, [d] => ((lstInts d).bind maxL).map D.int
  | .min, [d] => ((lstInts d).bind minL).map D.int
  | .sorted, [d] => (lstInts d).map fun ns => .lst true ((sortI ns).map D.int)
  | _, _ => none
def biR (h : Bool) (b : Bi) (rs : List R) (ρ : Env) : Res R := match b, rs with
  | .list, [r] => if h then .bad else (elems r ρ).bind fun xs ρ => .ok (.val (.lst true xs)) ρ
  | .tuple, [r] => if h then .bad else match r.d with
    | .tup _ => .ok r ρ
    | .lst _ _ => (elems r ρ).bind fun xs ρ => .ok (.val (.tup xs)) ρ
    | _ => .bad
  | b, rs => if h && (b != .len && b != .int) then .bad else (Res.of (biD b (rs.map R.d)) ρ).bind fun d ρ => .ok (.val d) ρ
def idxOf (x : D) : List D → Nat → Option Nat
  | [], _ => none
  | y :: ys, k => if y.eqv x then some k else idxOf x ys (k + 1)
def bmD (m : Bm) (o : D) (ds : List D) : Option D := match m, o, ds with
  | .split, .str x, [.str s] => if s.length = 0 ∨ ¬ x.length + 2 ≤ sizeLine then none else some (.lst true ((Txt.split x s).map D.str))
  | .join, .str s, [d] => match seqStrs d with
    | some ys => if (ys.map Str.length).sum + ys.length * s.length ≤ 16777216 then some (.str (Txt.join s ys)) else none
    | none => none
  | .index, .lst _ xs, [x] => if isData (.lst true xs) && isData x && decide (x.dep ≤ 60 ∧ D.depL xs ≤ 60) then (idxOf x xs 0).map fun (k : Nat) => .int (k : Int) else none
  | .upper, .str x, [] => if x.length ≤ 5592405 ∧ PyData.strOk (Txt.upper x) = true then some (.str (Txt.upper x)) else none
  | _, _, _ => none
def bmT (m : Bm) (d : D) : Bool := match m, d with
  | .index, .lst _ _ => true
  | .index, _ => false
  | _, .str _ => true
  | _, _ => false
def isInst (t : Tab) (d : D) (c : Ic) : Option Bool := match d with
  | .ins _ k _ => t.kit k c
  | .exn k _ => t.xkit k c
  | .int _ => match c with
    | .cls _ => none
    | c => some (c == .int)
  | .bl _ => match c with
    | .cls _ => none
    | c => some (c == .int || c == .bool)
  | .str _ => match c with
    | .cls _ => none
    | c => some (c == .str)
  | .tup _ => match c with
    | .cls _ => none
    | c => some (c == .tuple)
  | .lst _ _ => match c with
    | .cls _ => none
    | c => some (c == .list)
  | .scr _ => none
  | .non => match c with
    | .cls _ => none
    | _ => some false
/-- an item's place, from the front or the back -/
def ixD (n : Nat) (i : Int) : Option Nat := if 0 ≤ i then (if i < n then some i.toNat else none) else if -(n : Int) ≤ i then some (i + n).toNat else none
/-- an item of r: still r's variable's own, where it is no plain value -/
def part (r : R) (x : D) (ρ : Env) : Res R := match r with
  | .val _ => .ok (.val x) ρ
  | .brw i _ => if live i ρ then .ok (if x.imm then .val x else .brw i x) ρ else .bad
def idxR (a b : R) (ρ : Env) : Res R := match a.d, b.d with
  | .lst _ xs, .int i => (Res.of ((ixD xs.length i).bind fun j => xs[j]?) ρ).bind fun x ρ => part a x ρ
  | .tup xs, .int i => (Res.of ((ixD xs.length i).bind fun j => xs[j]?) ρ).bind fun x ρ => part a x ρ
  | .scr ns, .int i => (Res.of ((ixD ns.length i).bind fun j => ns[j]?) ρ).bind fun x ρ => .ok (.val (.int x)) ρ
  | .str z, .int i => if z.length ≤ sizeLine then (Res.of ((ixD z.cps.toList.length i).bind fun j => z.cps.toList[j]?) ρ).bind fun c ρ => .ok (.val (.str ⟨#[c]⟩)) ρ else .bad
  | _, _ => .bad
def clip (n d : Nat) : Option Int → Nat
  | none => d
  | some i => if 0 ≤ i then min i.toNat n else (i + n).toNat
def cutD {α : Type} (xs : List α) (lo hi : Option Int) : List α := (xs.drop (HT.sIx xs.length 0 lo)).take (HT.sIx xs.length xs.length hi - HT.sIx xs.length 0 lo)
def slcR (a : R) (lo hi : Option Int) (ρ : Env) : Res R := match a.d with
  | .lst _ _ => (elems a ρ).bind fun us ρ => .ok (.val (.lst true (cutD us lo hi))) ρ
  | .tup _ => match a with
    | .val (.tup xs) => .ok (.val (.tup (cutD xs lo hi))) ρ
    | _ => .bad
  | .str z => if z.length ≤ sizeLine then .ok (.val (.str (cutS z lo hi))) ρ else .bad
  | _ => .bad
def R.int? : R → Option Int
  | .val (.int i) => some i
  | _ => none

/-- a slice's part -/
def partR : List R → Option (Option Int)
  | [] => some none
  | [r] => r.int?.map some
  | _ => none
/-- what is walked -/
def seqR (r : R) (keep : Nat → Bool) (ρ : Env) : Res (List D) := match r with
  | .val _ => elems r ρ
  | .brw i d => if keep i then elems r ρ else if live i ρ then (match d with
    | .lst _ xs => .ok xs (frzAt i ρ)
    | .tup xs => .ok xs (frzAt i ρ)
    | _ => .bad) else .bad
def iterR (ik : Ik) (rs : List R) (keep : Nat → Bool) (ρ : Env) : Res (List D) := match ik, rs with
  | .plain, [r] => match r.d with
    | .str z => .ok (z.cps.toList.map fun c => .str ⟨#[c]⟩) ρ
    | _ => seqR r keep ρ
  | .range1, [.val (.int n)] => if -(2 ^ 62) ≤ n ∧ n < 2 ^ 62 then .ok ((List.range n.toNat).map fun (k : Nat) => D.int k) ρ else .bad
  | .range2, [.val (.int a), .val (.int b)] => if (-(2 ^ 62) ≤ a ∧ a < 2 ^ 62) ∧ -(2 ^ 62) ≤ b ∧ b < 2 ^ 62 then .ok ((List.range (b - a).toNat).map fun (k : Nat) => D.int (a + k)) ρ else .bad
  | .enum, [r] => match r.d with
    | .lst _ _ => (seqR r keep ρ).bind fun xs ρ => .ok (xs.zipIdx.map fun (p : D × Nat) => D.tup [.int p.2, p.1]) ρ
    | _ => .bad
  | _, _ => .bad
def bindT (tg : Tg) (d : D) (ρ : Env) : Option Env := match tg, d with
  | .nm i, d => some (ρ.set i (some d))
  | .tp is, .tup xs => if is.length = xs.length then some ((is.zip xs).foldl (fun ρ p => ρ.set p.1 (some p.2)) ρ) else none
  | _, _ => none
def wipeE (ρ : Env) (vs : List Nat) : Env := vs.foldl (fun ρ i => ρ.set i none) ρ

/-- a list that is walked where it stands is still there -/
def gdR : List R → Env → Bool
  | [.brw i _], ρ => live i ρ
  | _, _ => true
/-- a comprehension's turns -/
def compL (own : List Nat) (tg : Tg) (test : Env → Res Bool) (elt : Env → Res R) : List D → List D → Env → Res (List D)
  | [], acc, ρ => .ok acc ρ
  | x :: xs, acc, ρ => match bindT tg x ρ with
    | none => .bad
    | some ρ => match test ρ with
      | .ok true ρ => match (elt ρ).bind settle with
        | .ok d ρ => if acc.length < sizeLine then compL own tg test elt xs (acc ++ [d]) (wipeE ρ own) else .bad
        | _ => .bad
      | .ok false ρ => compL own tg test elt xs acc (wipeE ρ own)
      | _ => .bad

mutual
def evalE (S : Sem) (h : Bool) : Ex → Env → Res R
  | .var i, ρ => match ρ[i]? with
    | some (some (.lst true xs)) => .ok (.brw i (.lst false (D.frzL xs))) ρ
    | some (some (.ins true c xs)) => .ok (.brw i (.ins false c (D.frzL xs))) ρ
    | some (some d) => .ok (.val d) ρ
    | _ => .bad
  | .take i, ρ => match ρ[i]? with
    | some (some d) => .ok (.val d) (ρ.set i none)
    | _ => .bad
  | .non, ρ => .ok (.val .non) ρ
  | .bl b, ρ => .ok (.val (.bl b)) ρ
  | .int i, ρ => .ok (.val (.int i)) ρ
  | .str x, ρ => .ok (.val (.str x)) ρ
  | .glob g, ρ => (Res.of (S.tab.glob g) ρ).bind fun d ρ => .ok (.val d) ρ
  | .bin o a b, ρ => (evalE S h a ρ).bind fun x ρ => (evalE S h b ρ).bind fun y ρ => binR o x y ρ
  | .neg a, ρ => (evalE S h a ρ).bind fun x ρ => match x.d with
    | .int i => .ok (.val (.int (-i))) ρ
    | _ => .bad
  | .not_ a, ρ => (evalT S h a ρ).bind fun b ρ => .ok (.val (.bl (!b))) ρ
  | .bop k es, ρ => evalB S h k es ρ
  | .cmp o a b, ρ => (evalE S h a ρ).bind fun x ρ => (evalE S h b ρ).bind fun y ρ => (Res.of (cmpD o x.d y.d) ρ).bind fun c ρ => .ok (.val (.bl c)) ρ
  | .chain o o' a b c, ρ => (evalE S h a ρ).bind fun x ρ => (evalE S h b ρ).bind fun y ρ => (Res.of (cmpD o x.d y.d) ρ).bind fun k ρ =>
      if k then (evalE S h c ρ).bind fun z ρ => (Res.of (cmpD o' y.d z.d) ρ).bind fun c ρ => .ok (.val (.bl c)) ρ else .ok (.val (.bl false)) ρ
  | .ife c a b, ρ => (evalT S h c ρ).bind fun k ρ => if k then evalE S h a ρ else evalE S h b ρ
  | .call f es, ρ => (evalA S h es ρ).bind fun rs ρ => callR h rs (S.fn h f) ρ
  | .new c es, ρ => (evalA S h es ρ).bind fun rs ρ => callR h rs (S.new h c) ρ
  | .meth m o es, ρ => (evalE S h o ρ).bind fun r ρ => (settle r ρ).bind fun d ρ => match d with
    | .ins _ c _ => match S.tab.meth c m with
      | some f => (evalA S h es ρ).bind fun rs ρ => callR h (.val d :: rs) (S.fn h f) ρ
      | none => .bad
    | _ => .bad
  | .fld a f, ρ => (evalE S h a ρ).bind fun r ρ => match r.d with
    | .ins _ c xs => match S.tab.prop c f with
      | some g => (settle r ρ).bind fun d ρ => propR h d (S.fn h g) ρ
      | none => (Res.of (((S.tab.fields c).idxOf? f).bind fun k => xs[k]?) ρ).bind fun x ρ => part r x ρ
    | .exn c xs => (Res.of (((S.tab.xf c).idxOf? f).bind fun k => xs[k]?) ρ).bind fun x ρ => part r x ρ
    | _ => .bad
  | .bi b es, ρ => (evalEs S h es ρ).bind fun rs ρ => biR h b rs ρ
  | .bm m o es, ρ => (evalE S h o ρ).bind fun r ρ => if bmT m r.d then (evalEs S h es ρ).bind fun rs ρ => (Res.of (bmD m r.d (rs.map R.d)) ρ).bind fun d ρ => .ok (.val d) ρ else .bad
  | .isin a c, ρ => (evalE S h a ρ).bind fun r ρ => (Res.of (isInst S.tab r.d c) ρ).bind fun b ρ => .ok (.val (.bl b)) ρ
  | .idx a b, ρ => (evalE S h a ρ).bind fun x ρ => (evalE S h b ρ).bind fun y ρ => idxR x y ρ
  | .slc a lo hi, ρ => (evalE S h a ρ).bind fun x ρ => (evalEs S h lo ρ).bind fun l ρ => (Res.of (partR l) ρ).bind fun i ρ => (evalEs S h hi ρ).bind fun u ρ => (Res.of (partR u) ρ).bind fun j ρ => slcR x i j ρ
  | .lst es, ρ => (evalK S h es ρ).bind fun ds ρ => if ds.length ≤ sizeLine then .ok (.val (.lst true ds)) ρ else .bad
  | .tup es, ρ => (evalK S h es ρ).bind fun ds ρ => if ds.length ≤ sizeLine then .ok (.val (.tup (D.frzL ds))) ρ else .bad
  | .comp own elt tg ik ie cs, ρ => if h then .bad else (evalEs S h ie ρ).bind fun rs ρ => (iterR ik rs (fun _ => true) ρ).bind fun items ρ =>
      (compL own tg (evalC S h cs) (evalE S h elt) items [] (wipeE ρ own)).bind fun acc ρ => .ok (.val (.lst true acc)) ρ
/-- a test -/
def evalT (S : Sem) (h : Bool) : Tx → Env → Res Bool
  | .not_ a, ρ => (evalT S h a ρ).bind fun b ρ => .ok (!b) ρ
  | .bop k es, ρ => evalBT S h k es ρ
  | .ife c a b, ρ => (evalT S h c ρ).bind fun k ρ => if k then evalT S h a ρ else evalT S h b ρ
  | .e e, ρ => (evalE S h e ρ).bind fun r ρ => Res.of (truth r.d) ρ
/-- values in a row -/
def evalEs (S : Sem) (h : Bool) : List Ex → Env → Res (List R)
  | [], ρ => .ok [] ρ
  | e :: es, ρ => (evalE S h e ρ).bind fun r ρ => (evalEs S h es ρ).bind fun rs ρ => .ok (r :: rs) ρ
/-- arguments -/
def evalA (S : Sem) (h : Bool) : List Ex → Env → Res (List R)
  | [], ρ => .ok [] ρ
  | e :: es, ρ => (evalE S h e ρ).bind fun r ρ => (argR r ρ).bind fun r ρ => (evalA S h es ρ).bind fun rs ρ => .ok (r :: rs) ρ
/-- kept values in a row -/
def evalK (S : Sem) (h : Bool) : List Ex → Env → Res (List D)
  | [], ρ => .ok [] ρ
  | e :: es, ρ => (evalE S h e ρ).bind fun r ρ => (settle r ρ).bind fun d ρ => (evalK S h es ρ).bind fun ds ρ => .ok (d :: ds) ρ
/-- and, or -/
def evalB (S : Sem) (h : Bool) (k : Bool) : List Ex → Env → Res R
  | [], _ => .bad
  | [e], ρ => evalE S h e ρ
  | e :: e' :: es, ρ => (evalE S h e ρ).bind fun r ρ => (Res.of (truth r.d) ρ).bind fun b ρ => if b = k then evalB S h k (e' :: es) ρ else .ok r ρ
/-- .. as a test -/
def evalBT (S : Sem) (h : Bool) (k : Bool) : List Tx → Env → Res Bool
  | [], ρ => .ok k ρ
  | e :: es, ρ => (evalT S h e ρ).bind fun b ρ => if b = k then evalBT S h k es ρ else .ok b ρ
/-- a comprehension's ifs -/
def evalC (S : Sem) (h : Bool) : List Tx → Env → Res Bool
  | [], ρ => .ok true ρ
  | [e], ρ => evalT S h e ρ
  | _, _ => .bad
end

/-- an own item by its path -/
def getAt : List Int → D → Option D
  | [], d => some d
  | i :: is, .lst true xs => (ixD xs.length i).bind fun j => (xs[j]?).bind fun x => getAt is x
  | _ :: _, _ => none
def okAt (i : Nat) (is : List Int) (ρ : Env) : Bool := match ρ[i]? with
  | some (some d) => (getAt is d).isSome
  | _ => false
def okL (i : Nat) (is : List Int) (ρ : Env) : Bool := match ρ[i]? with
  | some (some d) => (match getAt is d with
    | some (.lst true _) => true
    | _ => false)
  | _ => false
/-- a path's numbers, each read behind the one ahead of it; what is reached so far is a list -/
def evalP (S : Sem) (h : Bool) (i : Nat) : List Ex → List Int → Env → Res (List Int)
  | [], acc, ρ => if okAt i acc ρ then .ok acc ρ else .bad
  | p :: ps, acc, ρ => if okL i acc ρ then (evalE S h p ρ).bind fun r ρ => match r.int? with
    | some k => evalP S h i ps (acc ++ [k]) ρ
    | none => .bad
    else .bad

/-! ### statements -/
abbrev SRes := Option (Fl × Env)
def Res.toS {α : Type} (r : Res α) (k : α → Env → SRes) : SRes := match r with
  | .bad => none
  | .ok a ρ => k a ρ
  | .exc c xs ρ => some (.ex c xs, ρ)
@[simp] theorem Res.toS_bad {α : Type} (k : α → Env → SRes) : (Res.bad : Res α).toS k = none := rfl
@[simp] theorem Res.toS_ok {α : Type} (a : α) (ρ : Env) (k : α → Env → SRes) : (Res.ok a ρ).toS k = k a ρ := rfl
@[simp] theorem Res.toS_exc {α : Type} (c : Nat) (xs : List D) (ρ : Env) (k : α → Env → SRes) : (Res.exc c xs ρ : Res α).toS k = some (.ex c xs, ρ) := rfl

def augI (o : Bop) (a b : Int) : Option Int := match o with
  | .add => some (a + b)
  | .sub => some (a - b)
  | _ => none
/-- d with the own list at the path changed -/
def atPath (f : D → Option D) : List Int → D → Option D
  | [], d => f d
  | i :: is, .lst true xs => (ixD xs.length i).bind fun j => (xs[j]?).bind fun x => (atPath f is x).map fun y => .lst true (xs.set j y)
  | _, _ => none
def setItem (i : Int) (v : D) : D → Option D
  | .lst true xs => (ixD xs.length i).map fun j => .lst true (xs.set j v)
  | _ => none
def appItem (v : D) : D → Option D
  | .lst true xs => if xs.length < sizeLine then some (.lst true (xs ++ [v])) else none
  | _ => none
/-- self.f = d: the fields come in the order of the table -/
def fldItem (t : Tab) (f : Nat) (d : D) : D → Option D
  | .ins true c xs => match (t.fields c).idxOf? f with
    | some k => if k < xs.length then some (.ins true c (xs.set k d)) else if k = xs.length then some (.ins true c (xs ++ [d])) else none
    | none => none
  | _ => none
/-- x.pop(k), k from the front -/
def popItem (k : Int) : D → Option (D × D)
  | .lst true xs => if 0 ≤ k ∧ k < xs.length then (xs[k.toNat]?).map fun x => (x, .lst true (xs.eraseIdx k.toNat)) else none
  | _ => none
/-- the variable at i changed -/
def updAt (i : Nat) (f : D → Option D) (ρ : Env) : Option Env := match ρ[i]? with
  | some (some d) => (f d).map fun d' => ρ.set i (some d')
  | _ => none
def tgs : Tg → List Nat
  | .nm i => [i]
  | .tp is => is
/-- stands for: the first variable is bound anew -/
def big : Nat := 1000000
def rbs (is : List Nat) : List Nat := is ++ (if is.contains 0 then [big] else [])
mutual
/-- the variables that a statement may store to or change -/
def stores : Sx → List Nat
  | .set i _ => rbs [i]
  | .unp is _ => rbs is
  | .sset i _ _ => [i]
  | .sfld _ _ => [0]
  | .app i _ _ => [i]
  | .apop i j _ => [i, j]
  | .aug i _ _ => rbs [i]
  | .ite _ a b => storesL a ++ storesL b
  | .for_ tg _ _ b => rbs (tgs tg) ++ storesL b
  | .while_ _ b => storesL b
  | .try_ b _ j s => storesL b ++ (rbs j.toList ++ storesL s)
  | .ex _ => []
  | .ret _ => []
  | .ret0 => []
  | .raise_ _ _ => []
  | .brk => []
  | .cont => []
  | .pass => []
def storesL : List Sx → List Nat
  | [] => []
  | s :: ss => stores s ++ storesL ss
end
/-- a for's turns -/
def forL (g : Env → Bool) (tg : Tg) (body : Env → SRes) : List D → Env → SRes
  | [], ρ => if g ρ then some (.nx, ρ) else none
  | x :: xs, ρ => if g ρ then (bindT tg x ρ).bind fun ρ => (body ρ).bind fun r => match r with
    | (.nx, ρ) => forL g tg body xs ρ
    | (.ct, ρ) => forL g tg body xs ρ
    | (.bk, ρ) => some (.nx, ρ)
    | r => some r
    else none
/-- a while's turns, n at most -/
def whileN (test : Env → Res Bool) (body : Env → SRes) : Nat → Env → SRes
  | 0, _ => none
  | n + 1, ρ => (test ρ).toS fun b ρ => if b then (body ρ).bind fun r => match r with
    | (.nx, ρ) => whileN test body n ρ
    | (.ct, ρ) => whileN test body n ρ
    | (.bk, ρ) => some (.nx, ρ)
    | r => some r
    else some (.nx, ρ)
open Classical in
noncomputable def whileL (test : Env → Res Bool) (body : Env → SRes) (ρ : Env) : SRes :=
  if h : ∃ n, (whileN test body n ρ).isSome then whileN test body h.choose ρ else none
theorem whileN_more {test : Env → Res Bool} {body : Env → SRes} : ∀ {n : Nat} {ρ : Env} {r : Fl × Env}, whileN test body n ρ = some r → whileN test body (n + 1) ρ = some r
  | 0, ρ, r, h => by simp [whileN] at h
  | n + 1, ρ, r, h => by
    rw [whileN] at h ⊢
    cases q : test ρ with
    | bad => rw [q] at h; simp at h
    | exc c xs ρ' => rw [q] at h; exact h
    | ok b ρ' =>
      rw [q] at h
      simp only [Res.toS_ok] at h ⊢
      cases b with
      | false => exact h
      | true =>
        simp only [if_true] at h ⊢
        cases q2 : body ρ' with
        | none => rw [q2] at h; simp at h
        | some r2 =>
          rw [q2] at h
          simp only [Option.bind_some] at h ⊢
          obtain ⟨f, ρ2⟩ := r2
          cases f with
          | nx => exact whileN_more h
          | ct => exact whileN_more h
          | bk => exact h
          | rt d => exact h
          | ex c xs => exact h
theorem whileN_le {test : Env → Res Bool} {body : Env → SRes} {n m : Nat} {ρ : Env} {r : Fl × Env} (hn : n ≤ m) (h : whileN test body n ρ = some r) : whileN test body m ρ = some r := by
  induction hn with
  | refl => exact h
  | step _ ih => exact whileN_more ih
theorem whileL_of {test : Env → Res Bool} {body : Env → SRes} {n : Nat} {ρ : Env} {r : Fl × Env} (h : whileN test body n ρ = some r) : whileL test body ρ = some r := by
  have hx : ∃ n, (whileN test body n ρ).isSome := ⟨n, by rw [h]; rfl⟩
  unfold whileL
  rw [dif_pos hx]
  obtain ⟨r', hr⟩ := Option.isSome_iff_exists.mp hx.choose_spec
  rw [hr]
  rcases Nat.le_total n hx.choose with q | q
  · rw [whileN_le q h] at hr; exact hr.symm
  · rw [whileN_le q hr] at h; exact h
theorem whileL_some {test : Env → Res Bool} {body : Env → SRes} {ρ : Env} {r : Fl × Env} (h : whileL test body ρ = some r) : ∃ n, whileN test body n ρ = some r := by
  unfold whileL at h
  split at h
  · exact ⟨_, h⟩
  · cases h

mutual
noncomputable def evalS (S : Sem) (h : Bool) : Sx → Env → SRes
  | .set i e, ρ => ((evalE S h e ρ).bind settle).toS fun d ρ => if h && !d.noX then none else some (.nx, ρ.set i (some d))
  | .unp is e, ρ => if h then none else (evalE S h e ρ).toS fun r ρ => match r with
    | .val (.tup xs) => (bindT (.tp is) (.tup xs) ρ).map fun ρ => (.nx, ρ)
    | _ => none
  | .sset i path e, ρ => if h then none else ((evalE S h e ρ).bind settle).toS fun d ρ => (evalP S h i path [] ρ).toS fun is ρ => match is.reverse with
    | [] => none
    | k :: rest => (updAt i (atPath (setItem k d) rest.reverse) ρ).map fun ρ => (.nx, ρ)
  | .sfld f e, ρ => if h then none else ((evalE S h e ρ).bind settle).toS fun d ρ => (updAt 0 (fldItem S.tab f d) ρ).map fun ρ => (.nx, ρ)
  | .app i path e, ρ => if h then none else (evalP S h i path [] ρ).toS fun is ρ => if okL i is ρ then ((evalE S h e ρ).bind settle).toS fun d ρ => (updAt i (atPath (appItem d) is) ρ).map fun ρ => (.nx, ρ) else none
  | .apop i j e, ρ => if h then none else (evalE S h e ρ).toS fun r ρ => r.int?.bind fun k => if i = j then none else match ρ[j]? with
    | some (some d) => (popItem k d).bind fun p => (updAt i (appItem p.1) (ρ.set j (some p.2))).map fun ρ => (.nx, ρ)
    | _ => none
  | .aug i o e, ρ => match ρ[i]? with
    | some (some (.int a)) => (evalE S h e ρ).toS fun r ρ => r.int?.bind fun b => (augI o a b).map fun k => (.nx, ρ.set i (some (.int k)))
    | _ => none
  | .ex e, ρ => (evalE S h e ρ).toS fun _ ρ => some (.nx, ρ)
  | .ret e, ρ => ((evalE S h e ρ).bind settle).toS fun d ρ => some (.rt d, ρ)
  | .ret0, ρ => some (.rt .non, ρ)
  | .ite c a b, ρ => (evalT S h c ρ).toS fun k ρ => if k then evalSs S h a ρ else evalSs S h b ρ
  | .for_ tg ik ie body, ρ => if h && (ik != .range1) then none else (evalEs S h ie ρ).toS fun rs ρ => (iterR ik rs (fun i => !(rbs (tgs tg) ++ storesL body).contains i) ρ).toS fun items ρ =>
      forL (gdR rs) tg (evalSs S h body) items ρ
  | .while_ c body, ρ => whileL (evalT S h c) (evalSs S h body) ρ
  | .raise_ c es, ρ => if h then none else (evalK S h es ρ).toS fun ds ρ => if ds.length = (S.tab.xf c).length then some (.ex c (D.frzL ds.reverse), ρ) else none
  | .try_ body c j suite, ρ => if h then none else (evalSs S h body ρ).bind fun r => match r with
    | (.ex c' xs, ρ) => (S.tab.exm c' c).bind fun b => if b then (match j with
        | some j => (evalSs S true suite (ρ.set j (some (.exn c' xs)))).bind fun r => match r with
          | (.ex _ _, _) => none
          | (.rt d, ρ) => if d.noX then some (.rt d, ρ.set j none) else none
          | (f, ρ) => some (f, ρ.set j none)
        | none => (evalSs S true suite ρ).bind fun r => match r with
          | (.ex _ _, _) => none
          | (.rt d, ρ) => if d.noX then some (.rt d, ρ) else none
          | r => some r) else some (.ex c' xs, ρ)
    | r => some r
  | .brk, ρ => some (.bk, ρ)
  | .cont, ρ => some (.ct, ρ)
  | .pass, ρ => some (.nx, ρ)
noncomputable def evalSs (S : Sem) (h : Bool) : List Sx → Env → SRes
  | [], ρ => some (.nx, ρ)
  | s :: ss, ρ => (evalS S h s ρ).bind fun r => match r with
    | (.nx, ρ) => evalSs S h ss ρ
    | r => some r
end

structure FnD where
  ps : Nat
  n : Nat
  body : List Sx
noncomputable def runBody (S : Sem) (h : Bool) (fd : FnD) (ds : List D) : Option Out :=
  if ds.length = fd.ps then match evalSs S h fd.body (ds.map some ++ List.replicate (fd.n - ds.length) none) with
    | some (.nx, _) => some (.ret .non)
    | some (.rt d, _) => some (.ret d)
    | some (.ex c xs, _) => some (.exc c xs)
    | _ => none
  else none
noncomputable def runInit (S : Sem) (h : Bool) (fd : FnD) (c : Nat) (ds : List D) : Option Out :=
  if ds.length + 1 = fd.ps then match evalSs S h fd.body (some (.ins true c []) :: (ds.map some ++ List.replicate (fd.n - (ds.length + 1)) none)) with
    | some (.nx, some (.ins true c' xs) :: _) => if c' = c then some (.ret (.ins true c xs)) else none
    | some (.ex c xs, _) => some (.exc c xs)
    | _ => none
  else none
structure Prog where
  tab : Tab
  fns : Nat → Option FnD
  /-- the __init__ of a plain class -/
  init : Nat → Option Nat
  /-- defs that may be called while an exception is handled -/
  hot : Nat → Bool
noncomputable def semN (P : Prog) : Nat → Sem
  | 0 => ⟨fun _ _ _ => none, fun _ _ _ => none, P.tab⟩
  | n + 1 => ⟨fun h f ds => if h && !P.hot f then none else (P.fns f).bind fun fd => runBody (semN P n) h fd ds,
      fun h c ds => if h then none else (P.init c).bind fun f => (P.fns f).bind fun fd => runInit (semN P n) false fd c ds, P.tab⟩
end SL
set_option Elab.async false
set_option linter.all false
set_option maxRecDepth 100000
/-! SLPost: a frame's values in the heap, and what a step leaves of them. -/
namespace SL
open PySem L2

inductive EnvR (w : Wd) (F H : Hp) : St → Env → List (List Addr) → Prop
  | nil : EnvR w F H [] [] []
  | no {o σ ρ As} : EnvR w F H σ ρ As → EnvR w F H (o :: σ) (none :: ρ) ([] :: As)
  | yes {v d A σ ρ As} : Rep w F H v d A → EnvR w F H σ ρ As → EnvR w F H (some v :: σ) (some d :: ρ) (A :: As)

/-- how often an address is owned -/
abbrev own (As : List (List Addr)) (a : Addr) : Nat := As.flatten.count a
theorem own_cons (A : List Addr) (As : List (List Addr)) (a : Addr) : own (A :: As) a = A.count a + own As a := by
  simp [own, List.count_append]
theorem own_get {As : List (List Addr)} {A : List Addr} {i : Nat} (h : As[i]? = some A) (a : Addr) : A.count a ≤ own As a := by
  induction As generalizing i with
  | nil => simp at h
  | cons B As ih =>
    rw [own_cons]
    cases i with
    | zero => simp at h; subst h; omega
    | succ i => have := ih (by simpa using h); omega
theorem own_set {As : List (List Addr)} {A B : List Addr} {i : Nat} (h : As[i]? = some A) (a : Addr) : own (As.set i B) a + A.count a = own As a + B.count a := by
  induction As generalizing i with
  | nil => simp at h
  | cons E As ih =>
    cases i with
    | zero => simp at h; subst h; simp only [List.set_cons_zero, own_cons]; omega
    | succ i => have := ih (by simpa using h); simp only [List.set_cons_succ, own_cons]; omega

section
variable {w : Wd} {F H F' H' F2 H2 : Hp} {σ : St} {ρ ρ' ρ2 : Env} {As As' As2 : List (List Addr)} {C C2 : List Addr}

theorem EnvR.mono (r : EnvR w F H σ ρ As) (s : Same F F') (h : ∀ a, 0 < own As a → H' a = H a) : EnvR w F' H' σ ρ As := by
  induction r with
  | nil => exact .nil
  | no _ ih => exact .no (ih fun a q => h a (by rw [own_cons]; simpa using q))
  | yes k _ ih => exact .yes (k.mono s fun a q => h a (by rw [own_cons]; omega)) (ih fun a q => h a (by rw [own_cons]; omega))
theorem EnvR.get {i : Nat} {d : D} (r : EnvR w F H σ ρ As) (h : ρ[i]? = some (some d)) : ∃ v A, σ[i]? = some (some v) ∧ As[i]? = some A ∧ Rep w F H v d A := by
  induction r generalizing i with
  | nil => simp at h
  | no _ ih =>
    cases i with
    | zero => simp at h
    | succ i => simpa using ih (by simpa using h)
  | @yes v e A _ _ _ k _ ih =>
    cases i with
    | zero => simp at h; subst h; exact ⟨v, A, rfl, rfl, k⟩
    | succ i => simpa using ih (by simpa using h)
theorem EnvR.len (r : EnvR w F H σ ρ As) : σ.length = ρ.length ∧ As.length = ρ.length := by
  induction r <;> simp_all
theorem EnvR.at (r : EnvR w F H σ ρ As) {i : Nat} (h : i < ρ.length) : ∃ A, As[i]? = some A := by
  have := r.len.2
  exact ⟨As[i]'(by omega), List.getElem?_eq_getElem _⟩
/-- the place is given another value -/
theorem EnvR.set {i : Nat} {v : V} {d : D} {A : List Addr} (r : EnvR w F H σ ρ As) (k : Rep w F H v d A) : EnvR w F H (σ.set i (some v)) (ρ.set i (some d)) (As.set i A) := by
  induction r generalizing i with
  | nil => exact .nil
  | no r ih =>
    cases i with
    | zero => exact .yes k r
    | succ i => exact .no ih
  | yes k' r ih =>
    cases i with
    | zero => exact .yes k r
    | succ i => exact .yes k' ih
theorem EnvR.del {i : Nat} {o : Option V} (r : EnvR w F H σ ρ As) : EnvR w F H (σ.set i o) (ρ.set i none) (As.set i []) := by
  induction r generalizing i with
  | nil => exact .nil
  | no r ih =>
    cases i with
    | zero => exact .no r
    | succ i => exact .no ih
  | yes k' r ih =>
    cases i with
    | zero => exact .no r
    | succ i => exact .yes k' ih
/-- the place's value as it stands, by another view of it -/
theorem EnvR.view {i : Nat} {v : V} {d : D} {A : List Addr} (r : EnvR w F H σ ρ As) (h : σ[i]? = some (some v)) (k : Rep w F H v d A) : EnvR w F H σ (ρ.set i (some d)) (As.set i A) := by
  have e : σ.set i (some v) = σ := by
    apply List.ext_getElem?
    intro j
    by_cases hj : i = j
    · subst hj
      obtain ⟨hl, _⟩ := List.getElem?_eq_some_iff.mp h
      rw [List.getElem?_set_self hl, h]
    · rw [List.getElem?_set_ne hj]
  have := r.set (i := i) k
  rwa [e] at this
theorem EnvR.drop {i : Nat} (r : EnvR w F H σ ρ As) : EnvR w F H σ (ρ.set i none) (As.set i []) := by
  induction r generalizing i with
  | nil => exact .nil
  | no r ih =>
    cases i with
    | zero => exact .no r
    | succ i => exact .no ih
  | yes k' r ih =>
    cases i with
    | zero => exact .no r
    | succ i => exact .yes k' ih

structure Pre (w : Wd) (F H : Hp) (σ : St) (ρ : Env) (As : List (List Addr)) : Prop where
  same : Same F H
  env : EnvR w F H σ ρ As
  uni : ∀ a, own As a ≤ 1
  off : ∀ a, 0 < own As a → F a = none
theorem EnvR.there (r : EnvR w F H σ ρ As) : ∀ a, 0 < own As a → ∃ o, H a = some o ∧ MutO o := by
  induction r with
  | nil => intro a h; simp [own] at h
  | no _ ih => intro a h; exact ih a (by rw [own_cons] at h; simpa using h)
  | @yes v d A _ _ _ k _ ih =>
    intro a h
    rw [own_cons] at h
    by_cases q : 0 < A.count a
    · exact k.own a q
    · exact ih a (by omega)

/-- a variable behind a step: as it was; frozen; given away -/
def SlotR (F' : Hp) (ρ ρ' : Env) (As As' : List (List Addr)) (i : Nat) : Prop :=
  (ρ'[i]? = ρ[i]? ∧ As'[i]? = As[i]?) ∨
  (∃ d A, ρ[i]? = some (some d) ∧ As[i]? = some A ∧ ρ'[i]? = some (some d.frz) ∧ As'[i]? = some [] ∧ ∀ a, 0 < A.count a → F' a ≠ none) ∨
  (ρ'[i]? = some none ∧ As'[i]? = some [])

/-- what an expression leaves, beside an owned result C -/
structure Post (w : Wd) (σ : St) (F H : Hp) (ρ : Env) (As : List (List Addr)) (F' H' : Hp) (ρ' : Env) (As' : List (List Addr)) (C : List Addr) : Prop where
  sF : Same F F'
  sH : Same H H'
  same : Same F' H'
  env : EnvR w F' H' σ ρ' As'
  uni : ∀ a, own As' a + C.count a ≤ 1
  off : ∀ a, 0 < own As' a + C.count a → F' a = none
  old : ∀ a, 0 < own As' a + C.count a → 0 < own As a ∨ H a = none
  new : ∀ a, F a = none → F' a ≠ none → 0 < own As a ∨ H a = none
  there : ∀ a, 0 < own As' a + C.count a → H' a ≠ none
  slots : ∀ i, SlotR F' ρ ρ' As As' i

theorem Post.pre (p : Post w σ F H ρ As F' H' ρ' As' C) : Pre w F' H' σ ρ' As' :=
  ⟨p.same, p.env, fun a => by have := p.uni a; omega, fun a h => p.off a (by omega)⟩
theorem Pre.post (p : Pre w F H σ ρ As) : Post w σ F H ρ As F H ρ As [] where
  sF := Same.refl F
  sH := Same.refl H
  same := p.same
  env := p.env
  uni := fun a => by simpa using p.uni a
  off := fun a h => p.off a (by simpa using h)
  old := fun a h => .inl (by simpa using h)
  new := fun a h1 h2 => absurd h1 h2
  there := fun a h => by obtain ⟨o, e, _⟩ := p.env.there a (by simpa using h); rw [e]; simp
  slots := fun i => .inl ⟨rfl, rfl⟩
theorem frzL_frzL : ∀ ds : List D, D.frzL (D.frzL ds) = D.frzL ds
  | [] => rfl
  | d :: ds => by
    rw [D.frzL, D.frzL, frzL_frzL ds]
    congr 1
    cases d <;> simp only [D.frz]
    · rw [frzL_frzL]
    · rw [frzL_frzL]
theorem frz_frz (d : D) : d.frz.frz = d.frz := by
  cases d <;> simp only [D.frz, frzL_frzL]
theorem same_no {a : Addr} (s : Same H H') (h : H a ≠ none) : H' a ≠ none := by
  cases e : H a with
  | none => exact absurd e h
  | some o => rw [s a o e]; simp
theorem SlotR.trans {i : Nat} (sF : Same F' F2) (p : SlotR F' ρ ρ' As As' i) (q : SlotR F2 ρ' ρ2 As' As2 i) : SlotR F2 ρ ρ2 As As2 i := by
  rcases p with ⟨p1, p2⟩ | ⟨d, A, p1, p2, p3, p4, p5⟩ | ⟨p1, p2⟩
  · rcases q with ⟨q1, q2⟩ | ⟨d, A, q1, q2, q3, q4, q5⟩ | ⟨q1, q2⟩
    · exact .inl ⟨q1.trans p1, q2.trans p2⟩
    · exact .inr (.inl ⟨d, A, p1 ▸ q1, p2 ▸ q2, q3, q4, q5⟩)
    · exact .inr (.inr ⟨q1, q2⟩)
  · rcases q with ⟨q1, q2⟩ | ⟨d', A', q1, q2, q3, q4, q5⟩ | ⟨q1, q2⟩
    · exact .inr (.inl ⟨d, A, p1, p2, q1.trans p3, q2.trans p4, fun a h => same_no sF (p5 a h)⟩)
    · rw [p3] at q1
      have e := Option.some.inj (Option.some.inj q1)
      subst e
      exact .inr (.inl ⟨d, A, p1, p2, by rw [q3, frz_frz], q4, fun a h => same_no sF (p5 a h)⟩)
    · exact .inr (.inr ⟨q1, q2⟩)
  · rcases q with ⟨q1, q2⟩ | ⟨d', A', q1, q2, q3, q4, q5⟩ | ⟨q1, q2⟩
    · exact .inr (.inr ⟨q1.trans p1, q2.trans p2⟩)
    · rw [p1] at q1; cases q1
    · exact .inr (.inr ⟨q1, q2⟩)
/-- one step, then another -/
theorem Post.trans {w : Wd} (p : Post w σ F H ρ As F' H' ρ' As' C) (q : Post w σ F' H' ρ' As' F2 H2 ρ2 As2 C2) : Post w σ F H ρ As F2 H2 ρ2 As2 (C ++ C2) where
  sF := p.sF.trans q.sF
  sH := p.sH.trans q.sH
  same := q.same
  env := q.env
  uni := fun a => by
    rw [List.count_append]
    have h1 := p.uni a; have h2 := q.uni a
    by_cases hc : 0 < C.count a
    · have h3 := p.there a (by omega)
      have h4 : ¬ 0 < own As2 a + C2.count a := fun h => (q.old a h).elim (fun z => by omega) fun z => h3 z
      omega
    · omega
  off := fun a h => by
    rw [List.count_append] at h
    have h1 := p.uni a; have h2 := q.uni a
    by_cases hc : 0 < C.count a
    · have h3 := p.there a (by omega)
      have h5 := p.off a (by omega)
      cases e : F2 a with
      | none => rfl
      | some o => exact ((q.new a h5 (by rw [e]; simp)).elim (fun z => by omega) fun z => absurd z h3)
    · exact q.off a (by omega)
  old := fun a h => by
    rw [List.count_append] at h
    by_cases hc : 0 < C.count a
    · exact p.old a (by omega)
    · rcases q.old a (by omega) with z | z
      · exact p.old a (by omega)
      · cases e : H a with
        | none => exact .inr rfl
        | some o => rw [p.sH a o e] at z; cases z
  new := fun a h1 h2 => by
    by_cases e : F' a = none
    · rcases q.new a e h2 with z | z
      · exact p.old a (by omega)
      · cases e : H a with
        | none => exact .inr rfl
        | some o => rw [p.sH a o e] at z; cases z
    · exact p.new a h1 e
  there := fun a h => by
    rw [List.count_append] at h
    by_cases hc : 0 < C.count a
    · exact same_no q.sH (p.there a (by omega))
    · exact q.there a (by omega)
  slots := fun i => (p.slots i).trans q.sF (q.slots i)

/-- the frozen part with the addresses of A as they stand -/
def ov (F H : Hp) (A : List Addr) : Hp := fun a => if 0 < A.count a then H a else F a
theorem ov_nil : ov F H [] = F := by funext a; simp [ov]

/-- a result in the heap -/
inductive RepR (w : Wd) (F H : Hp) (ρ : Env) (As : List (List Addr)) : V → R → List Addr → Prop
  | val {v d C} : Rep w F H v d C → RepR w F H ρ As v (.val d) C
  | brw {v i d} : Rep w H H v d [] → (∀ A e, As[i]? = some A → ρ[i]? = some (some e) → Rep w (ov F H A) H v d []) → RepR w F H ρ As v (.brw i d) []
/-- what a result of before asks of a step -/
structure Lift (F H : Hp) (ρ : Env) (As : List (List Addr)) (F' H' : Hp) (ρ' : Env) (As' : List (List Addr)) : Prop where
  sF : Same F F'
  sH : Same H H'
  same : Same F' H'
  slots : ∀ i, SlotR F' ρ ρ' As As' i
theorem Post.lift {w : Wd} (p : Post w σ F H ρ As F' H' ρ' As' C) : Lift F H ρ As F' H' ρ' As' := ⟨p.sF, p.sH, p.same, p.slots⟩
theorem Lift.trans (p : Lift F H ρ As F' H' ρ' As') (q : Lift F' H' ρ' As' F2 H2 ρ2 As2) : Lift F H ρ As F2 H2 ρ2 As2 :=
  ⟨p.sF.trans q.sF, p.sH.trans q.sH, q.same, fun i => (p.slots i).trans q.sF (q.slots i)⟩
theorem RepR.lift {v : V} {r : R} {C0 : List Addr} (k : RepR w F H ρ As v r C0) (p : Lift F H ρ As F' H' ρ' As') (h0 : ∀ a, 0 < C0.count a → H a ≠ none) : RepR w F' H' ρ' As' v r C0 := by
  cases k with
  | val k => exact .val (k.mono p.sF fun a h => by
      cases e : H a with
      | none => exact absurd e (h0 a h)
      | some o => exact p.sH a o e)
  | @brw i d k1 k2 =>
    refine .brw (k1.mono p.sH (by simp)) fun A e hA he => ?_
    rcases p.slots i with ⟨p1, p2⟩ | ⟨d', A', p1, p2, p3, p4, p5⟩ | ⟨p1, p2⟩
    · refine (k2 A e (p2 ▸ hA) (p1 ▸ he)).mono (fun a o h => ?_) (by simp)
      unfold ov at h ⊢
      split at h
      · rename_i hc; rw [if_pos hc]; exact p.sH a o h
      · rename_i hc; rw [if_neg hc]; exact p.sF a o h
    · rw [p4] at hA; cases hA
      rw [ov_nil]
      refine (k2 A' d' p2 p1).mono (fun a o h => ?_) (by simp)
      unfold ov at h
      split at h
      · rename_i hc
        cases e2 : F' a with
        | none => exact absurd e2 (p5 a hc)
        | some u =>
          have h1 := p.sH a o h
          have h2 := p.same a u e2
          rw [h1] at h2
          cases h2
          rfl
      · exact p.sF a o h
    · rw [p1] at he; cases he

/-- a variable is frozen -/
theorem Pre.freeze {w : Wd} {i : Nat} {e : D} {A : List Addr} (p : Pre w F H σ ρ As) (he : ρ[i]? = some (some e)) (hA : As[i]? = some A) :
    Post w σ F H ρ As (ov F H A) H (ρ.set i (some e.frz)) (As.set i []) [] := by
  have nA : ∀ a o, F a = some o → A.count a = 0 := fun a o h => by
    have h1 := own_get hA a
    cases q : A.count a with
    | zero => rfl
    | succ n => rw [p.off a (by omega)] at h; cases h
  have sF : Same F (ov F H A) := fun a o h => by unfold ov; rw [if_neg (by rw [nA a o h]; omega)]; exact h
  have sm : Same (ov F H A) H := fun a o h => by
    unfold ov at h
    split at h
    · exact h
    · exact p.same a o h
  obtain ⟨v, A', hv, hA', k⟩ := p.env.get he
  rw [hA] at hA'; cases hA'
  have env : EnvR w (ov F H A) H σ (ρ.set i (some e.frz)) (As.set i []) := by
    refine (p.env.mono sF fun _ _ => rfl).view hv ?_
    have := k.frz (G := ov F H A) (H' := H) sF fun a h => by unfold ov; rw [if_pos h]
    simpa [D.frzL] using this
  have le : ∀ a, own (As.set i []) a + A.count a = own As a := fun a => by have := own_set (B := []) hA a; simpa using this
  refine ⟨sF, Same.refl H, sm, env, fun a => ?_, fun a h => ?_, fun a h => ?_, fun a h1 h2 => ?_, fun a h => ?_, fun j => ?_⟩
  · have := le a; have := p.uni a; simp only [List.count_nil]; omega
  · simp only [List.count_nil, Nat.add_zero] at h
    have h1 := le a; have h2 := p.uni a
    unfold ov; rw [if_neg (by omega)]; exact p.off a (by omega)
  · simp only [List.count_nil, Nat.add_zero] at h; have h1 := le a; exact .inl (by omega)
  · unfold ov at h2
    split at h2
    · rename_i hc; have := own_get hA a; exact .inl (by omega)
    · exact absurd h1 h2
  · simp only [List.count_nil, Nat.add_zero] at h
    obtain ⟨o, e, _⟩ := env.there a h
    rw [e]; simp
  · by_cases hj : i = j
    · subst hj
      have hl : i < ρ.length := (List.getElem?_eq_some_iff.mp he).1
      have hl2 : i < As.length := (List.getElem?_eq_some_iff.mp hA).1
      refine .inr (.inl ⟨e, A, he, hA, by simp [hl], by simp [hl2], fun a h => ?_⟩)
      unfold ov; rw [if_pos h]
      obtain ⟨o, e2, _⟩ := k.own a h
      rw [e2]; simp
    · exact .inl ⟨by simp [hj], by simp [hj]⟩
theorem frzAt_of {i : Nat} {e : D} (h : ρ[i]? = some (some e)) : frzAt i ρ = ρ.set i (some e.frz) := by
  unfold frzAt; rw [h]
theorem live_of {i : Nat} (h : live i ρ = true) : ∃ e, ρ[i]? = some (some e) := by
  unfold live at h
  split at h
  · rename_i e he; exact ⟨e, he⟩
  · cases h
/-- a temporary is frozen (B), the others stay (C') -/
theorem Post.shed {w : Wd} {B C' : List Addr} (p : Post w σ F H ρ As F' H' ρ' As' C) (hc : ∀ a, B.count a + C'.count a ≤ C.count a) :
    Post w σ F H ρ As (ov F' H' B) H' ρ' As' C' ∧ Lift F' H' ρ' As' (ov F' H' B) H' ρ' As' := by
  have nA : ∀ a o, F' a = some o → B.count a = 0 := fun a o h => by
    cases q : B.count a with
    | zero => rfl
    | succ n => have := hc a; rw [p.off a (by omega)] at h; cases h
  have sF : Same F' (ov F' H' B) := fun a o h => by unfold ov; rw [if_neg (by rw [nA a o h]; omega)]; exact h
  have sm : Same (ov F' H' B) H' := fun a o h => by
    unfold ov at h
    split at h
    · exact h
    · exact p.same a o h
  refine ⟨⟨p.sF.trans sF, p.sH, sm, p.env.mono sF fun _ _ => rfl, fun a => ?_, fun a h => ?_, fun a h => ?_, fun a h1 h2 => ?_, fun a h => ?_, fun i => ?_⟩, sF, Same.refl _, sm, fun i => .inl ⟨rfl, rfl⟩⟩
  · have := p.uni a; have := hc a; omega
  · have h1 := p.uni a; have h2 := hc a
    have h3 : B.count a = 0 := by omega
    unfold ov; rw [if_neg (by omega)]; exact p.off a (by omega)
  · have := hc a; exact p.old a (by omega)
  · unfold ov at h2
    split at h2
    · have := hc a; exact p.old a (by omega)
    · exact p.new a h1 h2
  · have := hc a; exact p.there a (by omega)
  · exact (p.slots i).trans sF (.inl ⟨rfl, rfl⟩)
theorem Post.weak {w : Wd} {C' : List Addr} (p : Post w σ F H ρ As F' H' ρ' As' C) (hc : ∀ a, C'.count a ≤ C.count a) : Post w σ F H ρ As F' H' ρ' As' C' := by
  have := (p.shed (B := []) (C' := C') fun a => by simpa using hc a).1
  rwa [ov_nil] at this

/-- what a brw's value stands on, its variable being alive -/
theorem brw_at {w : Wd} {v : V} {i : Nat} {d : D} {C0 : List Addr} (p : Pre w F H σ ρ As) (k : RepR w F H ρ As v (.brw i d) C0) (l : live i ρ = true) :
    ∃ e A, ρ[i]? = some (some e) ∧ As[i]? = some A ∧ Rep w (ov F H A) H v d [] ∧ C0 = [] ∧ ∀ a, 0 < A.count a → ∃ o, H a = some o ∧ MutO o := by
  obtain ⟨e, he⟩ := live_of l
  obtain ⟨v', A, hv, hA, k'⟩ := p.env.get he
  cases k with
  | brw k1 k2 => exact ⟨e, A, he, hA, k2 A e hA he, rfl, k'.own⟩
theorem ov_imm {A : List Addr} (h : ∀ a, 0 < A.count a → ∃ o, H a = some o ∧ MutO o) : ∀ a o, ov F H A a = some o → ¬ MutO o → F a = some o := fun a o e n => by
  unfold ov at e
  split at e
  · rename_i hc
    obtain ⟨o', e', m⟩ := h a hc
    rw [e] at e'; cases e'; exact absurd m n
  · exact e
theorem settle_ok {w : Wd} {v : V} {r : R} {d : D} {C0 : List Addr} (p : Pre w F H σ ρ As) (k : RepR w F H ρ As v r C0) (e : settle r ρ = .ok d ρ') :
    ∃ F' As', Post w σ F H ρ As F' H ρ' As' [] ∧ Rep w F' H v d C0 := by
  cases r with
  | val x =>
    simp only [settle, Res.ok.injEq] at e
    obtain ⟨rfl, rfl⟩ := e
    cases k with
    | val k => exact ⟨F, As, p.post, k⟩
  | brw i x =>
    simp only [settle] at e
    split at e
    · rename_i l
      obtain ⟨e', A, he, hA, k', rfl, m⟩ := brw_at p k l
      simp only [Res.ok.injEq] at e
      obtain ⟨rfl, e⟩ := e
      split at e
      · rename_i im
        subst e
        refine ⟨F, As, p.post, ?_⟩
        exact (k'.immC (by simp [D.immL, im]) (ov_imm m)).1
      · subst e
        rw [frzAt_of he]
        exact ⟨_, _, p.freeze he hA, k'⟩
    · cases e
end
end SL
set_option Elab.async false
set_option linter.all false
set_option maxRecDepth 100000
/-! SLOps: what the operations do to a frame's values in the heap. -/
namespace SL
open PySem L2
section
variable {w : Wd} {F H F' H' F0 H0 : Hp} {σ : St} {ρ ρ' ρ0 : Env} {As As' As0 : List (List Addr)} {C C1 C2 Ct : List Addr} {v : V} {r : R}

theorem RepR.view (k : RepR w F H ρ As v r C) (s : Same F H) : Rep w H H v r.d C := by
  cases k with
  | val k => exact k.mono s fun _ _ => rfl
  | brw k _ => exact k
theorem RepR.there (k : RepR w F H ρ As v r C) : ∀ a, 0 < C.count a → H a ≠ none := by
  intro a h
  cases k with
  | val k => obtain ⟨o, e, _⟩ := k.own a h; rw [e]; simp
  | brw _ _ => simp at h

/-- a new object that is owned -/
theorem Post.alloc {q : Addr} {o : HO} (p : Post w σ F0 H0 ρ0 As0 F H ρ As C) (hq : H q = none) : Post w σ F0 H0 ρ0 As0 F (upd H q o) ρ As (q :: C) := by
  have nF : F q = none := by
    cases e : F q with
    | none => rfl
    | some u => rw [p.same q u e] at hq; cases hq
  have nH0 : H0 q = none := by
    cases e : H0 q with
    | none => rfl
    | some u => rw [p.sH q u e] at hq; cases hq
  have no : own As q + C.count q = 0 := by
    cases e : own As q + C.count q with
    | zero => rfl
    | succ n => exact absurd hq (p.there q (by omega))
  have sH : Same H (upd H q o) := fun a u h => by rw [upd_ne (ne_of_none h hq)]; exact h
  refine ⟨p.sF, p.sH.trans sH, p.same.trans sH, p.env.mono (Same.refl _) fun a h => upd_ne fun e => by subst e; omega, fun a => ?_, fun a h => ?_, fun a h => ?_, p.new, fun a h => ?_, p.slots⟩
  · have := p.uni a
    rw [List.count_cons]
    by_cases e : q = a
    · subst e; simp; omega
    · simp [e]; exact this
  · rw [List.count_cons] at h
    by_cases e : q = a
    · subst e; exact nF
    · simp [e] at h; exact p.off a (by simpa using h)
  · rw [List.count_cons] at h
    by_cases e : q = a
    · subst e; exact .inr nH0
    · simp [e] at h; exact p.old a (by simpa using h)
  · rw [List.count_cons] at h
    by_cases e : q = a
    · subst e; rw [upd_same]; simp
    · simp [e] at h; rw [upd_ne (Ne.symm e)]; exact p.there a (by simpa using h)
/-- a new object that never changes -/
theorem Post.allocF {q : Addr} {o : HO} (p : Post w σ F0 H0 ρ0 As0 F H ρ As C) (hq : H q = none) : Post w σ F0 H0 ρ0 As0 (upd F q o) (upd H q o) ρ As C ∧ Lift F H ρ As (upd F q o) (upd H q o) ρ As := by
  have nF : F q = none := by
    cases e : F q with
    | none => rfl
    | some u => rw [p.same q u e] at hq; cases hq
  have nH0 : H0 q = none := by
    cases e : H0 q with
    | none => rfl
    | some u => rw [p.sH q u e] at hq; cases hq
  have no : own As q + C.count q = 0 := by
    cases e : own As q + C.count q with
    | zero => rfl
    | succ n => exact absurd hq (p.there q (by omega))
  have sH : Same H (upd H q o) := fun a u h => by rw [upd_ne (ne_of_none h hq)]; exact h
  have sF : Same F (upd F q o) := fun a u h => by rw [upd_ne (ne_of_none h nF)]; exact h
  have sm : Same (upd F q o) (upd H q o) := fun a u h => by
    by_cases e : a = q
    · subst e; rw [upd_same] at h ⊢; exact h
    · rw [upd_ne e] at h ⊢; exact p.same a u h
  refine ⟨⟨p.sF.trans sF, p.sH.trans sH, sm, p.env.mono sF fun a h => upd_ne fun e => by subst e; omega, p.uni, fun a h => ?_, p.old, fun a h1 h2 => ?_, fun a h => same_no sH (p.there a h), fun i => (p.slots i).trans sF (.inl ⟨rfl, rfl⟩)⟩, sF, sH, sm, fun i => .inl ⟨rfl, rfl⟩⟩
  · have e : a ≠ q := fun e => by subst e; omega
    rw [upd_ne e]; exact p.off a h
  · by_cases e : a = q
    · subst e; exact .inr nH0
    · rw [upd_ne e] at h2; exact p.new a h1 h2

/-- where a sequence's items stand -/
def SeqV (K : PySem.W.Frag) (H : Hp) (a : Addr) (ws : List V) : D → Prop
  | .lst _ _ => H a = some (.lst ws)
  | .tup _ => SqT K H a ws
  | .scr _ => SqL K H a ws
  | _ => False
theorem repInts {F H : Hp} (ns : List Int) : RepL w F H (ns.map V.int) (ns.map D.int) [] := by
  induction ns with
  | nil => exact .nil
  | cons n ns ih => exact .int ih

theorem elems_ok {xs : List D} {C' : List Addr} (p : Post w σ F0 H0 ρ0 As0 F H ρ As Ct) (k : RepR w F H ρ As v r C1) (hc : ∀ a, C1.count a + C'.count a ≤ Ct.count a) (e : elems r ρ = .ok xs ρ') :
    ∃ F' As' a ws, Post w σ F0 H0 ρ0 As0 F' H ρ' As' C' ∧ Lift F H ρ As F' H ρ' As' ∧ v = .ref a ∧ RepL w F' H ws xs [] ∧ SeqV w.K H a ws r.d := by
  cases r with
  | val d =>
    cases k with
    | val k =>
      cases d with
      | lst o ys =>
        simp only [elems, Res.ok.injEq] at e
        obtain ⟨e, rfl⟩ := e
        cases k with
        | lstF h1 h2 h3 =>
          cases h3
          simp only [Bool.false_eq_true, if_false] at e
          subst e
          have q := p.shed (B := []) (C' := C') fun a => by have := hc a; simp at this ⊢; exact this
          rw [ov_nil] at q
          exact ⟨_, _, _, _, q.1, q.2, rfl, h2, p.same _ _ h1⟩
        | @lstO a ws _ _ _ _ B h1 h2 h3 =>
          cases h3
          simp only [if_true] at e
          subst e
          have q := p.shed (B := B) (C' := C') fun a => by have := hc a; simp only [List.count_cons, List.append_nil] at this ⊢; omega
          exact ⟨_, _, _, _, q.1, q.2, rfl, h2.frz q.2.sF fun a h => by unfold ov; rw [if_pos h], h1⟩
      | tup ys =>
        simp only [elems, Res.ok.injEq] at e
        obtain ⟨rfl, rfl⟩ := e
        cases k with
        | tup h1 h2 h3 =>
          cases h3
          have q := p.shed (B := []) (C' := C') fun a => by have := hc a; simp at this ⊢; exact this
          rw [ov_nil] at q
          exact ⟨_, _, _, _, q.1, q.2, rfl, h2, sqT_mono p.same h1⟩
      | scr ns =>
        simp only [elems, Res.ok.injEq] at e
        obtain ⟨rfl, rfl⟩ := e
        cases k with
        | scr h1 h3 =>
          cases h3
          have q := p.shed (B := []) (C' := C') fun a => by have := hc a; simp at this ⊢; exact this
          rw [ov_nil] at q
          exact ⟨_, _, _, _, q.1, q.2, rfl, repInts ns, Same.seq p.same h1.sql⟩
      | non => simp [elems] at e
      | bl b => simp [elems] at e
      | int i => simp [elems] at e
      | str x => simp [elems] at e
      | ins o c ys => simp [elems] at e
      | exn c ys => simp [elems] at e
  | brw i d =>
    have fin : ∀ (ys : List D), (if live i ρ = true then Res.ok ys (if D.immL ys = true then ρ else frzAt i ρ) else Res.bad) = Res.ok xs ρ' →
        (∀ G : Hp, Rep w G H v d [] → Same G H → ∃ a ws, v = .ref a ∧ RepL w G H ws ys [] ∧ SeqV w.K H a ws d) →
        ∃ F' As' a ws, Post w σ F0 H0 ρ0 As0 F' H ρ' As' C' ∧ Lift F H ρ As F' H ρ' As' ∧ v = .ref a ∧ RepL w F' H ws xs [] ∧ SeqV w.K H a ws d := by
      intro ys q0 sub
      have l : live i ρ = true := by
        cases l : live i ρ with
        | true => rfl
        | false => rw [l] at q0; cases q0
      rw [if_pos l] at q0
      simp only [Res.ok.injEq] at q0
      obtain ⟨rfl, q0⟩ := q0
      obtain ⟨e', A, he, hA, k', rfl, m⟩ := brw_at p.pre k l
      have q := p.shed (B := []) (C' := C') fun a => by have := hc a; simp at this ⊢; exact this
      rw [ov_nil] at q
      obtain ⟨a, ws, rfl, k2, sv⟩ := sub _ k' (p.pre.freeze he hA).same
      by_cases im : D.immL ys = true
      · rw [if_pos im] at q0
        subst q0
        exact ⟨_, _, a, ws, q.1, q.2, rfl, (k2.immC im (ov_imm m)).1, sv⟩
      · rw [if_neg im] at q0
        subst q0
        rw [frzAt_of he]
        have f := p.pre.freeze he hA
        have t := (q.1.trans f).weak (C' := C') fun a => by simp
        exact ⟨_, _, a, ws, t, f.lift, rfl, k2, sv⟩
    cases d with
    | lst o ys =>
      refine fin ys (by simpa [elems] using e) fun G kG s => ?_
      cases kG with
      | lstF h1 h2 h3 => exact ⟨_, _, rfl, h2, s _ _ h1⟩
    | tup ys =>
      refine fin ys (by simpa [elems] using e) fun G kG s => ?_
      cases kG with
      | tup h1 h2 h3 => exact ⟨_, _, rfl, h2, sqT_mono s h1⟩
    | non => simp [elems] at e
    | bl b => simp [elems] at e
    | int i => simp [elems] at e
    | str x => simp [elems] at e
    | scr x => simp [elems] at e
    | ins o c ys => simp [elems] at e
    | exn c ys => simp [elems] at e
theorem elems_ne : ∀ c xs ρ', elems r ρ ≠ .exc c xs ρ' := by
  intro c xs ρ' z
  cases r with
  | val d => cases d <;> simp [elems] at z
  | brw i d => cases d <;> simp [elems] at z <;> split at z <;> cases z
theorem settle_ne : ∀ c xs ρ', settle r ρ ≠ .exc c xs ρ' := by
  intro c xs ρ' z
  cases r with
  | val d => simp [settle] at z
  | brw i d => simp only [settle] at z; split at z <;> cases z
end
end SL
set_option Elab.async false
set_option linter.all false
set_option maxRecDepth 100000
/-! SLFin: what is wanted of an evaluation's end; readings of slim expressions. -/
namespace SL
open PySem L2

/-- an exception in the frozen part -/
def RepX (w : Wd) (F : Hp) (c : Nat) (xs : List D) (d : Option Addr) : Prop := match d with
  | some dd => ∃ ws, F dd = some (.xd ((w.fn c).zip ws)) ∧ ws.length ≤ (w.fn c).length ∧ RepL w F F ws xs []
  | none => xs = []
abbrev RP (β α : Type) := Hp → Hp → Env → List (List Addr) → β → α → List Addr → Prop
def Fin {β α : Type} (rp : RP β α) (w : Wd) (σ : St) (W : WX) (F H : Hp) (ρ : Env) (As : List (List Addr)) (m : Res α) (Q : β → Hp → Prop) : Prop :=
  match m with
  | .bad => False
  | .ok r ρ' => ∀ v F' H' As' C, Post w σ F H ρ As F' H' ρ' As' C → rp F' H' ρ' As' v r C → Q v H'
  | .exc c xs ρ' => ∀ d F' H' As', Post w σ F H ρ As F' H' ρ' As' [] → RepX w F' c xs d → W (.ref (w.ca c)) d σ H'

/-- results in a row -/
inductive RepRs (w : Wd) (F H : Hp) (ρ : Env) (As : List (List Addr)) : List V → List R → List Addr → Prop
  | nil : RepRs w F H ρ As [] [] []
  | cons {v r C vs rs C'} : RepR w F H ρ As v r C → RepRs w F H ρ As vs rs C' → RepRs w F H ρ As (v :: vs) (r :: rs) (C ++ C')
def rpR (w : Wd) : RP V R := fun F H ρ As v r C => RepR w F H ρ As v r C
def rpRs (w : Wd) : RP (List V) (List R) := fun F H ρ As vs rs C => RepRs w F H ρ As vs rs C
def rpD (w : Wd) : RP V D := fun F H _ _ v d C => Rep w F H v d C
def rpDs (w : Wd) : RP (List V) (List D) := fun F H _ _ vs ds C => RepL w F H vs ds C
def rpB : RP Bool Bool := fun _ _ _ _ b b' C => b = b' ∧ C = []

section
variable {w : Wd} {F H F1 H1 F2 H2 : Hp} {σ : St} {ρ ρ1 ρ2 : Env} {As As1 As2 : List (List Addr)} {C C1 C2 : List Addr} {W : WX}
theorem RepRs.lift {vs : List V} {rs : List R} (k : RepRs w F H ρ As vs rs C) (p : Lift F H ρ As F1 H1 ρ1 As1) : RepRs w F1 H1 ρ1 As1 vs rs C := by
  induction k with
  | nil => exact .nil
  | cons k _ ih => exact .cons (k.lift p k.there) ih
theorem RepRs.view {vs : List V} {rs : List R} (k : RepRs w F H ρ As vs rs C) (s : Same F H) : RepL w H H vs (rs.map R.d) C := by
  induction k with
  | nil => exact .nil
  | cons k _ ih => exact RepL.cons (k.view s) ih
theorem Fin.bind {β α β' α' : Type} {rp : RP β α} {rp' : RP β' α'} {m : Res α} {k : α → Env → Res α'} {Q : β' → Hp → Prop} {Q1 : β → Hp → Prop}
    (p : Post w σ F H ρ As F1 H1 ρ1 As1 C1) (h : Fin rp' w σ W F H ρ As (m.bind k) Q)
    (go : ∀ r ρ2 v F2 H2 As2 C2, m = .ok r ρ2 → Post w σ F H ρ As F2 H2 ρ2 As2 (C1 ++ C2) → Post w σ F1 H1 ρ1 As1 F2 H2 ρ2 As2 C2 → rp F2 H2 ρ2 As2 v r C2 → Fin rp' w σ W F H ρ As (k r ρ2) Q → Q1 v H2) :
    Fin rp w σ W F1 H1 ρ1 As1 m Q1 := by
  cases m with
  | bad => exact h
  | ok r ρ2 => exact fun v F2 H2 As2 C2 q kr => go r ρ2 v F2 H2 As2 C2 rfl (p.trans q) q kr h
  | exc c xs ρ2 => exact fun d F2 H2 As2 q x => h d F2 H2 As2 ((p.trans q).weak fun a => by simp) x
/-- from the start -/
theorem Fin.bind0 {β α β' α' : Type} {rp : RP β α} {rp' : RP β' α'} {m : Res α} {k : α → Env → Res α'} {Q : β' → Hp → Prop} {Q1 : β → Hp → Prop}
    (h : Fin rp' w σ W F H ρ As (m.bind k) Q)
    (go : ∀ r ρ2 v F2 H2 As2 C2, m = .ok r ρ2 → Post w σ F H ρ As F2 H2 ρ2 As2 C2 → rp F2 H2 ρ2 As2 v r C2 → Fin rp' w σ W F H ρ As (k r ρ2) Q → Q1 v H2) :
    Fin rp w σ W F H ρ As m Q1 := by
  cases m with
  | bad => exact h
  | ok r ρ2 => exact fun v F2 H2 As2 C2 q kr => go r ρ2 v F2 H2 As2 C2 rfl q kr h
  | exc c xs ρ2 => exact h
/-- a total step -/
theorem Fin.of_ok {β α α' : Type} {rp : RP β α} {m : Res α'} {k : α' → Env → Res α} {Q : β → Hp → Prop} (h : Fin rp w σ W F H ρ As (m.bind k) Q) (hx : ∀ c xs ρ', m ≠ .exc c xs ρ') : ∃ a ρ', m = .ok a ρ' ∧ Fin rp w σ W F H ρ As (k a ρ') Q := by
  cases m with
  | bad => exact h.elim
  | ok a ρ' => exact ⟨a, ρ', rfl, h⟩
  | exc c xs ρ' => exact absurd rfl (hx c xs ρ')
theorem Res.of_ne {α : Type} (o : Option α) (ρ : Env) : ∀ c xs ρ', (Res.of o ρ) ≠ .exc c xs ρ' := by
  intro c xs ρ'
  cases o <;> simp
theorem Fin.ofO {β α α' : Type} {rp : RP β α} {o : Option α'} {k : α' → Env → Res α} {Q : β → Hp → Prop} {ρ' : Env} (h : Fin rp w σ W F H ρ As ((Res.of o ρ').bind k) Q) : ∃ a, o = some a ∧ Fin rp w σ W F H ρ As (k a ρ') Q := by
  cases o with
  | none => exact h.elim
  | some a => exact ⟨a, rfl, h⟩
end

/-! ### readings -/
section
variable (S : Sem) (h : Bool) (w : Wd) (W : WX)
def tEv (s : Ex) : TE := fun σ H Q => ∃ F ρ As, Pre w F H σ ρ As ∧ Fin (rpR w) w σ W F H ρ As (evalE S h s ρ) Q
def tTv (s : Tx) : TT := fun σ H Q => ∃ F ρ As, Pre w F H σ ρ As ∧ Fin rpB w σ W F H ρ As (evalT S h s ρ) Q
def tEvs (ss : List Ex) : TA := fun σ H Q => ∃ F ρ As, Pre w F H σ ρ As ∧ Fin (rpRs w) w σ W F H ρ As (evalEs S h ss ρ) Q
def tAv (ss : List Ex) : TA := fun σ H Q => ∃ F ρ As, Pre w F H σ ρ As ∧ Fin (rpRs w) w σ W F H ρ As (evalA S h ss ρ) Q
def tKv (ss : List Ex) : TA := fun σ H Q => ∃ F ρ As, Pre w F H σ ρ As ∧ Fin (rpDs w) w σ W F H ρ As (evalK S h ss ρ) Q
def tBv (k : Bool) (ss : List Ex) : TE := fun σ H Q => ∃ F ρ As, Pre w F H σ ρ As ∧ Fin (rpR w) w σ W F H ρ As (evalB S h k ss ρ) Q
def tBTv (k : Bool) (ss : List Tx) : TT := fun σ H Q => ∃ F ρ As, Pre w F H σ ρ As ∧ Fin rpB w σ W F H ρ As (evalBT S h k ss ρ) Q
end
theorem PE.of {X : Cx} {e : Expr} {t t' : TE} (h : PE X e t) (k : ∀ σ H Q, t' σ H Q → t σ H Q) : PE X e t' := ⟨fun pins s σ H Q I q => h.run pins s σ H Q I (k _ _ _ q)⟩
theorem PT.of {X : Cx} {e : Expr} {t t' : TT} (h : PT X e t) (k : ∀ σ H Q, t' σ H Q → t σ H Q) : PT X e t' := ⟨fun pins s σ H Q I q => h.run pins s σ H Q I (k _ _ _ q)⟩
theorem PW.of {X : Cx} {e : Expr} {t t' : TT} (h : PW X e t) (k : ∀ σ H Q, t' σ H Q → t σ H Q) : PW X e t' := ⟨fun wh pins s σ H Q I q => h.run wh pins s σ H Q I (k _ _ _ q)⟩
theorem PA.of {X : Cx} {es : List Expr} {t t' : TA} (h : PA X es t) (k : ∀ σ H Q, t' σ H Q → t σ H Q) : PA X es t' := ⟨fun pos pins s σ H Q I q => h.run pos pins s σ H Q I (k _ _ _ q)⟩
theorem PS.of {X : Cx} {st : Stmt} {t t' : TS} (h : PS X st t) (k : ∀ D σ H, t' D σ H → t D σ H) : PS X st t' := ⟨fun pins s σ H D I q => h.run pins s σ H D I (k _ _ _ q)⟩
theorem PSs.of {X : Cx} {st : List Stmt} {t t' : TS} (h : PSs X st t) (k : ∀ D σ H, t' D σ H → t D σ H) : PSs X st t' := ⟨fun pins s σ H D I q => h.run pins s σ H D I (k _ _ _ q)⟩
end SL
set_option Elab.async false
set_option linter.all false
set_option maxRecDepth 100000
/-! SLSnd1: names, constants, operators, comparisons, truth. -/
namespace SL
open PySem L2
section
variable {S : Sem} {h : Bool} {w : Wd} {W : WX} {X : Cx} {pos : Pos}

theorem fin_val {rp : RP V R} {F H F2 H2 : Hp} {σ : St} {ρ ρ2 : Env} {As As2 : List (List Addr)} {C2 C : List Addr} {d : D} {v : V} {Q : VK}
    (q : Fin (rpR w) w σ W F H ρ As (.ok (.val d) ρ2) Q) (p : Post w σ F H ρ As F2 H2 ρ2 As2 C2) (k : Rep w F2 H2 v d C) (hc : ∀ a, C.count a ≤ C2.count a) : Q v H2 :=
  q v F2 H2 As2 C (p.weak hc) (.val k)

theorem snd_non {j : Nat} : PE X (.Constant .none j pos) (tEv S h w W .non) := PE.of pe_non fun σ H Q ⟨F, ρ, As, p, q⟩ => fin_val (rp := rpR w) q p.post (.non .nil) (fun _ => Nat.le_refl _)
theorem snd_bl {b : Bool} {j : Nat} : PE X (.Constant (.bool b) j pos) (tEv S h w W (.bl b)) := PE.of pe_bl fun σ H Q ⟨F, ρ, As, p, q⟩ => fin_val (rp := rpR w) q p.post (.bl .nil) (fun _ => Nat.le_refl _)
theorem snd_int {i : Int} {j : Nat} : PE X (.Constant (.int i) j pos) (tEv S h w W (.int i)) := PE.of pe_int fun σ H Q ⟨F, ρ, As, p, q⟩ => fin_val (rp := rpR w) q p.post (.int .nil) (fun _ => Nat.le_refl _)
theorem snd_str {x : Str} {j : Nat} (hx : PyData.strOk x = true) : PE X (.Constant (.str x) j pos) (tEv S h w W (.str x)) := PE.of pe_str fun σ H Q ⟨F, ρ, As, p, q⟩ => fin_val (rp := rpR w) q p.post (.str hx .nil) (fun _ => Nat.le_refl _)

theorem snd_var {i : Nat} {x : Str} (hN : X.N[i]? = some x) (hv : Vis X.env.scope x) (hd : (x == ("__debug__" : Str)) = false) (hcd : (x == ("__classdict__" : Str)) = false) : PE X (.Name x pos) (tEv S h w W (.var i)) := by
  refine PE.of (pe_var hN hv hd hcd) fun σ H Q ⟨F, ρ, As, p, q⟩ => ?_
  rw [evalE] at q
  cases e : ρ[i]? with
  | none => rw [e] at q; exact q.elim
  | some o =>
    cases o with
    | none => rw [e] at q; exact q.elim
    | some d =>
      obtain ⟨v, A, hσ, hA, k⟩ := p.env.get e
      have plain : ∀ {B}, Rep w F H v d B → B = [] → Fin (rpR w) w σ W F H ρ As (.ok (.val d) ρ) Q → Q v H := fun k hB q => by
        subst hB; exact fin_val (rp := rpR w) q p.post k (fun _ => Nat.le_refl _)
      have lent : Fin (rpR w) w σ W F H ρ As (.ok (.brw i d.frz) ρ) Q → Q v H := fun q => by
        have fz := p.freeze e hA
        have kf : Rep w (ov F H A) H v d.frz [] := by
          have := k.frz (G := ov F H A) (H' := H) fz.sF fun a h => by unfold ov; rw [if_pos h]
          simpa [D.frzL] using this
        refine q v F H As [] p.post (.brw (kf.mono fz.same (by simp)) fun A' e' hA' he' => ?_)
        rw [hA] at hA'; cases hA'
        exact kf
      refine ⟨v, hσ, ?_⟩
      rw [e] at q
      cases d with
      | lst o xs =>
        cases o with
        | true => exact lent q
        | false => cases k with | lstF h1 h2 h3 => cases h3; exact plain (.lstF h1 h2 .nil) rfl q
      | ins o c xs =>
        cases o with
        | true => exact lent q
        | false => cases k with | insF h1 hl h2 h3 => cases h3; exact plain (.insF h1 hl h2 .nil) rfl q
      | non => cases k with | non h3 => cases h3; exact plain (.non .nil) rfl q
      | bl b => cases k with | bl h3 => cases h3; exact plain (.bl .nil) rfl q
      | int b => cases k with | int h3 => cases h3; exact plain (.int .nil) rfl q
      | str b => cases k with | str h1 h3 => cases h3; exact plain (.str h1 .nil) rfl q
      | scr b => cases k with | scr h1 h3 => cases h3; exact plain (.scr h1 .nil) rfl q
      | tup b => cases k with | tup h1 h2 h3 => cases h3; exact plain (.tup h1 h2 .nil) rfl q
      | exn c b =>
        cases k with
        | exn h0 h1 hl h2 h3 => cases h3; exact plain (.exn h0 h1 hl h2 .nil) rfl q
        | exn0 h0 h3 => cases h3; exact plain (.exn0 h0 .nil) rfl q

/-- a variable's value goes to the one who asks -/
theorem Pre.give {F H : Hp} {σ : St} {ρ : Env} {As : List (List Addr)} {i : Nat} {d : D} (p : Pre w F H σ ρ As) (e : ρ[i]? = some (some d)) :
    ∃ v A, σ[i]? = some (some v) ∧ Rep w F H v d A ∧ Post w σ F H ρ As F H (ρ.set i none) (As.set i []) A := by
  obtain ⟨v, A, hσ, hA, k⟩ := p.env.get e
  have le : ∀ a, own (As.set i []) a + A.count a = own As a := fun a => by have := own_set (B := []) hA a; simpa using this
  have en := p.env.drop (i := i)
  refine ⟨v, A, hσ, k, Same.refl _, Same.refl _, p.same, en, fun a => ?_, fun a h => ?_, fun a h => ?_, fun a h1 h2 => absurd h1 h2, fun a h => ?_, fun j => ?_⟩
  · rw [le]; exact p.uni a
  · rw [le] at h; exact p.off a h
  · rw [le] at h; exact .inl h
  · rw [le] at h
    obtain ⟨o, e2, _⟩ := p.env.there a h
    rw [e2]; simp
  · by_cases hj : i = j
    · subst hj
      have hl : i < ρ.length := (List.getElem?_eq_some_iff.mp e).1
      have hl2 : i < As.length := (List.getElem?_eq_some_iff.mp hA).1
      exact .inr (.inr ⟨by simp [hl], by simp [hl2]⟩)
    · exact .inl ⟨by simp [hj], by simp [hj]⟩
theorem snd_take {i : Nat} {x : Str} (hN : X.N[i]? = some x) (hv : Vis X.env.scope x) (hd : (x == ("__debug__" : Str)) = false) (hcd : (x == ("__classdict__" : Str)) = false) : PE X (.Name x pos) (tEv S h w W (.take i)) := by
  refine PE.of (pe_var hN hv hd hcd) fun σ H Q ⟨F, ρ, As, p, q⟩ => ?_
  rw [evalE] at q
  cases e : ρ[i]? with
  | none => rw [e] at q; exact q.elim
  | some o =>
    cases o with
    | none => rw [e] at q; exact q.elim
    | some d =>
      rw [e] at q
      obtain ⟨v, A, hσ, k, p2⟩ := p.give e
      exact ⟨v, hσ, fin_val (rp := rpR w) q p2 k (fun _ => Nat.le_refl _)⟩

theorem RepR.int1 {F H : Hp} {ρ : Env} {As : List (List Addr)} {C : List Addr} {v : V} {r : R} {i : Int} (k : RepR w F H ρ As v r C) (e : r.d = .int i) : v = .int i := by
  cases k with
  | val k => simp only [R.d] at e; subst e; cases k; rfl
  | brw k _ => simp only [R.d] at e; subst e; cases k; rfl
theorem RepR.str1 {F H : Hp} {ρ : Env} {As : List (List Addr)} {C : List Addr} {v : V} {r : R} {x : Str} (k : RepR w F H ρ As v r C) (e : r.d = .str x) : v = .str x ∧ PyData.strOk x = true := by
  cases k with
  | val k => simp only [R.d] at e; subst e; cases k with | str h _ => exact ⟨rfl, h⟩
  | brw k _ => simp only [R.d] at e; subst e; cases k with | str h _ => exact ⟨rfl, h⟩
theorem strOk_append {x y : Str} (hx : PyData.strOk x = true) (hy : PyData.strOk y = true) : PyData.strOk (x ++ y) = true := by
  unfold PyData.strOk at *
  show (x.cps ++ y.cps).all _ = true
  rw [Array.all_append, hx, hy]; rfl

theorem snd_neg {a : Ex} {ea : Expr} (ha : PE X ea (tEv S h w W a)) : PE X (.UnaryOp .USub ea pos) (tEv S h w W (.neg a)) := by
  refine PE.of (pe_un un_neg ha) fun σ H Q ⟨F, ρ, As, p, q⟩ => ?_
  rw [evalE] at q
  refine ⟨F, ρ, As, p, q.bind0 fun r ρ1 v F1 H1 As1 C1 e1 p1 k1 q1 => ?_⟩
  cases e : r.d with
  | int i => rw [e] at q1; exact ⟨i, k1.int1 e, fin_val (rp := rpR w) q1 p1 (.int .nil) (by simp)⟩
  | _ => rw [e] at q1; exact q1.elim
end
end SL
set_option Elab.async false
set_option linter.all false
set_option maxRecDepth 100000
set_option maxHeartbeats 1000000
/-! SLSnd2: operators, comparisons, truth. -/
namespace SL
open PySem L2
section
variable {S : Sem} {h : Bool} {w : Wd} {W : WX} {X : Cx} {pos : Pos}
variable {F H F2 H2 : Hp} {σ : L2.St} {ρ ρ2 : Env} {As As2 : List (List Addr)} {C C1 C2 : List Addr} {v u : V} {ra rb : R} {Q : VK}

theorem RepL.flat {F H : Hp} {vs : List V} {ds : List D} (n : Nat) (k : RepL w F H vs ds []) : RepL w F H (List.replicate n vs).flatten (List.replicate n ds).flatten [] := by
  induction n with
  | zero => exact .nil
  | succ n ih =>
    rw [List.replicate_succ, List.replicate_succ, List.flatten_cons, List.flatten_cons]
    exact k.app ih
/-- what both operands' state says -/
structure Two (w : Wd) (σ : L2.St) (F H : Hp) (ρ : Env) (As : List (List Addr)) (F2 H2 : Hp) (ρ2 : Env) (As2 : List (List Addr)) (v u : V) (ra rb : R) (C1 C2 : List Addr) : Prop where
  p : Post w σ F H ρ As F2 H2 ρ2 As2 (C1 ++ C2)
  k1 : RepR w F2 H2 ρ2 As2 v ra C1
  k2 : RepR w F2 H2 ρ2 As2 u rb C2

/-- a list made of frozen items -/
theorem fin_lst {ρ3 : Env} {As3 : List (List Addr)} {F3 : Hp} {ds : List D} {ws : List V} {C : List Addr}
    (q : Fin (rpR w) w σ W F H ρ As (.ok (.val (.lst true ds)) ρ3) Q) (p : Post w σ F H ρ As F3 H2 ρ3 As3 C) (k : RepL w F3 H2 ws ds C) : ∀ a, H2 a = none → Q (.ref a) (upd H2 a (.lst ws)) := fun a ha => by
  refine q (.ref a) F3 (upd H2 a (.lst ws)) As3 (a :: C) (p.alloc ha) (.val ?_)
  have hk : RepL w F3 (upd H2 a (.lst ws)) ws ds C := k.mono (Same.refl _) fun b hb => upd_ne fun e => by
    subst e
    obtain ⟨o, e2, _⟩ := k.own b hb
    rw [ha] at e2; cases e2
  have := RepL.lstO (w := w) (F := F3) (H := upd H2 a (.lst ws)) (a := a) upd_same hk .nil
  simpa using this
theorem fin_tup {ρ3 : Env} {As3 : List (List Addr)} {F3 : Hp} {ds : List D} {ws : List V}
    (q : Fin (rpR w) w σ W F H ρ As (.ok (.val (.tup ds)) ρ3) Q) (p : Post w σ F H ρ As F3 H2 ρ3 As3 []) (k : RepL w F3 H2 ws ds []) : ∀ a, H2 a = none → Q (.ref a) (upd H2 a (.tup ws)) := fun a ha => by
  obtain ⟨p2, l⟩ := p.allocF (o := .tup ws) ha
  exact q (.ref a) (upd F3 a (.tup ws)) (upd H2 a (.tup ws)) As3 [] p2 (.val (.tup (SqT.of upd_same) (k.mono l.sF (by simp)) .nil))

theorem bin_lst (t : Two w σ F H ρ As F2 H2 ρ2 As2 v u ra rb C1 C2) {o o' : Bool} {xs ys : List D} (e1 : ra.d = .lst o xs) (e2 : rb.d = .lst o' ys) {op : Bop}
    (q : Fin (rpR w) w σ W F H ρ As ((elems ra ρ2).bind fun us ρ => (elems rb ρ).bind fun vs ρ => if op = .add ∧ us.length + vs.length ≤ sizeLine then .ok (.val (.lst true (us ++ vs))) ρ else .bad) Q) :
    op = .add ∧ rCat v u H2 Q := by
  obtain ⟨p, k1, k2⟩ := t
  obtain ⟨us, ρ3, e3, q⟩ := q.of_ok elems_ne
  obtain ⟨F3, As3, a, ws, p3, l3, rfl, kk1, s1⟩ := elems_ok (C' := C2) p k1 (fun a => by simp [List.count_append]) e3
  obtain ⟨zs, ρ4, e4, q⟩ := q.of_ok elems_ne
  obtain ⟨F4, As4, b, us', p4, l4, rfl, kk2, s2⟩ := elems_ok (C' := []) p3 (k2.lift l3 k2.there) (fun a => by simp) e4
  rw [e1] at s1; rw [e2] at s2
  have n1 := kk1.len; have n2 := kk2.len
  by_cases c : op = .add ∧ us.length + zs.length ≤ sizeLine
  · rw [if_pos c] at q
    exact ⟨c.1, a, b, ws, us', rfl, rfl, s1, s2, by omega, fin_lst q p4 ((kk1.mono l4.sF (by simp)).app kk2)⟩
  · rw [if_neg c] at q; exact q.elim
theorem bin_rep (p : Post w σ F H ρ As F2 H2 ρ2 As2 (C1 ++ C2)) (k1 : RepR w F2 H2 ρ2 As2 v ra C1) {o : Bool} {xs : List D} {k : Int} (e1 : ra.d = .lst o xs) {op : Bop}
    (q : Fin (rpR w) w σ W F H ρ As ((elems ra ρ2).bind fun us ρ => if op = .mul ∧ (-(2 ^ 63) ≤ k ∧ k < 2 ^ 63) ∧ us.length * k.toNat ≤ sizeLine then .ok (.val (.lst true (List.replicate k.toNat us).flatten)) ρ else .bad) Q) :
    op = .mul ∧ rRep v (.int k) H2 Q := by
  obtain ⟨us, ρ3, e3, q⟩ := q.of_ok elems_ne
  obtain ⟨F3, As3, a, ws, p3, l3, rfl, kk1, s1⟩ := elems_ok (C' := []) p k1 (fun a => by simp) e3
  rw [e1] at s1
  have n1 := kk1.len
  by_cases c : op = .mul ∧ (-(2 ^ 63) ≤ k ∧ k < 2 ^ 63) ∧ us.length * k.toNat ≤ sizeLine
  · rw [if_pos c] at q
    exact ⟨c.1, a, k, ws, rfl, rfl, s1, c.2.1.1, c.2.1.2, by rw [n1]; exact c.2.2, fin_lst q p3 (kk1.flat _)⟩
  · rw [if_neg c] at q; exact q.elim
theorem bin_tup (t : Two w σ F H ρ As F2 H2 ρ2 As2 v u ra rb C1 C2) {op : Bop} {xs ys : List D} (e1 : ra = .val (.tup xs)) (e2 : rb = .val (.tup ys))
    (q : Fin (rpR w) w σ W F H ρ As (if op = .add ∧ xs.length + ys.length ≤ sizeLine then .ok (.val (.tup (xs ++ ys))) ρ2 else .bad) Q) : op = .add ∧ rCatA w.K v u H2 Q := by
  obtain ⟨p, k1, k2⟩ := t
  subst e1 e2
  by_cases c : op = .add ∧ xs.length + ys.length ≤ sizeLine
  · rw [if_pos c] at q
    cases k1 with
    | val k1 =>
      cases k2 with
      | val k2 =>
        cases k1 with
        | @tup a ws _ _ _ _ h1 h2 h3 =>
          cases k2 with
          | @tup b us _ _ _ _ g1 g2 g3 =>
            have n1 := h2.len; have n2 := g2.len
            refine ⟨c.1, a, b, ws, us, rfl, rfl, sqT_mono p.same h1, sqT_mono p.same g1, by omega, fun e => ?_, fun _ e => ?_, fun _ _ => ?_⟩
            · subst e
              cases h2
              exact fin_val (rp := rpR w) q p (.tup g1 g2 .nil) (by simp)
            · subst e
              cases g2
              rw [List.append_nil] at q
              exact fin_val (rp := rpR w) q p (.tup h1 h2 .nil) (by simp)
            · exact fin_tup q (p.weak (by simp)) (h2.app g2)
  · rw [if_neg c] at q; exact q.elim

theorem snd_bin {o : Bop} {op : Operator} {a b : Ex} {ea eb : Expr} {r : R2} (hK : X.K = w.K) (hr : OpR X (binaryOp op) r) (ha : PE X ea (tEv S h w W a)) (hb : PE X eb (tEv S h w W b))
    (go : ∀ (F H F2 H2 : Hp) (σ : L2.St) (ρ ρ2 : Env) (As As2 : List (List Addr)) (C1 C2 : List Addr) (v u : V) (ra rb : R) (Q : VK), Two w σ F H ρ As F2 H2 ρ2 As2 v u ra rb C1 C2 → Fin (rpR w) w σ W F H ρ As (binR o ra rb ρ2) Q → r v u H2 Q) :
    PE X (.BinOp ea op eb pos) (tEv S h w W (.bin o a b)) := by
  refine PE.of (pe_op hr ha hb) fun σ H Q ⟨F, ρ, As, p, q⟩ => ?_
  rw [evalE] at q
  refine ⟨F, ρ, As, p, q.bind0 fun ra ρ1 v F1 H1 As1 C1 e1 p1 k1 q1 => ⟨F1, ρ1, As1, p1.pre, Fin.bind p1 q1 fun rb ρ2 u F2 H2 As2 C2 e2 p2 p12 k2 q2 => ?_⟩⟩
  exact go F H F2 H2 σ ρ ρ2 As As2 C1 C2 v u ra rb Q ⟨p2, RepR.lift k1 p12.lift (RepR.there k1), k2⟩ q2

/-- two ints -/
theorem bin_int (t : Two w σ F H ρ As F2 H2 ρ2 As2 v u ra rb C1 C2) {i j : Int} {o : Bop} (e1 : ra.d = .int i) (e2 : rb.d = .int j)
    (q : Fin (rpR w) w σ W F H ρ As ((Res.of (binI o i j) ρ2).bind fun k ρ => .ok (.val (.int k)) ρ) Q) : ∃ k, binI o i j = some k ∧ v = .int i ∧ u = .int j ∧ Q (.int k) H2 := by
  obtain ⟨k, e, q⟩ := q.ofO
  exact ⟨k, e, t.k1.int1 e1, t.k2.int1 e2, fin_val (rp := rpR w) q t.p (.int .nil) (by simp)⟩
theorem binR_cases {o : Bop} (q : Fin (rpR w) w σ W F H ρ As (binR o ra rb ρ2) Q) :
    (∃ i j, ra.d = .int i ∧ rb.d = .int j ∧ Fin (rpR w) w σ W F H ρ As ((Res.of (binI o i j) ρ2).bind fun k ρ => .ok (.val (.int k)) ρ) Q) ∨
    (∃ x y, ra.d = .str x ∧ rb.d = .str y ∧ Fin (rpR w) w σ W F H ρ As (if o = .add ∧ x.length + y.length ≤ sizeLine then .ok (.val (.str (x ++ y))) ρ2 else .bad) Q) ∨
    (∃ m m' xs ys, ra.d = .lst m xs ∧ rb.d = .lst m' ys ∧ Fin (rpR w) w σ W F H ρ As ((elems ra ρ2).bind fun us ρ => (elems rb ρ).bind fun vs ρ => if o = .add ∧ us.length + vs.length ≤ sizeLine then .ok (.val (.lst true (us ++ vs))) ρ else .bad) Q) ∨
    (∃ xs ys, ra = .val (.tup xs) ∧ rb = .val (.tup ys) ∧ Fin (rpR w) w σ W F H ρ As (if o = .add ∧ xs.length + ys.length ≤ sizeLine then .ok (.val (.tup (xs ++ ys))) ρ2 else .bad) Q) ∨
    (∃ m xs k, ra.d = .lst m xs ∧ rb.d = .int k ∧ Fin (rpR w) w σ W F H ρ As ((elems ra ρ2).bind fun us ρ => if o = .mul ∧ (-(2 ^ 63) ≤ k ∧ k < 2 ^ 63) ∧ us.length * k.toNat ≤ sizeLine then .ok (.val (.lst true (List.replicate k.toNat us).flatten)) ρ else .bad) Q) := by
  cases e1 : ra.d <;> cases e2 : rb.d <;> simp only [binR, e1, e2] at q <;> try exact q.elim
  · exact .inl ⟨_, _, rfl, rfl, q⟩
  · exact .inr (.inl ⟨_, _, rfl, rfl, q⟩)
  · cases ra with
    | brw i d => exact q.elim
    | val d =>
      cases rb with
      | brw i d' => cases d <;> exact q.elim
      | val d' =>
        simp only [R.d] at e1 e2
        subst e1 e2
        exact .inr (.inr (.inr (.inl ⟨_, _, rfl, rfl, q⟩)))
  · exact .inr (.inr (.inr (.inr ⟨_, _, _, rfl, rfl, q⟩)))
  · exact .inr (.inr (.inl ⟨_, _, _, _, rfl, rfl, q⟩))
theorem snd_add {a b : Ex} {ea eb : Expr} (hK : X.K = w.K) (ha : PE X ea (tEv S h w W a)) (hb : PE X eb (tEv S h w W b)) : PE X (.BinOp ea .Add eb pos) (tEv S h w W (.bin .add a b)) := by
  refine snd_bin hK (OpR.or op_add (OpR.or op_add_str (OpR.or op_cat op_catA))) ha hb fun F H F2 H2 σ ρ ρ2 As As2 C1 C2 v u ra rb Q t q => ?_
  rcases binR_cases q with ⟨i, j, e1, e2, q⟩ | ⟨x, y, e1, e2, q⟩ | ⟨m, m', xs, ys, e1, e2, q⟩ | ⟨xs, ys, e1, e2, q⟩ | ⟨m, xs, k, e1, e2, q⟩
  · obtain ⟨k, e, rfl, rfl, q⟩ := bin_int t e1 e2 q
    simp only [binI, Option.some.injEq] at e
    subst e
    exact .inl ⟨i, j, rfl, rfl, q⟩
  · by_cases c : x.length + y.length ≤ sizeLine
    · simp only [true_and, c, if_true] at q
      exact .inr (.inl ⟨x, y, (t.k1.str1 e1).1, (t.k2.str1 e2).1, c, fin_val (rp := rpR w) q t.p (.str (strOk_append (t.k1.str1 e1).2 (t.k2.str1 e2).2) .nil) (by simp)⟩)
    · simp only [true_and, c, if_false] at q; exact q.elim
  · exact .inr (.inr (.inl (bin_lst t e1 e2 q).2))
  · rw [hK]; exact .inr (.inr (.inr (bin_tup t e1 e2 q).2))
  · have := (bin_rep t.p t.k1 e1 q).1; cases this
theorem snd_int2 {o : Bop} {op : Operator} {a b : Ex} {ea eb : Expr} {C : Int → Int → Prop} {g : Int → Int → Int} (hK : X.K = w.K) (ho : o ≠ .add ∧ o ≠ .mul) (hr : OpR X (binaryOp op) (rI C fun i j => .int (g i j)))
    (hg : ∀ i j k, binI o i j = some k → C i j ∧ k = g i j) (ha : PE X ea (tEv S h w W a)) (hb : PE X eb (tEv S h w W b)) : PE X (.BinOp ea op eb pos) (tEv S h w W (.bin o a b)) := by
  refine snd_bin hK hr ha hb fun F H F2 H2 σ ρ ρ2 As As2 C1 C2 v u ra rb Q t q => ?_
  rcases binR_cases q with ⟨i, j, e1, e2, q⟩ | ⟨x, y, e1, e2, q⟩ | ⟨m, m', xs, ys, e1, e2, q⟩ | ⟨xs, ys, e1, e2, q⟩ | ⟨m, xs, k, e1, e2, q⟩
  · obtain ⟨k, e, rfl, rfl, q⟩ := bin_int t e1 e2 q
    obtain ⟨c, rfl⟩ := hg i j k e
    exact ⟨i, j, rfl, rfl, c, q⟩
  · rw [if_neg (by simp [ho.1])] at q; exact q.elim
  · exact absurd (bin_lst t e1 e2 q).1 ho.1
  · exact absurd (bin_tup t e1 e2 q).1 ho.1
  · exact absurd (bin_rep t.p t.k1 e1 q).1 ho.2
theorem snd_mul {a b : Ex} {ea eb : Expr} (hK : X.K = w.K) (ha : PE X ea (tEv S h w W a)) (hb : PE X eb (tEv S h w W b)) : PE X (.BinOp ea .Mult eb pos) (tEv S h w W (.bin .mul a b)) := by
  refine snd_bin hK (OpR.or op_mul op_rep) ha hb fun F H F2 H2 σ ρ ρ2 As As2 C1 C2 v u ra rb Q t q => ?_
  rcases binR_cases q with ⟨i, j, e1, e2, q⟩ | ⟨x, y, e1, e2, q⟩ | ⟨m, m', xs, ys, e1, e2, q⟩ | ⟨xs, ys, e1, e2, q⟩ | ⟨m, xs, k, e1, e2, q⟩
  · obtain ⟨k, e, rfl, rfl, q⟩ := bin_int t e1 e2 q
    simp only [binI] at e
    split at e
    · rename_i c
      simp only [Option.some.injEq] at e
      subst e
      exact .inl ⟨i, j, rfl, rfl, by simpa [mulOk, CMul] using c, q⟩
    · cases e
  · rw [if_neg (by simp)] at q; exact q.elim
  · have := (bin_lst t e1 e2 q).1; cases this
  · have := (bin_tup t e1 e2 q).1; cases this
  · have e := t.k2.int1 e2; subst e; exact .inr (bin_rep t.p t.k1 e1 q).2
theorem snd_sub {a b : Ex} {ea eb : Expr} (hK : X.K = w.K) (ha : PE X ea (tEv S h w W a)) (hb : PE X eb (tEv S h w W b)) : PE X (.BinOp ea .Sub eb pos) (tEv S h w W (.bin .sub a b)) := by
  refine snd_int2 (C := fun _ _ => True) (g := fun i j => i - j) hK (by simp) (fun pins s σ H x y v u Q I r1 r2 ⟨i, j, e1, e2, _, q⟩ => op_sub pins s σ H x y v u Q I r1 r2 ⟨i, j, e1, e2, q⟩) (fun i j k e => ?_) ha hb
  simp only [binI, Option.some.injEq] at e
  exact ⟨trivial, e.symm⟩
theorem snd_fdiv {a b : Ex} {ea eb : Expr} (hK : X.K = w.K) (ha : PE X ea (tEv S h w W a)) (hb : PE X eb (tEv S h w W b)) : PE X (.BinOp ea .FloorDiv eb pos) (tEv S h w W (.bin .fdiv a b)) := by
  refine snd_int2 hK (by simp) op_fdiv (fun i j k e => ?_) ha hb
  simp only [binI] at e
  split at e
  · rename_i c; simp only [Option.some.injEq] at e; exact ⟨c, e.symm⟩
  · cases e
theorem snd_mod {a b : Ex} {ea eb : Expr} (hK : X.K = w.K) (ha : PE X ea (tEv S h w W a)) (hb : PE X eb (tEv S h w W b)) : PE X (.BinOp ea .Mod eb pos) (tEv S h w W (.bin .mod a b)) := by
  refine snd_int2 hK (by simp) op_mod (fun i j k e => ?_) ha hb
  simp only [binI] at e
  split at e
  · rename_i c; simp only [Option.some.injEq] at e; exact ⟨c, e.symm⟩
  · cases e
theorem snd_pow {a b : Ex} {ea eb : Expr} (hK : X.K = w.K) (ha : PE X ea (tEv S h w W a)) (hb : PE X eb (tEv S h w W b)) : PE X (.BinOp ea .Pow eb pos) (tEv S h w W (.bin .pow a b)) := by
  refine snd_int2 hK (by simp) op_pow (fun i j k e => ?_) ha hb
  simp only [binI] at e
  split at e
  · rename_i c; simp only [Option.some.injEq] at e; exact ⟨c, e.symm⟩
  · cases e
end
end SL
set_option Elab.async false
set_option linter.all false
set_option maxRecDepth 100000
set_option maxHeartbeats 1000000
/-! SLSnd3: comparisons, tests. -/
namespace SL
open PySem L2
section
variable {S : Sem} {h : Bool} {w : Wd} {W : WX} {X : Cx} {pos : Pos}

/-! ### comparisons by the library's data -/
def rEqW (K : PySem.W.Frag) (neg : Bool) : R2 := fun x y H Q => ∃ d e, Dp K H x d ∧ Dp K H y e ∧ d.canLay0 = true ∧ e.canLay0 = true ∧ min d.depth e.depth ≤ 64 ∧ Q (.bl (if neg then !PyData.eqv d e else PyData.eqv d e)) H
theorem op_eqW (hu : X.A.units + 64 < cLine) : OpR X (compareOp .Eq) (rEqW X.K false) := by
  intro pins s σ H x y v u Q I rx ry ⟨d, e, hd, he, sd, se, hm, q⟩
  obtain ⟨as, r1⟩ := Dp.reads I d x v hd rx
  obtain ⟨bs, r2⟩ := Dp.reads I e y u he ry
  exact SeqAt.compareEq_reads r1 r2 sd se (by omega) ⟨.bl _, H, I, rfl, q⟩
theorem op_neW (hu : X.A.units + 64 < cLine) : OpR X (compareOp .NotEq) (rEqW X.K true) := by
  intro pins s σ H x y v u Q I rx ry ⟨d, e, hd, he, sd, se, hm, q⟩
  obtain ⟨as, r1⟩ := Dp.reads I d x v hd rx
  obtain ⟨bs, r2⟩ := Dp.reads I e y u he ry
  exact SeqAt.compareNe_reads r1 r2 sd se (by omega) ⟨.bl _, H, I, rfl, q⟩
/-- x in a list or a tuple -/
def rInW (K : PySem.W.Frag) (neg : Bool) : R2 := fun x y H Q => ∃ d ds, Dp K H x d ∧ (Dp K H y (.list ds) ∨ Dp K H y (.tuple ds)) ∧ d.canLay0 = true ∧ PyData.canLayAll0 ds = true ∧ d.depth ≤ 64 ∧
  Q (.bl (if neg then !(ds.any fun z => PyData.eqv z d) else ds.any fun z => PyData.eqv z d)) H
theorem op_inW (hu : X.A.units + 65 < cLine) : OpR X (compareOp .In) (rInW X.K false) := by
  intro pins s σ H x y v u Q I rx ry ⟨d, ds, hd, he, sd, se, hm, q⟩
  obtain ⟨as, r1⟩ := Dp.reads I d x v hd rx
  have hr : X.A.units + 1 + min (PyData.depthAll ds) d.depth < cLine := by
    have := Nat.min_le_right (PyData.depthAll ds) d.depth; omega
  rcases he with he | he
  · obtain ⟨bs, r2⟩ := Dp.reads I _ y u he ry
    exact SeqAt.in_list_reads r2 r1 se sd hr ⟨.bl _, H, I, rfl, q⟩
  · obtain ⟨bs, r2⟩ := Dp.reads I _ y u he ry
    exact SeqAt.in_tuple_reads r2 r1 se sd hr ⟨.bl _, H, I, rfl, q⟩
theorem op_ninW (hu : X.A.units + 65 < cLine) : OpR X (compareOp .NotIn) (rInW X.K true) := by
  intro pins s σ H x y v u Q I rx ry ⟨d, ds, hd, he, sd, se, hm, q⟩
  obtain ⟨as, r1⟩ := Dp.reads I d x v hd rx
  have hr : X.A.units + 1 + min (PyData.depthAll ds) d.depth < cLine := by
    have := Nat.min_le_right (PyData.depthAll ds) d.depth; omega
  rcases he with he | he
  · obtain ⟨bs, r2⟩ := Dp.reads I _ y u he ry
    exact SeqAt.notIn_list_reads r2 r1 se sd hr ⟨.bl _, H, I, rfl, q⟩
  · obtain ⟨bs, r2⟩ := Dp.reads I _ y u he ry
    exact SeqAt.notIn_tuple_reads r2 r1 se sd hr ⟨.bl _, H, I, rfl, q⟩

def rInS (neg : Bool) : R2 := fun x y H Q => ∃ i j, x = .str i ∧ y = .str j ∧ Q (.bl (if neg then !strIn i j else strIn i j)) H
theorem op_inS : OpR X (compareOp .In) (rInS false) := fun pins s σ H x y v u Q I rx ry ⟨i, j, e1, e2, q⟩ => op_in_str pins s σ H x y v u Q I rx ry ⟨i, j, e1, e2, q⟩
theorem op_ninS : OpR X (compareOp .NotIn) (rInS true) := fun pins s σ H x y v u Q I rx ry ⟨i, j, e1, e2, q⟩ => op_notin_str pins s σ H x y v u Q I rx ry ⟨i, j, e1, e2, q⟩

/-- the operator in the text, what it asks -/
def copOf : Cop → CmpOp
  | .eq => .Eq | .ne => .NotEq | .lt => .Lt | .le => .LtE | .gt => .Gt | .ge => .GtE | .isn => .Is | .notn => .IsNot | .in_ => .In | .nin => .NotIn
def rC (K : PySem.W.Frag) : Cop → R2
  | .eq => rEqW K false
  | .ne => rEqW K true
  | .lt => fun x y H Q => rI0 (fun i j => .bl (decide (i < j))) x y H Q ∨ ∃ i j, x = .str i ∧ y = .str j ∧ Q (.bl (decide (i.cps.toList < j.cps.toList))) H
  | .le => fun x y H Q => rI0 (fun i j => .bl (decide (i ≤ j))) x y H Q ∨ ∃ i j, x = .str i ∧ y = .str j ∧ Q (.bl (!decide (j.cps.toList < i.cps.toList))) H
  | .gt => fun x y H Q => rI0 (fun i j => .bl (decide (j < i))) x y H Q ∨ ∃ i j, x = .str i ∧ y = .str j ∧ Q (.bl (decide (j.cps.toList < i.cps.toList))) H
  | .ge => fun x y H Q => rI0 (fun i j => .bl (decide (j ≤ i))) x y H Q ∨ ∃ i j, x = .str i ∧ y = .str j ∧ Q (.bl (!decide (i.cps.toList < j.cps.toList))) H
  | .isn => fun x y H Q => y = .non ∧ Q (.bl (decide (x = .non))) H
  | .notn => fun x y H Q => y = .non ∧ Q (.bl (!decide (x = .non))) H
  | .in_ => fun x y H Q => rInW K false x y H Q ∨ rInS false x y H Q
  | .nin => fun x y H Q => rInW K true x y H Q ∨ rInS true x y H Q
theorem op_C (hu : X.A.units + 65 < cLine) : ∀ o : Cop, OpR X (compareOp (copOf o)) (rC X.K o)
  | .eq => op_eqW (by omega)
  | .ne => op_neW (by omega)
  | .lt => OpR.or op_lt op_lt_str
  | .le => OpR.or op_le op_le_str
  | .gt => OpR.or op_gt op_gt_str
  | .ge => OpR.or op_ge op_ge_str
  | .isn => op_isN
  | .notn => op_notN
  | .in_ => OpR.or (op_inW hu) op_inS
  | .nin => OpR.or (op_ninW hu) op_ninS

variable {F H : Hp} {σ : L2.St} {ρ : Env} {As : List (List Addr)} {C1 C2 : List Addr} {v u : V} {ra rb : R} {Q : VK}
theorem pyL_any {a : D} {p : PyData} (ha : a.py = some p) : ∀ (xs : List D) (ps : List PyData), D.pyL xs = some ps → (ps.any fun z => PyData.eqv z p) = xs.any fun x => x.eqv a
  | [], ps, e => by simp [D.pyL] at e; subst e; rfl
  | x :: xs, ps, e => by
    simp only [D.pyL] at e
    cases q1 : x.py with
    | none => rw [q1] at e; simp at e
    | some p1 =>
      cases q2 : D.pyL xs with
      | none => rw [q1, q2] at e; simp at e
      | some qs =>
        rw [q1, q2] at e; simp at e; subst e
        rw [List.any_cons, List.any_cons, pyL_any ha xs qs q2, py_eqv x a p1 p q1 ha]
theorem isData_iff {d : D} : isData d = true ↔ ∃ p, d.py = some p := by
  unfold isData; rw [Option.isSome_iff_exists]
theorem rep_non {F H : Hp} {C : List Addr} {v : V} {d : D} (k : Rep w F H v d C) : (v = .non ↔ d = .non) := by
  cases k <;> simp
theorem cmp_go {o : Cop} {c : Bool} (s : Same F H) (k1 : RepR w F H ρ As v ra C1) (k2 : RepR w F H ρ As u rb C2) (e : cmpD o ra.d rb.d = some c) (hn : o = .isn ∨ o = .notn → rb.d = .non) (q : Q (.bl c) H) : rC w.K o v u H Q := by
  have v1 := k1.view s; have v2 := k2.view s
  have data : ∀ {a b : D} {neg : Bool} {x y : V} {B C : List Addr}, Rep w H H x a B → Rep w H H y b C → (if isData a && isData b && decide (a.dep ≤ 64 ∨ b.dep ≤ 64) then some (if neg then !a.eqv b else a.eqv b) else none) = some c → rEqW w.K neg x y H Q := by
    intro a b neg x y B C r1 r2 e
    split at e
    · rename_i hc
      simp only [Bool.and_eq_true, decide_eq_true_eq] at hc
      obtain ⟨p, h1⟩ := isData_iff.mp hc.1.1
      obtain ⟨p2, h2⟩ := isData_iff.mp hc.1.2
      simp only [Option.some.injEq] at e
      have d1 := r1.dp1 (Same.refl _) h1
      have d2 := r2.dp1 (Same.refl _) h2
      have m1 := py_dep _ _ h1; have m2 := py_dep _ _ h2
      refine ⟨p, p2, d1.1, d2.1, d1.2, d2.2, by omega, ?_⟩
      rw [py_eqv a b p p2 h1 h2, e]; exact q
    · cases e
  have inn : ∀ {a b : D} {neg : Bool} {xs : List D} {x y : V} {B C : List Addr}, (∃ o, b = .lst o xs) ∨ b = .tup xs → Rep w H H x a B → Rep w H H y b C → (if isData a && isData b && decide (a.dep ≤ 64) then some (if neg then !(xs.any fun x => x.eqv a) else xs.any fun x => x.eqv a) else none) = some c → rInW w.K neg x y H Q := by
    intro a b neg xs x y B C hb r1 r2 e
    split at e
    · rename_i hc
      simp only [Bool.and_eq_true, decide_eq_true_eq] at hc
      obtain ⟨p, h1⟩ := isData_iff.mp hc.1.1
      obtain ⟨p2, h2⟩ := isData_iff.mp hc.1.2
      simp only [Option.some.injEq] at e
      have d1 := r1.dp1 (Same.refl _) h1
      have d2 := r2.dp1 (Same.refl _) h2
      have m1 := py_dep _ _ h1
      rcases hb with ⟨o, rfl⟩ | rfl
      · simp only [D.py, Option.map_eq_some_iff] at h2
        obtain ⟨ps, h2, rfl⟩ := h2
        refine ⟨p, ps, d1.1, .inl d2.1, d1.2, d2.2, by omega, ?_⟩
        rw [pyL_any h1 xs ps h2, e]; exact q
      · simp only [D.py, Option.map_eq_some_iff] at h2
        obtain ⟨ps, h2, rfl⟩ := h2
        refine ⟨p, ps, d1.1, .inr d2.1, d1.2, d2.2, by omega, ?_⟩
        rw [pyL_any h1 xs ps h2, e]; exact q
    · cases e
  have ord : ∀ {f : Int → Int → Bool} {g : Str → Str → Bool}, ordD f g ra.d rb.d = some c →
      (rI0 (fun i j => .bl (f i j)) v u H Q ∨ ∃ i j, v = .str i ∧ u = .str j ∧ Q (.bl (g i j)) H) := by
    intro f g e
    unfold ordD at e
    split at e
    · rename_i i j e1 e2
      simp only [Option.some.injEq] at e
      exact .inl ⟨i, j, k1.int1 e1, k2.int1 e2, by show Q (.bl (f i j)) H; rw [e]; exact q⟩
    · rename_i i j e1 e2
      simp only [Option.some.injEq] at e
      exact .inr ⟨i, j, (k1.str1 e1).1, (k2.str1 e2).1, by rw [e]; exact q⟩
    · cases e
  cases o with
  | eq => exact data (neg := false) v1 v2 (by simpa [cmpD] using e)
  | ne => exact data (neg := true) v1 v2 (by simpa [cmpD] using e)
  | lt => exact ord e
  | le => exact ord e
  | gt => exact ord e
  | ge => exact ord e
  | isn =>
    have hb := hn (.inl rfl)
    rw [hb] at v2
    have hu : u = .non := (rep_non v2).mpr rfl
    refine ⟨hu, ?_⟩
    simp only [cmpD] at e
    split at e <;> rename_i hd <;> simp only [Option.some.injEq] at e <;> subst e
    · rw [hd] at v1; rw [decide_eq_true ((rep_non v1).mpr rfl)]; exact q
    · rw [decide_eq_false (fun z => hd ((rep_non v1).mp z))]; exact q
  | notn =>
    have hb := hn (.inr rfl)
    rw [hb] at v2
    have hu : u = .non := (rep_non v2).mpr rfl
    refine ⟨hu, ?_⟩
    simp only [cmpD] at e
    split at e <;> rename_i hd <;> simp only [Option.some.injEq] at e <;> subst e
    · rw [hd] at v1; rw [decide_eq_true ((rep_non v1).mpr rfl)]; exact q
    · rw [decide_eq_false (fun z => hd ((rep_non v1).mp z))]; exact q
  | in_ =>
    simp only [cmpD] at e
    split at e
    · rename_i o xs hb; exact .inl (inn (neg := false) (.inl ⟨o, hb⟩) v1 v2 (by simpa [hb] using e))
    · rename_i xs hb; exact .inl (inn (neg := false) (.inr hb) v1 v2 (by simpa [hb] using e))
    · rename_i y hb
      split at e
      · rename_i x ha
        simp only [Option.some.injEq] at e
        exact .inr ⟨x, y, (k1.str1 ha).1, (k2.str1 hb).1, by simpa [e] using q⟩
      · cases e
    · cases e
  | nin =>
    simp only [cmpD] at e
    split at e
    · rename_i o xs hb; exact .inl (inn (neg := true) (.inl ⟨o, hb⟩) v1 v2 (by simpa [hb] using e))
    · rename_i xs hb; exact .inl (inn (neg := true) (.inr hb) v1 v2 (by simpa [hb] using e))
    · rename_i y hb
      split at e
      · rename_i x ha
        simp only [Option.some.injEq] at e
        exact .inr ⟨x, y, (k1.str1 ha).1, (k2.str1 hb).1, by simpa [e] using q⟩
      · cases e
    · cases e
end
end SL
set_option Elab.async false
set_option linter.all false
set_option maxRecDepth 100000
set_option maxHeartbeats 1000000
/-! SLSnd4: rows of expressions, tests, and, or, not, if, chains, items, slices, displays. -/
namespace SL
open PySem L2

def noStar : Expr → Bool
  | .Starred _ _ => false
  | _ => true
theorem star_cons {e : Expr} {es : List Expr} {env : PySem.Env} (h : noStar e = true) : starEach (e :: es) env = (false, eval e env) :: starEach es env := by
  cases e <;> first | rfl | cases h
theorem star_any {pos : Pos} {env : PySem.Env} : ∀ {es : List Expr}, es.all noStar = true → (backTo pos (starEach es env)).any (·.1) = false
  | [], _ => rfl
  | e :: es, h => by
    simp only [List.all_cons, Bool.and_eq_true] at h
    rw [star_cons h.1]
    show (false || (backTo pos (starEach es env)).any (·.1)) = false
    rw [star_any h.2]; rfl
section
variable {S : Sem} {h : Bool} {w : Wd} {W : WX} {X : Cx} {pos : Pos}
variable {s : Ex} {ss : List Ex} {e : Expr} {es : List Expr}

theorem snd_es_nil : PA X [] (tEvs S h w W []) := PA.of pa_nil fun σ H Q ⟨F, ρ, As, p, q⟩ => q [] F H As [] p.post .nil
theorem snd_es_cons (he : PE X e (tEv S h w W s)) (hes : PA X es (tEvs S h w W ss)) (ns : noStar e = true) : PA X (e :: es) (tEvs S h w W (s :: ss)) := by
  refine PA.of (pa_cons he hes (star_cons ns)) fun σ H Q ⟨F, ρ, As, p, q⟩ => ?_
  rw [evalEs] at q
  exact ⟨F, ρ, As, p, q.bind0 fun r ρ1 v F1 H1 As1 C1 e1 p1 k1 q1 => ⟨F1, ρ1, As1, p1.pre, Fin.bind p1 q1 fun rs ρ2 vs F2 H2 As2 C2 e2 p2 p12 k2 q2 =>
    q2 (v :: vs) F2 H2 As2 (C1 ++ C2) p2 (.cons (RepR.lift k1 p12.lift (RepR.there k1)) k2)⟩⟩

theorem snd_k_nil : PA X [] (tKv S h w W []) := PA.of pa_nil fun σ H Q ⟨F, ρ, As, p, q⟩ => q [] F H As [] p.post .nil
theorem Rep.up {F H F' H' : Hp} {ρ ρ' : Env} {As As' : List (List Addr)} {vs : List V} {ds : List D} {C : List Addr} (k : RepL w F H vs ds C) (l : Lift F H ρ As F' H' ρ' As') : RepL w F' H' vs ds C :=
  k.mono l.sF fun a h => by obtain ⟨o, e, _⟩ := k.own a h; rw [e]; exact l.sH a o e
theorem snd_k_cons (he : PE X e (tEv S h w W s)) (hes : PA X es (tKv S h w W ss)) (ns : noStar e = true) : PA X (e :: es) (tKv S h w W (s :: ss)) := by
  refine PA.of (pa_cons he hes (star_cons ns)) fun σ H Q ⟨F, ρ, As, p, q⟩ => ?_
  rw [evalK] at q
  refine ⟨F, ρ, As, p, q.bind0 fun r ρ1 v F1 H1 As1 C1 e1 p1 k1 q1 => ?_⟩
  obtain ⟨d, ρ1', e1', q1⟩ := q1.of_ok settle_ne
  obtain ⟨F1', As1', t, k1'⟩ := settle_ok p1.pre k1 e1'
  refine ⟨F1', ρ1', As1', t.pre, Fin.bind ((p1.trans t).weak (C' := C1) fun a => by simp) q1 fun ds ρ2 vs F2 H2 As2 C2 e2 p2 p12 k2 q2 => ?_⟩
  exact q2 (v :: vs) F2 H2 As2 (C1 ++ C2) p2 (RepL.cons (Rep.up k1' p12.lift) k2)

theorem argR_ne {r : R} {ρ : Env} : ∀ c xs ρ', argR r ρ ≠ .exc c xs ρ' := by
  intro c xs ρ' z
  cases r with
  | val d => simp [argR] at z
  | brw i d =>
    simp only [argR] at z
    split at z
    · split at z
      · cases z
      · cases e : settle (R.brw i d) ρ with
        | bad => rw [e] at z; simp at z
        | ok a ρ2 => rw [e] at z; simp at z
        | exc c2 xs2 ρ2 => exact settle_ne _ _ _ e
    · cases z
theorem argR_ok {F H : Hp} {σ : L2.St} {ρ ρ' : Env} {As : List (List Addr)} {v : V} {r r' : R} {C0 : List Addr} (p : Pre w F H σ ρ As) (k : RepR w F H ρ As v r C0) (e : argR r ρ = .ok r' ρ') :
    ∃ F' As', Post w σ F H ρ As F' H ρ' As' [] ∧ RepR w F' H ρ' As' v r' C0 := by
  cases r with
  | val d =>
    simp only [argR, Res.ok.injEq] at e
    obtain ⟨rfl, rfl⟩ := e
    exact ⟨F, As, p.post, k⟩
  | brw i d =>
    simp only [argR] at e
    split at e
    · split at e
      · simp only [Res.ok.injEq] at e
        obtain ⟨rfl, rfl⟩ := e
        exact ⟨F, As, p.post, k⟩
      · cases e2 : settle (R.brw i d) ρ with
        | bad => rw [e2] at e; simp at e
        | exc c xs ρ2 => rw [e2] at e; simp at e
        | ok a ρ2 =>
          rw [e2] at e
          simp only [Res.bind_ok, Res.ok.injEq] at e
          obtain ⟨rfl, rfl⟩ := e
          obtain ⟨F', As', t, k'⟩ := settle_ok p k e2
          exact ⟨F', As', t, .val k'⟩
    · cases e
/-! ### arguments -/
theorem snd_a_nil : PA X [] (tAv S h w W []) := PA.of pa_nil fun σ H Q ⟨F, ρ, As, p, q⟩ => q [] F H As [] p.post .nil
theorem snd_a_cons (he : PE X e (tEv S h w W s)) (hes : PA X es (tAv S h w W ss)) (ns : noStar e = true) : PA X (e :: es) (tAv S h w W (s :: ss)) := by
  refine PA.of (pa_cons he hes (star_cons ns)) fun σ H Q ⟨F, ρ, As, p, q⟩ => ?_
  rw [evalA] at q
  refine ⟨F, ρ, As, p, q.bind0 fun r ρ1 v F1 H1 As1 C1 e1 p1 k1 q1 => ?_⟩
  obtain ⟨r', ρ1', e1', q1⟩ := q1.of_ok argR_ne
  obtain ⟨F1', As1', t, k1'⟩ := argR_ok p1.pre k1 e1'
  exact ⟨F1', ρ1', As1', t.pre, Fin.bind ((p1.trans t).weak (C' := C1) fun a => by simp) q1 fun rs ρ2 vs F2 H2 As2 C2 e2 p2 p12 k2 q2 =>
    q2 (v :: vs) F2 H2 As2 (C1 ++ C2) p2 (.cons (RepR.lift k1' p12.lift (RepR.there k1')) k2)⟩

/-! ### displays -/
theorem snd_lst (hes : PA X es (tKv S h w W ss)) : PE X (.List es pos) (tEv S h w W (.lst ss)) := by
  refine PE.of (pe_lst hes) fun σ H Q ⟨F, ρ, As, p, q⟩ => ?_
  rw [evalE] at q
  refine ⟨F, ρ, As, p, q.bind0 fun ds ρ1 vs F1 H1 As1 C1 e1 p1 k1 q1 => ?_⟩
  have n := RepL.len (w := w) k1
  by_cases c : ds.length ≤ sizeLine
  · rw [if_pos c] at q1
    exact ⟨by omega, fin_lst q1 p1 k1⟩
  · rw [if_neg c] at q1; exact q1.elim
theorem snd_tup {j : Nat} (hes : PA X es (tKv S h w W ss)) : PE X (.Tuple es j pos) (tEv S h w W (.tup ss)) := by
  refine PE.of (pe_tup hes) fun σ H Q ⟨F, ρ, As, p, q⟩ => ?_
  rw [evalE] at q
  refine ⟨F, ρ, As, p, q.bind0 fun ds ρ1 vs F1 H1 As1 C1 e1 p1 k1 q1 => ?_⟩
  have n := RepL.len (w := w) k1
  by_cases c : ds.length ≤ sizeLine
  · rw [if_pos c] at q1
    have sh := p1.shed (B := C1) (C' := []) (by simp)
    exact ⟨by omega, fin_tup q1 sh.1 (RepL.frz (w := w) k1 sh.2.sF fun a ha => by unfold ov; rw [if_pos ha])⟩
  · rw [if_neg c] at q1; exact q1.elim

/-! ### truth -/
theorem truV_of {F H : Hp} {v : V} {d : D} {C : List Addr} {b : Bool} {K : PySem.W.Frag} (hK : K = w.K) (k : Rep w H H v d C) (e : truth d = some b) : TruV K v H b := by
  subst hK
  cases k with
  | non _ => simp [truth] at e; subst e; rfl
  | bl _ => simp [truth] at e; subst e; rfl
  | int _ => simp only [truth, Option.some.injEq] at e; subst e; rfl
  | str hx _ =>
    simp only [truth] at e
    split at e
    · rename_i hc; simp only [Option.some.injEq] at e; subst e; exact ⟨hc, by rw [Bool.eq_iff_iff]; simp⟩
    · cases e
  | scr _ _ => simp [truth] at e
  | @tup a ws xs _ _ _ h1 h2 _ =>
    simp only [truth, Option.some.injEq] at e; subst e
    have n := h2.len
    refine .inr (.inl ⟨ws, h1, ?_⟩)
    cases ws <;> cases xs <;> simp_all
  | @lstF a ws xs _ _ _ h1 h2 _ =>
    simp only [truth, Option.some.injEq] at e; subst e
    have n := h2.len
    refine .inl ⟨ws, .of h1, ?_⟩
    cases ws <;> cases xs <;> simp_all
  | @lstO a ws xs _ _ _ B h1 h2 _ =>
    simp only [truth, Option.some.injEq] at e; subst e
    have n := h2.len
    refine .inl ⟨ws, .of h1, ?_⟩
    cases ws <;> cases xs <;> simp_all
  | insF _ _ _ _ => simp [truth] at e
  | insO _ _ _ _ => simp [truth] at e
  | exn _ _ _ _ _ => simp [truth] at e
  | exn0 _ _ => simp [truth] at e
theorem fin_b {F H F2 H2 : Hp} {σ : L2.St} {ρ ρ2 : Env} {As As2 : List (List Addr)} {C2 : List Addr} {b : Bool} {Q : Bool → Hp → Prop}
    (q : Fin rpB w σ W F H ρ As (.ok b ρ2) Q) (p : Post w σ F H ρ As F2 H2 ρ2 As2 C2) : Q b H2 := q b F2 H2 As2 [] (p.weak (by simp)) ⟨rfl, rfl⟩
/-- an expression of any kind as a test -/
theorem snd_te (hK : X.K = w.K) (he : PE X e (tEv S h w W s)) (hi : ∀ whole, isTrue e X.env whole = (do let v ← whole; standAt e.pos; holding [v] (truthy v))) : PT X e (tTv S h w W (.e s)) := by
  refine PT.of (pt_truth he hi) fun σ H Q ⟨F, ρ, As, p, q⟩ => ?_
  rw [evalT] at q
  refine ⟨F, ρ, As, p, q.bind0 fun r ρ1 v F1 H1 As1 C1 e1 p1 k1 q1 => ?_⟩
  cases e2 : truth r.d with
  | none => rw [e2] at q1; exact q1.elim
  | some b =>
    rw [e2] at q1
    exact ⟨b, truV_of (F := F1) hK (RepR.view k1 p1.same) e2, fin_b q1 p1⟩

/-! ### comparisons -/
variable {o o' : Cop} {a b c : Ex} {ea eb ec : Expr}
def isNon : Expr → Bool
  | .Constant .none _ _ => true
  | _ => false
theorem non_of (hb : b = .non) {r : R} {ρ ρ' : Env} (e : evalE S h b ρ = .ok r ρ') : r.d = .non := by
  subst hb; rw [evalE] at e; cases e; rfl
theorem snd_cmp2 (hK : X.K = w.K) (ha : PE X ea (tEv S h w W a)) (hb : PE X eb (tEv S h w W b)) (hn : o = .isn ∨ o = .notn → b = .non) {σ : L2.St} {H : Hp} {Q : VK} {α : Type} {β : Type} {rp : RP β α} {Q2 : β → Hp → Prop} {F : Hp} {ρ : Env} {As : List (List Addr)}
    {kk : Bool → Env → Res α} (p : Pre w F H σ ρ As) (q : Fin rp w σ W F H ρ As ((evalE S h a ρ).bind fun x ρ => (evalE S h b ρ).bind fun y ρ => (Res.of (cmpD o x.d y.d) ρ).bind kk) Q2)
    (go : ∀ c ρ2 F2 H2 As2 C2, Post w σ F H ρ As F2 H2 ρ2 As2 C2 → Fin rp w σ W F H ρ As (kk c ρ2) Q2 → Q (.bl c) H2) : tOp (rC X.K o) (tEv S h w W a) (tEv S h w W b) σ H Q := by
  refine ⟨F, ρ, As, p, q.bind0 fun ra ρ1 v F1 H1 As1 C1 e1 p1 k1 q1 => ⟨F1, ρ1, As1, p1.pre, Fin.bind p1 q1 fun rb ρ2 u F2 H2 As2 C2 e2 p2 p12 k2 q2 => ?_⟩⟩
  obtain ⟨c, e3, q3⟩ := q2.ofO
  rw [hK]
  exact cmp_go p2.same (RepR.lift k1 p12.lift (RepR.there k1)) k2 e3 (fun z => non_of (hn z) e2) (go c ρ2 F2 H2 As2 _ p2 q3)
theorem snd_cmp (hK : X.K = w.K) (hu : X.A.units + 65 < cLine) (ha : PE X ea (tEv S h w W a)) (hb : PE X eb (tEv S h w W b)) (hn : o = .isn ∨ o = .notn → b = .non) (hm : behindInMarks (copOf o) eb = false) :
    PE X (.Compare ea [copOf o] [eb] pos) (tEv S h w W (.cmp o a b)) := by
  refine PE.of (pe_cmpR (op_C hu o) ha hb hm) fun σ H Q ⟨F, ρ, As, p, q⟩ => ?_
  rw [evalE] at q
  exact snd_cmp2 hK ha hb hn p q fun c ρ2 F2 H2 As2 C2 p2 q2 => fin_val (rp := rpR w) q2 p2 (.bl .nil) (by simp)
theorem snd_tcmp (hK : X.K = w.K) (hu : X.A.units + 65 < cLine) (ha : PE X ea (tEv S h w W a)) (hb : PE X eb (tEv S h w W b)) (hn : o = .isn ∨ o = .notn → b = .non) (hm : behindInMarks (copOf o) eb = false) :
    PT X (.Compare ea [copOf o] [eb] pos) (tTv S h w W (.e (.cmp o a b))) := by
  refine PT.of (pt_cmpR (op_C hu o) ha hb hm) fun σ H Q ⟨F, ρ, As, p, q⟩ => ?_
  rw [evalT, evalE] at q
  have assoc : ∀ (m : Res R) (f : R → Env → Res R) (g : R → Env → Res Bool), (m.bind f).bind g = m.bind fun r ρ => (f r ρ).bind g := by
    intro m f g; cases m <;> rfl
  rw [assoc] at q
  have q' : Fin rpB w σ W F H ρ As ((evalE S h a ρ).bind fun x ρ => (evalE S h b ρ).bind fun y ρ => (Res.of (cmpD o x.d y.d) ρ).bind fun c ρ => .ok c ρ) Q := by
    have e : ((evalE S h a ρ).bind fun r ρ => ((evalE S h b ρ).bind fun y ρ => (Res.of (cmpD o r.d y.d) ρ).bind fun c ρ => Res.ok (R.val (D.bl c)) ρ).bind fun r ρ => Res.of (truth r.d) ρ) =
      ((evalE S h a ρ).bind fun x ρ => (evalE S h b ρ).bind fun y ρ => (Res.of (cmpD o x.d y.d) ρ).bind fun c ρ => .ok c ρ) := by
      cases evalE S h a ρ with
      | bad => rfl
      | exc c xs ρ' => rfl
      | ok r ρ1 =>
        simp only [Res.bind_ok]
        cases evalE S h b ρ1 with
        | bad => rfl
        | exc c xs ρ' => rfl
        | ok r2 ρ2 =>
          simp only [Res.bind_ok]
          cases cmpD o r.d r2.d <;> rfl
    rw [e] at q; exact q
  exact snd_cmp2 (Q := fun x H' => ∃ k, x = .bl k ∧ Q k H') hK ha hb hn p q' fun c ρ2 F2 H2 As2 C2 p2 q2 => ⟨c, rfl, fin_b q2 p2⟩
end
end SL
set_option Elab.async false
set_option linter.all false
set_option maxRecDepth 100000
set_option maxHeartbeats 1000000
/-! SLSnd5: chains, and, or, not, if, items, slices, fields. -/
namespace SL
open PySem L2
section
variable {S : Sem} {h : Bool} {w : Wd} {W : WX} {X : Cx} {pos : Pos}
variable {s : Ex} {ss : List Ex} {e : Expr} {es : List Expr} {o o' : Cop} {a b c : Ex} {ea eb ec : Expr}

/-! ### a chain of two comparisons -/
theorem snd_chain2 (hK : X.K = w.K) (hc : PE X ec (tEv S h w W c)) (hn : ¬ (o = .isn ∨ o = .notn)) (hn' : ¬ (o' = .isn ∨ o' = .notn)) {σ : L2.St} {H : Hp} {Q : VK} {α : Type} {β : Type} {rp : RP β α} {Q2 : β → Hp → Prop} {F : Hp} {ρ : Env} {As : List (List Addr)}
    {kk : Bool → Env → Res α} (p : Pre w F H σ ρ As) (q : Fin rp w σ W F H ρ As ((evalE S h a ρ).bind fun x ρ => (evalE S h b ρ).bind fun y ρ => (Res.of (cmpD o x.d y.d) ρ).bind fun k ρ =>
      if k then (evalE S h c ρ).bind fun z ρ => (Res.of (cmpD o' y.d z.d) ρ).bind kk else kk false ρ) Q2)
    (go : ∀ c ρ2 F2 H2 As2 C2, Post w σ F H ρ As F2 H2 ρ2 As2 C2 → Fin rp w σ W F H ρ As (kk c ρ2) Q2 → Q (.bl c) H2) : tChain (rC X.K o) (rC X.K o') (tEv S h w W a) (tEv S h w W b) (tEv S h w W c) σ H Q := by
  refine ⟨F, ρ, As, p, q.bind0 fun ra ρ1 v F1 H1 As1 C1 e1 p1 k1 q1 => ⟨F1, ρ1, As1, p1.pre, Fin.bind p1 q1 fun rb ρ2 u F2 H2 As2 C2 e2 p2 p12 k2 q2 => ?_⟩⟩
  obtain ⟨k, e3, q3⟩ := q2.ofO
  rw [hK]
  refine cmp_go p2.same (RepR.lift k1 p12.lift (RepR.there k1)) k2 e3 (fun z => absurd z hn) ⟨k, rfl, ?_⟩
  cases k with
  | false => exact go false ρ2 F2 H2 As2 _ p2 q3
  | true =>
    simp only [if_true] at q3 ⊢
    refine ⟨F2, ρ2, As2, p2.pre, Fin.bind p2 q3 fun rc ρ3 z F3 H3 As3 C3 e4 p3 p23 k3 q4 => ?_⟩
    obtain ⟨k', e5, q5⟩ := q4.ofO
    exact cmp_go p3.same (RepR.lift k2 p23.lift (RepR.there k2)) k3 e5 (fun z => absurd z hn') (go k' ρ3 F3 H3 As3 _ p3 q5)
theorem lastMarks2 {op op' : CmpOp} {b c : Expr} (hm : behindInMarks op' c = false) : lastMarks [op, op'] [b, c] = false := hm
theorem snd_chain (hK : X.K = w.K) (hu : X.A.units + 65 < cLine) (ha : PE X ea (tEv S h w W a)) (hb : PE X eb (tEv S h w W b)) (hc : PE X ec (tEv S h w W c)) (hn : ¬ (o = .isn ∨ o = .notn)) (hn' : ¬ (o' = .isn ∨ o' = .notn)) (hm : behindInMarks (copOf o') ec = false) :
    PE X (.Compare ea [copOf o, copOf o'] [eb, ec] pos) (tEv S h w W (.chain o o' a b c)) := by
  refine PE.of (pe_chain (op_C hu o) (op_C hu o') ha hb hc (lastMarks2 hm)) fun σ H Q ⟨F, ρ, As, p, q⟩ => ?_
  rw [evalE] at q
  exact snd_chain2 (rp := rpR w) (W := W) (kk := fun c ρ => Res.ok (R.val (D.bl c)) ρ) hK hc hn hn' p q fun c ρ2 F2 H2 As2 C2 p2 q2 => fin_val (rp := rpR w) q2 p2 (.bl .nil) (by simp)
theorem snd_tchain (hK : X.K = w.K) (hu : X.A.units + 65 < cLine) (ha : PE X ea (tEv S h w W a)) (hb : PE X eb (tEv S h w W b)) (hc : PE X ec (tEv S h w W c)) (hn : ¬ (o = .isn ∨ o = .notn)) (hn' : ¬ (o' = .isn ∨ o' = .notn)) (hm : behindInMarks (copOf o') ec = false) :
    PT X (.Compare ea [copOf o, copOf o'] [eb, ec] pos) (tTv S h w W (.e (.chain o o' a b c))) := by
  refine PT.of (pt_chain (op_C hu o) (op_C hu o') ha hb hc (lastMarks2 hm)) fun σ H Q ⟨F, ρ, As, p, q⟩ => ?_
  rw [evalT, evalE] at q
  have q' : Fin rpB w σ W F H ρ As ((evalE S h a ρ).bind fun x ρ => (evalE S h b ρ).bind fun y ρ => (Res.of (cmpD o x.d y.d) ρ).bind fun k ρ =>
      if k then (evalE S h c ρ).bind fun z ρ => (Res.of (cmpD o' y.d z.d) ρ).bind fun c ρ => .ok c ρ else (fun c ρ => Res.ok c ρ) false ρ) Q := by
    refine Eq.mp ?_ q
    congr 1
    cases evalE S h a ρ with
    | bad => rfl
    | exc c xs ρ' => rfl
    | ok r ρ1 =>
      simp only [Res.bind_ok]
      cases evalE S h b ρ1 with
      | bad => rfl
      | exc c xs ρ' => rfl
      | ok r2 ρ2 =>
        simp only [Res.bind_ok]
        cases cmpD o r.d r2.d with
        | none => rfl
        | some k =>
          cases k with
          | false => rfl
          | true =>
            simp only [Res.of_some, Res.bind_ok, if_true]
            cases evalE S h c ρ2 with
            | bad => rfl
            | exc c xs ρ' => rfl
            | ok r3 ρ3 =>
              simp only [Res.bind_ok]
              cases cmpD o' r2.d r3.d <;> rfl
  exact snd_chain2 (kk := fun c ρ => .ok c ρ) (Q := fun x H' => ∃ k, x = .bl k ∧ Q k H') hK hc hn hn' p q' fun c ρ2 F2 H2 As2 C2 p2 q2 => ⟨c, rfl, fin_b q2 p2⟩

/-! ### and, or, not, if -/
def bopOf : Bool → BoolOp
  | true => .And
  | false => .Or
theorem snd_b1 {k : Bool} (ha : PE X ea (tEv S h w W a)) : PE X (.BoolOp (bopOf k) [ea] pos) (tBv S h w W k [a]) := PE.of (pe_one ha) fun σ H Q q => q
theorem snd_b2 {k : Bool} {ss : List Ex} {es : List Expr} (hK : X.K = w.K) (ha : PE X ea (tEv S h w W a)) (hb : PE X (.BoolOp (bopOf k) (eb :: es) pos) (tBv S h w W k (b :: ss))) : PE X (.BoolOp (bopOf k) (ea :: eb :: es) pos) (tBv S h w W k (a :: b :: ss)) := by
  have go : ∀ (σ : L2.St) (H : Hp) (Q : VK), tBv S h w W k (a :: b :: ss) σ H Q → tEv S h w W a σ H fun x H1 => ∃ c, TruV X.K x H1 c ∧ if c = k then tBv S h w W k (b :: ss) σ H1 Q else Q x H1 := by
    intro σ H Q ⟨F, ρ, As, p, q⟩
    rw [evalB] at q
    refine ⟨F, ρ, As, p, q.bind0 fun r ρ1 v F1 H1 As1 C1 e1 p1 k1 q1 => ?_⟩
    obtain ⟨c, e2, q2⟩ := q1.ofO
    refine ⟨c, truV_of (F := F1) hK (RepR.view k1 p1.same) e2, ?_⟩
    by_cases hc : c = k
    · rw [if_pos hc] at q2 ⊢
      refine ⟨F1, ρ1, As1, p1.pre, ?_⟩
      have q2' : Fin (rpR w) w σ W F H ρ As ((evalB S h k (b :: ss) ρ1).bind fun r ρ => .ok r ρ) Q := by
        cases e3 : evalB S h k (b :: ss) ρ1 <;> rw [e3] at q2 <;> exact q2
      exact Fin.bind p1 q2' fun r2 ρ2 v2 F2 H2 As2 C2 e2 p2 p12 k2 q3 => q3 v2 F2 H2 As2 C2 (p2.weak fun a => by rw [List.count_append]; omega) k2
    · rw [if_neg hc] at q2 ⊢
      exact q2 v F1 H1 As1 C1 p1 k1
  cases k with
  | true =>
    refine PE.of (pe_andT ha hb) fun σ H Q q => ?_
    obtain ⟨F, ρ, As, p, q⟩ := go σ H Q q
    exact ⟨F, ρ, As, p, q⟩
  | false =>
    refine PE.of (pe_orT ha hb) fun σ H Q q => ?_
    obtain ⟨F, ρ, As, p, q⟩ := go σ H Q q
    refine ⟨F, ρ, As, p, ?_⟩
    cases e : evalE S h a ρ with
    | bad => rw [e] at q; exact q
    | exc c xs ρ' => rw [e] at q; exact q
    | ok r ρ' =>
      rw [e] at q
      refine fun v F' H' As' C p' k' => ?_
      obtain ⟨c, tv, z⟩ := q v F' H' As' C p' k'
      refine ⟨c, tv, ?_⟩
      cases c with
      | true => simpa using z
      | false => simpa using z
theorem snd_bop {k : Bool} (hb : PE X (.BoolOp (bopOf k) es pos) (tBv S h w W k ss)) : PE X (.BoolOp (bopOf k) es pos) (tEv S h w W (.bop k ss)) :=
  PE.of hb fun σ H Q ⟨F, ρ, As, p, q⟩ => ⟨F, ρ, As, p, by rw [evalE] at q; exact q⟩
theorem snd_not (hK : X.K = w.K) (ha : PE X ea (tEv S h w W a)) : PE X (.UnaryOp .Not ea pos) (tEv S h w W (.not_ (.e a))) := by
  refine PE.of (pe_notT ha) fun σ H Q ⟨F, ρ, As, p, q⟩ => ?_
  rw [evalE, evalT] at q
  have q' : Fin (rpR w) w σ W F H ρ As ((evalE S h a ρ).bind fun r ρ => (Res.of (truth r.d) ρ).bind fun b ρ => .ok (.val (.bl (!b))) ρ) Q := by
    cases e : evalE S h a ρ <;> rw [e] at q <;> exact q
  refine ⟨F, ρ, As, p, q'.bind0 fun r ρ1 v F1 H1 As1 C1 e1 p1 k1 q1 => ?_⟩
  obtain ⟨c, e2, q2⟩ := q1.ofO
  exact ⟨c, truV_of (F := F1) hK (RepR.view k1 p1.same) e2, fin_val (rp := rpR w) q2 p1 (.bl .nil) (by simp)⟩
variable {t t' : Tx} {ts : List Tx}
/-- a test, then something -/
theorem tT_bind {σ : L2.St} {H F : Hp} {ρ : Env} {As : List (List Addr)} {α β : Type} {rp : RP β α} {Q : β → Hp → Prop} {kk : Bool → Env → Res α} (p : Pre w F H σ ρ As) (q : Fin rp w σ W F H ρ As ((evalT S h t ρ).bind kk) Q) {Q1 : Bool → Hp → Prop}
    (go : ∀ b ρ1 F1 H1 As1, Post w σ F H ρ As F1 H1 ρ1 As1 [] → Fin rp w σ W F H ρ As (kk b ρ1) Q → Q1 b H1) : tTv S h w W t σ H Q1 :=
  ⟨F, ρ, As, p, q.bind0 fun b ρ1 b' F1 H1 As1 C1 e1 p1 k1 q1 => by obtain ⟨rfl, rfl⟩ := k1; exact go _ ρ1 F1 H1 As1 p1 q1⟩
/-- the rest of an evaluation, from a later state -/
theorem fin_rest {σ : L2.St} {H F F1 H1 : Hp} {ρ ρ1 : Env} {As As1 : List (List Addr)} {α β : Type} {rp : RP β α} {Q : β → Hp → Prop} {m : Res α} (p : Post w σ F H ρ As F1 H1 ρ1 As1 []) (q : Fin rp w σ W F H ρ As m Q) : Fin rp w σ W F1 H1 ρ1 As1 m Q := by
  cases m with
  | bad => exact q
  | ok r ρ2 => exact fun v F2 H2 As2 C2 p2 k2 => q v F2 H2 As2 C2 (p.trans p2) k2
  | exc c xs ρ2 => exact fun d F2 H2 As2 p2 x => q d F2 H2 As2 (p.trans p2) x
theorem snd_ife (ht : PT X ec (tTv S h w W t)) (ha : PE X ea (tEv S h w W a)) (hb : PE X eb (tEv S h w W b)) : PE X (.IfExp ec ea eb pos) (tEv S h w W (.ife t a b)) := by
  refine PE.of (pe_ifExp ht ha hb) fun σ H Q ⟨F, ρ, As, p, q⟩ => ?_
  rw [evalE] at q
  refine tT_bind p q fun k ρ1 F1 H1 As1 p1 q1 => ?_
  cases k with
  | true => exact ⟨F1, ρ1, As1, p1.pre, fin_rest p1 q1⟩
  | false => exact ⟨F1, ρ1, As1, p1.pre, fin_rest p1 q1⟩
theorem snd_tnot (ht : PT X ec (tTv S h w W t)) : PT X (.UnaryOp .Not ec pos) (tTv S h w W (.not_ t)) := by
  refine PT.of (pt_not ht) fun σ H Q ⟨F, ρ, As, p, q⟩ => ?_
  rw [evalT] at q
  exact tT_bind p q fun k ρ1 F1 H1 As1 p1 q1 => fin_b q1 p1
theorem snd_tb1 {k : Bool} (ht : PT X ec (tTv S h w W t)) : PW X (.BoolOp (bopOf k) [ec] pos) (tBTv S h w W k [t]) := by
  have go : ∀ (σ : L2.St) (H : Hp) (Q : Bool → Hp → Prop), tBTv S h w W k [t] σ H Q → tTv S h w W t σ H Q := fun σ H Q ⟨F, ρ, As, p, q⟩ => by
    rw [evalBT] at q
    refine tT_bind p q fun b ρ1 F1 H1 As1 p1 q1 => ?_
    by_cases c : b = k
    · rw [if_pos c, evalBT] at q1; subst c; exact fin_b q1 p1
    · rw [if_neg c] at q1; exact fin_b q1 p1
  cases k with
  | true => exact PW.of (pw_and1 ht) go
  | false => exact PW.of (pw_or1 ht) go
theorem snd_tb2 {k : Bool} (ht : PT X ec (tTv S h w W t)) (hb : PW X (.BoolOp (bopOf k) (eb :: es) pos) (tBTv S h w W k (t' :: ts))) : PW X (.BoolOp (bopOf k) (ec :: eb :: es) pos) (tBTv S h w W k (t :: t' :: ts)) := by
  have go : ∀ (σ : L2.St) (H : Hp) (Q : Bool → Hp → Prop), tBTv S h w W k (t :: t' :: ts) σ H Q → tTv S h w W t σ H fun b H1 => if b = k then tBTv S h w W k (t' :: ts) σ H1 Q else Q b H1 := fun σ H Q ⟨F, ρ, As, p, q⟩ => by
    rw [evalBT] at q
    refine tT_bind p q fun b ρ1 F1 H1 As1 p1 q1 => ?_
    by_cases c : b = k
    · rw [if_pos c] at q1 ⊢; exact ⟨F1, ρ1, As1, p1.pre, fin_rest p1 q1⟩
    · rw [if_neg c] at q1 ⊢; exact fin_b q1 p1
  cases k with
  | true =>
    refine PW.of (pw_and ht hb) fun σ H Q q => ?_
    obtain ⟨F, ρ, As, p, q⟩ := go σ H Q q
    refine ⟨F, ρ, As, p, ?_⟩
    cases e : evalT S h t ρ with
    | bad => rw [e] at q; exact q
    | exc c xs ρ' => rw [e] at q; exact q
    | ok r ρ' =>
      rw [e] at q
      intro b F' H' As' C p' k'
      have z := q b F' H' As' C p' k'
      cases b with
      | true => simpa using z
      | false => simpa using z
  | false =>
    refine PW.of (pw_or ht hb) fun σ H Q q => ?_
    obtain ⟨F, ρ, As, p, q⟩ := go σ H Q q
    refine ⟨F, ρ, As, p, ?_⟩
    cases e : evalT S h t ρ with
    | bad => rw [e] at q; exact q
    | exc c xs ρ' => rw [e] at q; exact q
    | ok r ρ' =>
      rw [e] at q
      intro b F' H' As' C p' k'
      have z := q b F' H' As' C p' k'
      cases b with
      | true => simpa using z
      | false => simpa using z
theorem snd_tbop {k : Bool} {es : List Expr} (hb : PW X (.BoolOp (bopOf k) es pos) (tBTv S h w W k ts)) : PT X (.BoolOp (bopOf k) es pos) (tTv S h w W (.bop k ts)) :=
  PT.of hb.pt fun σ H Q ⟨F, ρ, As, p, q⟩ => ⟨F, ρ, As, p, by rw [evalT] at q; exact q⟩

/-! ### items and slices -/
theorem ixN_eq (n : Nat) (i : Int) : ixD n i = ixN n i := rfl
/-- the value whose part is asked for stands in G, and so may the part -/
theorem part_open {F0 H0 F H : Hp} {σ : L2.St} {ρ0 ρ : Env} {As0 As : List (List Addr)} {v : V} {r : R} {C Ct : List Addr} {Q : VK} (p : Post w σ F0 H0 ρ0 As0 F H ρ As Ct) (k : RepR w F H ρ As v r C)
    (hc : ∀ a, C.count a ≤ Ct.count a) : ∃ (G : Hp) (B : List Addr), Same G H ∧ Rep w G H v r.d B ∧
      ∀ x, Fin (rpR w) w σ W F0 H0 ρ0 As0 (part r x ρ) Q → ∀ u B', Rep w G H u x B' → (∀ a, B'.count a ≤ B.count a) → Q u H := by
  cases r with
  | val d =>
    cases k with
    | val k => exact ⟨F, C, p.same, k, fun x q u B' k' hb => fin_val (rp := rpR w) q p k' fun a => Nat.le_trans (hb a) (hc a)⟩
  | brw i d =>
    cases l : live i ρ with
    | false => exact ⟨H, C, Same.refl _, k.view p.same, fun x q => by simp only [part, l] at q; exact q.elim⟩
    | true =>
      obtain ⟨e', A, he, hA, k', rfl, m⟩ := brw_at p.pre k l
      refine ⟨_, [], (p.pre.freeze he hA).same, k', fun x q u B' k2 hb => ?_⟩
      have hB : B' = [] := List.eq_nil_iff_forall_not_mem.mpr fun a ha => by
        have h1 := List.count_pos_iff.mpr ha
        have h2 := hb a
        rw [List.count_nil] at h2
        omega
      subst hB
      simp only [part, l, if_true] at q
      by_cases im : x.imm = true
      · rw [if_pos im] at q
        exact fin_val (rp := rpR w) q p (k2.immC (by simp [D.immL, im]) (ov_imm m)).1 (by simp)
      · rw [if_neg im] at q
        refine q u F H As [] (p.weak (by simp)) (.brw (k2.mono (p.pre.freeze he hA).same (by simp)) fun A2 e2 hA2 he2 => ?_)
        rw [hA] at hA2; cases hA2
        exact k2
theorem get_of {F H : Hp} {ws : List V} {xs : List D} {A : List Addr} {i : Int} {x : D} (k : RepL w F H ws xs A) (e : ((ixD xs.length i).bind fun j => xs[j]?) = some x) : ∃ v B, atI ws i = some v ∧ Rep w F H v x B ∧ ∀ a, B.count a ≤ A.count a := by
  cases e2 : ixD xs.length i with
  | none => rw [e2] at e; simp at e
  | some j =>
    rw [e2] at e
    simp only [Option.bind_some] at e
    obtain ⟨v, B, h1, h2, h3⟩ := k.get e
    refine ⟨v, B, ?_, h2, h3⟩
    unfold atI
    rw [k.len, ← ixN_eq, e2]
    exact h1
end
end SL
set_option Elab.async false
set_option linter.all false
set_option maxRecDepth 100000
set_option maxHeartbeats 1000000
/-! SLSnd6: items, slices, fields, isinstance. -/
namespace SL
open PySem L2
section
variable {S : Sem} {h : Bool} {w : Wd} {W : WX} {X : Cx} {pos : Pos}
variable {s : Ex} {ss : List Ex} {e : Expr} {es : List Expr} {a b c : Ex} {ea eb ec : Expr}

theorem atI_map {α β : Type} (f : α → β) (xs : List α) (i : Int) : atI (xs.map f) i = (atI xs i).map f := by
  unfold atI
  rw [List.length_map]
  cases ixN xs.length i <;> simp
theorem strOk_sign {z : Str} {i : Int} {c : Nat} (hz : PyData.strOk z = true) (hc : atI z.cps.toList i = some c) : PyData.strOk ⟨#[c]⟩ = true := by
  unfold atI at hc
  cases e : ixN z.cps.toList.length i with
  | none => rw [e] at hc; simp at hc
  | some j =>
    rw [e] at hc
    simp only [Option.bind_some] at hc
    unfold PyData.strOk at hz ⊢
    rw [Array.all_eq_true_iff_forall_mem] at hz ⊢
    intro x hx
    simp at hx
    subst hx
    exact hz x (Array.mem_toList_iff.mp (List.mem_of_getElem? hc))
theorem snd_idx (hK : X.K = w.K) (ha : PE X ea (tEv S h w W a)) (hb : PE X eb (tEv S h w W b)) (hs : PlainIx eb) : PE X (.Subscript ea eb pos) (tEv S h w W (.idx a b)) := by
  refine PE.of (pe_ix ix_seq ha hb hs) fun σ H Q ⟨F, ρ, As, p, q⟩ => ?_
  rw [evalE] at q
  refine ⟨F, ρ, As, p, q.bind0 fun ra ρ1 v F1 H1 As1 C1 e1 p1 k1 q1 => ⟨F1, ρ1, As1, p1.pre, Fin.bind p1 q1 fun rb ρ2 u F2 H2 As2 C2 e2 p2 p12 k2 q2 => ?_⟩⟩
  have k1' := RepR.lift k1 p12.lift (RepR.there k1)
  have kv := k1'.view p2.same
  rw [hK]
  cases eb : rb.d with
  | int i =>
    have hu := RepR.int1 k2 eb
    subst hu
    obtain ⟨G, B, hG, kG, fin⟩ := part_open (W := W) (Q := Q) p2 k1' (fun a => by rw [List.count_append]; omega)
    cases ea : ra.d with
    | lst o xs =>
      simp only [idxR, ea, eb] at q2
      obtain ⟨x, e3, q3⟩ := q2.ofO
      rw [ea] at kG
      cases kG with
      | lstF h1 h2 h3 =>
        obtain ⟨y, B2, i1, i2, i3⟩ := get_of h2 e3
        exact .inl ⟨_, _, i, y, rfl, rfl, .of (hG _ _ h1), i1, fin x q3 y B2 i2 fun a => Nat.le_trans (i3 a) (by simp)⟩
      | lstO h1 h2 h3 =>
        obtain ⟨y, B2, i1, i2, i3⟩ := get_of h2 e3
        exact .inl ⟨_, _, i, y, rfl, rfl, .of h1, i1, fin x q3 y B2 i2 fun a => Nat.le_trans (i3 a) (by rw [List.count_cons, List.count_append]; omega)⟩
    | tup xs =>
      simp only [idxR, ea, eb] at q2
      obtain ⟨x, e3, q3⟩ := q2.ofO
      rw [ea] at kG
      cases kG with
      | tup h1 h2 h3 =>
        obtain ⟨y, B2, i1, i2, i3⟩ := get_of h2 e3
        exact .inr (.inl ⟨_, _, i, y, rfl, rfl, sqT_mono hG h1, i1, fin x q3 y B2 i2 fun a => Nat.le_trans (i3 a) (by simp)⟩)
    | scr ns =>
      simp only [idxR, ea, eb] at q2
      obtain ⟨x, e3, q3⟩ := q2.ofO
      rw [ea] at kv
      cases kv with
      | @scr p0 _ _ _ _ h1 h3 =>
        refine .inl ⟨p0, ns.map V.int, i, .int x, rfl, rfl, h1.sql, ?_, fin_val (rp := rpR w) q3 p2 (.int .nil) (by simp)⟩
        rw [atI_map]
        have : atI ns i = some x := e3
        rw [this]; rfl
    | str z =>
      simp only [idxR, ea, eb] at q2
      split at q2
      · rename_i hz
        obtain ⟨x, e3, q3⟩ := q2.ofO
        obtain ⟨hv, ok⟩ := RepR.str1 k1' ea
        have hx : atI z.cps.toList i = some x := e3
        exact .inr (.inr ⟨z, i, x, hv, rfl, hz, hx, fin_val (rp := rpR w) q3 p2 (.str (strOk_sign ok hx) .nil) (by simp)⟩)
      · exact q2.elim
    | _ => simp only [idxR, ea, eb] at q2; exact q2.elim
  | _ => cases ea : ra.d <;> simp only [idxR, ea, eb] at q2 <;> exact q2.elim

/-! ### slices -/
theorem cut_rep {F H : Hp} {ws : List V} {xs : List D} {lo hi : Option Int} (k : RepL w F H ws xs []) : RepL w F H (cutV ws lo hi) (cutD xs lo hi) [] := by
  unfold cutV cutD
  rw [k.len]
  obtain ⟨B, k1, h1⟩ := k.drop (HT.sIx xs.length 0 lo)
  have e1 : B = [] := List.eq_nil_iff_forall_not_mem.mpr fun a ha => by
    have h2 := List.count_pos_iff.mpr ha; have h3 := h1 a; rw [List.count_nil] at h3; omega
  subst e1
  obtain ⟨B, k2, h2⟩ := k1.take (HT.sIx xs.length xs.length hi - HT.sIx xs.length 0 lo)
  have e1 : B = [] := List.eq_nil_iff_forall_not_mem.mpr fun a ha => by
    have h2' := List.count_pos_iff.mpr ha; have h3 := h2 a; rw [List.count_nil] at h3; omega
  subst e1
  exact k2
theorem all_sub {p : Nat → Bool} {l l' : List Nat} (h : ∀ x ∈ l, p x = true) (s : ∀ x ∈ l', x ∈ l) : ∀ x ∈ l', p x = true := fun x hx => h x (s x hx)
theorem strOk_list {z : Str} : PyData.strOk z = true ↔ ∀ c ∈ z.cps.toList, c < 0x110000 := by
  unfold PyData.strOk
  rw [Array.all_eq_true_iff_forall_mem]
  constructor
  · intro h c hc; simpa using h c (Array.mem_toList_iff.mp hc)
  · intro h c hc; simpa using h c (Array.mem_toList_iff.mpr hc)
theorem strOk_cut {z : Str} {lo hi : Option Int} (hz : PyData.strOk z = true) : PyData.strOk (cutS z lo hi) = true := by
  rw [strOk_list] at hz ⊢
  intro c hc
  refine hz c ?_
  unfold cutS at hc
  simp at hc
  first
  | exact Array.mem_toList_iff.mpr (Array.mem_of_mem_extract hc)
  | (have := List.mem_of_mem_take hc; exact List.mem_of_mem_drop this)
theorem slc_go {F0 H0 F H : Hp} {σ : L2.St} {ρ0 ρ : Env} {As0 As : List (List Addr)} {v : V} {r : R} {C Ct : List Addr} {Q : VK} {lo hi : Option Int} (p : Post w σ F0 H0 ρ0 As0 F H ρ As Ct) (k : RepR w F H ρ As v r C)
    (hc : ∀ a, C.count a ≤ Ct.count a) (q : Fin (rpR w) w σ W F0 H0 ρ0 As0 (slcR r lo hi ρ) Q) : rSlL w.K v lo hi H Q ∨ (rSlA w.K v lo hi H Q ∨ rSlS v lo hi H Q) := by
  cases e : r.d with
  | lst o xs =>
    simp only [slcR, e] at q
    obtain ⟨us, ρ3, e3, q⟩ := q.of_ok elems_ne
    obtain ⟨F3, As3, a, ws, p3, l3, rfl, kk1, s1⟩ := elems_ok (C' := []) p k (fun a => by simpa using hc a) e3
    rw [e] at s1
    exact .inl ⟨a, ws, rfl, .of s1, fin_lst q p3 (cut_rep kk1)⟩
  | tup xs =>
    simp only [slcR, e] at q
    cases r with
    | brw i d => exact q.elim
    | val d =>
      simp only [R.d] at e
      subst e
      cases k with
      | val k =>
        cases k with
        | @tup a ws _ _ _ _ h1 h2 h3 =>
          cases h3
          refine .inr (.inl ⟨a, ws, rfl, sqT_mono p.same h1, fun hw => ?_, fun _ => fin_tup q (p.weak (by simp)) (cut_rep h2)⟩)
          have e1 : cutD xs lo hi = xs := by
            unfold cutD
            rw [h2.len] at hw
            rw [hw.1, hw.2]; simp
          have q' : Fin (rpR w) w σ W F0 H0 ρ0 As0 (Res.ok (R.val (D.tup (cutD xs lo hi))) ρ) Q := q
          rw [e1] at q'
          exact fin_val (rp := rpR w) q' p (.tup h1 h2 .nil) (by simp)
  | str z =>
    simp only [slcR, e] at q
    split at q
    · rename_i hz
      obtain ⟨hv, ok⟩ := k.str1 e
      exact .inr (.inr ⟨z, hv, hz, fin_val (rp := rpR w) q p (.str (strOk_cut ok) .nil) (by simp)⟩)
    · exact q.elim
  | _ => simp only [slcR, e] at q; exact q.elim
theorem RepR.intP {F H : Hp} {ρ : Env} {As : List (List Addr)} {C : List Addr} {v : V} {r : R} {i : Int} (k : RepR w F H ρ As v r C) (e : r.int? = some i) : v = .int i := by
  cases r with
  | val d => cases d <;> simp [R.int?] at e; subst e; exact k.int1 rfl
  | brw _ _ => simp [R.int?] at e
/-- an optional part: at most one expression -/
def tOv (S : Sem) (h : Bool) (w : Wd) (W : WX) : List Ex → TO
  | [] => tNoPart
  | [s] => tPart (tEv S h w W s)
  | _ => fun _ _ _ => False
/-- a part is read -/
theorem tOv_go {ss : List Ex} {F H F1 H1 : Hp} {σ : L2.St} {ρ ρ1 : Env} {As As1 : List (List Addr)} {C1 : List Addr} {β α : Type} {rp : RP β α} {Q : β → Hp → Prop} {kk : List R → Env → Res α} {Q1 : Option Int → Hp → Prop}
    (hs : ss.length ≤ 1) (p1 : Post w σ F H ρ As F1 H1 ρ1 As1 C1) (q : Fin rp w σ W F H ρ As ((evalEs S h ss ρ1).bind kk) Q)
    (hk : ∀ rs ρ2 F2 H2 As2 C2, Post w σ F H ρ As F2 H2 ρ2 As2 (C1 ++ C2) → Post w σ F1 H1 ρ1 As1 F2 H2 ρ2 As2 C2 → Fin rp w σ W F H ρ As (kk rs ρ2) Q → ∃ i, partR rs = some i)
    (go : ∀ rs i ρ2 F2 H2 As2 C2, partR rs = some i → Post w σ F H ρ As F2 H2 ρ2 As2 (C1 ++ C2) → Post w σ F1 H1 ρ1 As1 F2 H2 ρ2 As2 C2 → Fin rp w σ W F H ρ As (kk rs ρ2) Q → Q1 i H2) : tOv S h w W ss σ H1 Q1 := by
  match ss, hs with
  | [], _ =>
    rw [evalEs] at q
    exact go [] none ρ1 F1 H1 As1 [] rfl (p1.weak fun a => by simp) p1.pre.post q
  | [s], _ =>
    rw [evalEs] at q
    have q' : Fin rp w σ W F H ρ As ((evalE S h s ρ1).bind fun r ρ => kk [r] ρ) Q := by
      have e : (((evalE S h s ρ1).bind fun r ρ => (evalEs S h [] ρ).bind fun rs ρ => Res.ok (r :: rs) ρ).bind kk) = ((evalE S h s ρ1).bind fun r ρ => kk [r] ρ) := by
        cases evalE S h s ρ1 with
        | bad => rfl
        | exc c xs ρ' => rfl
        | ok r ρ2 => simp only [Res.bind_ok, evalEs]
      rw [e] at q; exact q
    refine ⟨F1, ρ1, As1, p1.pre, Fin.bind p1 q' fun r ρ2 v F2 H2 As2 C2 e2 p2 p12 k2 q2 => ?_⟩
    obtain ⟨i, hi⟩ := hk [r] ρ2 F2 H2 As2 C2 p2 p12 q2
    simp only [partR, Option.map_eq_some_iff] at hi
    obtain ⟨j, hj, rfl⟩ := hi
    exact ⟨j, RepR.intP k2 hj, go [r] (some j) ρ2 F2 H2 As2 C2 (by simp [partR, hj]) p2 p12 q2⟩
theorem snd_slc {lo hi : List Ex} {el eh : Option Expr} {p2 : Pos} (hK : X.K = w.K) (ha : PE X ea (tEv S h w W a)) (hl : PO X el (tOv S h w W lo)) (hh : PO X eh (tOv S h w W hi)) (nl : lo.length ≤ 1) (nh : hi.length ≤ 1) :
    PE X (.Subscript ea (.Slice el eh none p2) pos) (tEv S h w W (.slc a lo hi)) := by
  refine PE.of (pe_slice (SlR.or sl_list (SlR.or sl_tupA sl_str)) ha hl hh) fun σ H Q ⟨F, ρ, As, p, q⟩ => ?_
  rw [evalE] at q
  refine ⟨F, ρ, As, p, q.bind0 fun ra ρ1 v F1 H1 As1 C1 e1 p1 k1 q1 => ?_⟩
  refine tOv_go nl p1 q1 (fun rs ρ2 F2 H2 As2 C2 p2 p12 q2 => ?_) fun rs i ρ2 F2 H2 As2 C2 hi p2 p12 q2 => ?_
  · obtain ⟨a, e, _⟩ := Fin.ofO q2; exact ⟨a, e⟩
  · obtain ⟨i', e, q2⟩ := q2.ofO
    rw [hi] at e; cases e
    refine tOv_go nh p2 q2 (fun us ρ3 F3 H3 As3 C3 p3 p23 q3 => ?_) fun us j ρ3 F3 H3 As3 C3 hj p3 p23 q3 => ?_
    · obtain ⟨a, e, _⟩ := Fin.ofO q3; exact ⟨a, e⟩
    · obtain ⟨j', e, q5⟩ := q3.ofO
      rw [hj] at e; cases e
      rw [hK]
      have k1' := RepR.lift (RepR.lift k1 p12.lift (RepR.there k1)) p23.lift (fun a h => same_no p12.sH (RepR.there k1 a h))
      exact slc_go p3 k1' (fun a => by simp only [List.count_append]; omega) q5
end
end SL
set_option Elab.async false
set_option linter.all false
set_option maxRecDepth 100000
set_option maxHeartbeats 1000000
/-! SLCall: what a def promises, and what a call leaves. -/
namespace SL
open PySem L2

/-- behind a call: everything stands, the result is new -/
abbrev CPost (w : Wd) (F H F' H' : Hp) (C : List Addr) : Prop := Post w [] F H [] [] F' H' [] [] C
def FinO (w : Wd) (F H : Hp) (o : Option Out) (Q : VK) (E : XK) : Prop := match o with
  | none => False
  | some (.ret d) => ∀ v F' H' C, CPost w F H F' H' C → Rep w F' H' v d C → Q v H'
  | some (.exc c xs) => ∀ d F' H', CPost w F H F' H' [] → RepX w F' c xs d → E (.ref (w.ca c)) d H'
def spF (w0 : Wd) (o : List D → Option Out) : Sp := fun vs H Q E => ∃ F ds, Same F H ∧ RepL w0 F H vs ds [] ∧ FinO w0 F H (o ds) Q E

section
variable {w w0 : Wd} {F H F' H' F0 H0 G : Hp} {σ : L2.St} {ρ ρ' ρ0 : Env} {As As' As0 : List (List Addr)} {C C1 Ct : List Addr} {W : WX}

/-- the worlds that differ by the handled exception alone -/
structure Wd.Like (w0 w : Wd) : Prop where
  K : w.K = w0.K
  ca : w.ca = w0.ca
  fn : w.fn = w0.fn
  no : w0.hx = none
theorem RepL.toW (l : w0.Like w) {vs : List V} {ds : List D} {A : List Addr} (r : RepL w0 F H vs ds A) : RepL w F H vs ds A := by
  induction r with
  | nil => exact .nil
  | non _ ih => exact .non ih
  | bl _ ih => exact .bl ih
  | int _ ih => exact .int ih
  | str k _ ih => exact .str k ih
  | scr k _ ih => exact .scr (by rw [l.K]; exact k) ih
  | tup k _ _ i1 i2 => exact .tup (by rw [l.K]; exact k) i1 i2
  | lstF k _ _ i1 i2 => exact .lstF k i1 i2
  | lstO k _ _ i1 i2 => exact .lstO k i1 i2
  | insF k h _ _ i1 i2 => exact .insF (by rw [l.ca, l.fn]; exact k) (by rw [l.fn]; exact h) i1 i2
  | insO k h _ _ i1 i2 => exact .insO (by rw [l.ca, l.fn]; exact k) (by rw [l.fn]; exact h) i1 i2
  | exn e _ _ _ _ _ _ => rw [l.no] at e; cases e
  | exn0 e _ _ => rw [l.no] at e; cases e
theorem RepL.toW0 (l : w0.Like w) {vs : List V} {ds : List D} {A : List Addr} (r : RepL w F H vs ds A) (n : D.noXL ds = true) : RepL w0 F H vs ds A := by
  induction r with
  | nil => exact .nil
  | non _ ih => exact .non (ih (by simpa [D.noXL, D.noX] using n))
  | bl _ ih => exact .bl (ih (by simpa [D.noXL, D.noX] using n))
  | int _ ih => exact .int (ih (by simpa [D.noXL, D.noX] using n))
  | str k _ ih => exact .str k (ih (by simpa [D.noXL, D.noX] using n))
  | scr k _ ih => exact .scr (by rw [← l.K]; exact k) (ih (by simpa [D.noXL, D.noX] using n))
  | tup k _ _ i1 i2 =>
    simp only [D.noXL, D.noX, Bool.and_eq_true] at n
    exact .tup (by rw [← l.K]; exact k) (i1 n.1) (i2 n.2)
  | lstF k _ _ i1 i2 =>
    simp only [D.noXL, D.noX, Bool.and_eq_true] at n
    exact .lstF k (i1 n.1) (i2 n.2)
  | lstO k _ _ i1 i2 =>
    simp only [D.noXL, D.noX, Bool.and_eq_true] at n
    exact .lstO k (i1 n.1) (i2 n.2)
  | insF k h _ _ i1 i2 =>
    simp only [D.noXL, D.noX, Bool.and_eq_true] at n
    exact .insF (by rw [← l.ca, ← l.fn]; exact k) (by rw [← l.fn]; exact h) (i1 n.1) (i2 n.2)
  | insO k h _ _ i1 i2 =>
    simp only [D.noXL, D.noX, Bool.and_eq_true] at n
    exact .insO (by rw [← l.ca, ← l.fn]; exact k) (by rw [← l.fn]; exact h) (i1 n.1) (i2 n.2)
  | exn _ _ _ _ _ _ _ => simp [D.noXL, D.noX] at n
  | exn0 _ _ _ => simp [D.noXL, D.noX] at n
/-- where nothing is handled no exception is at hand -/
theorem RepL.noX (e : w.hx = none) {vs : List V} {ds : List D} {A : List Addr} (r : RepL w F H vs ds A) : D.noXL ds = true := by
  induction r with
  | nil => rfl
  | exn h _ _ _ _ _ _ => rw [e] at h; cases h
  | exn0 h _ _ => rw [e] at h; cases h
  | _ => simp_all [D.noXL, D.noX]
theorem noX_frz : ∀ (ds : List D), D.noXL ds = true → D.noXL (D.frzL ds) = true
  | [], _ => rfl
  | d :: ds, h => by
    simp only [D.noXL, Bool.and_eq_true] at h
    simp only [D.frzL, D.noXL, Bool.and_eq_true]
    refine ⟨?_, noX_frz ds h.2⟩
    cases d with
    | lst o xs => simp only [D.frz, D.noX] at h ⊢; exact noX_frz xs h.1
    | ins o c xs => simp only [D.frz, D.noX] at h ⊢; exact noX_frz xs h.1
    | _ => exact h.1

/-- the addresses of what is lent -/
def lent (As : List (List Addr)) : List R → List Addr
  | [] => []
  | .brw i _ :: rs => (As[i]?).getD [] ++ lent As rs
  | .val _ :: rs => lent As rs
theorem lent_own {rs : List R} {a : Addr} (h : 0 < (lent As rs).count a) : 0 < own As a := by
  induction rs with
  | nil => simp [lent] at h
  | cons r rs ih =>
    cases r with
    | val d => exact ih h
    | brw i d =>
      simp only [lent, List.count_append] at h
      by_cases q : 0 < (lent As rs).count a
      · exact ih q
      · cases e : As[i]? with
        | none => rw [e] at h; simp only [Option.getD_none, List.count_nil] at h; omega
        | some A =>
          rw [e] at h
          simp only [Option.getD_some] at h
          have := own_get e a; omega
/-- the arguments as the callee gets them: all frozen -/
theorem args_frz {vs : List V} {rs : List R} (p : Pre w F H σ ρ As) (k : RepRs w F H ρ As vs rs C) (l : liveAll rs ρ = true) (sG : Same F G) (hG : ∀ a, 0 < C.count a ∨ 0 < (lent As rs).count a → G a = H a) :
    RepL w G H vs (argsOf rs) [] := by
  induction k with
  | nil => exact .nil
  | @cons v r C1 vs rs C2 k1 _ ih =>
    have l2 : liveAll rs ρ = true := by
      cases r with
      | val d => exact l
      | brw i d => simp only [liveAll, Bool.and_eq_true] at l; exact l.2
    have r2 := ih l2 fun a h => hG a (by
      rcases h with h | h
      · exact .inl (by rw [List.count_append]; omega)
      · refine .inr ?_
        cases r with
        | val d => exact h
        | brw i d => simp only [lent, List.count_append]; omega)
    have r1 : Rep w G H v r.d.frz [] := by
      cases r with
      | val d =>
        cases k1 with
        | val k1 =>
          have := k1.frz (G := G) (H' := H) sG fun a h => hG a (.inl (by rw [List.count_append]; omega))
          simpa [D.frzL, R.d] using this
      | brw i d =>
        simp only [liveAll, Bool.and_eq_true] at l
        have ll : live i ρ = true := by
          have := l.1
          unfold live
          split at this
          · rfl
          · cases this
        obtain ⟨e', A, he, hA, k', _, m⟩ := brw_at p k1 ll
        have hs : Same (ov F H A) G := fun a o h => by
          unfold ov at h
          split at h
          · rename_i hc
            rw [hG a (.inr (by simp only [lent, hA, Option.getD_some, List.count_append]; omega))]; exact h
          · exact sG a o h
        have := k'.frz (G := G) (H' := H) hs (by simp)
        simpa [D.frzL, R.d] using this
    exact r1.cons r2
theorem noI_lst : ∀ {vs : List V} {ds : List D} {A : List Addr}, RepL w F H vs ds A → D.noIL ds = true → ∀ a, 0 < A.count a → ∃ ws, H a = some (.lst ws) := by
  intro vs ds A r
  induction r with
  | nil => intro _ a h; simp at h
  | non _ ih => intro n; exact ih (by simpa [D.noIL, D.noI] using n)
  | bl _ ih => intro n; exact ih (by simpa [D.noIL, D.noI] using n)
  | int _ ih => intro n; exact ih (by simpa [D.noIL, D.noI] using n)
  | str _ _ ih => intro n; exact ih (by simpa [D.noIL, D.noI] using n)
  | scr _ _ ih => intro n; exact ih (by simpa [D.noIL, D.noI] using n)
  | tup _ _ _ _ i2 => intro n; simp only [D.noIL, D.noI, Bool.and_eq_true] at n; exact i2 n.2
  | lstF _ _ _ _ i2 => intro n; simp only [D.noIL, D.noI, Bool.and_eq_true] at n; exact i2 n.2
  | @lstO b _ _ _ _ A1 B1 k _ _ i1 i2 =>
    intro n a h
    simp only [D.noIL, D.noI, Bool.and_eq_true] at n
    by_cases e : a = b
    · subst e; exact ⟨_, k⟩
    · simp only [List.count_cons, List.count_append, beq_iff_eq, Ne.symm e, if_false] at h
      by_cases q : 0 < List.count a B1
      · exact i1 n.1 a q
      · exact i2 n.2 a (by omega)
  | insF _ _ _ _ _ i2 => intro n; simp [D.noIL, D.noI] at n
  | insO _ _ _ _ _ i2 => intro n; simp [D.noIL, D.noI] at n
  | exn _ _ _ _ _ _ i2 => intro n; simp only [D.noIL, D.noI, Bool.and_eq_true] at n; exact i2 n.2
  | exn0 _ _ ih => intro n; simp only [D.noIL, D.noI, Bool.and_eq_true] at n; exact ih n.2
mutual
theorem noI_frz : ∀ d : D, d.noI = true → d.frz.noI = true
  | .lst _ xs, h => by simp only [D.frz, D.noI] at h ⊢; exact noI_frzL xs h
  | .ins _ _ _, h => by simp [D.noI] at h
  | .tup xs, h => h
  | .exn _ _, h => rfl
  | .non, _ => rfl
  | .bl _, _ => rfl
  | .int _, _ => rfl
  | .str _, _ => rfl
  | .scr _, _ => rfl
theorem noI_frzL : ∀ ds : List D, D.noIL ds = true → D.noIL (D.frzL ds) = true
  | [], _ => rfl
  | d :: ds, h => by
    simp only [D.noIL, Bool.and_eq_true] at h
    simp only [D.frzL, D.noIL, Bool.and_eq_true]
    exact ⟨noI_frz d h.1, noI_frzL ds h.2⟩
end
end
end SL
set_option Elab.async false
set_option linter.all false
set_option maxRecDepth 100000
/-! SLCallB: a call's end. -/
namespace SL
open PySem L2
section
variable {w w0 : Wd} {F H F' H' F0 H0 G F1 H1 : Hp} {σ : L2.St} {ρ ρ' ρ0 ρ1 : Env} {As As' As0 As1 : List (List Addr)} {C C1 Ct : List Addr} {W : WX}

/-- what a callee leaves, beside a frame that lent nothing -/
theorem CPost.frame (p : Pre w F H σ ρ As) (q : CPost w0 F H F' H' C) : Post w σ F H ρ As F' H' ρ As C := by
  have nz : ∀ a, 0 < own As a → H a ≠ none := fun a h => by
    obtain ⟨o, e, _⟩ := p.env.there a h
    rw [e]; simp
  have cz : ∀ a, 0 < C.count a → H a = none := fun a h => by
    rcases q.old a (by omega) with z | z
    · simp [own] at z
    · exact z
  have ez : ∀ a, own [] a = 0 := fun a => by simp [own]
  refine ⟨q.sF, q.sH, q.same, p.env.mono q.sF fun a h => ?_, fun a => ?_, fun a h => ?_, fun a h => ?_, fun a h1 h2 => ?_, fun a h => ?_, fun i => .inl ⟨rfl, rfl⟩⟩
  · obtain ⟨o, e, _⟩ := p.env.there a h
    rw [e]; exact q.sH a o e
  · have h1 := p.uni a; have h2 := q.uni a; have h3 := ez a
    by_cases hc : 0 < C.count a
    · by_cases ho : 0 < own As a
      · exact absurd (cz a hc) (nz a ho)
      · omega
    · omega
  · by_cases hc : 0 < C.count a
    · exact q.off a (by omega)
    · have ho : 0 < own As a := by omega
      cases e : F' a with
      | none => rfl
      | some o =>
        rcases q.new a (p.off a ho) (by rw [e]; simp) with z | z
        · simp [own] at z
        · exact absurd z (nz a ho)
  · by_cases hc : 0 < C.count a
    · exact .inr (cz a hc)
    · exact .inl (by omega)
  · rcases q.new a h1 h2 with z | z
    · simp [own] at z
    · exact .inr z
  · by_cases hc : 0 < C.count a
    · exact q.there a (by omega)
    · exact same_no q.sH (nz a (by omega))

theorem ov_app (F H : Hp) (A B : List Addr) : ov (ov F H A) H B = ov F H (A ++ B) := by
  funext a
  unfold ov
  rw [List.count_append]
  by_cases h1 : 0 < B.count a
  · rw [if_pos h1, if_pos (by omega)]
  · by_cases h2 : 0 < A.count a
    · rw [if_neg h1, if_pos h2, if_pos (by omega)]
    · rw [if_neg h1, if_neg h2, if_neg (by omega)]
theorem ov_congr {A B : List Addr} (h : ∀ a, 0 < A.count a ↔ 0 < B.count a) : ov F H A = ov F H B := by
  funext a
  unfold ov
  by_cases h1 : 0 < A.count a
  · rw [if_pos h1, if_pos ((h a).mp h1)]
  · rw [if_neg h1, if_neg fun z => h1 ((h a).mpr z)]
theorem lent_set {rs : List R} {i : Nat} {A : List Addr} (hA : As[i]? = some A) (a : Addr) : 0 < (A ++ lent (As.set i []) rs).count a ↔ 0 < (A ++ lent As rs).count a := by
  induction rs with
  | nil => simp [lent]
  | cons r rs ih =>
    cases r with
    | val d => exact ih
    | brw j d =>
      simp only [lent, List.count_append] at ih ⊢
      by_cases e : i = j
      · subst e
        have hl : i < As.length := (List.getElem?_eq_some_iff.mp hA).1
        rw [List.getElem?_set_self hl, hA]
        simp only [Option.getD_some, List.count_nil]
        omega
      · rw [List.getElem?_set_ne e]
        omega
/-- all that is lent is frozen -/
theorem Pre.freezeAll {rs : List R} (p : Pre w F H σ ρ As) (l : liveAll rs ρ = true) : ∃ As', Post w σ F H ρ As (ov F H (lent As rs)) H (frzAll rs ρ) As' [] := by
  induction rs generalizing F ρ As with
  | nil => exact ⟨As, by rw [lent, ov_nil]; exact p.post⟩
  | cons r rs ih =>
    cases r with
    | val d => exact ih p l
    | brw i d =>
      simp only [liveAll, Bool.and_eq_true] at l
      have ⟨e, he⟩ : ∃ e, ρ[i]? = some (some e) := by
        have h1 := l.1
        split at h1
        · rename_i e he; exact ⟨e, he⟩
        · cases h1
      obtain ⟨v, A, hv, hA, k⟩ := p.env.get he
      have f := p.freeze he hA
      have l2 : liveAll rs (ρ.set i (some e.frz)) = true := by
        have h2 := l.2
        clear ih l
        induction rs with
        | nil => rfl
        | cons r rs ih2 =>
          cases r with
          | val d => exact ih2 h2
          | brw j d =>
            simp only [liveAll, Bool.and_eq_true] at h2 ⊢
            refine ⟨?_, ih2 h2.2⟩
            by_cases c : i = j
            · subst c
              have hl : i < ρ.length := (List.getElem?_eq_some_iff.mp he).1
              rw [List.getElem?_set_self hl]
              have h1 := h2.1
              rw [he] at h1
              exact noI_frz e h1
            · rw [List.getElem?_set_ne c]; exact h2.1
      obtain ⟨As', q⟩ := ih f.pre l2
      refine ⟨As', ?_⟩
      have t := (f.trans q).weak (C' := []) (by simp)
      rw [ov_app, ov_congr (B := lent As (.brw i d :: rs)) (fun a => by
        have z := lent_set (rs := rs) hA a
        simp only [lent, hA, Option.getD_some]; exact z)] at t
      rw [frzAll, frzAt_of he]
      exact t
/-- what was lent is taken back: it stands as it did -/
theorem CPost.back {rs : List R} (p : Pre w F H σ ρ As) (l : liveAll rs ρ = true) (q : CPost w0 (ov F H (lent As rs)) H F' H' C) :
    Post w σ F H ρ As (fun a => if 0 < (lent As rs).count a then none else F' a) H' ρ As C ∧
    ∀ a o, F' a = some o → (∀ xs, o ≠ .lst xs) → (fun a => if 0 < (lent As rs).count a then none else F' a) a = some o := by
  have nz : ∀ a, 0 < own As a → H a ≠ none := fun a h => by
    obtain ⟨o, e, _⟩ := p.env.there a h
    rw [e]; simp
  have cz : ∀ a, 0 < C.count a → H a = none := fun a h => by
    rcases q.old a (by omega) with z | z
    · simp [own] at z
    · exact z
  have ez : ∀ a, own [] a = 0 := fun a => by simp [own]
  have lo : ∀ a, 0 < (lent As rs).count a → 0 < own As a := fun a h => lent_own h
  have nl : ∀ a o, F a = some o → ¬ 0 < (lent As rs).count a := fun a o e h => by rw [p.off a (lo a h)] at e; cases e
  have sF : Same F (fun a => if 0 < (lent As rs).count a then none else F' a) := fun a o e => by
    show (if 0 < (lent As rs).count a then none else F' a) = some o
    rw [if_neg (nl a o e)]
    exact q.sF a o (by unfold ov; rw [if_neg (nl a o e)]; exact e)
  refine ⟨⟨sF, q.sH, fun a o e => ?_, p.env.mono sF fun a h => ?_, fun a => ?_, fun a h => ?_, fun a h => ?_, fun a h1 h2 => ?_, fun a h => ?_, fun i => .inl ⟨rfl, rfl⟩⟩, fun a o e n => ?_⟩
  · have e' : (if 0 < (lent As rs).count a then none else F' a) = some o := e
    split at e'
    · cases e'
    · exact q.same a o e'
  · obtain ⟨o, e, _⟩ := p.env.there a h
    rw [e]; exact q.sH a o e
  · have h1 := p.uni a; have h2 := q.uni a; have h3 := ez a
    by_cases hc : 0 < C.count a
    · by_cases ho : 0 < own As a
      · exact absurd (cz a hc) (nz a ho)
      · omega
    · omega
  · show (if 0 < (lent As rs).count a then none else F' a) = none
    split
    · rfl
    · rename_i hn
      by_cases hc : 0 < C.count a
      · exact q.off a (by omega)
      · have ho : 0 < own As a := by omega
        cases e : F' a with
        | none => rfl
        | some o =>
          rcases q.new a (by unfold ov; rw [if_neg hn]; exact p.off a ho) (by rw [e]; simp) with z | z
          · simp [own] at z
          · exact absurd z (nz a ho)
  · by_cases hc : 0 < C.count a
    · exact .inr (cz a hc)
    · exact .inl (by omega)
  · have h2' : (if 0 < (lent As rs).count a then none else F' a) ≠ none := h2
    split at h2'
    · exact absurd rfl h2'
    · rename_i hn
      rcases q.new a (by unfold ov; rw [if_neg hn]; exact h1) h2' with z | z
      · simp [own] at z
      · exact .inr z
  · by_cases hc : 0 < C.count a
    · exact q.there a (by omega)
    · exact same_no q.sH (nz a (by omega))
  · show (if 0 < (lent As rs).count a then none else F' a) = some o
    split
    · rename_i hl
      have ⟨ws, hw⟩ : ∃ ws, H a = some (.lst ws) := by
        clear sF nl lo q ez cz nz e n
        induction rs with
        | nil => simp [lent] at hl
        | cons r rs ih =>
          cases r with
          | val d => exact ih l hl
          | brw i d =>
            simp only [liveAll, Bool.and_eq_true] at l
            simp only [lent, List.count_append] at hl
            by_cases c : 0 < (lent As rs).count a
            · exact ih l.2 c
            · have h1 := l.1
              split at h1
              · rename_i e he
                obtain ⟨v, A, hv, hA, k⟩ := p.env.get he
                rw [hA] at hl
                simp only [Option.getD_some] at hl
                exact noI_lst k (by simp only [D.noIL, Bool.and_true]; exact h1) a (by omega)
              · cases h1
      have h1 := q.sF a _ (by unfold ov; rw [if_pos hl]; exact hw)
      rw [e] at h1
      cases h1
      exact absurd rfl (n ws)
    · exact e
end
end SL
set_option Elab.async false
set_option linter.all false
set_option maxRecDepth 100000
/-! SLCallC: calls of defs. -/
namespace SL
open PySem L2
section
variable {w w0 : Wd} {F H F' H' F0 H0 G F1 H1 : Hp} {σ : L2.St} {ρ ρ' ρ0 ρ1 : Env} {As As' As0 As1 : List (List Addr)} {C C1 Ct : List Addr} {W : WX} {h : Bool}

theorem RepX.thaw {c : Nat} {xs : List D} {d : Option Addr} (l : w0.Like w) (r : RepX w0 F c xs d) (n : D.noFL xs = true) (s : ∀ a o, F a = some o → (∀ xs, o ≠ .lst xs) → G a = some o) : RepX w G c xs d := by
  cases d with
  | none => exact r
  | some dd =>
    obtain ⟨ws, h1, h2, h3⟩ := r
    refine ⟨ws, ?_, ?_, ?_⟩
    · rw [l.fn]; exact s _ _ h1 fun _ => by intro z; cases z
    · rw [l.fn]; exact h2
    · exact ((RepL.toW l h3).thaw n s).mono (Same.refl _) (by simp)
theorem RepX.to (l : w0.Like w) {c : Nat} {xs : List D} {d : Option Addr} (r : RepX w0 F c xs d) : RepX w F c xs d := by
  cases d with
  | none => exact r
  | some dd =>
    obtain ⟨ws, h1, h2, h3⟩ := r
    exact ⟨ws, by rw [l.fn]; exact h1, by rw [l.fn]; exact h2, RepL.toW l h3⟩
/-- a call's arguments are read; what is behind it is what the evaluator says -/
theorem call_go {o : List D → Option Out} {rs : List R} {vs : List V} {Q : VK} (l0 : w0.Like w) (hx : h = false → w.hx = none) (p : Post w σ F0 H0 ρ0 As0 F H ρ As C) (k : RepRs w F H ρ As vs rs C)
    (q : Fin (rpR w) w σ W F0 H0 ρ0 As0 (callR h rs o ρ) Q) : spF w0 o vs H Q (fun cls d H' => W cls d σ H') := by
  unfold callR at q
  split at q
  · rename_i hc
    simp only [Bool.and_eq_true] at hc
    obtain ⟨sh, _⟩ := p.shed (B := C) (C' := []) (by simp)
    have pr := sh.pre
    have l := hc.1
    obtain ⟨As2, fz⟩ := pr.freezeAll l
    have ra : RepL w (ov (ov F H C) H (lent As rs)) H vs (argsOf rs) [] := by
      refine args_frz p.pre k l ?_ fun a z => ?_
      · intro a u e
        exact fz.sF a u (((p.shed (B := C) (C' := []) (by simp)).2).sF a u e)
      · unfold ov
        by_cases c2 : 0 < (lent As rs).count a
        · rw [if_pos c2]
        · rw [if_neg c2, if_pos (z.elim id fun z => absurd z c2)]
    have nx : D.noXL (argsOf rs) = true := by
      cases h with
      | true => simpa using hc.2
      | false => exact RepL.noX (hx rfl) ra
    refine ⟨_, argsOf rs, fz.same, RepL.toW0 l0 ra nx, ?_⟩
    cases e : o (argsOf rs) with
    | none => rw [e] at q; exact q.elim
    | some out =>
      rw [e] at q
      cases out with
      | ret d =>
        intro v F' H' C' cp r
        have r' := RepL.toW l0 r
        by_cases n : d.noF = true
        · simp only [after, n, if_true] at q
          obtain ⟨b, th⟩ := CPost.back pr l cp
          exact q v _ H' As C' ((sh.trans b).weak (by simp)) (.val (r'.thaw (by simp [D.noFL, n]) th))
        · simp only [after, n, if_false] at q
          have b := CPost.frame fz.pre cp
          exact q v F' H' As2 C' (((sh.trans fz).trans b).weak (by simp)) (.val r')
      | exc c xs =>
        intro d F' H' cp r
        have ca : w0.ca = w.ca := l0.ca.symm
        rw [ca]
        by_cases n : D.noFL xs = true
        · simp only [after, n, if_true] at q
          obtain ⟨b, th⟩ := CPost.back pr l cp
          exact q d _ H' As ((sh.trans b).weak (by simp)) (RepX.thaw l0 r n th)
        · simp only [after, n, if_false] at q
          have b := CPost.frame fz.pre cp
          exact q d F' H' As2 (((sh.trans fz).trans b).weak (by simp)) (RepX.to l0 r)
  · exact q.elim
end
end SL
set_option Elab.async false
set_option linter.all false
set_option maxRecDepth 100000
/-! SLFx: what is known of the program; calls of defs and methods, making. -/
namespace SL
open PySem L2

/-- names -/
structure NT where
  fn : Nat → Str
  cl : Nat → Str
  at_ : Nat → Str
  gl : Nat → Str
  /-- defs with a name of their own; plain classes -/
  gf : Nat → Bool
  gc : Nat → Bool
  /-- classes of isinstance -/
  oc : Nat → Bool
  /-- exceptions that are raised -/
  rc : Nat → Bool
  /-- the names in except clauses -/
  xn : Nat → Str

def icU (w : Wd) : Ic → Value
  | .int => .type "int"
  | .bool => .type "bool"
  | .str => .type "str"
  | .tuple => .type "tuple"
  | .list => .type "list"
  | .ve => .type "ValueError"
  | .cls c => .ref (w.ca c)
def icV (w : Wd) : Ic → V
  | .int => .ty "int"
  | .bool => .ty "bool"
  | .str => .ty "str"
  | .tuple => .ty "tuple"
  | .list => .ty "list"
  | .ve => .ty "ValueError"
  | .cls c => .ref (w.ca c)
/-- __class__ is object's -/
structure ClsOb (K : PySem.W.Frag) (C : Addr) : Prop where
  ha : PySem.W.findIn K (.ref C) "__class__" = some (some (.builtin "object.__class__"))
  hn : PySem.W.specialIn K (.builtin "object.__class__") "__get__" = some (some (.builtin "getset_descriptor.__get__"))
  htk : PySem.W.takesIn K (.builtin "object.__class__") = some true
  hm : PySem.W.mroIn K C (.type "object") = some true
/-- __init__'s promise: H1 the heap ahead of the instance -/
def spI (w0 : Wd) (c : Nat) (o : List D → Option Out) : Sp := fun vs H Q E => ∃ H1 x dx us F ds, vs = .ref x :: us ∧ H1 x = none ∧ H1 dx = none ∧ dx ≠ x ∧
  H = upd (upd H1 dx (.own x)) x (.ins (w0.ca c) dx []) ∧ Same F H1 ∧ RepL w0 F H1 us ds [] ∧ FinO w0 F H1 (o ds) (fun v H' => v = .ref x → Q .non H') E
theorem FinO.imp {w : Wd} {F H : Hp} {o : Option Out} {Q Q' : VK} {E : XK} (h : FinO w F H o Q E) (k : ∀ v H, Q v H → Q' v H) : FinO w F H o Q' E := by
  cases o with
  | none => exact h
  | some r =>
    cases r with
    | ret d => exact fun v F' H' C c r => k _ _ (h v F' H' C c r)
    | exc c xs => exact h

structure World0 where
  P : Program
  w : World
  mg : Str → Option Value
  base : Heap
structure FnAt (W0 : World0) (w0 : Wd) (fa : Nat → Addr) (S : Sem) (k : Nat) (f : Nat) : Prop where
  ex : ∃ (fd : FuncData) (ps : List Str), Binds w0.K fd ps [] ∧ FnOk W0.P W0.w w0.K W0.mg W0.base (L2N.CX W0.P W0.w) k (fa f) fd ps (spF w0 (S.fn false f)) ∧
    L2H.FnH W0.P W0.w w0.K W0.mg W0.base (L2N.CX W0.P W0.w) k (fa f) fd ps (spF w0 (S.fn true f))
  kp : PySem.W.keepIn w0.K (.ref (fa f)) = true
structure NewAt (W0 : World0) (w0 : Wd) (S : Sem) (k : Nat) (c : Nat) : Prop where
  ex : ∃ (f : Addr) (fd : FuncData) (ps : List Str), Mk w0.K (w0.ca c) f ∧ Binds w0.K fd ps [] ∧ FnOk W0.P W0.w w0.K W0.mg W0.base (L2N.CX W0.P W0.w) k f fd ps (spI w0 c (S.new false c))
/-- what a promise of an exception's __init__ is (SLRz) -/
def spX (K : PySem.W.Frag) (C : Addr) (gs : List Str) : Sp := fun vs H Q _ => ∃ a ys, vs = .ref a :: ys ∧ ys.length = gs.length ∧ OexC K C ∧ (∀ g ∈ gs, PySem.W.findIn K (.ref C) g = some none) ∧ gs.length ≤ 800 ∧ H a = some (exo a C none) ∧
  ∀ dx, H dx = none → dx ≠ a → Q .non (upd (upd H dx (exd dx (gs.zip ys).reverse)) a (exo a C (some dx)))
structure RzAt (T : NT) (W0 : World0) (w0 : Wd) (S : Sem) (c : Nat) : Prop where
  ex : ∃ (fI : Addr) (fd : FuncData) (ps : List Str), PySem.W.findIn w0.K (.ref (w0.ca c)) "__init__" = some (some (.ref fI)) ∧ PySem.W.typeIn w0.K (.ref fI) = some (.type "function") ∧ Binds w0.K fd ps [] ∧
    FnOk W0.P W0.w w0.K W0.mg W0.base (L2N.CX W0.P W0.w) 1 fI fd ps (spX w0.K (w0.ca c) (w0.fn c).reverse)
  cls : OexC w0.K (w0.ca c)
  no : ∀ g ∈ w0.fn c, PySem.W.findIn w0.K (.ref (w0.ca c)) g = some none
  mg : W0.mg (T.cl c) = some (.ref (w0.ca c)) ∧ (T.cl c == ("__debug__" : Str)) = false
  len : (w0.fn c).length ≤ 800 ∧ (w0.fn c).length = (S.tab.xf c).length
/-- what does not hang on the evaluator's depth -/
structure Prog0 (T : NT) (W0 : World0) (w0 : Wd) (fa : Nat → Addr) (cv : Nat → Value) (tab : Tab) : Prop where
  no : w0.hx = none
  blt : ∀ x ∈ (["len", "int", "str", "list", "tuple", "sum", "any", "all", "min", "max", "abs", "sorted", "isinstance", "range", "enumerate", "zip", "bool", "ValueError"] : List Str), W0.mg x = none
  gf : ∀ f, T.gf f = true → W0.mg (T.fn f) = some (.ref (fa f)) ∧ (T.fn f == ("__debug__" : Str)) = false
  gc : ∀ c, T.gc c = true → W0.mg (T.cl c) = some (.ref (w0.ca c)) ∧ (T.cl c == ("__debug__" : Str)) = false
  glob : ∀ g d, tab.glob g = some d → (T.gl g == ("__debug__" : Str)) = false ∧ ∃ u v, W0.mg (T.gl g) = some u ∧ RelV v u ∧ ∀ F H : Hp, Rep w0 F H v d []
  meth : ∀ c m f, tab.meth c m = some f → Cls w0.K (w0.ca c) ∧ L2.Meth w0.K (w0.ca c) (T.at_ m) (fa f) ∧ T.at_ m ∉ w0.fn c
  prop : ∀ c p g, tab.prop c p = some g → Cls w0.K (w0.ca c) ∧ ∃ pa, PropOf w0.K (w0.ca c) (T.at_ p) pa (fa g)
  fl : ∀ c, (w0.fn c).length < 900
  fld : ∀ c f k, (tab.fields c).idxOf? f = some k → Cls w0.K (w0.ca c) ∧ NoAttr w0.K (w0.ca c) (T.at_ f) ∧ (w0.fn c)[k]? = some (T.at_ f)
  nd : ∀ c, (w0.fn c).Nodup
  xf : ∀ c f k, (tab.xf c).idxOf? f = some k → XfC w0.K (w0.ca c) ∧ PySem.W.findIn w0.K (.ref (w0.ca c)) (T.at_ f) = some none ∧ (w0.fn c)[k]? = some (T.at_ f)
  kit : ∀ c ic b, tab.kit c ic = some b → PySem.W.kitOne w0.K (.ref (w0.ca c)) (icU w0 ic) = some b ∧ Cls w0.K (w0.ca c) ∧ ClsOb w0.K (w0.ca c)
  xkit : ∀ c ic b, tab.xkit c ic = some b → PySem.W.kitOne w0.K (.ref (w0.ca c)) (icU w0 ic) = some b ∧ XfC w0.K (w0.ca c) ∧ (PySem.W.clsIn w0.K (w0.ca c)).isSome = true ∧ ClsOb w0.K (w0.ca c)
  exm : ∀ c' c b, tab.exm c' c = some b → PySem.W.exmOne w0.K (.ref (w0.ca c')) (.ref (w0.ca c)) = some b
  /-- a class that is asked for -/
  own : ∀ c, T.oc c = true → W0.mg (T.cl c) = some (.ref (w0.ca c)) ∧ (T.cl c == ("__debug__" : Str)) = false
/-- what a context must have -/
structure XF (T : NT) (W0 : World0) (w0 w : Wd) (fa : Nat → Addr) (cv : Nat → Value) (S : Sem) (h : Bool) (k : Nat) (W : WX) (X : Cx) : Prop where
  pr : Prog0 T W0 w0 fa cv S.tab
  prog : X.prog = W0.P
  wd : X.w = W0.w
  mg : X.mg = W0.mg
  base : X.base = W0.base
  K : X.K = w0.K
  like : w0.Like w
  hx : h = false → w.hx = none
  units : X.A.units + 65 < cLine
  room : h = false → Room (k + 1) X.A ∧ X.calm = true
  hot : h = true → L2H.RoomH (k + 1) X.A ∧ L2H.HotC X
  hxp : ∀ a c d, w.hx = some (a, c, d) → ∃ oe vs, (a, oe) ∈ X.pn ∧ Zc (.ref (w0.ca c)) d oe ∧ oe.data = .fields vs
  tk : L2N.Takes X W
  fn : ∀ f, T.gf f = true → FnAt W0 w0 fa S k f
  fm : ∀ c m f, S.tab.meth c m = some f → FnAt W0 w0 fa S k f
  fp : ∀ c m f, S.tab.prop c m = some f → FnAt W0 w0 fa S k f
  nw : ∀ c, T.gc c = true → NewAt W0 w0 S k c
  rz : ∀ c, T.rc c = true → RzAt T W0 w0 S c

section
variable {T : NT} {W0 : World0} {w0 w : Wd} {fa : Nat → Addr} {cv : Nat → Value} {S : Sem} {h : Bool} {k : Nat} {W : WX} {X : Cx} {pos p apos : Pos}
variable {s : Ex} {ss : List Ex} {e : Expr} {es : List Expr} {a b c : Ex} {ea eb ec : Expr} {o : Expr}
theorem XF.KK (x : XF T W0 w0 w fa cv S h k W X) : X.K = w.K := x.K.trans x.like.K.symm

/-! ### calls of defs -/
theorem tA_call {f : List D → Option Out} {σ : L2.St} {H : Hp} {Q : VK} (l : w0.Like w) (hx : h = false → w.hx = none) {kk : List R → Env → Res R} {F : Hp} {ρ : Env} {As : List (List Addr)} (hk : ∀ rs ρ, kk rs ρ = callR h rs f ρ)
    (pr : Pre w F H σ ρ As) (q : Fin (rpR w) w σ W F H ρ As ((evalA S h ss ρ).bind kk) Q) : tAv S h w W ss σ H fun vs H1 => spF w0 f vs H1 Q (fun cls d H' => W cls d σ H') :=
  ⟨F, ρ, As, pr, q.bind0 fun rs ρ1 vs F1 H1 As1 C1 e1 p1 k1 q1 => call_go (w0 := w0) l hx p1 k1 (by rw [hk] at q1; exact q1)⟩
theorem snd_call (x : XF T W0 w0 w fa cv S h k W X) {f : Nat} (hf : T.gf f = true) (hg : Gl X (T.fn f)) (ha : PA X (e :: es) (tAv S h w W ss)) (hn : noStar e = true) (hns : es.all noStar = true) :
    PE X (.Call (.Name (T.fn f) p) (e :: es) [] pos) (tEv S h w W (.call f ss)) := by
  obtain ⟨⟨fd, ps, hb, F, FH⟩, kp⟩ := x.fn f hf
  obtain ⟨m1, m2⟩ := x.pr.gf f hf
  rw [← x.K] at hb F FH kp
  rw [← x.mg] at m1 F FH
  rw [← x.prog, ← x.wd, ← x.base] at F FH
  cases h with
  | false =>
    refine PE.of (pe_callSD F ((x.room rfl).1.mono (by omega)) hg m1 kp hb .nil (fun σ => L2N.passAt x.tk σ) ha m2 (star_cons hn) (star_any hns)) fun σ H Q ⟨F, ρ, As, pr, q⟩ => ?_
    rw [evalE] at q
    obtain ⟨F, ρ, As, pr, q⟩ := tA_call (w0 := w0) x.like x.hx (fun _ _ => rfl) pr q
    unfold tCallSD
    simp only [List.append_nil]
    exact ⟨F, ρ, As, pr, q⟩
  | true =>
    refine PE.of (L2H.pe_callH FH ((x.hot rfl).1.mono (by omega)) (x.hot rfl).2 hg m1 kp hb (fun σ => L2N.passAt x.tk σ) ha m2 (star_cons hn) (star_any hns)) fun σ H Q ⟨F, ρ, As, pr, q⟩ => ?_
    rw [evalE] at q
    exact tA_call (w0 := w0) x.like x.hx (fun _ _ => rfl) pr q
/-- f() -/
theorem snd_call0 (x : XF T W0 w0 w fa cv S h k W X) {f : Nat} (hf : T.gf f = true) (hg : Gl X (T.fn f)) : PE X (.Call (.Name (T.fn f) p) [] [] pos) (tEv S h w W (.call f [])) := by
  obtain ⟨⟨fd, ps, hb, F, FH⟩, kp⟩ := x.fn f hf
  obtain ⟨m1, m2⟩ := x.pr.gf f hf
  rw [← x.K] at hb F FH kp
  rw [← x.mg] at m1 F FH
  rw [← x.prog, ← x.wd, ← x.base] at F FH
  refine ⟨fun pins st σ H Q I q0 => wpAny_Call_Name_kw (ld_glob I hg m1 (PySem.W.callWith_K0 I.kIn kp ?_) m2)⟩
  obtain ⟨F', ρ, As, pr, q⟩ := q0
  rw [evalE] at q
  obtain ⟨F', ρ, As, pr, q⟩ := tA_call (w0 := w0) x.like x.hx (fun _ _ => rfl) pr q
  rw [evalA] at q
  have q2 : spF w0 (S.fn h f) [] H Q (fun cls d H' => W cls d σ H') := q [] F' H As [] pr.post .nil
  cases h with
  | false => exact run_fnSD (us := []) (vs := []) (dvs := []) (ds := []) F ((x.room rfl).1.mono (by omega)) hb .nil (L2N.passAt x.tk σ) I .nil q2
  | true => exact L2H.run_fnH (E := fun σ => WE W σ) (us := []) (vs := []) FH ((x.hot rfl).1.mono (by omega)) (x.hot rfl).2 hb (L2N.passAt x.tk σ) I .nil q2
end
end SL
set_option Elab.async false
set_option linter.all false
set_option maxRecDepth 100000
set_option maxHeartbeats 1000000
/-! SLFy: making, methods, properties, fields. -/
namespace SL
open PySem L2

theorem zip_no {α β : Type} [BEq α] [LawfulBEq α] {m : α} : ∀ {ns : List α} {ws : List β}, m ∉ ns → (ns.zip ws).lookup m = none
  | [], _, _ => rfl
  | _ :: _, [], _ => rfl
  | n :: ns, u :: ws, h => by
    rw [List.zip_cons_cons, List.lookup_cons]
    have h1 : (m == n) = false := by
      cases e : m == n with
      | false => rfl
      | true => exact absurd (by rw [LawfulBEq.eq_of_beq e]; exact List.mem_cons_self) h
    rw [h1]
    exact zip_no fun z => h (List.mem_cons_of_mem _ z)
theorem zip_at {α β : Type} [BEq α] [LawfulBEq α] {m : α} {v : β} : ∀ {ns : List α} {ws : List β} {k : Nat}, ns.Nodup → ns[k]? = some m → ws[k]? = some v → (ns.zip ws).lookup m = some v
  | [], _, k, _, h, _ => by simp at h
  | _ :: _, [], k, _, _, h => by simp at h
  | n :: ns, u :: ws, 0, _, h1, h2 => by
    simp at h1 h2; subst h1; subst h2
    rw [List.zip_cons_cons, List.lookup_cons]; simp
  | n :: ns, u :: ws, k + 1, nd, h1, h2 => by
    rw [List.zip_cons_cons, List.lookup_cons]
    have hm : m ∈ ns := List.mem_of_getElem? (by simpa using h1)
    have e : (m == n) = false := by
      cases e : m == n with
      | false => rfl
      | true => exact absurd (by rw [← LawfulBEq.eq_of_beq e]; exact hm) (List.nodup_cons.mp nd).1
    rw [e]
    exact zip_at (List.nodup_cons.mp nd).2 (by simpa using h1) (by simpa using h2)
/-- no super() -/
def noSup : Expr → Bool
  | .Call (.Name id _) [] [] _ => id != ("super" : Str)
  | _ => true
theorem ab_of {o : Expr} {f : Str} {env : PySem.Env} {m : PySem.Sem Value} (h : noSup o = true) : attributeBase o f env m = m := by
  unfold attributeBase
  split
  · rename_i id p2 pos
    have e : (id != ("super" : Str)) = true := h
    simp [e]
  · rfl
def starF : List Expr → Bool := fun es => es.all noStar
theorem all_plain {env : PySem.Env} {pos : Pos} : ∀ {es : List Expr}, es.all noStar = true → (backTo pos (starEach es env)).all (fun x => !x.1) = true
  | [], _ => rfl
  | e :: es, h => by
    simp only [List.all_cons, Bool.and_eq_true] at h
    rw [star_cons h.1]
    show (true && (backTo pos (starEach es env)).all (fun x => !x.1)) = true
    rw [all_plain h.2]; rfl
/-- how o.m(..) is run -/
theorem meth_eq {o : Expr} {m : Str} {apos pos : Pos} {args : List Expr} {env : PySem.Env} (h1 : noSup o = true) (h2 : args.all noStar = true) (h3 : args.length < 20) (h4 : (apos.endLine == pos.line) = true) :
    eval (.Call (.Attribute o m apos) args [] pos) env = (do
      let ov ← eval o env
      standAt apos.atName
      let r ← holding [ov] (getMethod ov m (do return (← importBound o env).getD true))
      callWith pos r.1 r.2 (backTo pos (starEach args env)) (backToKw pos (keywordEach [] env))) := by
  rw [arm_eval_Call, ab_of h1]
  have hform : methodCallForm (args.length + ([] : List Keyword).length) (backTo pos (starEach args env)) (backToKw pos (keywordEach [] env)) = true := by
    unfold methodCallForm
    rw [all_plain h2]
    have : decide (args.length + ([] : List Keyword).length + (if (backToKw pos (keywordEach [] env)).isEmpty = true then 0 else 1) < 30) = true := by
      have : (if (backToKw pos (keywordEach [] env)).isEmpty = true then 0 else 1) ≤ 1 := by split <;> omega
      simp only [List.length_nil, decide_eq_true_eq]; omega
    rw [this]; rfl
  have hpos : methodCallPos true o env apos pos = pure pos := by unfold methodCallPos; simp [h4]
  congr 1
  funext ov
  congr 1
  funext _
  unfold methodCall
  rw [hform, hpos]
  unfold calleeOf
  simp

section
variable {T : NT} {W0 : World0} {w0 w : Wd} {fa : Nat → Addr} {cv : Nat → Value} {S : Sem} {h : Bool} {k : Nat} {W : WX} {X : Cx} {pos p apos : Pos}
variable {s : Ex} {ss : List Ex} {e : Expr} {es : List Expr} {a b c : Ex} {ea eb ec : Expr} {o : Expr}

/-! ### making -/
theorem run_new {CX : CXT} {k : Nat} {f C : Addr} {fd : FuncData} {ps : List Str} {sp : Sp} {E : XK} {pins : List (Addr × Obj)} {σ : L2.St} {H : Hp} {st : Shared} {Q : VK} {us : List Value} {vs : List V}
    (M : Mk X.K C f) (F : FnOk X.prog X.w X.K X.mg X.base CX k f fd ps sp) (hr : Room (k + 1) X.A) (hb : Binds X.K fd ps []) (hx : PassesAt CX X σ E) (I : Inv X pins σ H st) (r : Vals vs us)
    (go : ∀ x dx, H x = none → H dx = none → dx ≠ x → sp (.ref x :: vs) (upd (upd H dx (.own x)) x (.ins C dx [])) (fun v H2 => v = .non ∧ Q (.ref x) H2) E) : wpAny (model X.prog X.w) X.A (call (.ref C) us) (EP X pins σ Q) X.xe st := by
  have I2 := Inv.made (C := C) I
  have g := go (st.heap.objs.size + 1) st.heap.objs.size (I.hok.fresh (Nat.le_succ _)) (I.hok.fresh (Nat.le_refl _)) (Nat.ne_of_lt (Nat.lt_succ_self _))
  have rr : Vals (V.ref (st.heap.objs.size + 1) :: vs) (Value.ref (st.heap.objs.size + 1) :: us) := .cons rfl r
  have len : (Value.ref (st.heap.objs.size + 1) :: us).length = ps.length := by rw [← rr.length]; exact F.len _ _ _ _ g
  have bb := hb _ (Value.ref (st.heap.objs.size + 1) :: us) I2.kIn (by simpa using len)
  rw [List.append_nil] at bb
  refine wpAny_call (make_map (f := f) I.kIn M.makes M.init (beq_iff_eq.mp M.fn) ?_)
  refine codeAny_mono (F.run _ X.stack _ _ ⟨_, []⟩ _ _ _ E (hr.make C us []) (I2.env0.make C us []) bb rr g) fun res s' z => ?_
  cases res with
  | error er => exact hx pins _ _ er s' I2 z
  | ok fl =>
    cases fl with
    | ret u =>
      obtain ⟨v, H', I3, rv, e1, q3⟩ := I2.after z
      subst e1
      exact ⟨rv, V.ref (st.heap.objs.size + 1), H', I3, rfl, q3⟩
    | next => exact z.elim
    | brk => exact z.elim
    | cont => exact z.elim
theorem spF_new {c : Nat} {vs : List V} {H : Hp} {Q : VK} {E : XK} {f : List D → Option Out} (q : spF w0 f vs H Q E) : ∀ x dx, H x = none → H dx = none → dx ≠ x →
    spI w0 c f (.ref x :: vs) (upd (upd H dx (.own x)) x (.ins (w0.ca c) dx [])) (fun v H2 => v = .non ∧ Q (.ref x) H2) E := fun x dx hx hd ne => by
  obtain ⟨F, ds, sm, r, fin⟩ := q
  exact ⟨H, x, dx, vs, F, ds, rfl, hx, hd, ne, rfl, sm, r, fin.imp fun v H' z e => ⟨rfl, by rw [← e]; exact z⟩⟩
theorem snd_new (x : XF T W0 w0 w fa cv S false k W X) {c : Nat} (hc : T.gc c = true) (hg : Gl X (T.cl c)) (ha : PA X (e :: es) (tAv S false w W ss)) (hn : noStar e = true) (hns : es.all noStar = true) :
    PE X (.Call (.Name (T.cl c) p) (e :: es) [] pos) (tEv S false w W (.new c ss)) := by
  obtain ⟨⟨f, fd, ps, M, hb, F⟩⟩ := x.nw c hc
  obtain ⟨m1, m2⟩ := x.pr.gc c hc
  rw [← x.K] at M hb F
  rw [← x.mg] at m1 F
  rw [← x.prog, ← x.wd, ← x.base] at F
  refine ⟨fun pins st σ H Q I q0 => wpAny_Call_Name_kw (ld_glob I hg m1 ?_ m2)⟩
  obtain ⟨F', ρ, As, pr, q⟩ := q0
  rw [evalE] at q
  have q1 := tA_call (w0 := w0) x.like x.hx (fun _ _ => rfl) pr q
  refine PySem.W.callWith_K (h₀ := X.base) I.ok.mod.kin M.kp (thn (ha.run pos pins st σ H _ I q1) fun us s1 ⟨vs, H1, I1, r, q2⟩ => ⟨I1.kIn, ?_⟩) (star_cons hn) (star_any hns)
  exact run_new M F (x.room rfl).1 hb (L2N.passAt x.tk σ) I1 r (spF_new q2)
theorem snd_new0 (x : XF T W0 w0 w fa cv S false k W X) {c : Nat} (hc : T.gc c = true) (hg : Gl X (T.cl c)) : PE X (.Call (.Name (T.cl c) p) [] [] pos) (tEv S false w W (.new c [])) := by
  obtain ⟨⟨f, fd, ps, M, hb, F⟩⟩ := x.nw c hc
  obtain ⟨m1, m2⟩ := x.pr.gc c hc
  rw [← x.K] at M hb F
  rw [← x.mg] at m1 F
  rw [← x.prog, ← x.wd, ← x.base] at F
  refine ⟨fun pins st σ H Q I q0 => wpAny_Call_Name_kw (ld_glob I hg m1 (PySem.W.callWith_K0 I.kIn M.kp ?_) m2)⟩
  obtain ⟨F', ρ, As, pr, q⟩ := q0
  rw [evalE] at q
  obtain ⟨F', ρ, As, pr, q⟩ := tA_call (w0 := w0) x.like x.hx (fun _ _ => rfl) pr q
  rw [evalA] at q
  have q2 : spF w0 (S.new false c) [] H Q (fun cls d H' => W cls d σ H') := q [] F' H As [] pr.post .nil
  exact run_new (us := []) (vs := []) M F (x.room rfl).1 hb (L2N.passAt x.tk σ) I .nil (spF_new q2)

/-! ### methods -/
/-- an instance in the heap -/
theorem ins_at {F H : Hp} {v : V} {o : Bool} {c : Nat} {xs : List D} {C : List Addr} (s : Same F H) (r : Rep w F H v (.ins o c xs) C) : ∃ a dx ws, v = .ref a ∧ H a = some (.ins (w.ca c) dx ((w.fn c).zip ws)) ∧ ws.length = xs.length ∧ ws.length ≤ (w.fn c).length := by
  cases r with
  | insF k l a _ => exact ⟨_, _, _, rfl, s _ _ k, a.len, l⟩
  | insO k l a _ => exact ⟨_, _, _, rfl, k, a.len, l⟩
theorem tM_call {m : Nat} {σ : L2.St} {H : Hp} {Q : VK} (x : XF T W0 w0 w fa cv S h k W X) {F : Hp} {ρ : Env} {As : List (List Addr)} (pr : Pre w F H σ ρ As) (q : Fin (rpR w) w σ W F H ρ As (evalE S h (.meth m s ss) ρ) Q) :
    tEv S h w W s σ H fun v H1 => ∃ a c dx ws f, v = .ref a ∧ H1 a = some (.ins (w0.ca c) dx ((w0.fn c).zip ws)) ∧ S.tab.meth c m = some f ∧
      tAv S h w W ss σ H1 fun vs H2 => spF w0 (S.fn h f) (.ref a :: vs) H2 Q (fun cls d H' => W cls d σ H') := by
  rw [evalE] at q
  refine ⟨F, ρ, As, pr, q.bind0 fun r ρ1 v F1 H1 As1 C1 e1 p1 k1 q1 => ?_⟩
  obtain ⟨d, ρ1', e1', q1⟩ := q1.of_ok settle_ne
  obtain ⟨F1', As1', t, k1'⟩ := settle_ok p1.pre k1 e1'
  have p1' := (p1.trans t).weak (C' := C1) fun a => by simp
  cases d with
  | ins o c xs =>
    obtain ⟨a, dx, ws, ev, ha, _, _⟩ := ins_at t.same k1'
    subst ev
    simp only at q1
    cases hf : S.tab.meth c m with
    | none => rw [hf] at q1; exact q1.elim
    | some f =>
      rw [hf] at q1
      refine ⟨a, c, dx, ws, f, rfl, by rw [← x.like.ca, ← x.like.fn]; exact ha, hf, F1', ρ1', As1', t.pre, Fin.bind p1' q1 fun rs ρ2 vs F2 H2 As2 C2 e2 p2 p12 k2 q2 => ?_⟩
      exact call_go (w0 := w0) x.like x.hx p2 (.cons (.val (Rep.up k1' p12.lift)) k2) q2
  | _ => exact q1.elim
theorem snd_meth (x : XF T W0 w0 w fa cv S h k W X) {m : Nat} (ho : PE X o (tEv S h w W s)) (ha : PA X (e :: es) (tAv S h w W ss)) (hn : noStar e = true) (hns : es.all noStar = true) (h1 : noSup o = true) (h3 : es.length < 19) (h4 : (apos.endLine == pos.line) = true) :
    PE X (.Call (.Attribute o (T.at_ m) apos) (e :: es) [] pos) (tEv S h w W (.meth m s ss)) := by
  refine ⟨fun pins st σ H Q I q0 => ?_⟩
  obtain ⟨F, ρ, As, pr, q⟩ := q0
  have q1 := tM_call x pr q
  refine PySem.W.methodCall_KW (pl := do return (← importBound o X.env).getD true) (thn (ho.run pins st σ H _ I q1) fun u s1 z => ?_) (meth_eq h1 (by simp [hn]; simpa using hns) (by simp; omega) h4)
  obtain ⟨y, H1, I1, rx, a, c, dx, ws, f, ev, hi, hm, q2⟩ := z
  subst ev
  obtain rfl : u = Value.ref a := rx
  obtain ⟨cl, me, no⟩ := x.pr.meth c m f hm
  obtain ⟨⟨fd, ps, hb, F, FH⟩, kp⟩ := x.fm c m f hm
  rw [← x.K] at cl me hb F FH kp
  rw [← x.mg] at F FH
  rw [← x.prog, ← x.wd, ← x.base] at F FH
  refine getmeth_ok I1 hi cl me (zip_no no) ?_
  refine PySem.W.callWith_K (first := [.ref a]) (h₀ := X.base) I.ok.mod.kin kp (thn (ha.run pos pins s1 σ H1 _ I1 q2) fun us s2 ⟨vs, H2, I2, r, q3⟩ => ⟨I2.kIn, ?_⟩) (star_cons hn) (star_any hns)
  cases h with
  | false => exact run_fnSD (us := .ref a :: us) (vs := .ref a :: vs) (dvs := []) (ds := []) F ((x.room rfl).1.mono (by omega)) hb .nil (L2N.passAt x.tk σ) I2 (.cons rfl r) (by rw [List.append_nil]; exact q3)
  | true => exact L2H.run_fnH (E := fun σ => WE W σ) (us := .ref a :: us) (vs := .ref a :: vs) FH ((x.hot rfl).1.mono (by omega)) (x.hot rfl).2 hb (L2N.passAt x.tk σ) I2 (.cons rfl r) q3
theorem snd_meth0 (x : XF T W0 w0 w fa cv S h k W X) {m : Nat} (ho : PE X o (tEv S h w W s)) (h1 : noSup o = true) (h4 : (apos.endLine == pos.line) = true) :
    PE X (.Call (.Attribute o (T.at_ m) apos) [] [] pos) (tEv S h w W (.meth m s [])) := by
  refine ⟨fun pins st σ H Q I q0 => ?_⟩
  obtain ⟨F, ρ, As, pr, q⟩ := q0
  have q1 := tM_call x pr q
  refine PySem.W.methodCall_KW (pl := do return (← importBound o X.env).getD true) (thn (ho.run pins st σ H _ I q1) fun u s1 z => ?_) (meth_eq h1 rfl (by simp) h4)
  obtain ⟨y, H1, I1, rx, a, c, dx, ws, f, ev, hi, hm, F1, ρ1, As1, pr1, q2⟩ := z
  subst ev
  obtain rfl : u = Value.ref a := rx
  obtain ⟨cl, me, no⟩ := x.pr.meth c m f hm
  obtain ⟨⟨fd, ps, hb, F, FH⟩, kp⟩ := x.fm c m f hm
  rw [← x.K] at cl me hb F FH kp
  rw [← x.mg] at F FH
  rw [← x.prog, ← x.wd, ← x.base] at F FH
  rw [evalA] at q2
  have q3 := q2 [] F1 H1 As1 [] pr1.post .nil
  refine getmeth_ok I1 hi cl me (zip_no no) ?_
  refine PySem.W.callWith_K0 (first := [.ref a]) I1.kIn kp ?_
  cases h with
  | false => exact run_fnSD (us := [.ref a]) (vs := [.ref a]) (dvs := []) (ds := []) F ((x.room rfl).1.mono (by omega)) hb .nil (L2N.passAt x.tk σ) I1 (.cons rfl .nil) (by rw [List.append_nil]; exact q3)
  | true => exact L2H.run_fnH (E := fun σ => WE W σ) (us := [.ref a]) (vs := [.ref a]) FH ((x.hot rfl).1.mono (by omega)) (x.hot rfl).2 hb (L2N.passAt x.tk σ) I1 (.cons rfl .nil) q3
end
end SL
set_option Elab.async false
set_option linter.all false
set_option maxRecDepth 100000
set_option maxHeartbeats 1000000
/-! SLFz: properties, fields, isinstance, the module's constants. -/
namespace SL
open PySem L2
section
variable {T : NT} {W0 : World0} {w0 w : Wd} {fa : Nat → Addr} {cv : Nat → Value} {S : Sem} {h : Bool} {k : Nat} {W : WX} {X : Cx} {pos p apos : Pos}
variable {s : Ex} {ss : List Ex} {e : Expr} {es : List Expr} {a b c : Ex} {ea eb ec : Expr} {o : Expr}

theorem snd_glob (x : XF T W0 w0 w fa cv S h k W X) {g : Nat} (hg : Gl X (T.gl g)) (ht : (S.tab.glob g).isSome = true) : PE X (.Name (T.gl g) pos) (tEv S h w W (.glob g)) := by
  cases e : S.tab.glob g with
  | none => rw [e] at ht; cases ht
  | some d =>
    obtain ⟨hd, u, v, hm, rv, k⟩ := x.pr.glob g d e
    rw [← x.mg] at hm
    refine PE.of (pe_glob hg hm rv hd) fun σ H Q ⟨F, ρ, As, p, q⟩ => ?_
    rw [evalE, e] at q
    exact fin_val (rp := rpR w) q p.post (RepL.toW x.like (k F H)) (by simp)

/-! ### attributes -/
theorem no_pass {X : Cx} (σ : L2.St) : Passes (L2N.CX X.prog X.w) X.nox (fun _ _ _ => False) := by
  intro pins σ H st u s' I c
  have tk : L2N.Takes X.nox (fun _ _ _ _ => False) := fun u s' z => by
    obtain ⟨a, B, sI, pins, σ, H, cls, d, _, _, _, _, _, _, _, _, w⟩ := z
    exact w
  exact L2N.passAt tk σ pins H st u s' I c
/-- what an attribute's object is -/
def AttrAt (T : NT) (w0 w : Wd) (S : Sem) (h : Bool) (f : Nat) (v : V) (H : Hp) (Q : VK) : Prop :=
  (∃ a c dx ws k u, v = .ref a ∧ H a = some (.ins (w0.ca c) dx ((w0.fn c).zip ws)) ∧ S.tab.prop c f = none ∧ (S.tab.fields c).idxOf? f = some k ∧ ws[k]? = some u ∧ Q u H) ∨
  (∃ a c dx ws g, h = false ∧ v = .ref a ∧ H a = some (.ins (w0.ca c) dx ((w0.fn c).zip ws)) ∧ S.tab.prop c f = some g ∧ spF w0 (S.fn false g) [.ref a] H Q (fun _ _ _ => False)) ∨
  (∃ a c dd ws k u, v = .ref a ∧ w.hx = some (a, c, some dd) ∧ H dd = some (.xd ((w0.fn c).zip ws)) ∧ (S.tab.xf c).idxOf? f = some k ∧ ws[k]? = some u ∧ Q u H)
theorem attr_go (x : XF T W0 w0 w fa cv S h k W X) {f : Nat} {F0 H0 F H : Hp} {σ : L2.St} {ρ0 ρ : Env} {As0 As : List (List Addr)} {v : V} {r : R} {C : List Addr} {Q : VK} (p : Post w σ F0 H0 ρ0 As0 F H ρ As C) (k : RepR w F H ρ As v r C)
    (q : Fin (rpR w) w σ W F0 H0 ρ0 As0 (match r.d with
      | .ins _ c xs => match S.tab.prop c f with
        | some g => (settle r ρ).bind fun d ρ => propR h d (S.fn h g) ρ
        | none => (Res.of (((S.tab.fields c).idxOf? f).bind fun k => xs[k]?) ρ).bind fun x ρ => part r x ρ
      | .exn c xs => (Res.of (((S.tab.xf c).idxOf? f).bind fun k => xs[k]?) ρ).bind fun x ρ => part r x ρ
      | _ => .bad) Q) : AttrAt T w0 w S h f v H Q := by
  obtain ⟨G, B, sG, kG, fin⟩ := part_open (W := W) (Q := Q) p k (fun a => Nat.le_refl _)
  cases e : r.d with
  | ins o c xs =>
    rw [e] at q kG
    cases hp : S.tab.prop c f with
    | none =>
      simp only [hp] at q
      obtain ⟨y, e1, q⟩ := q.ofO
      cases e2 : (S.tab.fields c).idxOf? f with
      | none => rw [e2] at e1; simp at e1
      | some i =>
        rw [e2] at e1
        have e1 : xs[i]? = some y := e1
        have ⟨a, dx, ws, ev, ha, B', u, hu, ru, hb⟩ : ∃ a dx ws, v = .ref a ∧ H a = some (.ins (w.ca c) dx ((w.fn c).zip ws)) ∧ ∃ B' u, ws[i]? = some u ∧ Rep w G H u y B' ∧ ∀ a, B'.count a ≤ B.count a := by
          cases kG with
          | insF k1 l k2 k3 =>
            cases k3
            obtain ⟨u, B', h1, h2, h3⟩ := k2.get e1
            exact ⟨_, _, _, rfl, sG _ _ k1, B', u, h1, h2, fun a => by simpa using h3 a⟩
          | insO k1 l k2 k3 =>
            cases k3
            obtain ⟨u, B', h1, h2, h3⟩ := k2.get e1
            exact ⟨_, _, _, rfl, k1, B', u, h1, h2, fun a => by have := h3 a; rw [List.count_cons, List.count_append]; omega⟩
        exact .inl ⟨a, c, dx, ws, i, u, ev, by rw [← x.like.ca, ← x.like.fn]; exact ha, hp, e2, hu, fin y q u B' ru hb⟩
    | some g =>
      simp only [hp] at q
      obtain ⟨d, ρ1, e1, q⟩ := q.of_ok settle_ne
      obtain ⟨F1, As1, t, k1⟩ := settle_ok p.pre k e1
      have p1 := (p.trans t).weak (C' := C) fun a => by simp
      cases h with
      | true => exact q.elim
      | false =>
        have hd : ∃ o' xs', d = .ins o' c xs' := by
          cases r with
          | val d' => simp only [settle, Res.ok.injEq] at e1; obtain ⟨rfl, _⟩ := e1; exact ⟨_, _, e⟩
          | brw i d' =>
            simp only [settle] at e1
            split at e1
            · simp only [Res.ok.injEq] at e1; obtain ⟨rfl, _⟩ := e1; exact ⟨_, _, e⟩
            · cases e1
        obtain ⟨o', xs', rfl⟩ := hd
        obtain ⟨a, dx, ws, ev, ha, _, _⟩ := ins_at t.same k1
        subst ev
        refine .inr (.inl ⟨a, c, dx, ws, g, rfl, rfl, by rw [← x.like.ca, ← x.like.fn]; exact ha, hp, ?_⟩)
        have q' : Fin (rpR w) w σ (fun _ _ _ _ => False) F0 H0 ρ0 As0 (callR false [.val (.ins o' c xs')] (S.fn false g) ρ1) Q := by
          unfold callR
          have l1 : (liveAll [R.val (D.ins o' c xs')] ρ1 && (!false || D.noXL (argsOf [R.val (D.ins o' c xs')]))) = true := rfl
          rw [if_pos l1]
          unfold propR at q
          simp only [Bool.false_eq_true, if_false] at q
          have ea : argsOf [R.val (D.ins o' c xs')] = [(D.ins o' c xs').frz] := rfl
          rw [ea]
          cases eo : S.fn false g [(D.ins o' c xs').frz] with
          | none => rw [eo] at q; exact q.elim
          | some out =>
            rw [eo] at q
            cases out with
            | ret y => simp only [after, frzAll, ite_self]; exact q
            | exc _ _ => exact q.elim
        have z := call_go (w0 := w0) x.like x.hx p1 (by have := RepRs.cons (ρ := ρ1) (As := As1) (RepR.val k1) RepRs.nil; simpa using this) (by simpa using q')
        exact z
  | exn c xs =>
    rw [e] at q kG
    simp only at q
    obtain ⟨y, e1, q⟩ := q.ofO
    cases e2 : (S.tab.xf c).idxOf? f with
    | none => rw [e2] at e1; simp at e1
    | some i =>
      rw [e2] at e1
      have e1 : xs[i]? = some y := e1
      cases kG with
      | exn k0 k1 l k2 k3 =>
        cases k3
        obtain ⟨u, B', h1, h2, h3⟩ := k2.get e1
        exact .inr (.inr ⟨_, c, _, _, i, u, rfl, k0, by rw [← x.like.fn]; exact sG _ _ k1, e2, h1, fin y q u B' h2 fun a => by have := h3 a; simp at this ⊢; omega⟩)
      | exn0 _ _ => simp at e1
  | _ => rw [e] at q; exact q.elim
end
end SL
set_option Elab.async false
set_option linter.all false
set_option maxRecDepth 100000
set_option maxHeartbeats 1000000
/-! SLZa: e.f, isinstance. -/
namespace SL
open PySem L2
section
variable {T : NT} {W0 : World0} {w0 w : Wd} {fa : Nat → Addr} {cv : Nat → Value} {S : Sem} {h : Bool} {k : Nat} {W : WX} {X : Cx} {pos p apos : Pos}
variable {s : Ex} {ss : List Ex} {e : Expr} {es : List Expr} {a b c : Ex} {ea eb ec : Expr} {o : Expr}

/-- the handled exception in the heap -/
theorem exc_inst (x : XF T W0 w0 w fa cv S h k W X) {pins : List (Addr × Obj)} {σ : L2.St} {H : Hp} {st : Shared} (I : Inv X pins σ H st) {a : Addr} {c : Nat} {d : Option Addr} (hx : w.hx = some (a, c, d)) (hd : ∀ dd, d = some dd → ∃ fs, H dd = some (.xd fs)) :
    ∃ oe od, PySem.W.InstAt st.heap a oe (w0.ca c) od ∧ ∀ dd fs, d = some dd → H dd = some (.xd fs) → ∃ (o : Obj) (mA : Str → Option Value), od = some o ∧ (∀ n, PySem.W.lookIn n o = some (mA n)) ∧ ∀ n, RelO (fs.lookup n) (mA n) := by
  obtain ⟨oe, vs, hm, hz, hv⟩ := x.hxp a c d hx
  obtain ⟨ha, _⟩ := I.pin (a, oe) (List.mem_append_left _ hm)
  have nc : PySem.W.notCls oe = true := by unfold PySem.W.notCls; rw [hv]
  cases d with
  | none => exact ⟨oe, none, ⟨ha, hz.1, nc, by rw [hz.2]; trivial⟩, fun dd fs e => by cases e⟩
  | some dd =>
    obtain ⟨fs, hfs⟩ := hd dd rfl
    obtain ⟨mA, hns, hr⟩ := (show ObjOk X.prog X.w H st.heap dd (.xd fs) from I.hok dd _ hfs)
    obtain ⟨od, ho, hl⟩ := lookIn_ns hns
    refine ⟨oe, some od, ⟨ha, hz.1, nc, by rw [hz.2]; exact ho⟩, fun dd' fs' e e2 => ?_⟩
    cases e
    rw [hfs] at e2
    cases e2
    exact ⟨od, mA, rfl, hl, hr⟩
theorem snd_fld (x : XF T W0 w0 w fa cv S h k W X) {f : Nat} (he : PE X e (tEv S h w W s)) (h1 : noSup e = true) : PE X (.Attribute e (T.at_ f) pos) (tEv S h w W (.fld s f)) := by
  refine ⟨fun pins st σ H Q I q0 => ?_⟩
  obtain ⟨F, ρ, As, pr, q⟩ := q0
  rw [evalE] at q
  have q1 : tEv S h w W s σ H (fun v H1 => AttrAt T w0 w S h f v H1 Q) := ⟨F, ρ, As, pr, q.bind0 fun r ρ1 v F1 H1 As1 C1 e1 p1 k1 q1 => attr_go x p1 k1 q1⟩
  refine attr_of (ab_of h1) (thn (he.run pins st σ H _ I q1) fun u s1 z => ?_)
  obtain ⟨y, H1, I1, rx, z⟩ := z
  rcases z with ⟨a, c, dx, ws, i, v, ev, hi, hp, hf, hu, q2⟩ | ⟨a, c, dx, ws, g, hh, ev, hi, hp, q2⟩ | ⟨a, c, dd, ws, i, v, ev, hh, hi, hf, hu, q2⟩
  · subst ev
    obtain rfl : u = Value.ref a := rx
    obtain ⟨cl, na, hn⟩ := x.pr.fld c f i hf
    rw [← x.K] at cl na
    exact getattr_ok I1 hi cl na (zip_at (x.pr.nd c) hn hu) fun u' s2 I2 ru => ⟨v, H1, I2, ru, q2⟩
  · subst ev
    subst hh
    obtain rfl : u = Value.ref a := rx
    obtain ⟨cl, pa, po⟩ := x.pr.prop c f g hp
    obtain ⟨⟨fd, ps, hb, FF, _⟩, _⟩ := x.fp c f g hp
    rw [← x.K] at cl po hb FF
    rw [← x.mg] at FF
    rw [← x.prog, ← x.wd, ← x.base] at FF
    exact getprop_ok (ds := []) (dvs := []) I1 hi cl po FF (x.room rfl).1 hb .nil (no_pass σ) q2
  · subst ev
    obtain rfl : u = Value.ref a := rx
    obtain ⟨xc, no, hn⟩ := x.pr.xf c f i hf
    rw [← x.K] at xc no
    obtain ⟨oe, od, J, lk⟩ := exc_inst x I1 hh (fun d' e => by cases e; exact ⟨_, hi⟩)
    obtain ⟨o, mA, e1, e2, e3⟩ := lk dd _ rfl hi
    subst e1
    obtain ⟨u, hu2, ru⟩ := RelO.some_of (v := v) (o := mA (T.at_ f)) (by rw [← zip_at (x.pr.nd c) hn hu]; exact e3 (T.at_ f))
    exact HandSPX.exc_get I1.kIn J xc.ga xc.gg xc.exC (PySem.W.findObj_own xc.hdC no rfl (by rw [e2, hu2])) (handed_of ru) ⟨v, H1, I1.tok _, ru, q2⟩

/-! ### isinstance -/
theorem icV_cls (ic : Ic) : ClsV (icV w0 ic) (icU w0 ic) := by cases ic <;> first | exact .ty _ | exact .own _
/-- the two ways an answer comes -/
def rIsX (X : Cx) (w0 w : Wd) (ic : Ic) : List V → Hp → VK → Prop := fun xs H Q => ∃ v b, xs = [v, icV w0 ic] ∧ Q (.bl b) H ∧
  ((∃ t, TyX X.K H v t ∧ PySem.W.kitOne X.K t (icU w0 ic) = some b) ∨
    ∃ a c d, v = .ref a ∧ w.hx = some (a, c, d) ∧ (∀ dd, d = some dd → ∃ fs, H dd = some (.xd fs)) ∧ PySem.W.kitOne X.K (.ref (w0.ca c)) (icU w0 ic) = some b ∧ XfC X.K (w0.ca c) ∧ (PySem.W.clsIn X.K (w0.ca c)).isSome = true ∧ ClsOb X.K (w0.ca c))
theorem call_isX (x : XF T W0 w0 w fa cv S h k W X) {ic : Ic} : CallR X (.builtin "isinstance") (rIsX X w0 w ic) := by
  intro pins st σ H xs us Q I r z
  obtain ⟨v, b, rfl, q, z⟩ := z
  rcases z with ⟨t, ty, e⟩ | ⟨a, c, d, rfl, hx, hd, e, xc, ci, ob⟩
  · exact call_isi pins st σ H _ us Q I r ⟨v, icV w0 ic, t, icU w0 ic, b, rfl, icV_cls ic, ty, e, q⟩
  · obtain ⟨u1, u2, rfl, r1, r2⟩ := vals2 r
    obtain rfl := (icV_cls (w0 := w0) ic).eq r2
    obtain rfl : u1 = Value.ref a := r1
    obtain ⟨oe, od, J, _⟩ := exc_inst x I hx hd
    exact PySem.W.kia_one (PySem.W.kitx_exc ci xc.ga xc.gg xc.exC ob.ha ob.hn ob.htk ob.hm) I.kIn J e (fun z => nomatch z) fun tk => ⟨.bl b, H, I.tok tk, rfl, q⟩

theorem kits : ∀ (t : Ic) (ic : Ic), t ∈ [Ic.int, .bool, .str, .tuple, .list] → (∀ c, ic ≠ .cls c) → PySem.W.kitOne w0.K (icU w0 t) (icU w0 ic) = some (ic == t || (t == .bool && ic == .int)) := by
  intro t ic ht hc
  simp only [List.mem_cons, List.not_mem_nil, or_false] at ht
  cases ic with
  | cls c => exact absurd rfl (hc c)
  | _ => rcases ht with rfl | rfl | rfl | rfl | rfl <;> exact kit_ty (by decide +kernel)
theorem kit_non (ic : Ic) (hc : ∀ c, ic ≠ .cls c) : PySem.W.kitOne w0.K (.type "NoneType") (icU w0 ic) = some false := by
  cases ic with
  | cls c => exact absurd rfl (hc c)
  | _ => exact kit_ty (by decide +kernel)
theorem is_go (x : XF T W0 w0 w fa cv S h k W X) {ic : Ic} {v : V} {d : D} {H : Hp} {C : List Addr} {b : Bool} {Q : VK} (r : Rep w H H v d C) (e : isInst S.tab d ic = some b) (q : Q (.bl b) H) : rIsX X w0 w ic [v, icV w0 ic] H Q := by
  refine ⟨v, b, rfl, q, ?_⟩
  have Kw : w.K = X.K := x.KK.symm
  have basic : ∀ (t : Ic), t ∈ [Ic.int, .bool, .str, .tuple, .list] → (∀ c, ic ≠ .cls c) → TyX X.K H v (icU w0 t) → b = (ic == t || (t == .bool && ic == .int)) → ∃ t, TyX X.K H v t ∧ PySem.W.kitOne X.K t (icU w0 ic) = some b := fun t ht hc ty eb => by
    refine ⟨_, ty, ?_⟩
    rw [x.K, kits t ic ht hc, eb]
  have nc : ∀ {o : Option Bool}, (match ic with | .cls _ => none | _ => o) = some b → (∀ c, ic ≠ .cls c) ∧ o = some b := fun {o} z => by
    cases ic <;> first | (cases z; done) | exact ⟨(fun c q => nomatch q), z⟩
  cases r with
  | non _ =>
    have z : (∀ c, ic ≠ .cls c) ∧ b = false := by cases ic <;> first | (cases (show (none : Option Bool) = some b from e); done) | exact ⟨(fun c q => nomatch q), (Option.some.inj e).symm⟩
    exact .inl ⟨_, .base .non, by rw [x.K, z.2]; exact kit_non ic z.1⟩
  | bl _ =>
    have z : (∀ c, ic ≠ .cls c) ∧ b = (ic == .int || ic == .bool) := by cases ic <;> first | (cases (show (none : Option Bool) = some b from e); done) | exact ⟨(fun c q => nomatch q), (Option.some.inj e).symm⟩
    exact .inl (basic .bool (by simp) z.1 (.base (.bl _)) (by rw [z.2]; cases ic <;> rfl))
  | int _ =>
    have z : (∀ c, ic ≠ .cls c) ∧ b = (ic == .int) := by cases ic <;> first | (cases (show (none : Option Bool) = some b from e); done) | exact ⟨(fun c q => nomatch q), (Option.some.inj e).symm⟩
    exact .inl (basic .int (by simp) z.1 (.base (.int _)) (by rw [z.2]; cases ic <;> rfl))
  | str _ _ =>
    have z : (∀ c, ic ≠ .cls c) ∧ b = (ic == .str) := by cases ic <;> first | (cases (show (none : Option Bool) = some b from e); done) | exact ⟨(fun c q => nomatch q), (Option.some.inj e).symm⟩
    exact .inl (basic .str (by simp) z.1 (.base (.str _)) (by rw [z.2]; cases ic <;> rfl))
  | scr _ _ => simp [isInst] at e
  | tup k1 _ _ =>
    have z : (∀ c, ic ≠ .cls c) ∧ b = (ic == .tuple) := by cases ic <;> first | (cases (show (none : Option Bool) = some b from e); done) | exact ⟨(fun c q => nomatch q), (Option.some.inj e).symm⟩
    refine .inl (basic .tuple (by simp) z.1 ?_ (by rw [z.2]; cases ic <;> rfl))
    rcases k1 with (k1 | ⟨o, k1⟩) | ⟨o, its, n, k1, k2, _⟩
    · exact .base (.tup k1)
    · exact .fTuple k1
    · rw [Kw] at k1; exact .kTuple k1 k2
  | lstF k1 _ _ =>
    have z : (∀ c, ic ≠ .cls c) ∧ b = (ic == .list) := by cases ic <;> first | (cases (show (none : Option Bool) = some b from e); done) | exact ⟨(fun c q => nomatch q), (Option.some.inj e).symm⟩
    exact .inl (basic .list (by simp) z.1 (.base (.lst k1)) (by rw [z.2]; cases ic <;> rfl))
  | lstO k1 _ _ =>
    have z : (∀ c, ic ≠ .cls c) ∧ b = (ic == .list) := by cases ic <;> first | (cases (show (none : Option Bool) = some b from e); done) | exact ⟨(fun c q => nomatch q), (Option.some.inj e).symm⟩
    exact .inl (basic .list (by simp) z.1 (.base (.lst k1)) (by rw [z.2]; cases ic <;> rfl))
  | @insF _ _ c _ _ _ _ _ k1 _ _ _ =>
    obtain ⟨k2, cl, ob⟩ := x.pr.kit c ic b e
    rw [← x.K] at k2 cl ob
    rw [x.like.ca] at k1
    exact .inl ⟨_, .base (.ins k1 cl ob.ha ob.hn ob.htk ob.hm), k2⟩
  | @insO _ _ c _ _ _ _ _ _ k1 _ _ _ =>
    obtain ⟨k2, cl, ob⟩ := x.pr.kit c ic b e
    rw [← x.K] at k2 cl ob
    rw [x.like.ca] at k1
    exact .inl ⟨_, .base (.ins k1 cl ob.ha ob.hn ob.htk ob.hm), k2⟩
  | @exn a c d _ _ _ _ _ k0 k1 _ _ _ =>
    obtain ⟨k2, xc, ci, ob⟩ := x.pr.xkit c ic b e
    rw [← x.K] at k2 xc ci ob
    exact .inr ⟨a, c, _, rfl, k0, (fun dd z => by cases z; exact ⟨_, k1⟩), k2, xc, ci, ob⟩
  | @exn0 a c _ _ _ k0 _ =>
    obtain ⟨k2, xc, ci, ob⟩ := x.pr.xkit c ic b e
    rw [← x.K] at k2 xc ci ob
    exact .inr ⟨a, c, _, rfl, k0, (fun dd z => nomatch z), k2, xc, ci, ob⟩
def icN (T : NT) : Ic → Str
  | .int => "int"
  | .bool => "bool"
  | .str => "str"
  | .tuple => "tuple"
  | .list => "list"
  | .ve => "ValueError"
  | .cls c => T.cl c
theorem pe_ic (x : XF T W0 w0 w fa cv S h k W X) {ic : Ic} (hg : Gl X (icN T ic)) (hc : ∀ c, ic = .cls c → T.oc c = true) : PE X (.Name (icN T ic) pos) (tC (icV w0 ic)) := by
  have bl : ∀ (y : Str) (n : String), Gl X y → y ∈ (["len", "int", "str", "list", "tuple", "sum", "any", "all", "min", "max", "abs", "sorted", "isinstance", "range", "enumerate", "zip", "bool", "ValueError"] : List Str) → bootBuiltins y = some (.type n) → y ≠ "__name__" → (y == ("__debug__" : Str)) = false → PE X (.Name y pos) (tC (.ty n)) := fun y n hg hy hv h1 h2 =>
    ⟨fun pins st σ H Q I q => ld_blt I hg (by rw [x.mg]; exact x.pr.blt y hy) hv ⟨.ty n, H, I, rfl, q⟩ h1 h2⟩
  cases ic with
  | cls c =>
    obtain ⟨m1, m2⟩ := x.pr.own c (hc c rfl)
    exact pe_glob hg (by rw [x.mg]; exact m1) rfl m2
  | int => exact bl "int" _ hg (by decide) PyProof.Rows.boot_int (by decide) (by decide)
  | bool => exact bl "bool" _ hg (by decide) PyProof.Rows.boot_bool (by decide) (by decide)
  | str => exact bl "str" _ hg (by decide) PyProof.Rows.boot_str (by decide) (by decide)
  | tuple => exact bl "tuple" _ hg (by decide) PyProof.Rows.boot_tuple (by decide) (by decide)
  | list => exact bl "list" _ hg (by decide) PyProof.Rows.boot_list (by decide) (by decide)
  | ve => exact bl "ValueError" _ hg (by decide) PyProof.Rows.Boot.«ValueError» (by decide) (by decide)
theorem snd_isin (x : XF T W0 w0 w fa cv S h k W X) {ic : Ic} {p2 : Pos} (he : PE X e (tEv S h w W s)) (ns : noStar e = true) (hg : Gl X (icN T ic)) (hc : ∀ c, ic = .cls c → T.oc c = true) (hi : Gl X "isinstance") :
    PE X (.Call (.Name "isinstance" p) [e, .Name (icN T ic) p2] [] pos) (tEv S h w W (.isin s ic)) := by
  have ha : PA X [e, .Name (icN T ic) p2] (tCons (tEv S h w W s) (tCons (tC (icV w0 ic)) tNil)) := pa_cons he (pa_cons (pe_ic x hg hc) pa_nil) (star_cons ns)
  refine PE.of (pe_callB (call_isX (ic := ic) x) hi (by rw [x.mg]; exact x.pr.blt _ (by decide)) PyProof.Rows.boot_isinstance ha (he := star_cons ns)) fun σ H Q ⟨F, ρ, As, pr, q⟩ => ?_
  rw [evalE] at q
  refine ⟨F, ρ, As, pr, q.bind0 fun r ρ1 v F1 H1 As1 C1 e1 p1 k1 q1 => ?_⟩
  obtain ⟨b, e2, q2⟩ := q1.ofO
  exact is_go x (RepR.view k1 p1.same) e2 (fin_val (rp := rpR w) q2 p1 (.bl .nil) (by simp))
end
end SL
set_option Elab.async false
set_option linter.all false
set_option maxRecDepth 100000
set_option maxHeartbeats 1000000
/-! SLZb: built-in functions. -/
namespace SL
open PySem L2
def biN : Bi → Str
  | .len => "len"
  | .int => "int"
  | .str => "str"
  | .list => "list"
  | .tuple => "tuple"
  | .sum => "sum"
  | .any => "any"
  | .all => "all"
  | .min => "min"
  | .max => "max"
  | .abs => "abs"
  | .sorted => "sorted"
def biV : Bi → Value
  | .len => .builtin "len"
  | .int => .type "int"
  | .str => .type "str"
  | .list => .type "list"
  | .tuple => .type "tuple"
  | .sum => .builtin "sum"
  | .any => .builtin "any"
  | .all => .builtin "all"
  | .min => .builtin "min"
  | .max => .builtin "max"
  | .abs => .builtin "abs"
  | .sorted => .builtin "sorted"
def biRu (K : PySem.W.Frag) : Bi → List V → Hp → VK → Prop
  | .len => fun xs H Q => ∃ x n, xs = [x] ∧ LenV K x H n ∧ Q (.int n) H
  | .int => fun xs H Q => ((∃ i, xs = [.int i] ∧ Q (.int i) H) ∨ ∃ k, xs = [.bl k] ∧ Q (.int (if k then 1 else 0)) H) ∨ ∃ a n, xs = [.str a] ∧ PySem.intText? a = some n ∧ a.length ≤ 640 ∧ Q (.int n) H
  | .str => fun xs H Q => ∃ i, xs = [.int i] ∧ i.natAbs.log2 < 1920 ∧ Q (.str (toString i)) H
  | .list => fun xs H Q => ∃ p ys, xs = [.ref p] ∧ (SqL K H p ys ∨ SqT K H p ys) ∧ ∀ l, H l = none → Q (.ref l) (upd H l (.lst ys))
  | .tuple => fun xs H Q => ∃ p ys, xs = [.ref p] ∧ ((SqL K H p ys ∧ ∀ l, H l = none → Q (.ref l) (upd H l (.tup ys))) ∨ (SqT K H p ys ∧ Q (.ref p) H))
  | .sum => rSum K
  | .any => rAny K
  | .all => rAll K
  | .min => fun xs H Q => rMin K xs H Q ∨ ∃ i j, xs = [.int i, .int j] ∧ Q (.int (if j < i then j else i)) H
  | .max => fun xs H Q => rMax K xs H Q ∨ ∃ i j, xs = [.int i, .int j] ∧ Q (.int (if j > i then j else i)) H
  | .abs => fun xs H Q => ∃ i, xs = [.int i] ∧ Q (.int (if i < 0 then -i else i)) H
  | .sorted => rSortedI K
theorem bi_call {X : Cx} (h : Bool) (hc : h = false → X.calm = true) (b : Bi) (hb : h = true → b = .len ∨ b = .int) : CallR X (biV b) (biRu X.K b) := by
  cases h with
  | true => rcases hb rfl with rfl | rfl
            · exact call_len
            · exact CallR.or call_int1 call_int_str
  | false =>
    have hc := hc rfl
    cases b with
    | len => exact call_len
    | int => exact CallR.or call_int1 call_int_str
    | str => exact call_str_int
    | list => exact call_list_of
    | tuple => exact call_tuple_of
    | sum => exact cr_sum hc
    | any => exact cr_any hc
    | all => exact cr_all hc
    | min => exact CallR.or (cr_min hc) (call_min2 hc)
    | max => exact CallR.or (cr_max hc) (call_max2 hc)
    | abs => exact call_abs
    | sorted => exact cr_sortedI

theorem strOk_of (s : String) : PyData.strOk (PySem.Str.ofString s) = true := by
  unfold PyData.strOk
  rw [Array.all_eq_true_iff_forall_mem]
  intro x hx
  have : ∃ c : Char, c.toNat = x := by
    first
    | (rw [PySem.Str.ofString_eq_toList] at hx; simp at hx; obtain ⟨c, _, e⟩ := hx; exact ⟨c, e⟩)
  obtain ⟨c, rfl⟩ := this
  have h := c.valid
  simp only [decide_eq_true_eq]
  rcases h with h | h
  · have := h; unfold Char.toNat; omega
  · have := h.2; unfold Char.toNat; omega
theorem strOk_int (i : Int) : PyData.strOk (PySem.Str.ofString (toString i)) = true := strOk_of _

/-! ### lists of plain values -/
section
variable {w : Wd} {F H : Hp} {vs : List V} {ds : List D} {A : List Addr}
theorem RepL.ints (r : RepL w F H vs ds A) : ∀ ns, D.ints ds = some ns → vs = ns.map V.int := by
  induction r with
  | nil => intro ns e; simp [D.ints] at e; subst e; rfl
  | int _ ih =>
    intro ns e
    simp only [D.ints, Option.map_eq_some_iff] at e
    obtain ⟨l, e, rfl⟩ := e
    rw [ih l e]; rfl
  | _ => intro ns e; simp [D.ints] at e
theorem RepL.bls (r : RepL w F H vs ds A) : ∀ ns, D.bls ds = some ns → vs = ns.map V.bl := by
  induction r with
  | nil => intro ns e; simp [D.bls] at e; subst e; rfl
  | bl _ ih =>
    intro ns e
    simp only [D.bls, Option.map_eq_some_iff] at e
    obtain ⟨l, e, rfl⟩ := e
    rw [ih l e]; rfl
  | _ => intro ns e; simp [D.bls] at e
theorem RepL.strs (r : RepL w F H vs ds A) : ∀ ns, D.strs ds = some ns → vs = ns.map V.str ∧ ∀ x ∈ ns, PyData.strOk x = true := by
  induction r with
  | nil => intro ns e; simp [D.strs] at e; subst e; exact ⟨rfl, by simp⟩
  | str hx _ ih =>
    intro ns e
    simp only [D.strs, Option.map_eq_some_iff] at e
    obtain ⟨l, e, rfl⟩ := e
    obtain ⟨h1, h2⟩ := ih l e
    exact ⟨by rw [h1]; rfl, by simpa using ⟨hx, h2⟩⟩
  | _ => intro ns e; simp [D.strs] at e
theorem rep_ints (ns : List Int) : RepL w F H (ns.map V.int) (ns.map D.int) [] := repInts ns
theorem rep_strs {ns : List Str} (h : ∀ x ∈ ns, PyData.strOk x = true) : RepL w F H (ns.map V.str) (ns.map D.str) [] := by
  induction ns with
  | nil => exact .nil
  | cons n ns ih => exact .str (h n List.mem_cons_self) (ih fun x hx => h x (List.mem_cons_of_mem _ hx))
/-- the ints of a list that stands there -/
theorem lstInts_at {v : V} {d : D} {ns : List Int} (r : Rep w H H v d A) (e : lstInts d = some ns) : ∃ a, v = .ref a ∧ SqL w.K H a (ns.map V.int) := by
  cases r with
  | scr k _ => simp only [lstInts, Option.some.injEq] at e; subst e; exact ⟨_, rfl, k.sql⟩
  | lstF k1 k2 _ =>
    have e' : D.ints _ = some ns := e
    have := RepL.ints k2 ns e'
    subst this
    exact ⟨_, rfl, .of k1⟩
  | lstO k1 k2 _ =>
    have e' : D.ints _ = some ns := e
    have := RepL.ints k2 ns e'
    subst this
    exact ⟨_, rfl, .of k1⟩
  | _ => simp [lstInts] at e
theorem lenV_at {v : V} {d : D} {n : Nat} (r : Rep w H H v d A) (e : lenD d = some n) : LenV w.K v H n := by
  cases r with
  | str hx _ =>
    simp only [lenD] at e
    split at e
    · rename_i hz; simp only [Option.some.injEq] at e; exact ⟨hz, e.symm⟩
    · cases e
  | scr k _ => simp only [lenD, Option.some.injEq] at e; exact .inl ⟨_, k.sql, by rw [← e]; simp⟩
  | tup k1 k2 _ => simp only [lenD, Option.some.injEq] at e; exact .inr ⟨_, k1, by rw [← e, k2.len]⟩
  | lstF k1 k2 _ => simp only [lenD, Option.some.injEq] at e; exact .inl ⟨_, .of k1, by rw [← e, k2.len]⟩
  | lstO k1 k2 _ => simp only [lenD, Option.some.injEq] at e; exact .inl ⟨_, .of k1, by rw [← e, k2.len]⟩
  | _ => simp [lenD] at e
end
theorem foldl_max_mem : ∀ (xs : List Int) (x : Int), xs.foldl max x ∈ x :: xs ∧ ∀ y ∈ x :: xs, y ≤ xs.foldl max x
  | [], x => by simp
  | z :: xs, x => by
    obtain ⟨h1, h2⟩ := foldl_max_mem xs (max x z)
    simp only [List.foldl_cons]
    refine ⟨?_, fun y hy => ?_⟩
    · rcases List.mem_cons.mp h1 with e | e
      · rw [e]
        by_cases c : x ≤ z
        · rw [Int.max_eq_right c]; simp
        · rw [Int.max_eq_left (by omega)]; simp
      · exact List.mem_cons_of_mem _ (List.mem_cons_of_mem _ e)
    · have h3 := h2 (max x z) List.mem_cons_self
      rcases List.mem_cons.mp hy with e | e
      · subst e; omega
      · rcases List.mem_cons.mp e with e | e
        · subst e; omega
        · exact h2 y (List.mem_cons_of_mem _ e)
theorem foldl_min_mem : ∀ (xs : List Int) (x : Int), xs.foldl min x ∈ x :: xs ∧ ∀ y ∈ x :: xs, xs.foldl min x ≤ y
  | [], x => by simp
  | z :: xs, x => by
    obtain ⟨h1, h2⟩ := foldl_min_mem xs (min x z)
    simp only [List.foldl_cons]
    refine ⟨?_, fun y hy => ?_⟩
    · rcases List.mem_cons.mp h1 with e | e
      · rw [e]
        by_cases c : x ≤ z
        · rw [Int.min_eq_left c]; simp
        · rw [Int.min_eq_right (by omega)]; simp
      · exact List.mem_cons_of_mem _ (List.mem_cons_of_mem _ e)
    · have h3 := h2 (min x z) List.mem_cons_self
      rcases List.mem_cons.mp hy with e | e
      · subst e; omega
      · rcases List.mem_cons.mp e with e | e
        · subst e; omega
        · exact h2 y (List.mem_cons_of_mem _ e)
theorem maxL_of {ns : List Int} {m k : Int} (e : maxL ns = some m) (h1 : k ∈ ns) (h2 : ∀ y, y ∈ ns → y ≤ k) : k = m := by
  cases ns with
  | nil => cases e
  | cons x xs =>
    simp only [maxL, Option.some.injEq] at e
    obtain ⟨a1, a2⟩ := foldl_max_mem xs x
    rw [e] at a1 a2
    have := a2 k h1; have := h2 m a1; omega
theorem minL_of {ns : List Int} {m k : Int} (e : minL ns = some m) (h1 : k ∈ ns) (h2 : ∀ y, y ∈ ns → k ≤ y) : k = m := by
  cases ns with
  | nil => cases e
  | cons x xs =>
    simp only [minL, Option.some.injEq] at e
    obtain ⟨a1, a2⟩ := foldl_min_mem xs x
    rw [e] at a1 a2
    have := a2 k h1; have := h2 m a1; omega
theorem insI_perm (x : Int) : ∀ ys : List Int, (insI x ys).Perm (x :: ys)
  | [] => .refl _
  | y :: ys => by
    unfold insI
    split
    · exact .refl _
    · exact ((insI_perm x ys).cons y).trans (.swap x y ys)
theorem insI_sorted (x : Int) : ∀ {ys : List Int}, ys.Pairwise (· ≤ ·) → (insI x ys).Pairwise (· ≤ ·)
  | [], _ => by simp [insI]
  | y :: ys, h => by
    unfold insI
    split
    · rename_i hxy
      refine List.pairwise_cons.mpr ⟨fun z hz => ?_, h⟩
      rcases List.mem_cons.mp hz with e | e
      · subst e; exact hxy
      · have := (List.pairwise_cons.mp h).1 z e; omega
    · rename_i hxy
      obtain ⟨h1, h2⟩ := List.pairwise_cons.mp h
      refine List.pairwise_cons.mpr ⟨fun z hz => ?_, insI_sorted x h2⟩
      rcases List.mem_cons.mp ((insI_perm x ys).mem_iff.mp hz) with e | e
      · subst e; omega
      · exact h1 z e
theorem sortI_perm : ∀ xs : List Int, (sortI xs).Perm xs
  | [] => .refl _
  | x :: xs => (insI_perm x _).trans ((sortI_perm xs).cons x)
theorem sortI_sorted : ∀ xs : List Int, (sortI xs).Pairwise (· ≤ ·)
  | [] => .nil
  | x :: xs => insI_sorted x (sortI_sorted xs)
theorem sortI_of {xs ys : List Int} (h1 : ys.Perm xs) (h2 : ys.Pairwise (· ≤ ·)) : ys = sortI xs :=
  (h1.trans (sortI_perm xs).symm).eq_of_pairwise (fun a b _ _ p q => by omega) h2 (sortI_sorted xs)

section
variable {T : NT} {W0 : World0} {w0 w : Wd} {fa : Nat → Addr} {cv : Nat → Value} {S : Sem} {h : Bool} {k : Nat} {W : WX} {X : Cx} {pos p apos : Pos}
variable {s : Ex} {ss : List Ex} {e : Expr} {es : List Expr} {a b c : Ex} {ea eb ec : Expr} {o : Expr}
theorem RepRs.one {F H : Hp} {ρ : Env} {As : List (List Addr)} {vs : List V} {r : R} {C : List Addr} (k : RepRs w F H ρ As vs [r] C) : ∃ v, vs = [v] ∧ RepR w F H ρ As v r C := by
  cases k with
  | cons k1 k2 => cases k2; exact ⟨_, rfl, by simpa using k1⟩
theorem RepRs.two {F H : Hp} {ρ : Env} {As : List (List Addr)} {vs : List V} {r r' : R} {C : List Addr} (k : RepRs w F H ρ As vs [r, r'] C) : ∃ v v' C1 C2, vs = [v, v'] ∧ RepR w F H ρ As v r C1 ∧ RepR w F H ρ As v' r' C2 ∧ C = C1 ++ C2 := by
  cases k with
  | cons k1 k2 =>
    obtain ⟨v', rfl, k3⟩ := RepRs.one k2
    exact ⟨_, v', _, _, rfl, k1, k3, rfl⟩
/-- a plain answer -/
theorem bi_plain {h : Bool} {b : Bi} {rs : List R} {F0 H0 F H : Hp} {σ : L2.St} {ρ0 ρ : Env} {As0 As : List (List Addr)} {vs : List V} {C : List Addr} {Q : VK} (p : Post w σ F0 H0 ρ0 As0 F H ρ As C) (k : RepRs w F H ρ As vs rs C)
    (q : Fin (rpR w) w σ W F0 H0 ρ0 As0 ((Res.of (biD b (rs.map R.d)) ρ).bind fun d ρ => .ok (.val d) ρ) Q) : biRu w.K b vs H Q := by
  obtain ⟨d, e, q⟩ := q.ofO
  match rs, k, e with
  | [], k, e => cases b <;> simp [biD] at e
  | [r], k, e =>
    obtain ⟨v, rfl, kr⟩ := k.one
    have kv := RepR.view kr p.same
    cases b with
    | len =>
      simp only [List.map, biD, Option.map_eq_some_iff] at e
      obtain ⟨n, e1, rfl⟩ := e
      exact ⟨v, n, rfl, lenV_at kv e1, fin_val (rp := rpR w) q p (.int .nil) (by simp)⟩
    | int =>
      cases er : r.d with
      | int i => simp only [List.map, er, biD, Option.some.injEq] at e; subst e; exact .inl (.inl ⟨i, by rw [kr.int1 er], fin_val (rp := rpR w) q p (.int .nil) (by simp)⟩)
      | bl i =>
        simp only [List.map, er, biD, Option.some.injEq] at e; subst e
        rw [er] at kv
        cases kv with
        | bl _ => exact .inl (.inr ⟨i, rfl, fin_val (rp := rpR w) q p (.int .nil) (by simp)⟩)
      | str z =>
        simp only [List.map, er, biD] at e
        cases e1 : PySem.intText? z with
        | none => rw [e1] at e; cases e
        | some n =>
          rw [e1] at e
          simp only at e
          split at e
          · rename_i hz; simp only [Option.some.injEq] at e; subst e; exact .inr ⟨z, n, by rw [(kr.str1 er).1], e1, hz, fin_val (rp := rpR w) q p (.int .nil) (by simp)⟩
          · cases e
      | _ => simp [List.map, er, biD] at e
    | str =>
      cases er : r.d with
      | int i =>
        simp only [List.map, er, biD] at e
        split at e
        · rename_i hz
          simp only [Option.some.injEq] at e; subst e
          exact ⟨i, by rw [kr.int1 er], hz, fin_val (rp := rpR w) q p (.str (strOk_int i) .nil) (by simp)⟩
        · cases e
      | _ => simp [List.map, er, biD] at e
    | list => simp [biD] at e
    | tuple => simp [biD] at e
    | sum =>
      simp only [List.map, biD, Option.map_eq_some_iff] at e
      obtain ⟨ns, e1, rfl⟩ := e
      obtain ⟨a, rfl, hs⟩ := lstInts_at kv e1
      exact ⟨a, ns, rfl, hs, fin_val (rp := rpR w) q p (.int .nil) (by simp)⟩
    | any =>
      cases er : r.d with
      | lst o xs =>
        simp only [List.map, er, biD, Option.map_eq_some_iff] at e
        obtain ⟨bs, e1, rfl⟩ := e
        rw [er] at kv
        cases kv with
        | lstF k1 k2 _ => have := RepL.bls k2 bs e1; subst this; exact ⟨_, bs, rfl, .of k1, fin_val (rp := rpR w) q p (.bl .nil) (by simp)⟩
        | lstO k1 k2 _ => have := RepL.bls k2 bs e1; subst this; exact ⟨_, bs, rfl, .of k1, fin_val (rp := rpR w) q p (.bl .nil) (by simp)⟩
      | _ => simp [List.map, er, biD] at e
    | all =>
      cases er : r.d with
      | lst o xs =>
        simp only [List.map, er, biD, Option.map_eq_some_iff] at e
        obtain ⟨bs, e1, rfl⟩ := e
        rw [er] at kv
        cases kv with
        | lstF k1 k2 _ => have := RepL.bls k2 bs e1; subst this; exact ⟨_, bs, rfl, .of k1, fin_val (rp := rpR w) q p (.bl .nil) (by simp)⟩
        | lstO k1 k2 _ => have := RepL.bls k2 bs e1; subst this; exact ⟨_, bs, rfl, .of k1, fin_val (rp := rpR w) q p (.bl .nil) (by simp)⟩
      | _ => simp [List.map, er, biD] at e
    | abs =>
      cases er : r.d with
      | int i => simp only [List.map, er, biD, Option.some.injEq] at e; subst e; exact ⟨i, by rw [kr.int1 er], fin_val (rp := rpR w) q p (.int .nil) (by simp)⟩
      | _ => simp [List.map, er, biD] at e
    | max =>
      have e' : ((lstInts r.d).bind maxL).map D.int = some d := by cases er : r.d <;> simp only [List.map, er, biD] at e <;> exact e
      simp only [Option.map_eq_some_iff, Option.bind_eq_some_iff] at e'
      obtain ⟨m, ⟨ns, e1, e2⟩, rfl⟩ := e'
      obtain ⟨a, rfl, hs⟩ := lstInts_at kv e1
      exact .inl ⟨a, ns, rfl, hs, by cases ns with | nil => cases e2 | cons _ _ => simp, fun j h1 h2 => by rw [maxL_of e2 h1 h2]; exact fin_val (rp := rpR w) q p (.int .nil) (by simp)⟩
    | min =>
      have e' : ((lstInts r.d).bind minL).map D.int = some d := by cases er : r.d <;> simp only [List.map, er, biD] at e <;> exact e
      simp only [Option.map_eq_some_iff, Option.bind_eq_some_iff] at e'
      obtain ⟨m, ⟨ns, e1, e2⟩, rfl⟩ := e'
      obtain ⟨a, rfl, hs⟩ := lstInts_at kv e1
      exact .inl ⟨a, ns, rfl, hs, by cases ns with | nil => cases e2 | cons _ _ => simp, fun j h1 h2 => by rw [minL_of e2 h1 h2]; exact fin_val (rp := rpR w) q p (.int .nil) (by simp)⟩
    | sorted =>
      simp only [List.map, biD, Option.map_eq_some_iff] at e
      obtain ⟨ns, e1, rfl⟩ := e
      obtain ⟨a, rfl, hs⟩ := lstInts_at kv e1
      refine ⟨a, ns, rfl, hs, fun ns' l h1 h2 hl => ?_⟩
      rw [sortI_of h1 h2]
      exact fin_lst q (p.weak (by simp)) (rep_ints _) l hl
  | [r, r'], k, e =>
    obtain ⟨v, v', C1, C2, rfl, kr, kr', rfl⟩ := k.two
    cases b with
    | max =>
      cases er : r.d <;> cases er' : r'.d <;> simp only [List.map, er, er', biD, Option.some.injEq, reduceCtorEq] at e
      subst e
      exact .inr ⟨_, _, by rw [kr.int1 er, kr'.int1 er'], fin_val (rp := rpR w) q p (.int .nil) (by simp)⟩
    | min =>
      cases er : r.d <;> cases er' : r'.d <;> simp only [List.map, er, er', biD, Option.some.injEq, reduceCtorEq] at e
      subst e
      exact .inr ⟨_, _, by rw [kr.int1 er, kr'.int1 er'], fin_val (rp := rpR w) q p (.int .nil) (by simp)⟩
    | _ => simp [biD] at e
  | _ :: _ :: _ :: _, k, e => cases b <;> simp [biD] at e
end
end SL
set_option Elab.async false
set_option linter.all false
set_option maxRecDepth 100000
set_option maxHeartbeats 1000000
/-! SLZc: built-in functions and methods called. -/
namespace SL
open PySem L2
section
variable {T : NT} {W0 : World0} {w0 w : Wd} {fa : Nat → Addr} {cv : Nat → Value} {S : Sem} {h : Bool} {k : Nat} {W : WX} {X : Cx} {pos p apos : Pos}
variable {s : Ex} {ss : List Ex} {e : Expr} {es : List Expr} {a b c : Ex} {ea eb ec : Expr} {o : Expr}

theorem seq_at {K : PySem.W.Frag} {H : Hp} {a : Addr} {ws : List V} {d : D} (h : SeqV K H a ws d) : SqL K H a ws ∨ SqT K H a ws := by
  cases d with
  | lst _ _ => exact .inl (.of h)
  | scr _ => exact .inl h
  | tup _ => exact .inr h
  | _ => exact h.elim
theorem bi_goP {h : Bool} {b : Bi} {rs : List R} {F0 H0 F H : Hp} {σ : L2.St} {ρ0 ρ : Env} {As0 As : List (List Addr)} {vs : List V} {C : List Addr} {Q : VK} (p : Post w σ F0 H0 ρ0 As0 F H ρ As C) (k : RepRs w F H ρ As vs rs C)
    (q : Fin (rpR w) w σ W F0 H0 ρ0 As0 (biR h b rs ρ) Q) (e : biR h b rs ρ = if (h && (b != .len && b != .int)) = true then .bad else (Res.of (biD b (rs.map R.d)) ρ).bind fun d ρ => .ok (.val d) ρ) : biRu w.K b vs H Q ∧ (h = true → b = .len ∨ b = .int) := by
  rw [e] at q
  split at q
  · exact q.elim
  · rename_i hb
    refine ⟨bi_plain (h := h) p k q, fun hh => ?_⟩
    subst hh
    cases b <;> simp_all
theorem bi_go {h : Bool} {b : Bi} {rs : List R} {F0 H0 F H : Hp} {σ : L2.St} {ρ0 ρ : Env} {As0 As : List (List Addr)} {vs : List V} {C : List Addr} {Q : VK} (p : Post w σ F0 H0 ρ0 As0 F H ρ As C) (k : RepRs w F H ρ As vs rs C)
    (q : Fin (rpR w) w σ W F0 H0 ρ0 As0 (biR h b rs ρ) Q) : biRu w.K b vs H Q ∧ (h = true → b = .len ∨ b = .int) := by
  cases b with
  | list =>
    match rs, k, q with
    | [], k, q => exact bi_goP p k q (by unfold biR; rfl)
    | _ :: _ :: _, k, q => exact bi_goP p k q (by unfold biR; rfl)
    | [r], k, q =>
      obtain ⟨v, rfl, kr⟩ := k.one
      cases h with
      | true => exact q.elim
      | false =>
        have q : Fin (rpR w) w σ W F0 H0 ρ0 As0 ((elems r ρ).bind fun xs ρ => .ok (.val (.lst true xs)) ρ) Q := q
        obtain ⟨xs, ρ', e1, q⟩ := q.of_ok elems_ne
        obtain ⟨F', As', a, ws, p', l, rfl, kk, sv⟩ := elems_ok (C' := []) p kr (by simp) e1
        exact ⟨⟨a, ws, rfl, seq_at sv, fin_lst q p' kk⟩, fun z => by cases z⟩
  | tuple =>
    match rs, k, q with
    | [], k, q => exact bi_goP p k q (by unfold biR; rfl)
    | _ :: _ :: _, k, q => exact bi_goP p k q (by unfold biR; rfl)
    | [r], k, q =>
      obtain ⟨v, rfl, kr⟩ := k.one
      cases h with
      | true => exact q.elim
      | false =>
        have q : Fin (rpR w) w σ W F0 H0 ρ0 As0 (match r.d with
          | .tup _ => .ok r ρ
          | .lst _ _ => (elems r ρ).bind fun xs ρ => .ok (.val (.tup xs)) ρ
          | _ => .bad) Q := q
        refine ⟨?_, fun z => by cases z⟩
        cases er : r.d with
        | tup xs =>
          rw [er] at q
          have kv := RepR.view kr p.same
          rw [er] at kv
          cases kv with
          | tup k1 k2 _ => exact ⟨_, _, rfl, .inr ⟨k1, q _ F H As C p kr⟩⟩
        | lst o xs =>
          rw [er] at q
          obtain ⟨ys, ρ', e1, q⟩ := Fin.of_ok q elems_ne
          obtain ⟨F', As', a, ws, p', l, rfl, kk, sv⟩ := elems_ok (C' := []) p kr (by simp) e1
          rw [er] at sv
          exact ⟨a, ws, rfl, .inl ⟨.of sv, fin_tup q p' kk⟩⟩
        | _ => rw [er] at q; exact q.elim
  | _ => exact bi_goP p k q (by unfold biR; rfl)
theorem bi_nameT {x : Str} {id : String} {r : List V → Hp → VK → Prop} {t : TA} (hc : CallR X (.type id) r) (hg : Gl X x) (hm : X.mg x = none) (hv : bootBuiltins x = some (.type id)) (ha : PA X (e :: es) t) (hn : x ≠ "__name__") (hd : (x == ("__debug__" : Str)) = false) (n1 : noStar e = true) (n2 : es.all noStar = true) :
    PE X (.Call (.Name x p) (e :: es) [] pos) (tCB r t) := pe_callTy hc hg hm hv ha hn hd (star_cons n1) (star_any n2)
theorem bi_nameB {x : Str} {id : String} {r : List V → Hp → VK → Prop} {t : TA} (hc : CallR X (.builtin id) r) (hg : Gl X x) (hm : X.mg x = none) (hv : bootBuiltins x = some (.builtin id)) (ha : PA X (e :: es) t) (hn : x ≠ "__name__") (hd : (x == ("__debug__" : Str)) = false) (n1 : noStar e = true) (n2 : es.all noStar = true) :
    PE X (.Call (.Name x p) (e :: es) [] pos) (tCB r t) := pe_callB hc hg hm hv ha hn hd (star_cons n1) (star_any n2)
theorem boot_max' : bootBuiltins "max" = some (.builtin "max") := by decide +kernel
theorem boot_min' : bootBuiltins "min" = some (.builtin "min") := by decide +kernel
theorem boot_sum' : bootBuiltins "sum" = some (.builtin "sum") := by decide +kernel
theorem boot_any' : bootBuiltins "any" = some (.builtin "any") := by decide +kernel
theorem boot_all' : bootBuiltins "all" = some (.builtin "all") := by decide +kernel
theorem boot_len' : bootBuiltins "len" = some (.builtin "len") := by decide +kernel
theorem bi_pe (x : XF T W0 w0 w fa cv S h k W X) {b : Bi} {t : TA} (hb : h = true → b = .len ∨ b = .int) (hg : Gl X (biN b)) (ha : PA X (e :: es) t) (n1 : noStar e = true) (n2 : es.all noStar = true) :
    PE X (.Call (.Name (biN b) p) (e :: es) [] pos) (tCB (biRu X.K b) t) := by
  have hc := bi_call (X := X) h (fun z => (x.room z).2) b hb
  have hm : X.mg (biN b) = none := by rw [x.mg]; exact x.pr.blt _ (by cases b <;> decide)
  cases b with
  | len => exact bi_nameB hc hg hm boot_len' ha (by decide) (by decide) n1 n2
  | int => exact bi_nameT hc hg hm PyProof.Rows.boot_int ha (by decide) (by decide) n1 n2
  | str => exact bi_nameT hc hg hm PyProof.Rows.boot_str ha (by decide) (by decide) n1 n2
  | list => exact bi_nameT hc hg hm PyProof.Rows.boot_list ha (by decide) (by decide) n1 n2
  | tuple => exact bi_nameT hc hg hm PyProof.Rows.boot_tuple ha (by decide) (by decide) n1 n2
  | sum => exact bi_nameB hc hg hm boot_sum' ha (by decide) (by decide) n1 n2
  | any => exact bi_nameB hc hg hm boot_any' ha (by decide) (by decide) n1 n2
  | all => exact bi_nameB hc hg hm boot_all' ha (by decide) (by decide) n1 n2
  | min => exact bi_nameB hc hg hm boot_min' ha (by decide) (by decide) n1 n2
  | max => exact bi_nameB hc hg hm boot_max' ha (by decide) (by decide) n1 n2
  | abs => exact bi_nameB hc hg hm PyProof.Rows.boot_abs ha (by decide) (by decide) n1 n2
  | sorted => exact bi_nameB hc hg hm PyProof.Rows.boot_sorted ha (by decide) (by decide) n1 n2
theorem snd_bi (x : XF T W0 w0 w fa cv S h k W X) {b : Bi} (hb : h = true → b = .len ∨ b = .int) (hg : Gl X (biN b)) (ha : PA X (e :: es) (tEvs S h w W ss)) (n1 : noStar e = true) (n2 : es.all noStar = true) :
    PE X (.Call (.Name (biN b) p) (e :: es) [] pos) (tEv S h w W (.bi b ss)) := by
  refine PE.of (bi_pe x hb hg ha n1 n2) fun σ H Q ⟨F, ρ, As, pr, q⟩ => ?_
  rw [evalE] at q
  refine ⟨F, ρ, As, pr, q.bind0 fun rs ρ1 vs F1 H1 As1 C1 e1 p1 k1 q1 => ?_⟩
  rw [x.KK]
  exact (bi_go p1 k1 q1).1

/-! ### methods of lists and texts -/
def bmN : Bm → Str
  | .split => "split"
  | .join => "join"
  | .index => "index"
  | .upper => "upper"
def bmY : Bm → String
  | .index => "list"
  | _ => "str"
def bmI : Bm → String
  | .split => "str.split"
  | .join => "str.join"
  | .index => "list.index"
  | .upper => "str.upper"
def bmRu (K : PySem.W.Frag) : Bm → V → List V → Hp → VK → Prop
  | .split => fun x xs H Q => ∃ a b, x = .str a ∧ xs = [.str b] ∧ (b.length == 0) = false ∧ a.length + 2 ≤ sizeLine ∧ rNewStrs (Txt.split a b) H Q
  | .join => fun x xs H Q => ∃ a p, ∃ ys : List Str, x = .str a ∧ xs = [.ref p] ∧ (SqL K H p (ys.map V.str) ∨ SqT K H p (ys.map V.str)) ∧
    (ys.map (·.length)).sum + ys.length * a.length ≤ 16777216 ∧ Q (.str (Txt.join a ys)) H
  | .index => rIndexD K
  | .upper => fun x xs H Q => ∃ a, x = .str a ∧ xs = [] ∧ a.length ≤ 5592405 ∧ Q (.str (Txt.upper a)) H
theorem bm_pe {X : Cx} (hu : X.A.units + 65 < cLine) {m : Bm} {to : TE} {t : TA} (ho : PE X o to) (ha : PA X (e :: es) t) (h1 : noSup o = true) (n1 : noStar e = true) (n2 : es.all noStar = true) (h3 : es.length < 19) (h4 : (apos.endLine == pos.line) = true) :
    PE X (.Call (.Attribute o (bmN m) apos) (e :: es) [] pos) (tBM X.K (bmY m) (bmRu X.K m) to t) := by
  have few : ((backTo pos (starEach (e :: es) X.env)).all (fun x => !x.1) && (backToKw pos (keywordEach [] X.env)).all (fun x => x.1.isSome) && decide ((e :: es).length + ([] : List Keyword).length + (if ([] : List Keyword).isEmpty then 0 else 1) < 30)) = true := by
    rw [all_plain (by simp [n1]; simpa using n2)]
    have : decide ((e :: es).length + ([] : List Keyword).length + (if ([] : List Keyword).isEmpty then 0 else 1) < 30) = true := by simp; omega
    rw [this]; rfl
  cases m with
  | split => exact pe_bm PySem.F.plainAttrs_str PySem.F.slot_str_split PySem.F.type_str_split mt_split ho ha (ab_of h1) few h4 (star_cons n1) (star_any n2)
  | join => exact pe_bm PySem.F.plainAttrs_str PySem.F.slot_str_join PySem.F.type_str_join mt_join ho ha (ab_of h1) few h4 (star_cons n1) (star_any n2)
  | upper => exact pe_bm PySem.F.plainAttrs_str PySem.F.slot_str_upper PySem.F.type_str_upper mt_upper ho ha (ab_of h1) few h4 (star_cons n1) (star_any n2)
  | index => exact pe_bm PySem.F.plainAttrs_list PySem.F.slot_list_index PySem.F.type_list_index (mt_indexD hu) ho ha (ab_of h1) few h4 (star_cons n1) (star_any n2)
theorem bm_pe0 {X : Cx} {to : TE} (ho : PE X o to) (h1 : noSup o = true) (h4 : (apos.endLine == pos.line) = true) : PE X (.Call (.Attribute o (bmN .upper) apos) [] [] pos) (tBM0 X.K (bmY .upper) (bmRu X.K .upper) to) :=
  pe_bm0 PySem.F.plainAttrs_str PySem.F.slot_str_upper PySem.F.type_str_upper mt_upper ho (ab_of h1) h4
theorem tyV_at {F H : Hp} {ρ : Env} {As : List (List Addr)} {C : List Addr} {v : V} {r : R} {m : Bm} (k : RepR w F H ρ As v r C) (s : Same F H) (e : bmT m r.d = true) : tyV w.K (bmY m) v H := by
  have kv := RepR.view k s
  cases er : r.d with
  | str z => rw [(k.str1 er).1]; cases m <;> first | rfl | (simp [er, bmT] at e)
  | lst o xs =>
    rw [er] at kv
    cases m <;> simp [er, bmT] at e
    cases kv with
    | lstF k1 _ _ => exact .inl ⟨rfl, _, .of k1⟩
    | lstO k1 _ _ => exact .inl ⟨rfl, _, .of k1⟩
  | _ => cases m <;> simp [er, bmT] at e
theorem idxOf_ok {x : D} : ∀ {xs : List D} {n k : Nat}, idxOf x xs n = some k → ∃ j y, k = n + j ∧ xs[j]? = some y ∧ y.eqv x = true ∧ ∀ i z, i < j → xs[i]? = some z → z.eqv x = false
  | [], n, k, e => by simp [idxOf] at e
  | y :: ys, n, k, e => by
    unfold idxOf at e
    split at e
    · rename_i c
      simp only [Option.some.injEq] at e
      exact ⟨0, y, by omega, rfl, c, fun i z h => by omega⟩
    · rename_i c
      obtain ⟨j, z, h1, h2, h3, h4⟩ := idxOf_ok e
      refine ⟨j + 1, z, by omega, by simpa using h2, h3, fun i u hi hu => ?_⟩
      cases i with
      | zero => simp at hu; subst hu; simpa using c
      | succ i => exact h4 i u (by omega) (by simpa using hu)
theorem pyL_get : ∀ {xs : List D} {ps : List PyData} {j : Nat}, D.pyL xs = some ps → (∀ p, ps[j]? = some p → ∃ d, xs[j]? = some d ∧ d.py = some p) ∧ (∀ d, xs[j]? = some d → ∃ p, ps[j]? = some p ∧ d.py = some p)
  | [], ps, j, e => by simp [D.pyL] at e; subst e; simp
  | d :: ds, ps, j, e => by
    simp only [D.pyL] at e
    cases q1 : d.py with
    | none => rw [q1] at e; simp at e
    | some p =>
      cases q2 : D.pyL ds with
      | none => rw [q1, q2] at e; simp at e
      | some qs =>
        rw [q1, q2] at e
        simp only [Option.some.injEq] at e
        subst e
        cases j with
        | zero => simp [q1]
        | succ j => simpa using pyL_get (j := j) q2
/-- the texts of a list or tuple that stands there -/
theorem seqStrs_at {H : Hp} {v : V} {d : D} {A : List Addr} {ns : List Str} (r : Rep w H H v d A) (e : seqStrs d = some ns) : ∃ a, v = .ref a ∧ (SqL w.K H a (ns.map V.str) ∨ SqT w.K H a (ns.map V.str)) ∧ ∀ x ∈ ns, PyData.strOk x = true := by
  cases r with
  | tup k1 k2 _ =>
    have e' : D.strs _ = some ns := e
    obtain ⟨h1, h2⟩ := RepL.strs k2 ns e'
    subst h1
    exact ⟨_, rfl, .inr k1, h2⟩
  | lstF k1 k2 _ =>
    have e' : D.strs _ = some ns := e
    obtain ⟨h1, h2⟩ := RepL.strs k2 ns e'
    subst h1
    exact ⟨_, rfl, .inl (.of k1), h2⟩
  | lstO k1 k2 _ =>
    have e' : D.strs _ = some ns := e
    obtain ⟨h1, h2⟩ := RepL.strs k2 ns e'
    subst h1
    exact ⟨_, rfl, .inl (.of k1), h2⟩
  | _ => simp [seqStrs] at e
theorem strOk_sub {x : Str} {i j : Nat} (hx : PyData.strOk x = true) : PyData.strOk (Builtin.Str.strSub x i j) = true := by
  rw [strOk_list] at hx ⊢
  rw [StrLaws.strSub_toList]
  intro c hc
  exact hx c (List.mem_of_mem_drop (List.mem_of_mem_take hc))
theorem strOk_split {x s : Str} (hx : PyData.strOk x = true) : ∀ y ∈ Txt.split x s, PyData.strOk y = true := by
  intro y hy
  unfold Txt.split at hy
  split at hy
  · simp at hy; subst hy; exact hx
  · split at hy
    · simp at hy; subst hy; exact hx
    · unfold Builtin.Str.partsBetween at hy
      simp only [List.mem_map] at hy
      obtain ⟨p, _, e⟩ := hy
      rw [← e]
      exact strOk_sub hx
theorem strOk_join' {s : Str} (hs : PyData.strOk s = true) : ∀ {ys : List Str}, (∀ y ∈ ys, PyData.strOk y = true) → PyData.strOk (Str.join s ys) = true
  | [], _ => strOk_list.mpr (fun c hc => by cases hc)
  | [y], h => h y List.mem_cons_self
  | y :: z :: ys, h => by
    have := strOk_join' hs (ys := z :: ys) fun u hu => h u (List.mem_cons_of_mem _ hu)
    show PyData.strOk (y ++ s ++ Str.join s (z :: ys)) = true
    exact strOk_append (strOk_append (h y List.mem_cons_self) hs) this
theorem strOk_join {s : Str} {ys : List Str} (hs : PyData.strOk s = true) (hy : ∀ y ∈ ys, PyData.strOk y = true) : PyData.strOk (Txt.join s ys) = true := by
  unfold Txt.join
  rw [StrLaws.glued_eq_join]
  exact strOk_join' hs hy
theorem bm_go {m : Bm} {r : R} {rs : List R} {F0 H0 F H : Hp} {σ : L2.St} {ρ0 ρ : Env} {As0 As : List (List Addr)} {v : V} {vs : List V} {C C1 C2 : List Addr} {Q : VK} (p : Post w σ F0 H0 ρ0 As0 F H ρ As C) (k1 : RepR w F H ρ As v r C1) (k : RepRs w F H ρ As vs rs C2)
    (q : Fin (rpR w) w σ W F0 H0 ρ0 As0 ((Res.of (bmD m r.d (rs.map R.d)) ρ).bind fun d ρ => .ok (.val d) ρ) Q) : bmRu w.K m v vs H Q := by
  obtain ⟨d, e, q⟩ := q.ofO
  cases m with
  | split =>
    match rs, k, e with
    | [], k, e => cases er : r.d <;> simp [er, bmD] at e
    | _ :: _ :: _, k, e => cases er : r.d <;> simp [er, bmD] at e
    | [r2], k, e =>
      obtain ⟨u, rfl, k2⟩ := k.one
      cases er : r.d <;> cases er2 : r2.d <;> simp only [List.map, er, er2, bmD, reduceCtorEq] at e
      split at e
      · cases e
      · rename_i hz
        simp only [Option.some.injEq] at e; subst e
        obtain ⟨hv, o1⟩ := k1.str1 er
        obtain ⟨hu, o2⟩ := k2.str1 er2
        have hz' := not_or.mp hz
        exact ⟨_, _, hv, by rw [hu], by simpa using hz'.1, by have := hz'.2; omega, fin_lst q (p.weak (by simp)) (rep_strs (strOk_split o1))⟩
  | join =>
    match rs, k, e with
    | [], k, e => cases er : r.d <;> simp [er, bmD] at e
    | _ :: _ :: _, k, e => cases er : r.d <;> simp [er, bmD] at e
    | [r2], k, e =>
      obtain ⟨u, rfl, k2⟩ := k.one
      cases er : r.d <;> simp only [List.map, er, bmD, reduceCtorEq] at e
      cases e2 : seqStrs r2.d with
      | none => rw [e2] at e; cases e
      | some ys =>
        rw [e2] at e
        simp only at e
        split at e
        · rename_i hz
          simp only [Option.some.injEq] at e; subst e
          obtain ⟨hv, o1⟩ := k1.str1 er
          obtain ⟨a, rfl, h1, h2⟩ := seqStrs_at (RepR.view k2 p.same) e2
          exact ⟨_, a, ys, hv, rfl, h1, hz, fin_val (rp := rpR w) q p (.str (strOk_join o1 h2) .nil) (by simp)⟩
        · cases e
  | upper =>
    match rs, k, e with
    | _ :: _, k, e => cases er : r.d <;> simp [er, bmD] at e
    | [], k, e =>
      cases er : r.d <;> simp only [List.map, er, bmD, reduceCtorEq] at e
      split at e
      · rename_i hz
        simp only [Option.some.injEq] at e; subst e
        obtain ⟨hv, o1⟩ := k1.str1 er
        cases k
        exact ⟨_, hv, rfl, hz.1, fin_val (rp := rpR w) q p (.str hz.2 .nil) (by simp)⟩
      · cases e
  | index =>
    match rs, k, e with
    | [], k, e => cases er : r.d <;> simp [er, bmD] at e
    | _ :: _ :: _, k, e => cases er : r.d <;> simp [er, bmD] at e
    | [r2], k, e =>
      obtain ⟨u, rfl, k2⟩ := k.one
      cases er : r.d <;> simp only [List.map, er, bmD, reduceCtorEq] at e
      rename_i o xs
      split at e
      · rename_i hz
        simp only [Bool.and_eq_true, decide_eq_true_eq] at hz
        obtain ⟨⟨z1, z2⟩, z3, z4⟩ := hz
        simp only [Option.map_eq_some_iff] at e
        obtain ⟨j, e9, rfl⟩ := e
        obtain ⟨j', y, rfl, hy, he, hno⟩ := idxOf_ok e9
        obtain ⟨pl, hpl⟩ := Option.isSome_iff_exists.mp z1
        simp only [D.py, Option.map_eq_some_iff] at hpl
        obtain ⟨ps, hps, rfl⟩ := hpl
        obtain ⟨px, hpx⟩ := Option.isSome_iff_exists.mp z2
        have v1 := RepR.view k1 p.same
        rw [er] at v1
        obtain ⟨d1, l1⟩ := RepL.dp1 v1 (Same.refl _) (p := .list ps) (by simp only [D.py, hps, Option.map_some])
        obtain ⟨d2, l2⟩ := RepL.dp1 (RepR.view k2 p.same) (Same.refl _) hpx
        have hv : ∃ a, v = .ref a := by cases v1 <;> exact ⟨_, rfl⟩
        obtain ⟨a, rfl⟩ := hv
        have dp1 := py_depL xs ps hps
        have dp2 := py_dep _ px hpx
        obtain ⟨py, h1, h2⟩ := (pyL_get (j := j') hps).2 y hy
        refine ⟨a, u, px, ps, j', py, rfl, rfl, d1, d2, ?_, ?_, h1, by rw [py_eqv _ _ _ _ h2 hpx]; exact he, fun m z' hm hz' => ?_, ?_⟩
        · unfold SeqAt.shaped
          rw [l1]
          have e7 : (PyData.list ps).depth = PyData.depthAll ps + 1 := rfl
          have e8 : (PyData.list ps).depth ≤ 64 := by omega
          simp [e8]
        · unfold SeqAt.shaped
          rw [l2]
          simp only [Bool.true_and, decide_eq_true_eq]; omega
        · obtain ⟨dz, g1, g2⟩ := (pyL_get (j := m) hps).1 z' hz'
          rw [py_eqv _ _ _ _ g2 hpx]; exact hno m dz hm g1
        · have := fin_val (rp := rpR w) q p (.int .nil) (by simp)
          simpa using this
      · cases e
theorem snd_bm (x : XF T W0 w0 w fa cv S h k W X) {m : Bm} (ho : PE X o (tEv S h w W s)) (ha : PA X (e :: es) (tEvs S h w W ss)) (h1 : noSup o = true) (n1 : noStar e = true) (n2 : es.all noStar = true) (h3 : es.length < 19) (h4 : (apos.endLine == pos.line) = true) :
    PE X (.Call (.Attribute o (bmN m) apos) (e :: es) [] pos) (tEv S h w W (.bm m s ss)) := by
  refine PE.of (bm_pe x.units ho ha h1 n1 n2 h3 h4) fun σ H Q ⟨F, ρ, As, pr, q⟩ => ?_
  rw [evalE] at q
  refine ⟨F, ρ, As, pr, q.bind0 fun r ρ1 v F1 H1 As1 C1 e1 p1 k1 q1 => ?_⟩
  rw [x.KK]
  cases ht : bmT m r.d with
  | false => rw [ht] at q1; exact q1.elim
  | true =>
    rw [ht] at q1
    refine ⟨tyV_at k1 p1.same ht, F1, ρ1, As1, p1.pre, Fin.bind p1 q1 fun rs ρ2 vs F2 H2 As2 C2 e2 p2 p12 k2 q2 => ?_⟩
    exact bm_go p2 (RepR.lift k1 p12.lift (RepR.there k1)) k2 q2
theorem snd_bm0 (x : XF T W0 w0 w fa cv S h k W X) (ho : PE X o (tEv S h w W s)) (h1 : noSup o = true) (h4 : (apos.endLine == pos.line) = true) :
    PE X (.Call (.Attribute o (bmN .upper) apos) [] [] pos) (tEv S h w W (.bm .upper s [])) := by
  refine PE.of (bm_pe0 ho h1 h4) fun σ H Q ⟨F, ρ, As, pr, q⟩ => ?_
  rw [evalE] at q
  refine ⟨F, ρ, As, pr, q.bind0 fun r ρ1 v F1 H1 As1 C1 e1 p1 k1 q1 => ?_⟩
  rw [x.KK]
  cases ht : bmT .upper r.d with
  | false => rw [ht] at q1; exact q1.elim
  | true =>
    rw [ht] at q1
    rw [evalEs] at q1
    exact ⟨tyV_at k1 p1.same ht, bm_go p1 k1 .nil q1⟩
end
end SL
set_option Elab.async false
set_option linter.all false
set_option maxRecDepth 100000
set_option maxHeartbeats 1000000
/-! SLSt: what a statement leaves. -/
namespace SL
open PySem L2

/-- a variable that the statement does not name: as it was, its objects too; frozen; given away -/
def KeepR (F' H H' : Hp) (ρ ρ' : Env) (As As' : List (List Addr)) (i : Nat) : Prop :=
  (ρ'[i]? = ρ[i]? ∧ As'[i]? = As[i]? ∧ ∀ A, As[i]? = some A → ∀ a, 0 < A.count a → H' a = H a) ∨
  (∃ d A, ρ[i]? = some (some d) ∧ As[i]? = some A ∧ ρ'[i]? = some (some d.frz) ∧ As'[i]? = some [] ∧ ∀ a, 0 < A.count a → F' a ≠ none ∧ F' a = H a) ∨
  (ρ'[i]? = some none ∧ As'[i]? = some [])
/-- no exception but at j -/
def NXJ (j : Nat) (ρ : Env) : Prop := ∀ i d, i ≠ j → ρ[i]? = some (some d) → d.noX = true
theorem NXJ.set {j i : Nat} {ρ : Env} {d : D} (h : NXJ j ρ) (hd : d.noX = true) : NXJ j (ρ.set i (some d)) := fun k e hk he => by
  by_cases c : i = k
  · subst c
    have hl : i < ρ.length := by
      by_cases q : i < ρ.length
      · exact q
      · rw [List.getElem?_eq_none (by simpa using q)] at he; cases he
    rw [List.getElem?_set_self hl] at he
    cases he; exact hd
  · rw [List.getElem?_set_ne c] at he; exact h k e hk he
theorem NXJ.del {j i : Nat} {ρ : Env} (h : NXJ j ρ) : NXJ j (ρ.set i none) := fun k e hk he => by
  by_cases c : i = k
  · subst c
    by_cases q : i < ρ.length
    · rw [List.getElem?_set_self q] at he; cases he
    · rw [List.getElem?_eq_none (by simpa using q)] at he; cases he
  · rw [List.getElem?_set_ne c] at he; exact h k e hk he
structure SPost (w : Wd) (st : Nat → Prop) (σ : L2.St) (F H : Hp) (ρ : Env) (As : List (List Addr)) (σ' : L2.St) (F' H' : Hp) (ρ' : Env) (As' : List (List Addr)) (C : List Addr) : Prop where
  sF : Same F F'
  kH : ∀ a o, H a = some o → own As a = 0 → H' a = some o
  more : ∀ a, H a ≠ none → H' a ≠ none
  same : Same F' H'
  env : EnvR w F' H' σ' ρ' As'
  uni : ∀ a, own As' a + C.count a ≤ 1
  off : ∀ a, 0 < own As' a + C.count a → F' a = none
  old : ∀ a, 0 < own As' a + C.count a → 0 < own As a ∨ H a = none
  new : ∀ a, F a = none → F' a ≠ none → 0 < own As a ∨ H a = none
  there : ∀ a, 0 < own As' a + C.count a → H' a ≠ none
  keep : ∀ i, ¬ st i → σ'[i]? = σ[i]? ∧ KeepR F' H H' ρ ρ' As As' i
  nox : ∀ j, NXJ j ρ → NXJ j ρ'
  sig : ¬ st big → σ'[0]? = σ[0]?

section
variable {w : Wd} {st st' : Nat → Prop} {σ σ' σ2 : L2.St} {F H F' H' F2 H2 : Hp} {ρ ρ' ρ2 : Env} {As As' As2 : List (List Addr)} {C C' C2 B : List Addr} {W : WX}
theorem SPost.pre (p : SPost w st σ F H ρ As σ' F' H' ρ' As' C) : Pre w F' H' σ' ρ' As' :=
  ⟨p.same, p.env, fun a => by have := p.uni a; omega, fun a h => p.off a (by omega)⟩
theorem Pre.nz (p : Pre w F H σ ρ As) (a : Addr) (h : 0 < own As a) : H a ≠ none := by
  obtain ⟨o, e, _⟩ := p.env.there a h
  rw [e]; simp
theorem Post.spost (pr : Pre w F H σ ρ As) (p : Post w σ F H ρ As F' H' ρ' As' C) : SPost w st σ F H ρ As σ F' H' ρ' As' C where
  sF := p.sF
  kH := fun a o e _ => p.sH a o e
  more := fun a h => same_no p.sH h
  same := p.same
  env := p.env
  uni := p.uni
  off := p.off
  old := p.old
  new := p.new
  there := p.there
  keep := fun i _ => ⟨rfl, by
    have same : ∀ A, As[i]? = some A → ∀ a, 0 < A.count a → H' a = H a := fun A hA a ha => by
      have := own_get hA a
      obtain ⟨o, e, _⟩ := pr.env.there a (by omega)
      rw [e]; exact p.sH a o e
    rcases p.slots i with ⟨h1, h2⟩ | ⟨d, A, h1, h2, h3, h4, h5⟩ | h
    · exact .inl ⟨h1, h2, same⟩
    · refine .inr (.inl ⟨d, A, h1, h2, h3, h4, fun a ha => ⟨h5 a ha, ?_⟩⟩)
      rw [← same A h2 a ha]
      cases e : F' a with
      | none => exact absurd e (h5 a ha)
      | some o => rw [p.same a o e]
    · exact .inr (.inr h)⟩
  nox := fun j hj i d hi hd => by
    rcases p.slots i with ⟨h1, _⟩ | ⟨d', A, h1, _, h3, _⟩ | ⟨h1, _⟩
    · rw [h1] at hd; exact hj i d hi hd
    · rw [h3] at hd; cases hd
      have := noX_frz [d'] (by simp [D.noXL, hj i d' hi h1])
      simpa [D.frzL, D.noXL] using this
    · rw [h1] at hd; cases hd
  sig := fun _ => rfl
theorem Pre.spost (pr : Pre w F H σ ρ As) : SPost w st σ F H ρ As σ F H ρ As [] := Post.spost pr pr.post
theorem KeepR.trans {i : Nat} (sF : Same F' F2) (sm : Same F' H') (sm2 : Same F2 H2) (p : KeepR F' H H' ρ ρ' As As' i) (q : KeepR F2 H' H2 ρ' ρ2 As' As2 i) : KeepR F2 H H2 ρ ρ2 As As2 i := by
  rcases p with ⟨p1, p2, p3⟩ | ⟨d, A, p1, p2, p3, p4, p5⟩ | ⟨p1, p2⟩
  · rcases q with ⟨q1, q2, q3⟩ | ⟨d, A, q1, q2, q3, q4, q5⟩ | ⟨q1, q2⟩
    · exact .inl ⟨q1.trans p1, q2.trans p2, fun A hA a ha => (q3 A (p2.trans hA) a ha).trans (p3 A hA a ha)⟩
    · exact .inr (.inl ⟨d, A, p1 ▸ q1, p2 ▸ q2, q3, q4, fun a ha => ⟨(q5 a ha).1, (q5 a ha).2.trans (p3 A (p2 ▸ q2) a ha)⟩⟩)
    · exact .inr (.inr ⟨q1, q2⟩)
  · have st : ∀ a, 0 < A.count a → F2 a ≠ none ∧ F2 a = H a := fun a ha => by
      obtain ⟨h1, h2⟩ := p5 a ha
      cases e : F' a with
      | none => exact absurd e h1
      | some o =>
        have := sF a o e
        rw [this, ← h2, e]; simp
    rcases q with ⟨q1, q2, q3⟩ | ⟨d', A', q1, q2, q3, q4, q5⟩ | ⟨q1, q2⟩
    · exact .inr (.inl ⟨d, A, p1, p2, q1.trans p3, q2.trans p4, st⟩)
    · rw [p3] at q1
      have e := Option.some.inj (Option.some.inj q1)
      subst e
      exact .inr (.inl ⟨d, A, p1, p2, by rw [q3, frz_frz], q4, st⟩)
    · exact .inr (.inr ⟨q1, q2⟩)
  · rcases q with ⟨q1, q2, q3⟩ | ⟨d', A', q1, q2, q3, q4, q5⟩ | ⟨q1, q2⟩
    · exact .inr (.inr ⟨q1.trans p1, q2.trans p2⟩)
    · rw [p1] at q1; cases q1
    · exact .inr (.inr ⟨q1, q2⟩)
/-- one statement, then another; the first one's C is not touched by the second -/
theorem SPost.trans (p : SPost w st σ F H ρ As σ' F' H' ρ' As' C) (q : SPost w st σ' F' H' ρ' As' σ2 F2 H2 ρ2 As2 C2) (hC : ∀ a, 0 < C.count a → H2 a = H' a) : SPost w st σ F H ρ As σ2 F2 H2 ρ2 As2 (C ++ C2) where
  sF := p.sF.trans q.sF
  kH := fun a o e h => by
    refine q.kH a o (p.kH a o e h) ?_
    cases n : own As' a with
    | zero => rfl
    | succ m =>
      rcases p.old a (by omega) with z | z
      · omega
      · rw [z] at e; cases e
  more := fun a h => q.more a (p.more a h)
  same := q.same
  env := q.env
  uni := fun a => by
    rw [List.count_append]
    have h1 := p.uni a; have h2 := q.uni a
    by_cases hc : 0 < C.count a
    · have h3 := p.there a (by omega)
      have h4 : ¬ 0 < own As2 a + C2.count a := fun h => (q.old a h).elim (fun z => by omega) fun z => h3 z
      omega
    · omega
  off := fun a h => by
    rw [List.count_append] at h
    have h1 := p.uni a; have h2 := q.uni a
    by_cases hc : 0 < C.count a
    · have h3 := p.there a (by omega)
      have h5 := p.off a (by omega)
      cases e : F2 a with
      | none => rfl
      | some o => exact ((q.new a h5 (by rw [e]; simp)).elim (fun z => by omega) fun z => absurd z h3)
    · exact q.off a (by omega)
  old := fun a h => by
    rw [List.count_append] at h
    by_cases hc : 0 < C.count a
    · exact p.old a (by omega)
    · rcases q.old a (by omega) with z | z
      · exact p.old a (by omega)
      · cases e : H a with
        | none => exact .inr rfl
        | some o => exact absurd z (p.more a (by rw [e]; simp))
  new := fun a h1 h2 => by
    by_cases e : F' a = none
    · rcases q.new a e h2 with z | z
      · exact p.old a (by omega)
      · cases e : H a with
        | none => exact .inr rfl
        | some o => exact absurd z (p.more a (by rw [e]; simp))
    · exact p.new a h1 e
  there := fun a h => by
    rw [List.count_append] at h
    by_cases hc : 0 < C.count a
    · rw [hC a hc]; exact p.there a (by omega)
    · exact q.there a (by omega)
  keep := fun i hi => ⟨(q.keep i hi).1.trans (p.keep i hi).1, (p.keep i hi).2.trans q.sF p.same q.same (q.keep i hi).2⟩
  nox := fun j h => q.nox j (p.nox j h)
  sig := fun h => (q.sig h).trans (p.sig h)
theorem SPost.trans0 (p : SPost w st σ F H ρ As σ' F' H' ρ' As' []) (q : SPost w st σ' F' H' ρ' As' σ2 F2 H2 ρ2 As2 C2) : SPost w st σ F H ρ As σ2 F2 H2 ρ2 As2 C2 := by
  have := p.trans q (by simp)
  simpa using this
theorem SPost.transE (p : SPost w st σ F H ρ As σ' F' H' ρ' As' C) (q : Post w σ' F' H' ρ' As' F2 H2 ρ2 As2 C2) : SPost w st σ F H ρ As σ' F2 H2 ρ2 As2 (C ++ C2) :=
  p.trans (Post.spost p.pre q) fun a h => by
    cases e : H' a with
    | none => exact absurd e (p.there a (by omega))
    | some o => exact q.sH a o e
theorem SPost.mono (p : SPost w st σ F H ρ As σ' F' H' ρ' As' C) (h : ∀ i, st i → st' i) : SPost w st' σ F H ρ As σ' F' H' ρ' As' C :=
  { p with keep := fun i hi => p.keep i fun z => hi (h i z), sig := fun hb => p.sig fun z => hb (h _ z) }
theorem SPost.weak (p : SPost w st σ F H ρ As σ' F' H' ρ' As' C) (hc : ∀ a, C'.count a ≤ C.count a) : SPost w st σ F H ρ As σ' F' H' ρ' As' C' :=
  { p with
    uni := fun a => by have := p.uni a; have := hc a; omega
    off := fun a h => p.off a (by have := hc a; omega)
    old := fun a h => p.old a (by have := hc a; omega)
    there := fun a h => p.there a (by have := hc a; omega) }
theorem own_setL (As : List (List Addr)) (B : List Addr) (i : Nat) (a : Addr) : own (As.set i B) a ≤ own As a + B.count a := by
  cases e : As[i]? with
  | none =>
    rw [List.set_eq_of_length_le (by simpa using e)]; omega
  | some A => have := own_set (B := B) e a; omega
/-- a value is stored -/
theorem SPost.set {i : Nat} {v : V} {d : D} (p : SPost w st σ F H ρ As σ' F' H' ρ' As' C) (k : Rep w F' H' v d B) (hn : d.noX = true) (hc : ∀ a, B.count a + C'.count a ≤ C.count a) (hi : st i) (hb : σ'[i]? = some (some v) ∨ (i = 0 → st big)) :
    SPost w st σ F H ρ As (σ'.set i (some v)) F' H' (ρ'.set i (some d)) (As'.set i B) C' := by
  have le : ∀ a, own (As'.set i B) a + C'.count a ≤ own As' a + C.count a := fun a => by have := own_setL As' B i a; have := hc a; omega
  have sg : ¬ st big → (σ'.set i (some v))[0]? = σ[0]? := fun h => by
    by_cases e : i = 0
    · rcases hb with hb | hb
      · subst e
        rw [List.getElem?_set_self (List.getElem?_eq_some_iff.mp hb).1, ← hb]
        exact p.sig h
      · exact absurd (hb e) h
    · rw [List.getElem?_set_ne e]; exact p.sig h
  refine { p with sig := sg, nox := fun j h => (p.nox j h).set hn, env := p.env.set k, uni := fun a => by have := le a; have := p.uni a; omega, off := fun a h => p.off a (by have := le a; omega), old := fun a h => p.old a (by have := le a; omega), there := fun a h => p.there a (by have := le a; omega), keep := fun j hj => ?_ }
  have ne : i ≠ j := fun e => hj (e ▸ hi)
  obtain ⟨h1, h2⟩ := p.keep j hj
  refine ⟨by rw [List.getElem?_set_ne ne]; exact h1, ?_⟩
  unfold KeepR at h2 ⊢
  rw [List.getElem?_set_ne ne, List.getElem?_set_ne ne]
  exact h2
/-- a variable is forgotten -/
theorem SPost.del {i : Nat} {o : Option V} (p : SPost w st σ F H ρ As σ' F' H' ρ' As' C) (hi : st i) (hb : i = 0 → st big) : SPost w st σ F H ρ As (σ'.set i o) F' H' (ρ'.set i none) (As'.set i []) C := by
  have le : ∀ a, own (As'.set i []) a ≤ own As' a := fun a => by have := own_setL As' [] i a; simpa using this
  have sg : ¬ st big → (σ'.set i o)[0]? = σ[0]? := fun h => by
    by_cases e : i = 0
    · exact absurd (hb e) h
    · rw [List.getElem?_set_ne e]; exact p.sig h
  refine { p with sig := sg, nox := fun j h => (p.nox j h).del, env := p.env.del, uni := fun a => by have := le a; have := p.uni a; omega, off := fun a h => p.off a (by have := le a; omega), old := fun a h => p.old a (by have := le a; omega), there := fun a h => p.there a (by have := le a; omega), keep := fun j hj => ?_ }
  have ne : i ≠ j := fun e => hj (e ▸ hi)
  obtain ⟨h1, h2⟩ := p.keep j hj
  refine ⟨by rw [List.getElem?_set_ne ne]; exact h1, ?_⟩
  unfold KeepR at h2 ⊢
  rw [List.getElem?_set_ne ne, List.getElem?_set_ne ne]
  exact h2

/-! ### a statement's end -/
def FinS (w : Wd) (W : WX) (st : Nat → Prop) (σ : L2.St) (F H : Hp) (ρ : Env) (As : List (List Addr)) (m : SRes) (D : Ends) : Prop := match m with
  | none => False
  | some (.nx, ρ') => ∀ σ' F' H' As', SPost w st σ F H ρ As σ' F' H' ρ' As' [] → D.nx σ' H'
  | some (.bk, ρ') => ∀ σ' F' H' As', SPost w st σ F H ρ As σ' F' H' ρ' As' [] → D.bk σ' H'
  | some (.ct, ρ') => ∀ σ' F' H' As', SPost w st σ F H ρ As σ' F' H' ρ' As' [] → D.ct σ' H'
  | some (.rt d, ρ') => ∀ v σ' F' H' As' C, SPost w st σ F H ρ As σ' F' H' ρ' As' C → Rep w F' H' v d C → D.rt v H'
  | some (.ex c xs, ρ') => ∀ dd σ' F' H' As', SPost w st σ F H ρ As σ' F' H' ρ' As' [] → RepX w F' c xs dd → W (.ref (w.ca c)) dd σ' H'
variable {D : Ends} {m : SRes}
theorem FinS.rest (p : SPost w st σ F H ρ As σ' F' H' ρ' As' []) (q : FinS w W st σ F H ρ As m D) (h : ∀ i, st' i → st i) : FinS w W st' σ' F' H' ρ' As' m D := by
  match m, q with
  | none, q => exact q
  | some (.nx, _), q => exact fun σ2 F2 H2 As2 z => q σ2 F2 H2 As2 (p.trans0 (z.mono h))
  | some (.bk, _), q => exact fun σ2 F2 H2 As2 z => q σ2 F2 H2 As2 (p.trans0 (z.mono h))
  | some (.ct, _), q => exact fun σ2 F2 H2 As2 z => q σ2 F2 H2 As2 (p.trans0 (z.mono h))
  | some (.rt d, _), q => exact fun v σ2 F2 H2 As2 C z r => q v σ2 F2 H2 As2 C (p.trans0 (z.mono h)) r
  | some (.ex c xs, _), q => exact fun dd σ2 F2 H2 As2 z x => q dd σ2 F2 H2 As2 (p.trans0 (z.mono h)) x
theorem FinS.ends {D D' : Ends} (q : FinS w W st σ F H ρ As m D) (h1 : ∀ σ H, D.nx σ H → D'.nx σ H) (h2 : ∀ v H, D.rt v H → D'.rt v H) (h3 : ∀ σ H, D.bk σ H → D'.bk σ H) (h4 : ∀ σ H, D.ct σ H → D'.ct σ H) : FinS w W st σ F H ρ As m D' := by
  match m, q with
  | none, q => exact q
  | some (.nx, _), q => exact fun σ2 F2 H2 As2 z => h1 _ _ (q σ2 F2 H2 As2 z)
  | some (.bk, _), q => exact fun σ2 F2 H2 As2 z => h3 _ _ (q σ2 F2 H2 As2 z)
  | some (.ct, _), q => exact fun σ2 F2 H2 As2 z => h4 _ _ (q σ2 F2 H2 As2 z)
  | some (.rt d, _), q => exact fun v σ2 F2 H2 As2 C z r => h2 _ _ (q v σ2 F2 H2 As2 C z r)
  | some (.ex c xs, _), q => exact q
/-- an expression at a statement's start -/
theorem FinS.ofE {α β : Type} {rp : RP β α} {m : Res α} {k : α → Env → SRes} {Q1 : β → Hp → Prop} (pr : Pre w F H σ ρ As) (q : FinS w W st σ F H ρ As (m.toS k) D)
    (go : ∀ r ρ2 v F2 H2 As2 C2, m = .ok r ρ2 → Post w σ F H ρ As F2 H2 ρ2 As2 C2 → rp F2 H2 ρ2 As2 v r C2 → FinS w W st σ F H ρ As (k r ρ2) D → Q1 v H2) : Fin rp w σ W F H ρ As m Q1 := by
  cases m with
  | bad => exact q
  | ok r ρ2 => exact fun v F2 H2 As2 C2 p kr => go r ρ2 v F2 H2 As2 C2 rfl p kr q
  | exc c xs ρ2 => exact fun d F2 H2 As2 p x => q d σ F2 H2 As2 (Post.spost pr p) x
/-- .. behind another one -/
theorem FinS.ofE2 {α β : Type} {rp : RP β α} {m : Res α} {k : α → Env → SRes} {Q1 : β → Hp → Prop} {F1 H1 : Hp} {ρ1 : Env} {As1 : List (List Addr)} {C1 : List Addr} (pr : Pre w F H σ ρ As) (p1 : Post w σ F H ρ As F1 H1 ρ1 As1 C1) (q : FinS w W st σ F H ρ As (m.toS k) D)
    (go : ∀ r ρ2 v F2 H2 As2 C2, m = .ok r ρ2 → Post w σ F H ρ As F2 H2 ρ2 As2 (C1 ++ C2) → Post w σ F1 H1 ρ1 As1 F2 H2 ρ2 As2 C2 → rp F2 H2 ρ2 As2 v r C2 → FinS w W st σ F H ρ As (k r ρ2) D → Q1 v H2) : Fin rp w σ W F1 H1 ρ1 As1 m Q1 := by
  cases m with
  | bad => exact q
  | ok r ρ2 => exact fun v F2 H2 As2 C2 p kr => go r ρ2 v F2 H2 As2 C2 rfl (p1.trans p) p kr q
  | exc c xs ρ2 => exact fun d F2 H2 As2 p x => q d σ F2 H2 As2 (Post.spost pr ((p1.trans p).weak fun a => by simp)) x
end
end SL
set_option Elab.async false
set_option linter.all false
set_option maxRecDepth 100000
set_option maxHeartbeats 1000000
/-! SLIt: what is walked. -/
namespace SL
open PySem L2

def gdS : R → Nat → Prop
  | .brw i _, j => i = j
  | .val _, _ => False
section
variable {w : Wd} {F H F' H' F0 H0 : Hp} {σ : L2.St} {ρ ρ' ρ0 : Env} {As As' As0 : List (List Addr)} {C C1 C' Ct : List Addr} {v : V} {r : R} {W : WX}

theorem elems_st {xs : List D} (p : Post w σ F0 H0 ρ0 As0 F H ρ As Ct) (k : RepR w F H ρ As v r C1) (hc : ∀ a, C1.count a + C'.count a ≤ Ct.count a) (e : elems r ρ = .ok xs ρ') :
    ∃ F' As' a ws, Post w σ F0 H0 ρ0 As0 F' H ρ' As' C' ∧ Lift F H ρ As F' H ρ' As' ∧ v = .ref a ∧ RepL w F' H ws xs [] ∧
      ∀ H', Same F' H' → (∀ i A, gdS r i → As'[i]? = some A → ∀ b, 0 < A.count b → H' b = H b) → SeqV w.K H' a ws r.d := by
  cases r with
  | val d =>
    cases k with
    | val k =>
      cases d with
      | lst o ys =>
        simp only [elems, Res.ok.injEq] at e
        obtain ⟨e, rfl⟩ := e
        cases k with
        | lstF h1 h2 h3 =>
          cases h3
          simp only [Bool.false_eq_true, if_false] at e
          subst e
          have q := p.shed (B := []) (C' := C') fun a => by have := hc a; simp at this ⊢; exact this
          rw [ov_nil] at q
          exact ⟨_, _, _, _, q.1, q.2, rfl, h2, fun H' s _ => s _ _ h1⟩
        | @lstO a ws _ _ _ _ B h1 h2 h3 =>
          cases h3
          simp only [if_true] at e
          subst e
          have q := p.shed (B := a :: B) (C' := C') fun b => by have := hc b; simp only [List.append_nil] at this; exact this
          exact ⟨_, _, _, _, q.1, q.2, rfl, h2.frz q.2.sF fun b h => by unfold ov; rw [if_pos (by rw [List.count_cons]; omega)], fun H' s _ => s _ _ (by unfold ov; rw [if_pos (by simp [List.count_cons])]; exact h1)⟩
      | tup ys =>
        simp only [elems, Res.ok.injEq] at e
        obtain ⟨rfl, rfl⟩ := e
        cases k with
        | tup h1 h2 h3 =>
          cases h3
          have q := p.shed (B := []) (C' := C') fun a => by have := hc a; simp at this ⊢; exact this
          rw [ov_nil] at q
          exact ⟨_, _, _, _, q.1, q.2, rfl, h2, fun H' s _ => sqT_mono s h1⟩
      | scr ns =>
        simp only [elems, Res.ok.injEq] at e
        obtain ⟨rfl, rfl⟩ := e
        cases k with
        | scr h1 h3 =>
          cases h3
          have q := p.shed (B := []) (C' := C') fun a => by have := hc a; simp at this ⊢; exact this
          rw [ov_nil] at q
          exact ⟨_, _, _, _, q.1, q.2, rfl, repInts ns, fun H' s _ => Same.seq s h1.sql⟩
      | non => simp [elems] at e
      | bl b => simp [elems] at e
      | int i => simp [elems] at e
      | str x => simp [elems] at e
      | ins o c ys => simp [elems] at e
      | exn c ys => simp [elems] at e
  | brw i d =>
    have fin : ∀ (ys : List D), (if live i ρ = true then Res.ok ys (if D.immL ys = true then ρ else frzAt i ρ) else Res.bad) = Res.ok xs ρ' →
        (∀ G : Hp, Rep w G H v d [] → Same G H → ∃ a ws, v = .ref a ∧ RepL w G H ws ys [] ∧ ∀ H', (∀ b o, G b = some o → H' b = some o) → SeqV w.K H' a ws d) →
        ∃ F' As' a ws, Post w σ F0 H0 ρ0 As0 F' H ρ' As' C' ∧ Lift F H ρ As F' H ρ' As' ∧ v = .ref a ∧ RepL w F' H ws xs [] ∧
          ∀ H', Same F' H' → (∀ j A, i = j → As'[j]? = some A → ∀ b, 0 < A.count b → H' b = H b) → SeqV w.K H' a ws d := by
      intro ys q0 sub
      have l : live i ρ = true := by
        cases l : live i ρ with
        | true => rfl
        | false => rw [l] at q0; cases q0
      rw [if_pos l] at q0
      simp only [Res.ok.injEq] at q0
      obtain ⟨rfl, q0⟩ := q0
      obtain ⟨e', A, he, hA, k', rfl, m⟩ := brw_at p.pre k l
      have q := p.shed (B := []) (C' := C') fun a => by have := hc a; simp at this ⊢; exact this
      rw [ov_nil] at q
      obtain ⟨a, ws, rfl, k2, sv⟩ := sub _ k' (p.pre.freeze he hA).same
      by_cases im : D.immL ys = true
      · rw [if_pos im] at q0
        subst q0
        refine ⟨_, _, a, ws, q.1, q.2, rfl, (k2.immC im (ov_imm m)).1, fun H' s hg => sv H' fun b o hb => ?_⟩
        unfold ov at hb
        split at hb
        · rename_i hc; rw [hg i A rfl hA b hc]; exact hb
        · exact s b o hb
      · rw [if_neg im] at q0
        subst q0
        rw [frzAt_of he]
        have f := p.pre.freeze he hA
        have t := (q.1.trans f).weak (C' := C') fun a => by simp
        exact ⟨_, _, a, ws, t, f.lift, rfl, k2, fun H' s _ => sv H' s⟩
    cases d with
    | lst o ys =>
      refine fin ys (by simpa [elems] using e) fun G kG s => ?_
      cases kG with
      | lstF h1 h2 h3 => exact ⟨_, _, rfl, h2, fun H' s => s _ _ h1⟩
    | tup ys =>
      refine fin ys (by simpa [elems] using e) fun G kG s => ?_
      cases kG with
      | tup h1 h2 h3 => exact ⟨_, _, rfl, h2, fun H' s => sqT_mono s h1⟩
    | non => simp [elems] at e
    | bl b => simp [elems] at e
    | int i => simp [elems] at e
    | str x => simp [elems] at e
    | scr x => simp [elems] at e
    | ins o c ys => simp [elems] at e
    | exn c ys => simp [elems] at e
/-- a sequence to be walked: what the loop may change is frozen at once -/
theorem seqR_st {keep : Nat → Bool} {xs : List D} (p : Post w σ F0 H0 ρ0 As0 F H ρ As Ct) (k : RepR w F H ρ As v r C1) (hc : ∀ a, C1.count a + C'.count a ≤ Ct.count a) (e : seqR r keep ρ = .ok xs ρ') :
    ∃ F' As' a ws, Post w σ F0 H0 ρ0 As0 F' H ρ' As' C' ∧ Lift F H ρ As F' H ρ' As' ∧ v = .ref a ∧ RepL w F' H ws xs [] ∧
      ∀ H', Same F' H' → (∀ i A, gdS r i ∧ keep i = true → As'[i]? = some A → ∀ b, 0 < A.count b → H' b = H b) → SeqV w.K H' a ws r.d := by
  cases r with
  | val d =>
    obtain ⟨F', As', a, ws, h1, h2, h3, h4, h5⟩ := elems_st p k hc (show elems (.val d) ρ = .ok xs ρ' from e)
    exact ⟨F', As', a, ws, h1, h2, h3, h4, fun H' s _ => h5 H' s fun i A hi => hi.elim⟩
  | brw i d =>
    by_cases hk : keep i = true
    · simp only [seqR, hk, if_true] at e
      obtain ⟨F', As', a, ws, h1, h2, h3, h4, h5⟩ := elems_st p k hc e
      refine ⟨F', As', a, ws, h1, h2, h3, h4, fun H' s hg => h5 H' s fun j A hj hA => hg j A ⟨hj, ?_⟩ hA⟩
      have : i = j := hj
      rw [← this]; exact hk
    · simp only [seqR, hk, if_false] at e
      cases l : live i ρ with
      | false => rw [l] at e; cases e
      | true =>
        rw [l] at e
        obtain ⟨e', A, he, hA, k', rfl, m⟩ := brw_at p.pre k l
        have f := p.pre.freeze he hA
        have t := ((p.weak (C' := C') fun a => by have := hc a; omega).trans f).weak (C' := C') fun a => by simp
        cases d with
        | lst o ys =>
          simp only [if_true, Res.ok.injEq] at e
          obtain ⟨rfl, rfl⟩ := e
          rw [frzAt_of he]
          cases k' with
          | lstF h1 h2 h3 => exact ⟨_, _, _, _, t, f.lift, rfl, h2, fun H' s _ => s _ _ h1⟩
        | tup ys =>
          simp only [if_true, Res.ok.injEq] at e
          obtain ⟨rfl, rfl⟩ := e
          rw [frzAt_of he]
          cases k' with
          | tup h1 h2 h3 => exact ⟨_, _, _, _, t, f.lift, rfl, h2, fun H' s _ => sqT_mono s h1⟩
        | _ => cases e
theorem seqR_ne {keep : Nat → Bool} : ∀ c xs ρ', seqR r keep ρ ≠ .exc c xs ρ' := by
  intro c xs ρ' z
  cases r with
  | val d => exact elems_ne _ _ _ z
  | brw i d =>
    unfold seqR at z
    simp only at z
    split at z
    · exact elems_ne _ _ _ z
    · split at z
      · cases d <;> cases z
      · cases z

/-- the iterator J yields xs, as long as K holds of the heap -/
structure JOk (w : Wd) (F0 : Hp) (J : It) (K : Hp → Prop) (xs : List D) : Prop where
  go : ∀ i H, i < xs.length → K H → J.go i H
  stop : ∀ i H, xs.length ≤ i → K H → J.stop i H
  yld : ∀ i H v H' x, xs[i]? = some x → K H → J.yld i H v H' → (H' = H ∧ ∀ F H, Same F0 F → Rep w F H v x []) ∨ ∃ a ws ds, v = .ref a ∧ H a = none ∧ H' = upd H a (.tup ws) ∧ x = .tup ds ∧ ∀ F H, Same F0 F → RepL w F H ws ds []
/-- .. to be walked from here -/
def rpJ (w : Wd) (g : Nat → Prop) : RP It (List D) := fun F H ρ As J xs C => C = [] ∧ ∃ K, JOk w F J K xs ∧ ∀ H', Same F H' → (∀ i A, g i → As[i]? = some A → ∀ b, 0 < A.count b → H' b = H b) → K H'

theorem rep_any {F0 : Hp} {ws : List V} {xs : List D} (k : RepL w F0 H ws xs []) {i : Nat} {x : D} {v : V} (e : xs[i]? = some x) (hv : ws[i]? = some v) : ∀ F H, Same F0 F → Rep w F H v x [] := by
  intro F H s
  obtain ⟨u, B, h1, h2, h3⟩ := k.get e
  rw [hv] at h1; cases h1
  have : B = [] := List.eq_nil_iff_forall_not_mem.mpr fun a ha => by
    have h1 := List.count_pos_iff.mpr ha
    have h2 := h3 a
    rw [List.count_nil] at h2
    omega
  subst this
  exact h2.mono s (by simp)
theorem jok_list {K : PySem.W.Frag} {F0 : Hp} {a : Addr} {ws : List V} {xs : List D} (k : RepL w F0 H ws xs []) : JOk w F0 (Itl K a) (fun H => SqL K H a ws) xs where
  go := fun i H hi hk => ⟨ws, ws[i]'(by rw [k.len]; exact hi), hk, by simp⟩
  stop := fun i H hi hk => ⟨ws, hk, by rw [k.len]; exact hi⟩
  yld := fun i H v H' x e hk y => .inl ⟨y.1, rep_any k e (y.2 ws hk)⟩
theorem jok_tup {K : PySem.W.Frag} {F0 : Hp} {a : Addr} {ws : List V} {xs : List D} (k : RepL w F0 H ws xs []) : JOk w F0 (Itt K a) (fun H => SqT K H a ws) xs where
  go := fun i H hi hk => ⟨ws, ws[i]'(by rw [k.len]; exact hi), hk, by simp⟩
  stop := fun i H hi hk => ⟨ws, hk, by rw [k.len]; exact hi⟩
  yld := fun i H v H' x e hk y => .inl ⟨y.1, rep_any k e (y.2 ws hk)⟩
theorem jok_str {F0 : Hp} {z : Str} (hz : PyData.strOk z = true) : JOk w F0 (Its z) (fun _ => True) (z.cps.toList.map fun c => .str ⟨#[c]⟩) where
  go := fun i H hi _ => (by simpa using hi : i < z.cps.size)
  stop := fun i H hi _ => (by simpa using hi : z.cps.size ≤ i)
  yld := fun i H v H' x e _ y => by
    obtain ⟨e1, c, hc, ev⟩ := y
    refine .inl ⟨e1, fun F H s => ?_⟩
    subst ev
    rw [List.getElem?_map] at e
    rw [← Array.getElem?_toList] at hc
    rw [hc] at e
    simp only [Option.map_some, Option.some.injEq] at e
    subst e
    refine .str ?_ .nil
    rw [strOk_list] at hz ⊢
    intro x hx
    simp at hx
    subst hx
    exact hz x (List.mem_of_getElem? hc)
theorem jok_range {F0 : Hp} {lo : Int} {n : Nat} : JOk w F0 (Itr lo n) (fun _ => True) ((List.range n).map fun (k : Nat) => D.int (lo + k)) where
  go := fun i H hi _ => (by simpa using hi : i < n)
  stop := fun i H hi _ => (by simpa using hi : n ≤ i)
  yld := fun i H v H' x e _ y => by
    obtain ⟨e1, ev⟩ := y
    refine .inl ⟨e1, fun F H s => ?_⟩
    subst ev
    rw [List.getElem?_map] at e
    have hi : i < n := by
      by_cases c : i < n
      · exact c
      · rw [List.getElem?_eq_none (by simpa using c)] at e; simp at e
    rw [List.getElem?_range hi] at e
    simp only [Option.map_some, Option.some.injEq] at e
    subst e
    exact .int .nil
theorem jok_enum {K : PySem.W.Frag} {F0 : Hp} {a : Addr} {ws : List V} {xs : List D} (k : RepL w F0 H ws xs []) : JOk w F0 (Ite K a) (fun H => SqL K H a ws) (xs.zipIdx.map fun (p : D × Nat) => D.tup [.int p.2, p.1]) where
  go := fun i H hi hk => ⟨ws, ws[i]'(by rw [k.len]; simpa using hi), hk, by simp⟩
  stop := fun i H hi hk => ⟨ws, hk, by rw [k.len]; simpa using hi⟩
  yld := fun i H v H' x e hk y => by
    obtain ⟨t, u, ev, hn, eh, hu⟩ := y
    rw [List.getElem?_map, List.getElem?_zipIdx] at e
    cases ex : xs[i]? with
    | none => rw [ex] at e; simp at e
    | some d =>
      rw [ex] at e
      simp only [Option.map_some, Nat.zero_add, Option.some.injEq] at e
      subst e
      exact .inr ⟨t, _, _, ev, hn, eh, rfl, fun F H s => .int (rep_any k ex (hu ws hk) F H s)⟩

/-! ### the iterator made -/
/-- a list, a tuple, a text -/
def iSeqA (K : PySem.W.Frag) (te : TE) : TI := fun σ H R => te σ H fun x H1 =>
  (∃ a ws, x = .ref a ∧ SqL K H1 a ws ∧ R (Itl K a) H1) ∨ (∃ a ws, x = .ref a ∧ SqT K H1 a ws ∧ R (Itt K a) H1) ∨ ∃ z, x = .str z ∧ R (Its z) H1
theorem pi_seqA {X : Cx} {tg e : Expr} {te : TE} (he : PE X e te) : PI X tg e (iSeqA X.K te) := by
  refine ⟨fun pins st σ H R I q => thn (he.run pins st σ H _ I q) fun v s1 z => ?_⟩
  obtain ⟨y, H1, I1, rv, z⟩ := z
  rcases z with ⟨a, ws, rfl, hs, q⟩ | ⟨a, ws, rfl, hs, q⟩ | ⟨z, rfl, q⟩
  · cases rv
    obtain ⟨its, _, il, _⟩ := I1.list hs
    exact wpAny_pyIter_list il.isList (pi_one (tk := s1.toks) I1 _ (turn_list a _) ⟨_, Heap.get?_push_size _ rfl, rfl, rfl⟩ q)
  · cases rv
    obtain ⟨its, _, il, _⟩ := I1.tuple hs
    exact wpAny_pyIter_tuple (show s1.heap.IsTuple a its.toArray from il) (pi_one (tk := s1.toks) I1 _ (turn_tuple a _) ⟨_, Heap.get?_push_size _ rfl, rfl, rfl⟩ q)
  · obtain ⟨t, rfl⟩ := rv
    by_cases hw : z.cps.all (· < 128) = true
    · exact wpAny_pyIter_ascii hw (pi_one (tk := s1.toks) I1 _ (turn_str _ z t "str_ascii_iterator" (.inl rfl)) ⟨_, Heap.get?_push_size _ rfl, rfl, rfl⟩ q)
    · exact wpAny_pyIter_wide (Bool.eq_false_iff.mpr hw) (pi_one (tk := s1.toks) I1 _ (turn_str _ z t "str_iterator" (.inr rfl)) ⟨_, Heap.get?_push_size _ rfl, rfl, rfl⟩ q)
end
end SL
set_option Elab.async false
set_option linter.all false
set_option maxRecDepth 100000
set_option maxHeartbeats 1000000
/-! SLIu: iterables evaluated; targets. -/
namespace SL
open PySem L2

def gdL : List R → Nat → Prop
  | [.brw j _], i => j = i
  | _, _ => False
def rpJ2 (w : Wd) (keep : Nat → Bool) : RP It (List R × List D) := fun F H ρ As J x C => rpJ w (fun i => gdL x.1 i ∧ keep i = true) F H ρ As J x.2 C
def itM (S : Sem) (h : Bool) (ik : Ik) (ie : List Ex) (keep : Nat → Bool) (ρ : Env) : Res (List R × List D) := (evalEs S h ie ρ).bind fun rs ρ => (iterR ik rs keep ρ).bind fun items ρ => .ok (rs, items) ρ
def tItv (S : Sem) (h : Bool) (w : Wd) (W : WX) (ik : Ik) (ie : List Ex) (keep : Nat → Bool) : TI := fun σ H R => ∃ F ρ As, Pre w F H σ ρ As ∧ Fin (rpJ2 w keep) w σ W F H ρ As (itM S h ik ie keep ρ) R
theorem PI.of {X : Cx} {tg e : Expr} {t t' : TI} (h : PI X tg e t) (k : ∀ σ H R, t' σ H R → t σ H R) : PI X tg e t' := ⟨fun pins s σ H R I q => h.run pins s σ H R I (k _ _ _ q)⟩
theorem PIH.of {X : Cx} {tg e : Expr} {t t' : TI} (h : L2H.PIH X tg e t) (k : ∀ σ H R, t' σ H R → t σ H R) : L2H.PIH X tg e t' := ⟨fun pins s σ H R I q => h.run pins s σ H R I (k _ _ _ q)⟩

section
variable {w : Wd} {F H F' H' F0 H0 : Hp} {σ : L2.St} {ρ ρ' ρ0 : Env} {As As' As0 : List (List Addr)} {C C1 C' Ct : List Addr} {v : V} {r : R} {W : WX} {keep : Nat → Bool} {Rk : It → Hp → Prop}

theorem gdS_gdL {r : R} {i : Nat} (h : gdL [r] i) : gdS r i := by
  cases r with
  | val d => exact h
  | brw j d => exact h
theorem gdL_gdS {r : R} {i : Nat} (h : gdS r i) : gdL [r] i := by
  cases r with
  | val d => exact h
  | brw j d => exact h
theorem it_plain (p : Post w σ F0 H0 ρ0 As0 F H ρ As Ct) (k : RepR w F H ρ As v r Ct)
    (q : Fin (rpJ2 w keep) w σ W F0 H0 ρ0 As0 ((iterR .plain [r] keep ρ).bind fun items ρ => .ok ([r], items) ρ) Rk) :
    (∃ a ws, v = .ref a ∧ SqL w.K H a ws ∧ Rk (Itl w.K a) H) ∨ (∃ a ws, v = .ref a ∧ SqT w.K H a ws ∧ Rk (Itt w.K a) H) ∨ ∃ z, v = .str z ∧ Rk (Its z) H := by
  have el : Fin (rpJ2 w keep) w σ W F0 H0 ρ0 As0 ((seqR r keep ρ).bind fun items ρ => .ok ([r], items) ρ) Rk →
      (∃ a ws, v = .ref a ∧ SqL w.K H a ws ∧ Rk (Itl w.K a) H) ∨ (∃ a ws, v = .ref a ∧ SqT w.K H a ws ∧ Rk (Itt w.K a) H) ∨ ∃ z, v = .str z ∧ Rk (Its z) H := fun q => by
    obtain ⟨xs, ρ', e, q⟩ := q.of_ok seqR_ne
    obtain ⟨F', As', a, ws, p', _, rfl, kk, sv⟩ := seqR_st (C' := []) p k (by simp) e
    have sv0 := sv H p'.same fun _ _ _ _ _ _ => rfl
    cases er : r.d with
    | lst o ys =>
      rw [er] at sv sv0
      refine .inl ⟨a, ws, rfl, .of sv0, q (Itl w.K a) F' H As' [] p' ⟨rfl, _, jok_list kk, fun H' s hg => .of (sv H' s fun i A hi hA => hg i A ⟨gdL_gdS hi.1, hi.2⟩ hA)⟩⟩
    | scr ys =>
      rw [er] at sv sv0
      refine .inl ⟨a, ws, rfl, sv0, q (Itl w.K a) F' H As' [] p' ⟨rfl, _, jok_list kk, fun H' s hg => sv H' s fun i A hi hA => hg i A ⟨gdL_gdS hi.1, hi.2⟩ hA⟩⟩
    | tup ys =>
      rw [er] at sv sv0
      refine .inr (.inl ⟨a, ws, rfl, sv0, q (Itt w.K a) F' H As' [] p' ⟨rfl, _, jok_tup kk, fun H' s hg => sv H' s fun i A hi hA => hg i A ⟨gdL_gdS hi.1, hi.2⟩ hA⟩⟩)
    | _ => rw [er] at sv0; exact sv0.elim
  cases er : r.d with
  | str z =>
    simp only [iterR, er] at q
    obtain ⟨hv, hz⟩ := k.str1 er
    exact .inr (.inr ⟨z, hv, q (Its z) F H As [] (p.weak (by simp)) ⟨rfl, _, jok_str hz, fun _ _ _ => trivial⟩⟩)
  | _ => simp only [iterR, er] at q; exact el q
theorem it_enum (p : Post w σ F0 H0 ρ0 As0 F H ρ As Ct) (k : RepR w F H ρ As v r Ct)
    (q : Fin (rpJ2 w keep) w σ W F0 H0 ρ0 As0 ((iterR .enum [r] keep ρ).bind fun items ρ => .ok ([r], items) ρ) Rk) : ∃ a ws, v = .ref a ∧ SqL w.K H a ws ∧ Rk (Ite w.K a) H := by
  cases er : r.d with
  | lst o ys =>
    simp only [iterR, er] at q
    cases e : seqR r keep ρ with
    | bad => rw [e] at q; exact q.elim
    | exc c xs ρ' => exact absurd e (seqR_ne _ _ _)
    | ok xs ρ' =>
      rw [e] at q
      obtain ⟨F', As', a, ws, p', _, rfl, kk, sv⟩ := seqR_st (C' := []) p k (by simp) e
      rw [er] at sv
      have sv0 := sv H p'.same fun _ _ _ _ _ _ => rfl
      exact ⟨a, ws, rfl, .of sv0, q (Ite w.K a) F' H As' [] p' ⟨rfl, _, jok_enum kk, fun H' s hg => .of (sv H' s fun i A hi hA => hg i A ⟨gdL_gdS hi.1, hi.2⟩ hA)⟩⟩
  | _ => simp only [iterR, er] at q; exact q.elim

variable {T : NT} {W0 : World0} {w0 : Wd} {fa : Nat → Addr} {cv : Nat → Value} {S : Sem} {h : Bool} {kd : Nat} {X : Cx} {pos pp : Pos} {s s' : Ex} {ss : List Ex} {e ea eb tg : Expr}
theorem es_one {ρ : Env} {α : Type} (f : List R → Env → Res α) : ((evalEs S h [s] ρ).bind f) = ((evalE S h s ρ).bind fun r ρ => f [r] ρ) := by
  rw [evalEs]
  cases evalE S h s ρ with
  | bad => rfl
  | exc c xs ρ' => rfl
  | ok r ρ1 => simp only [Res.bind_ok, evalEs]
theorem snd_it_plain (hK : X.K = w.K) (he : PE X e (tEv S h w W s)) : PI X tg e (tItv S h w W .plain [s] keep) := by
  refine PI.of (pi_seqA he) fun σ H R ⟨F, ρ, As, pr, q⟩ => ?_
  unfold itM at q
  rw [es_one] at q
  rw [hK]
  exact ⟨F, ρ, As, pr, q.bind0 fun r ρ1 v F1 H1 As1 C1 e1 p1 k1 q1 => it_plain p1 k1 q1⟩
theorem snd_it_enum {elts : List Expr} {kk : Nat} {tpos : Pos} (x : XF T W0 w0 w fa cv S h kd W X) (hg : Gl X "enumerate") (he : PE X e (tEv S h w W s)) (ns : noStar e = true) : PI X (.Tuple elts kk tpos) (.Call (.Name "enumerate" pp) [e] [] pos) (tItv S h w W .enum [s] keep) := by
  refine PI.of (pi_enum hg (by rw [x.mg]; exact x.pr.blt _ (by decide)) (pa_cons he pa_nil (star_cons ns)) (star_cons ns)) fun σ H R ⟨F, ρ, As, pr, q⟩ => ?_
  unfold itM at q
  rw [es_one] at q
  rw [x.KK]
  refine ⟨F, ρ, As, pr, q.bind0 fun r ρ1 v F1 H1 As1 C1 e1 p1 k1 q1 => ?_⟩
  obtain ⟨a, ws, rfl, h1, h2⟩ := it_enum p1 k1 q1
  exact ⟨a, ws, rfl, h1, h2⟩
theorem rng1_go {σ : L2.St} {H : Hp} {R : It → Hp → Prop} (q : tItv S h w W .range1 [s] keep σ H R) : iRng1 (tCons (tEv S h w W s) tNil) σ H R := by
  obtain ⟨F, ρ, As, pr, q⟩ := q
  unfold itM at q
  rw [es_one] at q
  refine ⟨F, ρ, As, pr, q.bind0 fun r ρ1 v F1 H1 As1 C1 e1 p1 k1 q1 => ?_⟩
  cases r with
  | brw i d => exact q1.elim
  | val d =>
    cases d with
    | int n =>
      have := k1.int1 rfl
      subst this
      simp only [iterR] at q1
      split at q1
      · rename_i hn
        have q2 := q1 (Itr 0 n.toNat) F1 H1 As1 [] (p1.weak (by simp)) ⟨rfl, _, by simpa using jok_range (w := w) (F0 := F1) (lo := 0) (n := n.toNat), fun _ _ _ => trivial⟩
        exact ⟨n, rfl, hn.1, hn.2, q2⟩
      · exact q1.elim
    | _ => exact q1.elim
theorem snd_it_range1 (x : XF T W0 w0 w fa cv S h kd W X) (hg : Gl X "range") (he : PE X e (tEv S h w W s)) (ns : noStar e = true) : PI X tg (.Call (.Name "range" pp) [e] [] pos) (tItv S h w W .range1 [s] keep) :=
  PI.of (pi_range1 hg (by rw [x.mg]; exact x.pr.blt _ (by decide)) (pa_cons he pa_nil (star_cons ns)) (star_cons ns)) fun σ H R q => rng1_go q
theorem snd_it_range1H (x : XF T W0 w0 w fa cv S h kd W X) (hg : Gl X "range") (he : PE X e (tEv S h w W s)) (ns : noStar e = true) : L2H.PIH X tg (.Call (.Name "range" pp) [e] [] pos) (tItv S h w W .range1 [s] keep) :=
  PIH.of (L2H.pi_range1H hg (by rw [x.mg]; exact x.pr.blt _ (by decide)) (pa_cons he pa_nil (star_cons ns)) (star_cons ns)) fun σ H R q => rng1_go q
theorem es_two {ρ : Env} {α : Type} (f : List R → Env → Res α) : ((evalEs S h [s, s'] ρ).bind f) = ((evalE S h s ρ).bind fun r ρ => (evalE S h s' ρ).bind fun r' ρ => f [r, r'] ρ) := by
  rw [evalEs]
  cases evalE S h s ρ with
  | bad => rfl
  | exc c xs ρ' => rfl
  | ok r ρ1 =>
    simp only [Res.bind_ok]
    rw [evalEs]
    cases evalE S h s' ρ1 with
    | bad => rfl
    | exc c xs ρ' => rfl
    | ok r ρ1 => simp only [Res.bind_ok, evalEs]
theorem snd_it_range2 (x : XF T W0 w0 w fa cv S h kd W X) (hg : Gl X "range") (ha : PE X ea (tEv S h w W s)) (hb : PE X eb (tEv S h w W s')) (na : noStar ea = true) (nb : noStar eb = true) : PI X tg (.Call (.Name "range" pp) [ea, eb] [] pos) (tItv S h w W .range2 [s, s'] keep) := by
  refine PI.of (pi_range2 hg (by rw [x.mg]; exact x.pr.blt _ (by decide)) (pa_cons ha (pa_cons hb pa_nil (star_cons nb)) (star_cons na)) (by rw [star_cons na, star_cons nb]; rfl) (star_cons nb)) fun σ H R ⟨F, ρ, As, pr, q⟩ => ?_
  unfold itM at q
  rw [es_two] at q
  refine ⟨F, ρ, As, pr, q.bind0 fun r ρ1 v F1 H1 As1 C1 e1 p1 k1 q1 => ⟨F1, ρ1, As1, p1.pre, Fin.bind p1 q1 fun r' ρ2 u F2 H2 As2 C2 e2 p2 p12 k2 q2 => ?_⟩⟩
  have no : ∀ {P : Prop}, Fin (rpJ2 w keep) w σ W F H ρ As ((Res.bad : Res (List D)).bind fun items ρ => .ok ([r, r'], items) ρ) R → P := fun z => z.elim
  cases r with
  | brw i d => exact q2.elim
  | val d =>
    cases r' with
    | brw i d' => cases d <;> exact q2.elim
    | val d' =>
      cases d with
      | int a =>
        cases d' with
        | int b =>
          have h1 := k1.int1 rfl
          have h2 := k2.int1 rfl
          subst h1; subst h2
          simp only [iterR] at q2
          split at q2
          · rename_i hn
            have q3 := q2 (Itr a (b - a).toNat) F2 H2 As2 [] (p2.weak (by simp)) ⟨rfl, _, jok_range (w := w) (F0 := F2), fun _ _ _ => trivial⟩
            exact ⟨a, b, rfl, ⟨hn.1.1, hn.1.2, hn.2.1, hn.2.2⟩, q3⟩
          · exact q2.elim
        | _ => exact q2.elim
      | _ => cases d' <;> exact q2.elim
end
end SL
set_option Elab.async false
set_option linter.all false
set_option maxRecDepth 100000
set_option maxHeartbeats 1000000
/-! SLTg: targets; the turns of a for. -/
namespace SL
open PySem L2

def gNms : List Nat → TGs
  | [] => gNil
  | i :: is => gCons (gName i) (gNms is)
def tgG (K : PySem.W.Frag) : Tg → TG
  | .nm i => gName i
  | .tp is => gTup K is.length (gNms is)
section
variable {w : Wd} {st : Nat → Prop} {σ σ' σ0 : L2.St} {F H F' H' F0 H0 : Hp} {ρ ρ' ρ0 : Env} {As As' As0 : List (List Addr)} {C C' B : List Addr} {W : WX} {v : V} {x : D} {Dn : Ends}
theorem names_ok {Q : L2.St → Hp → Prop} : ∀ {is : List Nat} {ws : List V} {xs : List D} {σ : L2.St} {ρ : Env} {As : List (List Addr)}, is.length = xs.length → D.noXL xs = true → RepL w F H ws xs [] → SPost w st σ0 F0 H0 ρ0 As0 σ F H ρ As C → (∀ i ∈ is, st i) → (0 ∈ is → st big) →
    (∀ σ' As', SPost w st σ0 F0 H0 ρ0 As0 σ' F H ((is.zip xs).foldl (fun ρ p => ρ.set p.1 (some p.2)) ρ) As' C → (∀ j, j ∉ is → σ'[j]? = σ[j]?) → σ'.length = σ.length → Q σ' H) → gNms is ws σ H Q
  | [], ws, xs, σ, ρ, As, hl, hn, k, p, hs, hb, go => by
    have : xs = [] := List.length_eq_zero_iff.mp hl.symm
    subst this
    cases k
    exact ⟨rfl, go σ As p (fun _ _ => rfl) rfl⟩
  | i :: is, ws, xs, σ, ρ, As, hl, hn, k, p, hs, hb, go => by
    cases xs with
    | nil => simp at hl
    | cons x xs =>
      obtain ⟨v, us, B, C2, rfl, k1, k2, hc⟩ := k.uncons
      have e1 : B = [] := List.eq_nil_iff_forall_not_mem.mpr fun a ha => by
        have h1 := List.count_pos_iff.mpr ha; have h2 := hc a; simp at h2; omega
      have e2 : C2 = [] := List.eq_nil_iff_forall_not_mem.mpr fun a ha => by
        have h1 := List.count_pos_iff.mpr ha; have h2 := hc a; simp at h2; omega
      subst e1; subst e2
      refine ⟨v, us, rfl, ?_⟩
      simp only [D.noXL, Bool.and_eq_true] at hn
      have p2 := p.set (i := i) k1 hn.1 (C' := C) (by simp) (hs i List.mem_cons_self) (.inr fun e => hb (by rw [e]; exact List.mem_cons_self))
      refine names_ok (by simpa using hl) hn.2 k2 p2 (fun j hj => hs j (List.mem_cons_of_mem _ hj)) (fun z => hb (List.mem_cons_of_mem _ z)) fun σ' As' p3 h1 h2 => ?_
      refine go σ' As' p3 (fun j hj => ?_) (by rw [h2]; simp)
      simp only [List.mem_cons, not_or] at hj
      rw [h1 j hj.2, List.getElem?_set_ne (Ne.symm hj.1)]
theorem bind_ok {tg : Tg} {Q : L2.St → Hp → Prop} (k : Rep w F H v x []) (hn : x.noX = true) (e : bindT tg x ρ = some ρ') (p : SPost w st σ0 F0 H0 ρ0 As0 σ F H ρ As C) (hs : ∀ i ∈ tgs tg, st i) (hb : 0 ∈ tgs tg → st big)
    (go : ∀ σ' As', SPost w st σ0 F0 H0 ρ0 As0 σ' F H ρ' As' C → (∀ j, j ∉ tgs tg → σ'[j]? = σ[j]?) → σ'.length = σ.length → Q σ' H) : tgG w.K tg v σ H Q := by
  cases tg with
  | nm i =>
    simp only [bindT, Option.some.injEq] at e
    subst e
    have p2 := p.set (i := i) k hn (C' := C) (by simp) (hs i (by simp [tgs])) (.inr fun e => hb (by simp [tgs, e]))
    exact go _ _ p2 (fun j hj => List.getElem?_set_ne (fun z => hj (by simp [tgs, z]))) (by simp)
  | tp is =>
    cases x with
    | tup xs =>
      simp only [bindT] at e
      split at e
      · rename_i hl
        simp only [Option.some.injEq] at e
        subst e
        cases k with
        | tup k1 k2 _ => exact ⟨_, _, rfl, sqT_mono p.same k1, by rw [k2.len, hl], names_ok hl (by simpa [D.noX] using hn) k2 p hs hb go⟩
      · cases e
    | _ => simp [bindT] at e

/-! ### a for's turns -/
theorem SPost.allocF {q : Addr} {o : HO} (p : SPost w st σ0 F0 H0 ρ0 As0 σ F H ρ As C) (hq : H q = none) : SPost w st σ0 F0 H0 ρ0 As0 σ (upd F q o) (upd H q o) ρ As C := by
  have nF : F q = none := by
    cases e : F q with
    | none => rfl
    | some u => rw [p.same q u e] at hq; cases hq
  have nH0 : H0 q = none := by
    cases e : H0 q with
    | none => rfl
    | some u => exact absurd hq (p.more q (by rw [e]; simp))
  have no : own As q + C.count q = 0 := by
    cases e : own As q + C.count q with
    | zero => rfl
    | succ n => exact absurd hq (p.there q (by omega))
  have sH : Same H (upd H q o) := fun a u h => by rw [upd_ne (ne_of_none h hq)]; exact h
  have sF : Same F (upd F q o) := fun a u h => by rw [upd_ne (ne_of_none h nF)]; exact h
  refine { sig := p.sig, nox := p.nox, sF := p.sF.trans sF, kH := fun a u h1 h2 => sH a u (p.kH a u h1 h2), more := fun a h => same_no sH (p.more a h), same := fun a u h => ?_, env := p.env.mono sF fun a h => upd_ne fun e => by subst e; omega, uni := p.uni, off := fun a h => ?_, old := p.old, new := fun a h1 h2 => ?_, there := fun a h => same_no sH (p.there a h), keep := fun i hi => ⟨(p.keep i hi).1, ?_⟩ }
  · by_cases e : a = q
    · subst e; rw [upd_same] at h ⊢; exact h
    · rw [upd_ne e] at h ⊢; exact p.same a u h
  · have e : a ≠ q := fun e => by subst e; omega
    rw [upd_ne e]; exact p.off a h
  · by_cases e : a = q
    · subst e; exact .inr nH0
    · rw [upd_ne e] at h2; exact p.new a h1 h2
  · rcases (p.keep i hi).2 with ⟨h1, h2, h3⟩ | ⟨d, A, h1, h2, h3, h4, h5⟩ | h
    · refine .inl ⟨h1, h2, fun A hA a ha => ?_⟩
      have : own As a ≠ 0 := by have := own_get (h2.trans hA) a; omega
      rw [upd_ne fun e => by subst e; omega]; exact h3 A hA a ha
    · refine .inr (.inl ⟨d, A, h1, h2, h3, h4, fun a ha => ?_⟩)
      obtain ⟨g1, g2⟩ := h5 a ha
      rw [upd_ne fun e => by subst e; exact g1 nF]
      exact ⟨g1, g2⟩
    · exact .inr (.inr h)
variable {m : SRes}
/-- a body's end, then what follows -/
theorem FinS.bind {st' : Nat → Prop} {k : Fl × Env → SRes} {Dn Dn' : Ends} {σ1 : L2.St} {F1 H1 : Hp} {ρ1 : Env} {As1 : List (List Addr)} (q : FinS w W st σ F H ρ As (m.bind k) Dn) (p : SPost w st σ F H ρ As σ1 F1 H1 ρ1 As1 []) (hst : ∀ i, st' i → st i)
    (nx : ∀ σ2 F2 H2 ρ2 As2, SPost w st σ F H ρ As σ2 F2 H2 ρ2 As2 [] → FinS w W st σ F H ρ As (k (.nx, ρ2)) Dn → Dn'.nx σ2 H2)
    (bk : ∀ σ2 F2 H2 ρ2 As2, SPost w st σ F H ρ As σ2 F2 H2 ρ2 As2 [] → FinS w W st σ F H ρ As (k (.bk, ρ2)) Dn → Dn'.bk σ2 H2)
    (ct : ∀ σ2 F2 H2 ρ2 As2, SPost w st σ F H ρ As σ2 F2 H2 ρ2 As2 [] → FinS w W st σ F H ρ As (k (.ct, ρ2)) Dn → Dn'.ct σ2 H2)
    (rt : ∀ d ρ2, FinS w W st σ F H ρ As (k (.rt d, ρ2)) Dn → FinS w W st σ F H ρ As (some (.rt d, ρ2)) Dn')
    (ex : ∀ c xs ρ2, FinS w W st σ F H ρ As (k (.ex c xs, ρ2)) Dn → FinS w W st σ F H ρ As (some (.ex c xs, ρ2)) Dn') : FinS w W st' σ1 F1 H1 ρ1 As1 m Dn' := by
  match m, q with
  | none, q => exact q
  | some (.nx, ρ2), q => exact fun σ2 F2 H2 As2 z => nx σ2 F2 H2 ρ2 As2 (p.trans0 (z.mono hst)) q
  | some (.bk, ρ2), q => exact fun σ2 F2 H2 As2 z => bk σ2 F2 H2 ρ2 As2 (p.trans0 (z.mono hst)) q
  | some (.ct, ρ2), q => exact fun σ2 F2 H2 As2 z => ct σ2 F2 H2 ρ2 As2 (p.trans0 (z.mono hst)) q
  | some (.rt d, ρ2), q => exact FinS.rest p (rt d ρ2 q) hst
  | some (.ex c xs, ρ2), q => exact FinS.rest p (ex c xs ρ2 q) hst
def tSs (S : Sem) (h : Bool) (w : Wd) (W : WX) (st : Nat → Prop) (ss : List Sx) : TS := fun Dn σ H => ∃ F ρ As, Pre w F H σ ρ As ∧ FinS w W st σ F H ρ As (evalSs S h ss ρ) Dn
theorem keep_of {rs : List R} {keep : Nat → Bool} {F1 H1 : Hp} {σ1 : L2.St} {ρ1 : Env} {As1 : List (List Addr)} (p : SPost w st σ1 F1 H1 ρ1 As1 σ F H ρ As C) (hk : ∀ i, keep i = true → ¬ st i) (g : gdR rs ρ = true) :
    ∀ i A, gdL rs i ∧ keep i = true → As1[i]? = some A → ∀ b, 0 < A.count b → H b = H1 b := by
  intro i A hi hA b hb
  rcases (p.keep i (hk i hi.2)).2 with ⟨_, _, h3⟩ | ⟨d, A', h1, h2, h3, h4, h5⟩ | ⟨h1, _⟩
  · exact h3 A hA b hb
  · rw [hA] at h2; cases h2
    obtain ⟨g1, g2⟩ := h5 b hb
    cases e : F b with
    | none => exact absurd e g1
    | some o => rw [p.same b o e, ← g2, e]
  · have h0 := hi.1
    match rs, h0, g with
    | [.brw j _], h0, g =>
      have e : j = i := h0
      subst e
      unfold gdR live at g
      simp only at g
      rw [h1] at g
      cases g
theorem for_go {S : Sem} {h : Bool} {body : List Sx} {tg : Tg} {rs : List R} {keep : Nat → Bool} {items : List D} {J : It} {K : Hp → Prop} (p0 : Pre w F H σ ρ As) (jk : JOk w F J K items)
    (hK : ∀ H', Same F H' → (∀ i A, gdL rs i ∧ keep i = true → As[i]? = some A → ∀ b, 0 < A.count b → H' b = H b) → K H') (hk : ∀ i, keep i = true → ¬ st i) (hnx : w.hx = none ∨ ∀ x ∈ items, x.noX = true) (ht : ∀ i ∈ tgs tg, st i) (ht0 : 0 ∈ tgs tg → st big) (stb : Nat → Prop) (hb : ∀ i, stb i → st i)
    (q : FinS w W st σ F H ρ As (forL (gdR rs) tg (evalSs S h body) items ρ) Dn) :
    ∃ Wi : Nat → Nat → L2.St → Hp → Prop, (∃ m, Wi 0 m σ H) ∧ ∀ i m σ H, Wi i m σ H →
      (J.stop i H ∧ Dn.nx σ H) ∨ (J.go i H ∧ ∃ N : L2.St → Hp → Prop, (∀ σ' H', N σ' H' → ∃ m', m' < m ∧ Wi (i + 1) m' σ' H') ∧ ∀ x H', J.yld i H x H' → tgG w.K tg x σ H' fun σ2 H2 => tSs S h w W stb body { Dn with nx := N, ct := N, bk := Dn.nx } σ2 H2) := by
  refine ⟨fun i m σ' H' => m = items.length - i ∧ i ≤ items.length ∧ ∃ F' ρ' As', SPost w st σ F H ρ As σ' F' H' ρ' As' [] ∧ FinS w W st σ F H ρ As (forL (gdR rs) tg (evalSs S h body) (items.drop i) ρ') Dn,
    ⟨items.length, by simp, Nat.zero_le _, F, ρ, As, p0.spost, by simpa using q⟩, ?_⟩
  rintro i m σ1 H1 ⟨rfl, hi, F1, ρ1, As1, p1, q1⟩
  have gd : gdR rs ρ1 = true := by
    cases g : gdR rs ρ1 with
    | true => rfl
    | false =>
      cases e : items.drop i with
      | nil => rw [e] at q1; unfold forL at q1; rw [g] at q1; exact q1.elim
      | cons x xs => rw [e] at q1; unfold forL at q1; rw [g] at q1; exact q1.elim
  have hK1 : K H1 := hK H1 (fun a o e => p1.same a o (p1.sF a o e)) (keep_of p1 hk gd)
  by_cases hlt : i < items.length
  · have e : items.drop i = items[i] :: items.drop (i + 1) := List.drop_eq_getElem_cons hlt
    rw [e] at q1
    unfold forL at q1
    rw [gd, if_pos rfl] at q1
    refine .inr ⟨jk.go i H1 hlt hK1, fun σ' H' => ∃ F' ρ' As', SPost w st σ F H ρ As σ' F' H' ρ' As' [] ∧ FinS w W st σ F H ρ As (forL (gdR rs) tg (evalSs S h body) (items.drop (i + 1)) ρ') Dn, fun σ' H' ⟨F', ρ', As', a, b⟩ => ⟨_, by omega, rfl, hlt, F', ρ', As', a, b⟩, fun v H2 y => ?_⟩
    cases eb : bindT tg items[i] ρ1 with
    | none => rw [eb] at q1; exact q1.elim
    | some ρ2 =>
      rw [eb] at q1
      simp only [Option.bind_some] at q1
      have body_ok : ∀ (N : L2.St → Hp → Prop), (∀ σ' F' H' ρ' As', SPost w st σ F H ρ As σ' F' H' ρ' As' [] → FinS w W st σ F H ρ As (forL (gdR rs) tg (evalSs S h body) (items.drop (i + 1)) ρ') Dn → N σ' H') →
          ∀ F2, SPost w st σ F H ρ As σ1 F2 H2 ρ1 As1 [] → Rep w F2 H2 v items[i] [] → tgG w.K tg v σ1 H2 fun σ2 H2 => tSs S h w W stb body { Dn with nx := N, ct := N, bk := Dn.nx } σ2 H2 := fun N hN F2 p2 k2 => by
        refine bind_ok k2 (hnx.elim (fun e => by have := RepL.noX e k2; simpa [D.noXL] using this) fun z => z _ (List.getElem_mem hlt)) eb p2 ht ht0 fun σ3 As3 p3 _ _ => ⟨F2, ρ2, As3, p3.pre, ?_⟩
        exact FinS.bind q1 p3 hb (fun σ2 F2 H2 ρ2 As2 pp qq => hN _ _ _ _ _ pp qq) (fun σ2 F2 H2 ρ2 As2 pp qq => qq σ2 F2 H2 As2 pp) (fun σ2 F2 H2 ρ2 As2 pp qq => hN _ _ _ _ _ pp qq) (fun d ρ2 qq => qq) (fun c xs ρ2 qq => qq)
      rcases jk.yld i H1 v H2 items[i] (List.getElem?_eq_getElem hlt) hK1 y with ⟨rfl, r⟩ | ⟨a, ws, ds, rfl, hn, rfl, ed, r⟩
      · exact body_ok _ (fun σ' F' H' ρ' As' a b => ⟨F', ρ', As', a, b⟩) F1 p1 (r F1 _ p1.sF)
      · have p2 := p1.allocF (o := .tup ws) hn
        refine body_ok _ (fun σ' F' H' ρ' As' a b => ⟨F', ρ', As', a, b⟩) _ p2 ?_
        rw [ed]
        exact .tup (SqT.of upd_same) (r _ _ p2.sF) .nil
  · have e : i = items.length := by omega
    subst e
    rw [List.drop_length] at q1
    unfold forL at q1
    rw [gd, if_pos rfl] at q1
    exact .inl ⟨jk.stop _ H1 (Nat.le_refl _) hK1, q1 σ1 F1 H1 As1 p1⟩
end
end SL
set_option Elab.async false
set_option linter.all false
set_option maxRecDepth 100000
set_option maxHeartbeats 1000000
/-! SLSs: plain statements. -/
namespace SL
open PySem L2

structure XS (T : NT) (W0 : World0) (w0 w : Wd) (fa : Nat → Addr) (cv : Nat → Value) (S : Sem) (h : Bool) (k : Nat) (W : WX) (X : Cx) : Prop where
  f : XF T W0 w0 w fa cv S h k W X
  stack : X.stack = X.env :: X.outer
  frame : X.env.frame = some X.env.locals
  nd : X.N.Nodup
  po : PassesOwn (model X.prog X.w) X.A X.env X.xe
  fnt : ∀ x, X.fn x = true
  fk : X.env.scope.kind = .function
def tSv (S : Sem) (h : Bool) (w : Wd) (W : WX) (s : Sx) : TS := fun Dn σ H => ∃ F ρ As, Pre w F H σ ρ As ∧ FinS w W (fun i => i ∈ stores s) σ F H ρ As (evalS S h s ρ) Dn
def tSsv (S : Sem) (h : Bool) (w : Wd) (W : WX) (ss : List Sx) : TS := tSs S h w W (fun i => i ∈ storesL ss) ss
theorem rbs_mem {i : Nat} {is : List Nat} (h : i ∈ is) : i ∈ rbs is := List.mem_append_left _ h
theorem rbs_big {is : List Nat} (h : 0 ∈ is) : big ∈ rbs is := by
  unfold rbs
  have : is.contains 0 = true := by simpa using h
  rw [this]
  simp
/-- no comprehension as the whole value -/
def noLc : Expr → Bool
  | .ListComp .. => false
  | .SetComp .. => false
  | .DictComp .. => false
  | _ => true
theorem sw_no {e : Expr} {t : Option Expr} {l : Nat} {env : PySem.Env} (h : noLc e = true) : swapsWith e t l env = pure false := by
  unfold swapsWith
  cases e <;> first | rfl | cases h
theorem swS_no {e : Expr} {t : Expr} {l : Nat} {env : PySem.Env} (h : noLc e = true) : swapsWithSole [t] e l env = pure false := sw_no h
def noTup : Expr → Bool
  | .Tuple .. => false
  | _ => true
theorem sws_no {e t : Expr} {env : PySem.Env} (h : noTup e = true) : swappedStores [t] e env = pure none := by
  unfold swappedStores
  cases e <;> first | (cases t <;> rfl) | cases h
section
variable {T : NT} {W0 : World0} {w0 w : Wd} {fa : Nat → Addr} {cv : Nat → Value} {S : Sem} {h : Bool} {k : Nat} {W : WX} {X : Cx} {pos p p2 apos : Pos}
variable {s : Sx} {ss : List Sx} {st : Stmt} {sts : List Stmt} {e : Expr} {a : Ex} {x : Str} {i : Nat}

theorem snd_ss_nil : PSs X [] (tSsv S h w W []) := PSs.of pss_nil fun Dn σ H ⟨F, ρ, As, pr, q⟩ => by
  rw [evalSs] at q
  exact q σ F H As pr.spost
theorem snd_ss_cons (h1 : PS X st (tSv S h w W s)) (h2 : PSs X sts (tSsv S h w W ss)) : PSs X (st :: sts) (tSsv S h w W (s :: ss)) := by
  refine PSs.of (pss_cons h1 h2) fun Dn σ H ⟨F, ρ, As, pr, q⟩ => ⟨F, ρ, As, pr, ?_⟩
  rw [evalSs] at q
  refine FinS.bind q pr.spost (fun i hi => by rw [storesL]; exact List.mem_append_left _ hi) (fun σ2 F2 H2 ρ2 As2 p2 q2 => ⟨F2, ρ2, As2, p2.pre, FinS.rest p2 q2 fun i hi => by rw [storesL]; exact List.mem_append_right _ hi⟩)
    (fun σ2 F2 H2 ρ2 As2 p2 q2 => q2 σ2 F2 H2 As2 p2) (fun σ2 F2 H2 ρ2 As2 p2 q2 => q2 σ2 F2 H2 As2 p2) (fun d ρ2 q2 => q2) (fun c xs ρ2 q2 => q2)
theorem snd_brk : PS X (.Break pos) (tSv S h w W .brk) := PS.of ps_break fun Dn σ H ⟨F, ρ, As, pr, q⟩ => by
  rw [evalS] at q; exact q σ F H As pr.spost
theorem snd_cont : PS X (.Continue pos) (tSv S h w W .cont) := PS.of ps_continue fun Dn σ H ⟨F, ρ, As, pr, q⟩ => by
  rw [evalS] at q; exact q σ F H As pr.spost
theorem snd_pass : PS X (.Pass pos) (tSv S h w W .pass) := PS.of ps_pass fun Dn σ H ⟨F, ρ, As, pr, q⟩ => by
  rw [evalS] at q; exact q σ F H As pr.spost
theorem snd_ret0 : PS X (.Return none pos) (tSv S h w W .ret0) := PS.of ps_retN fun Dn σ H ⟨F, ρ, As, pr, q⟩ => by
  rw [evalS] at q; exact q .non σ F H As [] pr.spost (.non .nil)
/-- a value for keeping, at a statement's start -/
theorem FinS.kept {st : Nat → Prop} {σ : L2.St} {F H : Hp} {ρ : Env} {As : List (List Addr)} {Dn : Ends} {kk : D → Env → SRes} {Q1 : VK} (pr : Pre w F H σ ρ As) (q : FinS w W st σ F H ρ As (((evalE S h a ρ).bind settle).toS kk) Dn)
    (go : ∀ d ρ2 v F2 H2 As2 C, Post w σ F H ρ As F2 H2 ρ2 As2 C → Rep w F2 H2 v d C → FinS w W st σ F H ρ As (kk d ρ2) Dn → Q1 v H2) : tEv S h w W a σ H Q1 := by
  have q' : FinS w W st σ F H ρ As ((evalE S h a ρ).toS fun r ρ => (settle r ρ).toS kk) Dn := by
    cases e : evalE S h a ρ <;> rw [e] at q <;> exact q
  refine ⟨F, ρ, As, pr, FinS.ofE pr q' fun r ρ2 v F2 H2 As2 C2 e1 p1 k1 q1 => ?_⟩
  cases e2 : settle r ρ2 with
  | bad => rw [e2] at q1; exact q1.elim
  | exc c xs ρ' => exact absurd e2 (settle_ne _ _ _)
  | ok d ρ3 =>
    rw [e2] at q1
    obtain ⟨F3, As3, t, k3⟩ := settle_ok p1.pre k1 e2
    exact go d ρ3 v F3 H2 As3 C2 ((p1.trans t).weak fun a => by simp) k3 q1
theorem snd_ret (he : PE X e (tEv S h w W a)) : PS X (.Return (some e) pos) (tSv S h w W (.ret a)) := by
  refine PS.of (ps_ret he) fun Dn σ H ⟨F, ρ, As, pr, q⟩ => ?_
  rw [evalS] at q
  exact FinS.kept pr q fun d ρ2 v F2 H2 As2 C p1 k1 q1 => q1 v σ F2 H2 As2 C (Post.spost pr p1) k1
theorem snd_ex (he : PE X e (tEv S h w W a)) (hl : noLc e = true) : PS X (.Expr e pos) (tSv S h w W (.ex a)) := by
  refine PS.of (ps_expr he (sw_no hl)) fun Dn σ H ⟨F, ρ, As, pr, q⟩ => ?_
  rw [evalS] at q
  exact ⟨F, ρ, As, pr, FinS.ofE (rp := rpR w) pr q fun r ρ2 v F2 H2 As2 C2 e1 p1 k1 q1 => q1 σ F2 H2 As2 (Post.spost pr (p1.weak (by simp)))⟩
theorem snd_set (g : XS T W0 w0 w fa cv S h k W X) (hi : X.N[i]? = some x) (hx : Loc X.env.scope x) (he : PE X e (tEv S h w W a)) (hl : noLc e = true) : PS X (.Assign [.Name x p] e pos) (tSv S h w W (.set i a)) := by
  refine PS.of (ps_set g.nd hi hx he (sw_no hl) (.inl (g.fnt x))) fun Dn σ H ⟨F, ρ, As, pr, q⟩ => ?_
  rw [evalS] at q
  refine FinS.kept pr q fun d ρ2 v F2 H2 As2 C p1 k1 q1 => ?_
  split at q1
  · exact q1.elim
  · rename_i hc
    have hn : d.noX = true := by
      cases h with
      | true => simpa using hc
      | false => have := RepL.noX (g.f.hx rfl) k1; simpa [D.noXL] using this
    exact q1 (σ.set i (some v)) F2 H2 (As2.set i C) ((Post.spost pr p1).set k1 hn (by simp) (rbs_mem (by simp)) (.inr fun e => rbs_big (by simp [e])))
variable {c : Expr} {t : Tx} {sa sb : List Sx} {ba bb : List Stmt}
theorem snd_ite (hc : PT X c (tTv S h w W t)) (ha : PSs X ba (tSsv S h w W sa)) (hb : PSs X bb (tSsv S h w W sb)) : PS X (.If c ba bb pos) (tSv S h w W (.ite t sa sb)) := by
  refine PS.of (ps_if hc ha hb) fun Dn σ H ⟨F, ρ, As, pr, q⟩ => ?_
  rw [evalS] at q
  refine ⟨F, ρ, As, pr, FinS.ofE (rp := rpB) pr q fun b ρ2 b' F2 H2 As2 C2 e1 p1 k1 q1 => ?_⟩
  obtain ⟨rfl, rfl⟩ := k1
  have sp := Post.spost (st := fun i => i ∈ stores (.ite t sa sb)) pr p1
  cases b' with
  | true => exact ⟨F2, ρ2, As2, p1.pre, FinS.rest sp q1 fun i hi => by rw [stores]; exact List.mem_append_left _ hi⟩
  | false => exact ⟨F2, ρ2, As2, p1.pre, FinS.rest sp q1 fun i hi => by rw [stores]; exact List.mem_append_right _ hi⟩
theorem RepR.intR {F H : Hp} {ρ : Env} {As : List (List Addr)} {C : List Addr} {v : V} {r : R} {i : Int} (k : RepR w F H ρ As v r C) (e : r.int? = some i) : v = .int i := RepR.intP k e
theorem snd_aug (g : XS T W0 w0 w fa cv S h k W X) {o : Bop} {op : Operator} (ho : (o = .add ∧ op = .Add) ∨ (o = .sub ∧ op = .Sub)) (hi : X.N[i]? = some x) (hx : Loc X.env.scope x) (he : PE X e (tEv S h w W a)) : PS X (.AugAssign (.Name x p) op e pos) (tSv S h w W (.aug i o a)) := by
  have main : ∀ {f : Int → Int → Int}, PIp X op (ipI f) → (∀ m n, augI o m n = some (f m n)) → PS X (.AugAssign (.Name x p) op e pos) (tSv S h w W (.aug i o a)) := fun {f} hp hf => by
    refine PS.of (ps_aug g.nd hi hx he hp (.inl (g.fnt x))) fun Dn σ H ⟨F, ρ, As, pr, q⟩ => ?_
    rw [evalS] at q
    cases e1 : ρ[i]? with
    | none => rw [e1] at q; exact q.elim
    | some od =>
      cases od with
      | none => rw [e1] at q; exact q.elim
      | some d =>
        cases d with
        | int m =>
          rw [e1] at q
          obtain ⟨v, A, hσ, hA, kv⟩ := pr.env.get e1
          cases kv
          refine ⟨_, hσ, F, ρ, As, pr, FinS.ofE (rp := rpR w) pr q fun r ρ2 v F2 H2 As2 C2 e2 p1 k1 q1 => ?_⟩
          cases e3 : r.int? with
          | none => rw [e3] at q1; exact q1.elim
          | some n =>
            rw [e3] at q1
            simp only [Option.bind_some] at q1
            rw [hf m n] at q1
            have := RepR.intR k1 e3
            subst this
            exact ⟨m, n, rfl, rfl, q1 _ F2 H2 _ ((Post.spost pr p1).set (i := i) (d := .int (f m n)) (.int .nil) rfl (C' := []) (by simp) (rbs_mem (by simp)) (.inr fun e => rbs_big (by simp [e])))⟩
        | _ => rw [e1] at q; exact q.elim
  rcases ho with ⟨rfl, rfl⟩ | ⟨rfl, rfl⟩
  · exact main ip_add fun m n => rfl
  · exact main ip_sub fun m n => rfl
theorem snd_while (g : XS T W0 w0 w fa cv S h k W X) (hc : PT X c (tTv S h w W t)) (hb : PSs X ba (tSsv S h w W sa)) : PS X (.While c ba [] pos) (tSv S h w W (.while_ t sa)) := by
  refine PS.of (ps_while g.po hc hb) fun Dn σ H ⟨F, ρ, As, pr, q⟩ => ?_
  rw [evalS] at q
  have ⟨n, q⟩ : ∃ n, FinS w W (fun i => i ∈ storesL sa) σ F H ρ As (whileN (evalT S h t) (evalSs S h sa) n ρ) Dn := by
    cases e : whileL (evalT S h t) (evalSs S h sa) ρ with
    | none => rw [e] at q; exact q.elim
    | some r =>
      obtain ⟨n, hn⟩ := whileL_some e
      rw [e] at q
      have es : (fun i => i ∈ stores (.while_ t sa)) = fun i => i ∈ storesL sa := by funext i; rw [stores]
      rw [es] at q
      exact ⟨n, by rw [hn]; exact q⟩
  refine ⟨fun m σ' H' => ∃ F' ρ' As', SPost w (fun i => i ∈ storesL sa) σ F H ρ As σ' F' H' ρ' As' [] ∧ FinS w W (fun i => i ∈ storesL sa) σ F H ρ As (whileN (evalT S h t) (evalSs S h sa) m ρ') Dn, ⟨n, F, ρ, As, pr.spost, q⟩, ?_⟩
  rintro m σ1 H1 ⟨F1, ρ1, As1, p1, q1⟩
  cases m with
  | zero => exact q1.elim
  | succ m =>
    rw [whileN] at q1
    have q2 := FinS.rest (st' := fun i => i ∈ storesL sa) p1 q1 (fun i hi => hi)
    refine ⟨F1, ρ1, As1, p1.pre, FinS.ofE (rp := rpB) p1.pre q2 fun b ρ2 b' F2 H2 As2 C2 e1 pp k1 q3 => ?_⟩
    obtain ⟨rfl, rfl⟩ := k1
    have sp := p1.transE pp
    simp only [List.append_nil] at sp
    rw [e1] at q1
    simp only [Res.toS_ok] at q1
    cases b' with
    | true =>
      simp only [if_true] at q1 ⊢
      refine ⟨fun σ' H' => ∃ F' ρ' As', SPost w (fun i => i ∈ storesL sa) σ F H ρ As σ' F' H' ρ' As' [] ∧ FinS w W (fun i => i ∈ storesL sa) σ F H ρ As (whileN (evalT S h t) (evalSs S h sa) m ρ') Dn, fun σ' H' z => ⟨m, Nat.lt_succ_self _, z⟩, F2, ρ2, As2, sp.pre, ?_⟩
      exact FinS.bind q1 sp (fun i hi => hi) (fun σ2 F2 H2 ρ2 As2 p2 q2 => ⟨F2, ρ2, As2, p2, q2⟩) (fun σ2 F2 H2 ρ2 As2 p2 q2 => q2 σ2 F2 H2 As2 p2) (fun σ2 F2 H2 ρ2 As2 p2 q2 => ⟨F2, ρ2, As2, p2, q2⟩) (fun d ρ2 q2 => q2) (fun c xs ρ2 q2 => q2)
    | false =>
      simp only [Bool.false_eq_true, if_false] at q1 ⊢
      exact q1 σ1 F2 H2 As2 sp
end
end SL
set_option Elab.async false
set_option linter.all false
set_option maxRecDepth 100000
set_option maxHeartbeats 1000000
/-! SLSf: for, unpacking, fields of self. -/
namespace SL
open PySem L2

/-- the names at the places is -/
def chkNms (N : List Str) (sc : Scope) (fnb : Str → Bool) : List Expr → List Nat → Bool
  | [], [] => true
  | .Name x _ :: es, i :: is => decide (N[i]? = some x) && (decide (sc.names.lookup x = some .local) || (fnb x && decide (sc.names.lookup x = some .cell))) && chkNms N sc fnb es is
  | _, _ => false
def chkTg (N : List Str) (sc : Scope) (fnb : Str → Bool) : Expr → Tg → Bool
  | .Name x _, .nm i => decide (N[i]? = some x) && (decide (sc.names.lookup x = some .local) || (fnb x && decide (sc.names.lookup x = some .cell)))
  | .Tuple es _ _, .tp is => chkNms N sc fnb es is
  | _, _ => false
def isTupE : Expr → Bool
  | .Tuple .. => true
  | _ => false
section
variable {T : NT} {W0 : World0} {w0 w : Wd} {fa : Nat → Addr} {cv : Nat → Value} {S : Sem} {h : Bool} {k : Nat} {W : WX} {X : Cx} {pos p p2 apos : Pos}
variable {s : Sx} {ss : List Sx} {st : Stmt} {sts : List Stmt} {e iter : Expr} {a : Ex} {x : Str} {i : Nat} {tg : Tg} {te : Expr}

theorem nm_loc {sc : Scope} {fnb : Str → Bool} {x : Str} (h : (decide (sc.names.lookup x = some NameKind.local) || (fnb x && decide (sc.names.lookup x = some NameKind.cell))) = true) : L2.Loc sc x ∧ (fnb x = true ∨ sc.names.lookup x = some .local) := by
  simp only [Bool.or_eq_true, Bool.and_eq_true, decide_eq_true_eq] at h
  rcases h with h | ⟨h1, h2⟩
  · exact ⟨.inl h, .inr h⟩
  · exact ⟨.inr h2, .inl h1⟩
theorem chkNms_ok (hN : X.N.Nodup) : ∀ {es : List Expr} {is : List Nat}, chkNms X.N X.env.scope X.fn es is = true → PGs X es (gNms is) ∧ (assignEach es X.env).length = is.length ∧ (assignEach es X.env).findIdx? (·.1) = none
  | [], [], _ => ⟨pgs_nil, rfl, rfl⟩
  | [], _ :: _, h => by simp [chkNms] at h
  | e :: es, [], h => by cases e <;> simp [chkNms] at h
  | e :: es, i :: is, h => by
    cases e <;> simp only [chkNms, Bool.false_eq_true] at h
    rename_i x p
    rw [Bool.and_eq_true, Bool.and_eq_true] at h
    obtain ⟨⟨h1, h2⟩, h3⟩ := h
    obtain ⟨g1, g2⟩ := nm_loc h2
    obtain ⟨q1, q2, q3⟩ := chkNms_ok hN h3
    refine ⟨pgs_cons (pg_name hN (of_decide_eq_true h1) g1 g2) q1, ?_, ?_⟩
    · show (assignEach es X.env).length + 1 = is.length + 1
      rw [q2]
    · show List.findIdx? (·.1) ((false, assign (.Name x p) X.env) :: assignEach es X.env) = none
      rw [List.findIdx?_cons, q3]; rfl
theorem chkTg_ok (hN : X.N.Nodup) (hK : X.K = w.K) (hc : X.calm = true ∨ isTupE te = false) (h : chkTg X.N X.env.scope X.fn te tg = true) : PG X te (tgG w.K tg) := by
  cases te <;> cases tg <;> simp only [chkTg, Bool.false_eq_true] at h
  · rw [Bool.and_eq_true] at h
    obtain ⟨g1, g2⟩ := nm_loc h.2
    exact pg_name hN (of_decide_eq_true h.1) g1 g2
  · rcases hc with hc | hc
    · obtain ⟨q1, q2, q3⟩ := chkNms_ok hN h
      show PG X _ (gTup w.K _ _)
      rw [← hK]
      exact pg_tup hc q1 q2 q3
    · cases hc
def noSet : Expr → Bool
  | .Set .. => false
  | _ => true
theorem fs_no {e : Expr} {env : PySem.Env} (h : noSet e = true) : ∀ x, foldedSetIterable e env x = pure x := by
  intro x
  unfold foldedSetIterable
  cases e <;> first | rfl | cases h
theorem snd_unp (g : XS T W0 w0 w fa cv S false k W X) {is : List Nat} (ht : chkTg X.N X.env.scope X.fn te (.tp is) = true) (he : PE X e (tEv S false w W a)) (h1 : noLc e = true) (h2 : noTup e = true) (hst : noStar te = true) : PS X (.Assign [te] e pos) (tSv S false w W (.unp is a)) := by
  refine PS.of (ps_asg he (chkTg_ok g.nd g.f.KK (.inl (g.f.room rfl).2) ht) (swS_no h1) (sws_no h2) (by cases te <;> first | rfl | cases hst)) fun Dn σ H ⟨F, ρ, As, pr, q⟩ => ?_
  rw [evalS] at q
  simp only [Bool.false_eq_true, if_false] at q
  refine ⟨F, ρ, As, pr, FinS.ofE (rp := rpR w) pr q fun r ρ2 v F2 H2 As2 C2 e1 p1 k1 q1 => ?_⟩
  cases r with
  | brw _ _ => exact q1.elim
  | val d =>
    cases d with
    | tup xs =>
      simp only at q1
      cases eb : bindT (.tp is) (.tup xs) ρ2 with
      | none => rw [eb] at q1; exact q1.elim
      | some ρ3 =>
        rw [eb] at q1
        cases k1 with
        | val k1 =>
          have kr : Rep w F2 H2 v (.tup xs) [] := by
            cases k1 with
            | tup a b c => exact .tup a b .nil
          refine bind_ok (C := []) kr (by have := RepL.noX (g.f.hx rfl) kr; simpa [D.noXL] using this) eb ((Post.spost (st := fun i => i ∈ stores (.unp is a)) pr p1).weak (by simp)) (fun i hi => rbs_mem (by simpa [tgs] using hi)) (fun h0 => rbs_big (by simpa [tgs] using h0)) fun σ' As' p' _ _ => q1 σ' F2 H2 As' p'
    | _ => exact q1.elim
theorem for_eq {ik : Ik} {ie : List Ex} {keep : Nat → Bool} {ρ : Env} {kk : List R → List D → Env → SRes} : ((evalEs S h ie ρ).toS fun rs ρ => (iterR ik rs keep ρ).toS fun items ρ => kk rs items ρ) = (itM S h ik ie keep ρ).toS fun x ρ => kk x.1 x.2 ρ := by
  unfold itM
  cases evalEs S h ie ρ with
  | bad => rfl
  | exc c xs ρ' => rfl
  | ok rs ρ1 =>
    simp only [Res.toS_ok, Res.bind_ok]
    cases iterR ik rs keep ρ1 <;> rfl
variable {body : List Stmt} {sb : List Sx} {ik : Ik} {ie : List Ex}
/-- what a for leaves while it turns -/
def fKeep (tg : Tg) (sb : List Sx) : Nat → Bool := fun i => !(rbs (tgs tg) ++ storesL sb).contains i
theorem rng_noX {keep : Nat → Bool} {rs : List R} {ρ ρ' : Env} {items : List D} (e : iterR .range1 rs keep ρ = .ok items ρ') : ∀ x ∈ items, x.noX = true := by
  match rs, e with
  | [.val (.int n)], e =>
    simp only [iterR] at e
    split at e
    · simp only [Res.ok.injEq] at e
      intro x hx
      rw [← e.1] at hx
      simp only [List.mem_map] at hx
      obtain ⟨a, _, rfl⟩ := hx
      rfl
    · cases e
  | [], e => simp [iterR] at e
  | [.val .non], e => simp [iterR] at e
  | [.val (.bl _)], e => simp [iterR] at e
  | [.val (.str _)], e => simp [iterR] at e
  | [.val (.scr _)], e => simp [iterR] at e
  | [.val (.tup _)], e => simp [iterR] at e
  | [.val (.lst _ _)], e => simp [iterR] at e
  | [.val (.ins _ _ _)], e => simp [iterR] at e
  | [.val (.exn _ _)], e => simp [iterR] at e
  | [.brw _ _], e => simp [iterR] at e
  | _ :: _ :: _, e => simp [iterR] at e
theorem for_read {Dn : Ends} {σ : L2.St} {H : Hp} (hw : h = false → w.hx = none) (q : tSv S h w W (.for_ tg ik ie sb) Dn σ H) : tFor (tItv S h w W ik ie (fKeep tg sb)) (tgG w.K tg) (tSsv S h w W sb) Dn σ H := by
  obtain ⟨F, ρ, As, pr, q⟩ := q
  rw [evalS] at q
  split at q
  · exact q.elim
  · rename_i hc
    rw [for_eq (kk := fun rs items ρ => forL (gdR rs) tg (evalSs S h sb) items ρ)] at q
    refine ⟨F, ρ, As, pr, FinS.ofE (rp := rpJ2 w (fKeep tg sb)) pr q fun x ρ2 J F2 H2 As2 C2 e1 p1 k1 q1 => ?_⟩
    obtain ⟨rfl, K, jk, hK⟩ := k1
    have sp := Post.spost (st := fun i => i ∈ stores (.for_ tg ik ie sb)) pr p1
    have hnx : w.hx = none ∨ ∀ y ∈ x.2, y.noX = true := by
      cases h with
      | false => exact .inl (hw rfl)
      | true =>
        have hik : ik = .range1 := by simpa using hc
        subst hik
        right
        unfold itM at e1
        cases e5 : evalEs S true ie ρ with
        | bad => rw [e5] at e1; cases e1
        | exc c xs ρ' => rw [e5] at e1; cases e1
        | ok rs ρ5 =>
          rw [e5] at e1
          simp only [Res.bind_ok] at e1
          cases e6 : iterR .range1 rs (fKeep tg sb) ρ5 with
          | bad => rw [e6] at e1; cases e1
          | exc c xs ρ' => rw [e6] at e1; cases e1
          | ok items ρ6 =>
            rw [e6] at e1
            simp only [Res.bind_ok, Res.ok.injEq] at e1
            obtain ⟨rfl, _⟩ := e1
            exact rng_noX e6
    exact for_go (st := fun i => i ∈ stores (.for_ tg ik ie sb)) p1.pre jk hK (fun i hi => by
      unfold fKeep at hi
      simp only [Bool.not_eq_true', List.contains_eq_mem, decide_eq_false_iff_not] at hi
      rw [stores]; exact hi) hnx (fun i hi => by rw [stores]; exact List.mem_append_left _ (rbs_mem hi)) (fun h0 => by show big ∈ stores _; rw [stores]; exact List.mem_append_left _ (rbs_big h0)) (fun i => i ∈ storesL sb) (fun i hi => by rw [stores]; exact List.mem_append_right _ hi) (FinS.rest sp q1 fun i hi => hi)
theorem snd_for (g : XS T W0 w0 w fa cv S false k W X) (ht : chkTg X.N X.env.scope X.fn te tg = true) (hi : PI X te iter (tItv S false w W ik ie (fKeep tg sb))) (hb : PSs X body (tSsv S false w W sb)) (hn : noSet iter = true) : PS X (.For te iter body [] pos) (tSv S false w W (.for_ tg ik ie sb)) :=
  PS.of (ps_for g.po (g.f.room rfl).2 hi (chkTg_ok g.nd g.f.KK (.inl (g.f.room rfl).2) ht) hb (fs_no hn)) fun Dn σ H q => for_read g.f.hx q
theorem snd_forH (g : XS T W0 w0 w fa cv S true k W X) (ht : chkTg X.N X.env.scope X.fn te tg = true) (hnt : isTupE te = false) (hi : L2H.PIH X te iter (tItv S true w W ik ie (fKeep tg sb))) (hb : PSs X body (tSsv S true w W sb)) (hn : noSet iter = true) : PS X (.For te iter body [] pos) (tSv S true w W (.for_ tg ik ie sb)) :=
  PS.of (L2H.ps_forH g.po (g.f.hot rfl).2 hi (chkTg_ok g.nd g.f.KK (.inr hnt) ht) hb (fs_no hn)) fun Dn σ H q => for_read g.f.hx q
end
end SL
set_option Elab.async false
set_option linter.all false
set_option maxRecDepth 100000
set_option maxHeartbeats 1000000
/-! SLPath: stores into own lists. -/
namespace SL
open PySem L2

/-- v is reached from v0 by the items -/
def Reach (H : Hp) : V → List Int → V → Prop
  | v0, [], v => v = v0
  | v0, i :: is, v => ∃ a ws u, v0 = .ref a ∧ H a = some (.lst ws) ∧ atI ws i = some u ∧ Reach H u is v
theorem Reach.mono {H H' : Hp} (s : Same H H') : ∀ {is : List Int} {v0 v : V}, Reach H v0 is v → Reach H' v0 is v
  | [], _, _, h => h
  | _ :: _, _, _, ⟨a, ws, u, h1, h2, h3, h4⟩ => ⟨a, ws, u, h1, s _ _ h2, h3, Reach.mono s h4⟩
theorem Reach.det {H : Hp} : ∀ {is : List Int} {v0 v v' : V}, Reach H v0 is v → Reach H v0 is v' → v = v'
  | [], _, _, _, h, h' => h.trans h'.symm
  | _ :: _, _, _, _, ⟨a, ws, u, h1, h2, h3, h4⟩, ⟨a', ws', u', g1, g2, g3, g4⟩ => by
    subst h1
    cases g1
    rw [h2] at g2; cases g2
    rw [h3] at g3; cases g3
    exact Reach.det h4 g4
theorem Reach.snoc {H : Hp} : ∀ {is : List Int} {k : Int} {v0 v u : V} {a : Addr} {ws : List V}, Reach H v0 is v → v = .ref a → H a = some (.lst ws) → atI ws k = some u → Reach H v0 (is ++ [k]) u
  | [], _, _, _, _, a, ws, h, e, h2, h3 => ⟨a, ws, _, by rw [← h, e], h2, h3, rfl⟩
  | _ :: _, _, _, _, _, a, ws, ⟨b, us, z, g1, g2, g3, g4⟩, e, h2, h3 => ⟨b, us, z, g1, g2, g3, Reach.snoc g4 e h2 h3⟩
section
variable {w : Wd} {F H F' H' F0 H0 : Hp} {σ σ' : L2.St} {ρ ρ' ρ0 : Env} {As As' As0 : List (List Addr)} {C C1 C' B : List Addr} {v : V} {r : R} {W : WX} {st : Nat → Prop}
theorem getAt_ok : ∀ {is : List Int} {d x : D} {v : V} {A : List Addr}, Rep w F H v d A → getAt is d = some x → ∃ u B, Reach H v is u ∧ Rep w F H u x B ∧ ∀ b, B.count b ≤ A.count b
  | [], d, x, v, A, k, e => by
    simp only [getAt, Option.some.injEq] at e
    subst e
    exact ⟨v, A, rfl, k, fun _ => Nat.le_refl _⟩
  | i :: is, d, x, v, A, k, e => by
    cases d with
    | lst o xs =>
      cases o with
      | false => simp [getAt] at e
      | true =>
        simp only [getAt] at e
        cases k with
        | @lstO a ws _ _ _ _ B k1 k2 k3 =>
          cases e1 : ixD xs.length i with
          | none => rw [e1] at e; simp at e
          | some n =>
            rw [e1] at e
            simp only [Option.bind_some] at e
            cases e2 : xs[n]? with
            | none => rw [e2] at e; simp at e
            | some y =>
              rw [e2] at e
              simp only [Option.bind_some] at e
              obtain ⟨u, B1, h1, h2, h3⟩ := k2.get e2
              obtain ⟨z, B2, g1, g2, g3⟩ := getAt_ok h2 e
              refine ⟨z, B2, ⟨a, ws, u, rfl, k1, ?_, g1⟩, g2, fun b => ?_⟩
              · unfold atI; rw [k2.len, ← ixN_eq, e1]; exact h1
              · have := g3 b; have := h3 b; rw [List.count_cons, List.count_append]; omega
    | _ => simp [getAt] at e
theorem RepL.split : ∀ {vs : List V} {ds : List D} {A : List Addr} {n : Nat} {x : D}, RepL w F H vs ds A → ds[n]? = some x → ∃ v A1 B A2, vs[n]? = some v ∧ RepL w F H (vs.take n) (ds.take n) A1 ∧ Rep w F H v x B ∧ RepL w F H (vs.drop (n + 1)) (ds.drop (n + 1)) A2 ∧ ∀ b, A.count b = A1.count b + B.count b + A2.count b
  | vs, [], A, n, x, r, e => by simp at e
  | vs, d :: ds, A, 0, x, r, e => by
    simp at e; subst e
    obtain ⟨v, us, B, C, rfl, q, r, hc⟩ := r.uncons
    exact ⟨v, [], B, C, rfl, .nil, q, r, fun b => by rw [hc]; simp⟩
  | vs, d :: ds, A, n + 1, x, r, e => by
    obtain ⟨v, us, B, C, rfl, q, r, hc⟩ := r.uncons
    obtain ⟨u, A1, B1, A2, h1, h2, h3, h4, h5⟩ := RepL.split r (by simpa using e)
    refine ⟨u, B ++ A1, B1, A2, by simpa using h1, by simpa using RepL.cons q h2, h3, by simpa using h4, fun b => ?_⟩
    have := hc b; have := h5 b
    rw [List.count_append]; omega
theorem list_at {α : Type} {xs : List α} {n : Nat} {x y : α} (h : xs[n]? = some x) : xs.set n y = xs.take n ++ y :: xs.drop (n + 1) := by
  obtain ⟨hl, _⟩ := List.getElem?_eq_some_iff.mp h
  rw [List.set_eq_take_append_cons_drop, if_pos hl]
/-- the own list that a path leads to, changed -/
theorem path_ok {f : D → Option D} (hf : ∀ x y, f x = some y → ∃ xs ys, x = .lst true xs ∧ y = .lst true ys) : ∀ {is : List Int} {d d' : D} {v : V} {A : List Addr}, Rep w F H v d A → (∀ b, A.count b ≤ 1) → atPath f is d = some d' →
    ∃ a ws xs ys B, Reach H v is (.ref a) ∧ H a = some (.lst ws) ∧ RepL w F H ws xs B ∧ f (.lst true xs) = some (.lst true ys) ∧ 0 < A.count a ∧ (∀ b, B.count b ≤ A.count b) ∧ B.count a = 0 ∧
      ∀ H' ws' By, (∀ c, c ≠ a → H' c = H c) → H' a = some (.lst ws') → RepL w F H' ws' ys By → ∃ A', Rep w F H' v d' A' ∧ ∀ b, A'.count b + B.count b = A.count b + By.count b
  | [], d, d', v, A, k, u, e => by
    simp only [atPath] at e
    obtain ⟨xs, ys, rfl, rfl⟩ := hf _ _ e
    cases k with
    | @lstO a ws _ _ _ _ B k1 k2 k3 =>
      cases k3
      refine ⟨a, ws, xs, ys, B, rfl, k1, k2, e, by simp [List.count_cons], fun b => by rw [List.count_cons, List.append_nil]; omega, ?_, fun H' ws' By h1 h2 h3 => ⟨a :: (By ++ []), .lstO h2 h3 .nil, fun b => ?_⟩⟩
      · have := u a
        simp only [List.count_cons, List.append_nil, beq_self_eq_true, if_true] at this
        omega
      · simp only [List.count_cons, List.append_nil]; omega
  | i :: is, d, d', v, A, k, u, e => by
    cases d with
    | lst o xs =>
      cases o with
      | false => simp [atPath] at e
      | true =>
        simp only [atPath] at e
        cases e1 : ixD xs.length i with
        | none => rw [e1] at e; simp at e
        | some n =>
          rw [e1] at e
          simp only [Option.bind_some] at e
          cases e2 : xs[n]? with
          | none => rw [e2] at e; simp at e
          | some y =>
            rw [e2] at e
            simp only [Option.bind_some, Option.map_eq_some_iff] at e
            obtain ⟨y', e3, rfl⟩ := e
            cases k with
            | @lstO c ws _ _ _ _ Bc k1 k2 k3 =>
              cases k3
              obtain ⟨z, A1, B1, A2, h1, h2, h3, h4, h5⟩ := k2.split e2
              have u1 : ∀ b, (if c == b then 1 else 0) + (A1.count b + B1.count b + A2.count b) ≤ 1 := fun b => by
                have := u b
                rw [List.count_cons, List.append_nil, h5] at this
                omega
              obtain ⟨a, us, zs, ys, B, g1, g2, g3, g4, g5, g6, g7, g8⟩ := path_ok hf h3 (fun b => by have := u1 b; omega) e3
              have nc : c ≠ a := fun q => by subst q; have := u1 c; simp only [beq_self_eq_true, if_true] at this; omega
              have nca : (c == a) = false := by simpa using nc
              refine ⟨a, us, zs, ys, B, ⟨c, ws, z, rfl, k1, by unfold atI; rw [k2.len, ← ixN_eq, e1]; exact h1, g1⟩, g2, g3, g4, ?_, fun b => ?_, g7, fun H' ws' By q1 q2 q3 => ?_⟩
              · rw [List.count_cons, List.append_nil, h5]; omega
              · rw [List.count_cons, List.append_nil, h5]; have := g6 b; omega
              · obtain ⟨A', r1, r2⟩ := g8 H' ws' By q1 q2 q3
                have m1 : RepL w F H' (ws.take n) (xs.take n) A1 := h2.mono (Same.refl _) fun b hb => q1 b fun q => by subst q; have := u1 b; omega
                have m2 : RepL w F H' (ws.drop (n + 1)) (xs.drop (n + 1)) A2 := h4.mono (Same.refl _) fun b hb => q1 b fun q => by subst q; have := u1 b; omega
                have all := m1.app (RepL.cons r1 m2)
                have ew : ws.take n ++ z :: ws.drop (n + 1) = ws := by
                  have := list_at (y := z) h1
                  rw [← this]
                  apply List.ext_getElem?
                  intro j
                  by_cases hj : n = j
                  · subst hj
                    rw [List.getElem?_set_self (List.getElem?_eq_some_iff.mp h1).1, h1]
                  · rw [List.getElem?_set_ne hj]
                rw [ew, ← list_at e2] at all
                refine ⟨c :: ((A1 ++ (A' ++ A2)) ++ []), .lstO (by rw [q1 c nc]; exact k1) all .nil, fun b => ?_⟩
                have := r2 b
                simp only [List.count_cons, List.append_nil, List.count_append, h5]
                omega
    | _ => simp [atPath] at e

/-! ### the frame behind it -/
theorem SPost.give {i : Nat} {A : List Addr} (p : SPost w st σ F0 H0 ρ0 As0 σ' F H ρ As C) (hA : As[i]? = some A) (hi : st i) : SPost w st σ F0 H0 ρ0 As0 σ' F H (ρ.set i none) (As.set i []) (C ++ A) := by
  have le : ∀ a, own (As.set i []) a + A.count a = own As a := fun a => by have := own_set (B := []) hA a; simpa using this
  refine { p with nox := fun j h => (p.nox j h).del, env := p.env.drop, uni := fun a => by rw [List.count_append]; have := le a; have := p.uni a; omega, off := fun a h => p.off a (by rw [List.count_append] at h; have := le a; omega), old := fun a h => p.old a (by rw [List.count_append] at h; have := le a; omega), there := fun a h => p.there a (by rw [List.count_append] at h; have := le a; omega), keep := fun j hj => ?_ }
  have ne : i ≠ j := fun e => hj (e ▸ hi)
  obtain ⟨h1, h2⟩ := p.keep j hj
  refine ⟨h1, ?_⟩
  unfold KeepR at h2 ⊢
  rw [List.getElem?_set_ne ne, List.getElem?_set_ne ne]
  exact h2
theorem SPost.poke {a : Addr} {o : HO} (p : SPost w st σ F0 H0 ρ0 As0 σ' F H ρ As C) (hC : 0 < C.count a) : SPost w st σ F0 H0 ρ0 As0 σ' F (upd H a o) ρ As C := by
  have nF : F a = none := p.off a (by omega)
  have no : own As a = 0 := by have := p.uni a; omega
  have up : ∀ b, H b ≠ none → upd H a o b ≠ none := fun b h => by
    by_cases e : b = a
    · subst e; rw [upd_same]; simp
    · rw [upd_ne e]; exact h
  refine { p with kH := fun b u h1 h2 => ?_, more := fun b h => up b (p.more b h), same := fun b u h => ?_, env := p.env.mono (Same.refl _) fun b h => upd_ne fun e => by subst e; omega, there := fun b h => up b (p.there b h), keep := fun i hi => ⟨(p.keep i hi).1, ?_⟩ }
  · rw [upd_ne fun e => ?_]
    · exact p.kH b u h1 h2
    · subst e
      rcases p.old b (by omega) with z | z
      · omega
      · rw [z] at h1; cases h1
  · rw [upd_ne fun e => by subst e; rw [nF] at h; cases h]
    exact p.same b u h
  · rcases (p.keep i hi).2 with ⟨h1, h2, h3⟩ | ⟨d, A, h1, h2, h3, h4, h5⟩ | z
    · refine .inl ⟨h1, h2, fun A hA b hb => ?_⟩
      have := own_get (h2.trans hA) b
      rw [upd_ne fun e => by subst e; omega]
      exact h3 A hA b hb
    · exact .inr (.inl ⟨d, A, h1, h2, h3, h4, h5⟩)
    · exact .inr (.inr z)
theorem set_eq {α : Type} {xs : List α} {i : Nat} {x : α} (h : xs[i]? = some x) : xs.set i x = xs := by
  apply List.ext_getElem?
  intro j
  by_cases hj : i = j
  · subst hj
    rw [List.getElem?_set_self (List.getElem?_eq_some_iff.mp h).1, h]
  · rw [List.getElem?_set_ne hj]
/-- the variable's own list changed by one of the two stores; v: the value, kept -/
theorem upd_ok {f : D → Option D} {is : List Int} {i : Nat} {d0 d1 d : D} {v : V} (hf : ∀ x y, f x = some y → ∃ xs ys, x = .lst true xs ∧ y = .lst true ys) (hw : w.hx = none) (p : SPost w st σ F0 H0 ρ0 As0 σ' F H ρ As C) (hi : st i) (e0 : ρ[i]? = some (some d0)) (e1 : atPath f is d0 = some d1) (kv : Rep w F H v d C) :
    ∃ v0 a ws xs ys B, σ'[i]? = some (some v0) ∧ Reach H v0 is (.ref a) ∧ H a = some (.lst ws) ∧ RepL w F H ws xs B ∧ f (.lst true xs) = some (.lst true ys) ∧ C.count a = 0 ∧ B.count a = 0 ∧
      ∀ ws' By, (∀ H', (∀ c, c ≠ a → H' c = H c) → RepL w F H' ws' ys By) → (∀ b, By.count b ≤ B.count b + C.count b) → ∃ As', SPost w st σ F0 H0 ρ0 As0 σ' F (upd H a (.lst ws')) (ρ.set i (some d1)) As' [] := by
  obtain ⟨v0, A, hσ, hA, k0⟩ := p.pre.env.get e0
  have uA : ∀ b, A.count b ≤ 1 := fun b => by have := own_get hA b; have := p.uni b; omega
  obtain ⟨a, ws, xs, ys, B, g1, g2, g3, g4, g5, g6, g7, g8⟩ := path_ok hf k0 uA e1
  have cA : C.count a = 0 := by have := own_get hA a; have := p.uni a; omega
  refine ⟨v0, a, ws, xs, ys, B, hσ, g1, g2, g3, g4, cA, g7, fun ws' By hR hB => ?_⟩
  have p1 := p.give hA hi
  have p2 := p1.poke (a := a) (o := .lst ws') (by rw [List.count_append]; omega)
  obtain ⟨A', r1, r2⟩ := g8 (upd H a (.lst ws')) ws' By (fun c hc => upd_ne hc) upd_same (hR _ fun c hc => upd_ne hc)
  have p3 := p2.set (i := i) (C' := []) r1 (by have := RepL.noX hw r1; simpa [D.noXL] using this) (fun b => by
    have h1 := r2 b; have h2 := hB b; have h3 := g6 b
    simp only [List.count_append, List.count_nil]; omega) hi (.inl hσ)
  rw [set_eq hσ, List.set_set] at p3
  rw [List.set_set] at p3
  exact ⟨_, p3⟩
end
end SL
set_option Elab.async false
set_option linter.all false
set_option maxRecDepth 100000
set_option maxHeartbeats 1000000
/-! SLPb: x[..] = e, x[..].append(e), self.f = e. -/
namespace SL
open PySem L2

def rpP (σ : L2.St) (i : Nat) : RP V (List Int) := fun F H ρ As v is C => C = [] ∧ ∃ d v0, ρ[i]? = some (some d) ∧ σ[i]? = some (some v0) ∧ (getAt is d).isSome = true ∧ Reach H v0 is v
def tPv (S : Sem) (h : Bool) (w : Wd) (W : WX) (i : Nat) (path : List Ex) : TE := fun σ H Q => ∃ F ρ As, Pre w F H σ ρ As ∧ Fin (rpP σ i) w σ W F H ρ As (evalP S h i path [] ρ) Q
def noSlc : Expr → Bool
  | .Slice .. => false
  | _ => true
theorem plain_ix {e : Expr} (h : noSlc e = true) : PlainIx e := by
  intro o i
  unfold subscripted
  cases e <;> first | rfl | cases h
section
variable {T : NT} {W0 : World0} {w0 w : Wd} {fa : Nat → Addr} {cv : Nat → Value} {S : Sem} {h : Bool} {k : Nat} {W : WX} {X : Cx} {pos p p2 apos : Pos}
variable {e eR eP : Expr} {a pk : Ex} {x : Str} {i : Nat} {path : List Ex}
theorem okL_at {i : Nat} {is : List Int} {ρ : Env} (h : okL i is ρ = true) : ∃ d xs, ρ[i]? = some (some d) ∧ getAt is d = some (.lst true xs) := by
  unfold okL at h
  split at h
  · rename_i d hd
    split at h
    · rename_i xs hx
      exact ⟨d, xs, hd, hx⟩
    · cases h
  · cases h
theorem okAt_at {i : Nat} {is : List Int} {ρ : Env} (h : okAt i is ρ = true) : ∃ d, ρ[i]? = some (some d) ∧ (getAt is d).isSome = true := by
  unfold okAt at h
  split at h
  · rename_i d hd; exact ⟨d, hd, h⟩
  · cases h
theorem okL_okAt {i : Nat} {is : List Int} {ρ : Env} (h : okL i is ρ = true) : okAt i is ρ = true := by
  obtain ⟨d, xs, h1, h2⟩ := okL_at h
  unfold okAt
  rw [h1]
  simp [h2]
theorem evalP_snoc : ∀ {path : List Ex} {acc : List Int} {ρ : Env}, evalP S h i (path ++ [pk]) acc ρ = (evalP S h i path acc ρ).bind fun is ρ => if okL i is ρ then (evalE S h pk ρ).bind fun r ρ => match r.int? with
    | some k => if okAt i (is ++ [k]) ρ then .ok (is ++ [k]) ρ else .bad
    | none => .bad
    else .bad
  | [], acc, ρ => by
    simp only [List.nil_append, evalP]
    cases c : okL i acc ρ with
    | true =>
      rw [okL_okAt c]
      simp only [if_true, Res.bind_ok, c]
      try rfl
    | false =>
      cases c2 : okAt i acc ρ with
      | true => simp [c]
      | false => simp
  | q :: path, acc, ρ => by
    simp only [List.cons_append, evalP]
    cases c : okL i acc ρ with
    | false => simp
    | true =>
      simp only [if_true]
      cases evalE S h q ρ with
      | bad => rfl
      | exc c xs ρ' => rfl
      | ok r ρ1 =>
        simp only [Res.bind_ok]
        cases r.int? with
        | none => rfl
        | some k => exact evalP_snoc
theorem snd_pv0 (hN : X.N[i]? = some x) (hv : Vis X.env.scope x) (hd : (x == ("__debug__" : Str)) = false) (hcd : (x == ("__classdict__" : Str)) = false) : PE X (.Name x pos) (tPv S h w W i []) := by
  refine PE.of (pe_var hN hv hd hcd) fun σ H Q ⟨F, ρ, As, pr, q⟩ => ?_
  rw [evalP] at q
  cases c : okAt i [] ρ with
  | false => rw [c] at q; exact q.elim
  | true =>
    rw [c] at q
    obtain ⟨d, h1, h2⟩ := okAt_at c
    obtain ⟨v0, A, hσ, hA, kv⟩ := pr.env.get h1
    exact ⟨v0, hσ, q v0 F H As [] pr.post ⟨rfl, d, v0, h1, hσ, h2, rfl⟩⟩
/-- what stands at a path -/
theorem pv_list {σ : L2.St} {F1 H1 : Hp} {ρ1 : Env} {As1 : List (List Addr)} {v : V} {is : List Int} (p1 : Pre w F1 H1 σ ρ1 As1) (k1 : rpP σ i F1 H1 ρ1 As1 v is []) (c : okL i is ρ1 = true) :
    ∃ a ws xs, v = .ref a ∧ H1 a = some (.lst ws) ∧ ws.length = xs.length ∧ ∃ d, ρ1[i]? = some (some d) ∧ getAt is d = some (.lst true xs) := by
  obtain ⟨_, d, v0, h1, h2, h3, h4⟩ := k1
  obtain ⟨d', xs, g1, g2⟩ := okL_at c
  rw [h1] at g1; cases g1
  obtain ⟨v0', A, hσ, hA, kv⟩ := p1.env.get h1
  rw [h2] at hσ; cases hσ
  obtain ⟨u, B, r1, r2, r3⟩ := getAt_ok kv g2
  have := Reach.det h4 r1
  subst this
  cases r2 with
  | lstO k1 k2 _ => exact ⟨_, _, xs, rfl, k1, k2.len, d, h1, g2⟩
theorem getAt_snoc : ∀ {is : List Int} {k : Int} {d : D}, getAt (is ++ [k]) d = (getAt is d).bind (getAt [k])
  | [], k, d => rfl
  | i :: is, k, d => by
    cases d with
    | lst o xs =>
      cases o with
      | false => rfl
      | true =>
        simp only [List.cons_append, getAt]
        cases ixD xs.length i with
        | none => rfl
        | some n =>
          simp only [Option.bind_some]
          cases xs[n]? with
          | none => rfl
          | some y =>
            simp only [Option.bind_some]
            exact getAt_snoc
    | _ => rfl
theorem Reach.lift {w : Wd} {F H F' H' : Hp} {is : List Int} {v0 v : V} {σ : L2.St} {ρ ρ' : Env} {As As' : List (List Addr)} {C : List Addr} (p : Post w σ F H ρ As F' H' ρ' As' C) (r : Reach H v0 is v) : Reach H' v0 is v := r.mono p.sH
/-- the last item's place is there -/
theorem last_at {is : List Int} {kk : Int} {d : D} {xs : List D} (g : getAt is d = some (.lst true xs)) (s : (getAt (is ++ [kk]) d).isSome = true) : ∃ n, ixD xs.length kk = some n ∧ n < xs.length := by
  rw [getAt_snoc, g] at s
  simp only [Option.bind_some, getAt] at s
  cases e : ixD xs.length kk with
  | none => rw [e] at s; simp at s
  | some n =>
    rw [e] at s
    simp only [Option.bind_some] at s
    cases e2 : xs[n]? with
    | none => rw [e2] at s; simp at s
    | some y => exact ⟨n, rfl, (List.getElem?_eq_some_iff.mp e2).1⟩
/-- the variable's value behind a number's evaluation, if the path is still there: it has not changed -/
theorem pv_same {σ : L2.St} {F1 H1 F2 H2 : Hp} {ρ1 ρ2 : Env} {As1 As2 : List (List Addr)} {C : List Addr} {is : List Int} {d d2 : D} {xs : List D} (p : Post w σ F1 H1 ρ1 As1 F2 H2 ρ2 As2 C) (h1 : ρ1[i]? = some (some d)) (g : getAt is d = some (.lst true xs)) (h2 : ρ2[i]? = some (some d2)) {kk : Int}
    (s : (getAt (is ++ [kk]) d2).isSome = true) : d2 = d := by
  rcases p.slots i with ⟨e1, _⟩ | ⟨d', A, e1, e2, e3, e4, _⟩ | ⟨e1, _⟩
  · rw [h2, h1] at e1; cases e1; rfl
  · rw [h1] at e1; cases e1
    rw [h2] at e3; cases e3
    cases is with
    | nil =>
      simp only [getAt, Option.some.injEq] at g
      subst g
      simp [getAt, D.frz] at s
    | cons j is =>
      cases d with
      | lst o ys => simp [getAt, D.frz] at s
      | _ => simp [getAt] at g
  · rw [h2] at e1; cases e1
theorem snd_pvS (hK : X.K = w.K) (hR : PE X eR (tPv S h w W i path)) (hP : PE X eP (tEv S h w W pk)) (hs : noSlc eP = true) : PE X (.Subscript eR eP pos) (tPv S h w W i (path ++ [pk])) := by
  refine PE.of (pe_ix ix_seq hR hP (plain_ix hs)) fun σ H Q ⟨F, ρ, As, pr, q⟩ => ?_
  rw [evalP_snoc] at q
  refine ⟨F, ρ, As, pr, q.bind0 fun is ρ1 v F1 H1 As1 C1 e1 p1 k1 q1 => ?_⟩
  have hC := k1.1
  subst hC
  cases c : okL i is ρ1 with
  | false => rw [c] at q1; exact q1.elim
  | true =>
    rw [c] at q1
    obtain ⟨a, ws, xs, rfl, ha, hl, d, hd, hg⟩ := pv_list p1.pre k1 c
    refine ⟨F1, ρ1, As1, p1.pre, Fin.bind p1 q1 fun r ρ2 u F2 H2 As2 C2 e2 p2 p12 k2 q2 => ?_⟩
    cases e3 : r.int? with
    | none => rw [e3] at q2; exact q2.elim
    | some kk =>
      rw [e3] at q2
      simp only at q2
      cases c2 : okAt i (is ++ [kk]) ρ2 with
      | false => rw [c2] at q2; exact q2.elim
      | true =>
        rw [c2] at q2
        have hu := RepR.intP k2 e3
        subst hu
        obtain ⟨d2, hd2, hg2⟩ := okAt_at c2
        have ed := pv_same p12 hd hg hd2 hg2
        subst ed
        obtain ⟨n, hn, hnl⟩ := last_at hg hg2
        obtain ⟨_, d', v0, g1, g2, g3, g4⟩ := k1
        have haw := p12.sH a _ ha
        have hnw : n < ws.length := by omega
        have hat : atI ws kk = some ws[n] := by unfold atI; rw [hl, ← ixN_eq, hn]; simp [hnw]
        rw [hK]
        refine .inl ⟨a, ws, kk, ws[n], rfl, rfl, .of haw, hat, ?_⟩
        exact q2 _ F2 H2 As2 [] (p2.weak (by simp)) ⟨rfl, d2, v0, hd2, g2, hg2, (g4.mono p12.sH).snoc rfl haw hat⟩
/-- a kept value behind an evaluation -/
theorem FinS.kept2 {st : Nat → Prop} {σ : L2.St} {F H : Hp} {ρ : Env} {As : List (List Addr)} {Dn : Ends} {kk : D → Env → SRes} {Q1 : VK} {F1 H1 : Hp} {ρ1 : Env} {As1 : List (List Addr)} {C1 : List Addr} (pr : Pre w F H σ ρ As) (p1 : Post w σ F H ρ As F1 H1 ρ1 As1 C1) (q : FinS w W st σ F H ρ As (((evalE S h a ρ1).bind settle).toS kk) Dn)
    (go : ∀ d ρ2 v F2 H2 As2 C, Post w σ F H ρ As F2 H2 ρ2 As2 C → Post w σ F1 H1 ρ1 As1 F2 H2 ρ2 As2 C → Rep w F2 H2 v d C → FinS w W st σ F H ρ As (kk d ρ2) Dn → Q1 v H2) : tEv S h w W a σ H1 Q1 := by
  have q' : FinS w W st σ F H ρ As ((evalE S h a ρ1).toS fun r ρ => (settle r ρ).toS kk) Dn := by
    cases e : evalE S h a ρ1 <;> rw [e] at q <;> exact q
  refine ⟨F1, ρ1, As1, p1.pre, FinS.ofE2 pr p1 q' fun r ρ2 v F2 H2 As2 C2 e1 p2 p12 k1 q1 => ?_⟩
  cases e2 : settle r ρ2 with
  | bad => rw [e2] at q1; exact q1.elim
  | exc c xs ρ' => exact absurd e2 (settle_ne _ _ _)
  | ok d ρ3 =>
    rw [e2] at q1
    obtain ⟨F3, As3, t, k3⟩ := settle_ok p2.pre k1 e2
    exact go d ρ3 v F3 H2 As3 C2 ((p2.trans t).weak fun a => by simp only [List.count_append]; omega) ((p12.trans t).weak fun a => by simp) k3 q1
theorem app_shape {d : D} : ∀ x y, appItem d x = some y → ∃ xs ys, x = .lst true xs ∧ y = .lst true ys := by
  intro x y e
  unfold appItem at e
  split at e
  · split at e
    · simp only [Option.some.injEq] at e; subst e; exact ⟨_, _, rfl, rfl⟩
    · cases e
  · cases e
theorem set_shape {j : Int} {d : D} : ∀ x y, setItem j d x = some y → ∃ xs ys, x = .lst true xs ∧ y = .lst true ys := by
  intro x y e
  unfold setItem at e
  split at e
  · simp only [Option.map_eq_some_iff] at e
    obtain ⟨n, _, rfl⟩ := e
    exact ⟨_, _, rfl, rfl⟩
  · cases e
theorem updAt_at {f : D → Option D} {ρ ρ' : Env} (e : updAt i f ρ = some ρ') : ∃ d d', ρ[i]? = some (some d) ∧ f d = some d' ∧ ρ' = ρ.set i (some d') := by
  unfold updAt at e
  split at e
  · rename_i d hd
    simp only [Option.map_eq_some_iff] at e
    obtain ⟨d', e1, e2⟩ := e
    exact ⟨d, d', hd, e1, e2.symm⟩
  · cases e
theorem snd_app (hw : h = false → w.hx = none) (hK : X.K = w.K) (hR : PE X eR (tPv S h w W i path)) (he : PE X e (tEv S h w W a)) (n1 : noStar e = true) (h1 : noSup eR = true) (h4 : (apos.endLine == p.line) = true) :
    PS X (.Expr (.Call (.Attribute eR "append" apos) [e] [] p) pos) (tSv S h w W (.app i path a)) := by
  have few : ((backTo p (starEach [e] X.env)).all (fun x => !x.1) && (backToKw p (keywordEach [] X.env)).all (fun x => x.1.isSome) && decide ([e].length + ([] : List Keyword).length + (if ([] : List Keyword).isEmpty then 0 else 1) < 30)) = true := by
    rw [all_plain (by simp [n1])]; rfl
  have hE := pe_bm (r := rAppend) PySem.F.plainAttrs_list PySem.F.slot_list_append PySem.F.type_list_append mt_append hR (pa_cons he pa_nil (star_cons n1)) (ab_of h1) few h4 (star_cons n1) rfl
  refine PS.of (ps_expr hE (sw_no rfl)) fun Dn σ H ⟨F, ρ, As, pr, q⟩ => ?_
  rw [evalS] at q
  cases h with
  | true => exact q.elim
  | false =>
  simp only [Bool.false_eq_true, if_false] at q
  refine ⟨F, ρ, As, pr, FinS.ofE (rp := rpP σ i) pr q fun is ρ1 v F1 H1 As1 C1 e1 p1 k1 q1 => ?_⟩
  have hC := k1.1
  subst hC
  cases c : okL i is ρ1 with
  | false => rw [c] at q1; exact q1.elim
  | true =>
    rw [c] at q1
    obtain ⟨a0, ws0, xs0, rfl, ha, hl, d, hd, hg⟩ := pv_list p1.pre k1 c
    refine ⟨.inl ⟨rfl, _, .of ha⟩, FinS.kept2 pr p1 q1 fun dv ρ2 y F2 H2 As2 C p2 p12 k2 q2 => ?_⟩
    cases eu : updAt i (atPath (appItem dv) is) ρ2 with
    | none => rw [eu] at q2; exact q2.elim
    | some ρ3 =>
      rw [eu] at q2
      obtain ⟨d0, d1, u1, u2, rfl⟩ := updAt_at eu
      have sp := Post.spost (st := fun j => j ∈ stores (.app i path a)) pr p2
      obtain ⟨v0, b, ws, xs, ys, B, g1, g2, g3, g4, g5, g6, g7, g8⟩ := upd_ok app_shape (hw rfl) sp (by simp [stores]) u1 u2 k2
      obtain ⟨_, d', v0', r1, r2, r3, r4⟩ := k1
      rw [g1] at r2; cases r2
      have eb := Reach.det (r4.mono p12.sH) g2
      cases eb
      simp only [appItem] at g5
      split at g5
      · rename_i hz
        simp only [Option.some.injEq, D.lst.injEq, true_and] at g5
        subst g5
        obtain ⟨As3, fin⟩ := g8 (ws ++ [y]) (B ++ C) (fun H' hc => (g4.mono (Same.refl _) fun b hb => hc b fun e => by subst e; omega).app (k2.mono (Same.refl _) fun b hb => hc b fun e => by subst e; omega)) (fun b => by rw [List.count_append]; omega)
        exact ⟨a0, ws, y, rfl, rfl, g3, by rw [g4.len]; exact hz, q2 σ F2 _ As3 fin⟩
      · cases g5
theorem snd_sset (hw : h = false → w.hx = none) (hK : X.K = w.K) (hR : PE X eR (tPv S h w W i path)) (hP : PE X eP (tEv S h w W pk)) (he : PE X e (tEv S h w W a)) (hs : noSlc eP = true) (h1 : noLc e = true) (h2 : noTup e = true) :
    PS X (.Assign [.Subscript eR eP p] e pos) (tSv S h w W (.sset i (path ++ [pk]) a)) := by
  have pg : PG X (.Subscript eR eP p) (gSub (tPv S h w W i path) (tEv S h w W pk) rSetL) := pg_sub hR hP set_list fun v => by
    cases eP <;> first | rfl | cases hs
  refine PS.of (ps_asg he pg (swS_no h1) (sws_no h2) rfl) fun Dn σ H ⟨F, ρ, As, pr, q⟩ => ?_
  rw [evalS] at q
  cases h with
  | true => exact q.elim
  | false =>
  simp only [Bool.false_eq_true, if_false] at q
  refine FinS.kept pr q fun dv ρ0 y F0 H0 As0 C p0 k0 q0 => ?_
  have q0' : FinS w W (fun j => j ∈ stores (.sset i (path ++ [pk]) a)) σ F H ρ As ((evalP S false i path [] ρ0).toS fun is ρ => if okL i is ρ then (evalE S false pk ρ).toS fun r ρ => match r.int? with
      | some k => if okAt i (is ++ [k]) ρ then (updAt i (atPath (setItem k dv) is) ρ).map fun ρ => (.nx, ρ) else none
      | none => none
      else none) Dn := by
    rw [evalP_snoc] at q0
    cases e1 : evalP S false i path [] ρ0 with
    | bad => rw [e1] at q0; exact q0
    | exc c xs ρ' => rw [e1] at q0; exact q0
    | ok is ρ1 =>
      rw [e1] at q0
      simp only [Res.bind_ok, Res.toS_ok] at q0 ⊢
      cases c : okL i is ρ1 with
      | false => rw [c] at q0; exact q0
      | true =>
        rw [c] at q0
        simp only [if_true] at q0 ⊢
        cases e2 : evalE S false pk ρ1 with
        | bad => rw [e2] at q0; exact q0
        | exc c xs ρ' => rw [e2] at q0; exact q0
        | ok r ρ2 =>
          rw [e2] at q0
          simp only [Res.bind_ok, Res.toS_ok] at q0 ⊢
          cases e3 : r.int? with
          | none => rw [e3] at q0; exact q0
          | some kk =>
            rw [e3] at q0
            simp only at q0 ⊢
            cases c2 : okAt i (is ++ [kk]) ρ2 with
            | false => rw [c2] at q0; exact q0
            | true =>
              rw [c2] at q0
              simpa using q0
  refine ⟨F0, ρ0, As0, p0.pre, FinS.ofE2 (rp := rpP σ i) pr p0 q0' fun is ρ1 v F1 H1 As1 C1 e1 p1 p01 k1 q1 => ?_⟩
  have hC := k1.1
  subst hC
  cases c : okL i is ρ1 with
  | false => rw [c] at q1; exact q1.elim
  | true =>
    rw [c] at q1
    simp only [if_true] at q1
    obtain ⟨a0, ws0, xs0, rfl, ha, hl, d, hd, hg⟩ := pv_list p1.pre k1 c
    refine ⟨F1, ρ1, As1, p1.pre, FinS.ofE2 (rp := rpR w) pr p1 q1 fun r ρ2 u F2 H2 As2 C2 e2 p2 p12 k2 q2 => ?_⟩
    cases e3 : r.int? with
    | none => rw [e3] at q2; exact q2.elim
    | some kk =>
      rw [e3] at q2
      simp only at q2
      cases c2 : okAt i (is ++ [kk]) ρ2 with
      | false => rw [c2] at q2; exact q2.elim
      | true =>
        rw [c2] at q2
        simp only [if_true] at q2
        have hu := RepR.intP k2 e3
        subst hu
        cases eu : updAt i (atPath (setItem kk dv) is) ρ2 with
        | none => rw [eu] at q2; exact q2.elim
        | some ρ3 =>
          rw [eu] at q2
          obtain ⟨d0, d1, u1, u2, rfl⟩ := updAt_at eu
          have kv : Rep w F2 H2 y dv C := Rep.up (Rep.up k0 p01.lift) p12.lift
          have sp := Post.spost (st := fun j => j ∈ stores (.sset i (path ++ [pk]) a)) pr (p2.weak (C' := C) fun b => by simp only [List.count_append]; omega)
          obtain ⟨v0, b, ws, xs, ys, B, g1, g2, g3, g4, g5, g6, g7, g8⟩ := upd_ok set_shape (hw rfl) sp (by simp [stores]) u1 u2 kv
          obtain ⟨_, d', v0', r1, r2, r3, r4⟩ := k1
          rw [g1] at r2; cases r2
          have eb := Reach.det (r4.mono p12.sH) g2
          cases eb
          simp only [setItem, Option.map_eq_some_iff, D.lst.injEq, true_and] at g5
          obtain ⟨n, hn, rfl⟩ := g5
          have hnl : n < xs.length := by
            unfold ixD at hn
            split at hn
            · split at hn
              · simp only [Option.some.injEq] at hn; omega
              · cases hn
            · split at hn
              · simp only [Option.some.injEq] at hn; omega
              · cases hn
          obtain ⟨x0, hx0⟩ : ∃ x0, xs[n]? = some x0 := ⟨xs[n], List.getElem?_eq_getElem hnl⟩
          obtain ⟨z, B1, A', s1, s2, s3, s4⟩ := g4.set hx0 kv
          obtain ⟨As3, fin⟩ := g8 (ws.set n y) A' (fun H' hc => s3.mono (Same.refl _) fun b hb => hc b fun e => by
            subst e
            have := s4 b
            omega) (fun b => by have := s4 b; omega)
          exact ⟨a0, ws, kk, n, rfl, rfl, g3, by rw [← ixN_eq, g4.len]; exact hn, q2 σ F2 _ As3 fin⟩
end
end SL
set_option Elab.async false
set_option linter.all false
set_option maxRecDepth 100000
set_option maxHeartbeats 1000000
/-! SLRz: own exceptions made and raised. -/
namespace SL
open PySem L2

/-- the rest of an exception's __init__: self.f = p, one after another, from the k-th -/
def chkXi (N : List Str) (sc : Scope) : List Stmt → List Str → Nat → Bool
  | [], [], _ => true
  | .Assign [.Attribute (.Name s q1) f q2] (.Name p q3) q4 :: sts, g :: gs, k => decide (N[0]? = some s) && decide (N[k + 1]? = some p) && decide (f = g) && decide (sc.names.lookup s = some .local) && decide (sc.names.lookup p = some .local) &&
    decide ((s == ("__debug__" : Str)) = false) && decide ((s == ("__classdict__" : Str)) = false) && decide ((p == ("__debug__" : Str)) = false) && decide ((p == ("__classdict__" : Str)) = false) && chkXi N sc sts gs (k + 1)
  | _, _, _ => false
theorem ost_stmt {X : Cx} {s f pn : Str} {p1 p2 p3 p4 : Pos} {k : Nat} (h0 : X.N[0]? = some s) (h1 : X.N[k + 1]? = some pn) (v0 : X.env.scope.names.lookup s = some .local) (v1 : X.env.scope.names.lookup pn = some .local)
    (d0 : (s == ("__debug__" : Str)) = false) (c0 : (s == ("__classdict__" : Str)) = false) (d1 : (pn == ("__debug__" : Str)) = false) (c1 : (pn == ("__classdict__" : Str)) = false) :
    PS X (.Assign [.Attribute (.Name s p1) f p2] (.Name pn p3) p4) (tOst X.K f (tVar 0) (tVar (k + 1))) :=
  ps_ost (pe_var h0 (.inl v0) d0 c0) (pe_var h1 (.inl v1) d1 c1) (sw_no rfl)
def tXiR (K : PySem.W.Frag) (C : Addr) (gs : List Str) (k : Nat) : TS := fun Dn σ H => ∃ (a dx : Addr) (fs : List (Str × V)) (ys : List V), σ[0]? = some (some (.ref a)) ∧ ys.length = gs.length ∧ (∀ j y, ys[j]? = some y → σ[k + 1 + j]? = some (some y)) ∧
  OexC K C ∧ (∀ g ∈ gs, PySem.W.findIn K (.ref C) g = some none) ∧ H a = some (exo a C (some dx)) ∧ H dx = some (exd dx fs) ∧ a ≠ dx ∧ fs.length + gs.length ≤ 900 ∧ Dn.nx σ (upd H dx (exd dx ((gs.zip ys).reverse ++ fs)))
theorem xi_rest {X : Cx} {C : Addr} : ∀ {sts : List Stmt} {gs : List Str} {k : Nat}, chkXi X.N X.env.scope sts gs k = true → PSs X sts (tXiR X.K C gs k)
  | [], [], k, _ => PSs.of pss_nil fun Dn σ H ⟨a, dx, fs, ys, h0, hl, hy, hC, hg, ha, hd, ne, hz, q⟩ => by
    have e : upd H dx (exd dx fs) = H := by
      funext b
      by_cases e : b = dx
      · subst e; rw [upd_same, hd]
      · rw [upd_ne e]
    have e2 : (([] : List Str).zip ys).reverse ++ fs = fs := by simp
    rw [e2, e] at q
    exact q
  | st :: sts, gs, k, h => by
    cases gs with
    | nil =>
      unfold chkXi at h
      split at h <;> first | (rename_i e1 e2; cases e1; done) | (rename_i e1 e2; cases e2; done) | (cases h; done)
    | cons g gs =>
      unfold chkXi at h
      split at h
      · rename_i e1 e2; cases e1
      · rename_i k s p1 f p2 pn p3 p4 sts' g' gs' e1 e2
        cases e1
        cases e2
        simp only [Bool.and_eq_true, decide_eq_true_eq] at h
        obtain ⟨⟨⟨⟨⟨⟨⟨⟨⟨a1, a2⟩, a3⟩, a4⟩, a5⟩, a6⟩, a7⟩, a8⟩, a9⟩, a10⟩ := h
        subst a3
        refine PSs.of (pss_cons (ost_stmt a1 a2 a4 a5 a6 a7 a8 a9) (xi_rest (C := C) a10)) fun Dn σ H ⟨a, dx, fs, ys, h0, hl, hy, hC, hg, ha, hd, ne, hz, q⟩ => ?_
        cases ys with
        | nil => simp at hl
        | cons y ys =>
          have hk := hy 0 y rfl
          refine ⟨y, by simpa using hk, .ref a, h0, a, C, rfl, hC, hg _ List.mem_cons_self, .inr ⟨dx, fs, ha, hd, by simp only [List.length_cons] at hz; omega, ?_⟩⟩
          refine ⟨a, dx, (f, y) :: fs, ys, h0, by simpa using hl, fun j z hj => ?_, hC, fun g' hg' => hg g' (List.mem_cons_of_mem _ hg'), by rw [upd_ne ne]; exact ha, upd_same, ne, by simp only [List.length_cons] at hz ⊢; omega, ?_⟩
          · have := hy (j + 1) z (by simpa using hj)
            have e7 : ∀ n : Nat, n + 1 + 1 + j = n + 1 + (j + 1) := fun n => by omega
            rw [e7]
            exact this
          · have e : upd (upd H dx (exd dx ((f, y) :: fs))) dx (exd dx ((gs.zip ys).reverse ++ (f, y) :: fs)) = upd H dx (exd dx (((f :: gs).zip (y :: ys)).reverse ++ fs)) := by
              funext b
              by_cases e : b = dx
              · subst e; rw [upd_same, upd_same]; simp
              · rw [upd_ne e, upd_ne e, upd_ne e]
            rw [e]; exact q
      · cases h
theorem xi_fn {X : Cx} {C : Addr} {sts : List Stmt} {g : Str} {gs : List Str} (h : chkXi X.N X.env.scope sts (g :: gs) 0 = true) {vs : List V} {H : Hp} {Q : VK} {E : XK} (hsp : spX X.K C (g :: gs) vs H Q E) (hN : X.N.length = vs.length) :
    ∃ t, PSs X sts t ∧ t { nx := fun _ H' => Q .non H', rt := Q } (L2.start X.N vs) H := by
  obtain ⟨a, ys, rfl, hl, hC, hg, hz, ha, q⟩ := hsp
  cases sts with
  | nil => unfold chkXi at h; cases h
  | cons st sts =>
    unfold chkXi at h
    split at h
    · rename_i e1 e2; cases e1
    · rename_i k' s p1 f p2 pn p3 p4 sts' g' gs' e1 e2
      cases e1
      cases e2
      simp only [Bool.and_eq_true, decide_eq_true_eq] at h
      obtain ⟨⟨⟨⟨⟨⟨⟨⟨⟨a1, a2⟩, a3⟩, a4⟩, a5⟩, a6⟩, a7⟩, a8⟩, a9⟩, a10⟩ := h
      subst a3
      refine ⟨_, pss_cons (ost_stmt a1 a2 a4 a5 a6 a7 a8 a9) (xi_rest (C := C) a10), ?_⟩
      cases ys with
      | nil => simp at hl
      | cons y ys =>
        have hst : ∀ j (v : V), (V.ref a :: y :: ys)[j]? = some v → (L2.start X.N (V.ref a :: y :: ys))[j]? = some (some v) := fun j v hj => by
          unfold L2.start
          have hjl : j < (V.ref a :: y :: ys).length := (List.getElem?_eq_some_iff.mp hj).1
          rw [List.getElem?_append_left (by simpa using hjl), List.getElem?_map, hj]; rfl
        refine ⟨y, hst 1 y rfl, .ref a, hst 0 _ rfl, a, C, rfl, hC, hg _ List.mem_cons_self, .inl ⟨ha, fun dx hdx ne => ?_⟩⟩
        refine ⟨a, dx, [(f, y)], ys, hst 0 _ rfl, by simpa using hl, fun j z hj => ?_, hC, fun g' hg' => hg g' (List.mem_cons_of_mem _ hg'), upd_same, by rw [upd_ne ne]; exact upd_same, fun e => ne e.symm, by simp only [List.length_cons] at hz ⊢; simp; omega, ?_⟩
        · have := hst (j + 2) z (by simpa using hj)
          rw [show 0 + 1 + 1 + j = j + 2 by omega]
          exact this
        · have e : upd (upd (upd H dx (exd dx [(f, y)])) a (exo a C (some dx))) dx (exd dx ((gs.zip ys).reverse ++ [(f, y)])) = upd (upd H dx (exd dx ((f :: gs).zip (y :: ys)).reverse)) a (exo a C (some dx)) := by
            funext b
            by_cases e : b = dx
            · subst e; rw [upd_same, upd_ne ne, upd_same]; simp
            · rw [upd_ne e]
              by_cases e2 : b = a
              · subst e2; rw [upd_same, upd_same]
              · rw [upd_ne e2, upd_ne e2, upd_ne e, upd_ne e]
          rw [e]; exact q dx hdx ne
    · cases h
/-- C(e, ..): a fresh dict that bears the values -/
def tRz (C : Addr) (gs : List Str) (ta : TA) : L2.St → Hp → XK → Prop := fun σ H Q => ta σ H fun vs H1 => vs.length = gs.length ∧ ∀ d, H1 d = none → Q (.ref C) (some d) (upd H1 d (.xd (gs.zip vs).reverse))
section
variable {X : Cx} {x : Str} {C fI : Addr} {k : Nat} {fd : FuncData} {ps gs : List Str} {e : Expr} {es : List Expr} {p pos : Pos} {ta : TA}
theorem pass_no (X : Cx) : Passes (L2N.CX X.prog X.w) X (fun _ _ _ => False) := by
  intro pins σ H st u s' I c
  have z := L2N.XE.of_call (W := fun _ _ _ _ => False) I (fun _ _ _ h => h) c
  obtain ⟨_, _, _, _, _, _, _, _, _, _, _, _, _, _, _, _, w⟩ := z
  exact w.elim
theorem pmk_rz (T : OexC X.K C) (iC : PySem.W.findIn X.K (.ref C) "__init__" = some (some (.ref fI))) (tI : PySem.W.typeIn X.K (.ref fI) = some (.type "function"))
    (F1 : FnOk X.prog X.w X.K X.mg X.base (L2N.CX X.prog X.w) k fI fd ps (spX X.K C gs)) (hr : Room (k + 1) X.A) (hb : Binds X.K fd ps []) (hg : Gl X x) (hm : X.mg x = some (.ref C)) (hgs : ∀ g ∈ gs, PySem.W.findIn X.K (.ref C) g = some none) (hz : gs.length ≤ 800)
    (ha : PA X (e :: es) ta) (hdb : (x == ("__debug__" : Str)) = false) (he : starEach (e :: es) X.env = (false, eval e X.env) :: starEach es X.env) (hpl : (backTo pos (starEach es X.env)).any (·.1) = false) :
    L2N.PMk X (.Call (.Name x p) (e :: es) [] pos) (tRz C gs ta) := by
  intro pins s σ H Q I h
  obtain ⟨nm, q, N, bs, bm, sn, sub, ab, col, dd, k0, k1, k2, k3, k5, hC, hbm⟩ := T.cls
  refine wpAny_Call_Name_kw (ld_glob I hg hm ?_ hdb)
  refine PySem.W.callWith_K (h₀ := X.base) I.ok.mod.kin T.kC (thn (ha.run pos pins s σ H _ I h) fun us s1 z => ?_) he hpl
  obtain ⟨vs, H1, I1, r1, hl, q1⟩ := z
  refine ⟨I1.kIn, ?_⟩
  show wpAny _ _ (call (.ref C) us) _ _ _
  obtain ⟨hp, g, dr, tk, os⟩ := s1
  have up : hp.objs.size ≤ hp.objs.size + 1 := Nat.le_succ _
  have free : H1 (hp.objs.size + 1) = none := I1.hok.fresh up
  have kk : ∀ b o, hp.get? b = some o → ((hp.push (PySem.W.kdv_tup us)).push (PySem.HandSPX.excO C hp.objs.size)).get? b = some o := fun b o w => Heap.get?_push_of_some _ (Heap.get?_push_of_some _ w)
  have there : ((hp.push (PySem.W.kdv_tup us)).push (PySem.HandSPX.excO C hp.objs.size)).get? (hp.objs.size + 1) = some (PySem.HandSPX.excO C hp.objs.size) := by heap_get
  have I2 : Inv X pins σ (upd H1 (hp.objs.size + 1) (exo (hp.objs.size + 1) C none)) ⟨(hp.push (PySem.W.kdv_tup us)).push (PySem.HandSPX.excO C hp.objs.size), g, dr, tk, os⟩ := I1.laid kk up (exo_ok there)
  have rr : Vals (V.ref (hp.objs.size + 1) :: vs) (Value.ref (hp.objs.size + 1) :: us) := .cons rfl r1
  have hq : spX X.K C gs (V.ref (hp.objs.size + 1) :: vs) (upd H1 (hp.objs.size + 1) (exo (hp.objs.size + 1) C none))
      (fun v H2 => v = .non ∧ ∃ (d : Addr) (fs : List (Str × V)), H2 (hp.objs.size + 1) = some (exo (hp.objs.size + 1) C (some d)) ∧ H2 d = some (exd d fs) ∧ H1 d = none ∧ Q (.ref C) (some d) (upd (del H2 (hp.objs.size + 1)) d (.xd fs))) (fun _ _ _ => False) := by
    refine ⟨_, vs, rfl, hl, T, hgs, hz, upd_same, fun dx hdx ne => ⟨rfl, dx, _, upd_same, by rw [upd_ne ne]; exact upd_same, ?_, ?_⟩⟩
    · rw [upd_ne ne] at hdx; exact hdx
    · rw [upd_ne ne] at hdx
      have e1 : upd (del (upd (upd (upd H1 (hp.objs.size + 1) (exo (hp.objs.size + 1) C none)) dx (exd dx (gs.zip vs).reverse)) (hp.objs.size + 1) (exo (hp.objs.size + 1) C (some dx))) (hp.objs.size + 1)) dx (.xd (gs.zip vs).reverse) = upd H1 dx (.xd (gs.zip vs).reverse) := by
        funext b
        by_cases e : b = dx
        · subst e; rw [upd_same, upd_same]
        · rw [upd_ne e, upd_ne e]
          by_cases e2 : b = hp.objs.size + 1
          · subst e2; rw [del_same, free]
          · rw [del_ne e2, upd_ne e2, upd_ne e, upd_ne e2]
      rw [e1]; exact q1 dx hdx
  have hln : (Value.ref (hp.objs.size + 1) :: us).length = ps.length := by rw [← rr.length]; exact F1.len _ _ _ _ hq
  have bb := hb _ (Value.ref (hp.objs.size + 1) :: us) I2.kIn (by simpa using hln)
  rw [List.append_nil] at bb
  have hus : us.length ≤ sizeLine := by rw [← Paired.length r1, hl, sizeLine_eq]; omega
  refine wpAny_call (PySem.HandSPX.call_own F.excBase_ValueError (fun Y => PySem.HandSPX.refsVE_contains Y bm hbm) (I1.kIn _ _ hC) (PySem.W.looks_findIn I1.kIn iC) (fun self => PySem.W.bind_fn I1.kIn self tI) hus
    (codeAny_mono (F1.run _ X.stack _ _ ⟨_, []⟩ _ _ _ (fun _ _ _ => False) (hr.make C us []) (I2.env0.make C us []) bb rr hq) fun r s' hq' => ?_))
  cases r with
  | error er => exact (pass_no X) pins σ _ _ er s' I2 hq'
  | ok fl =>
    cases fl with
    | ret u =>
      obtain ⟨v, H2, os2, bare2, un2, hok2, rv, ev, d, fs, ea, ed, hd1, q2⟩ := hq'
      subst ev
      obtain ⟨h2, g2, d2, t2, os'⟩ := s'
      obtain ⟨t0, G, J, kG, ge, hoe, na⟩ := mk_end0 (d2 := d2) (t2 := t2) I1 up kk un2 hok2 os2 bare2 ea ed hd1
      exact ⟨rv, hp.objs.size + 1, _, _, ⟨G, g2, d2, t2, os'⟩, _, .ref C, some d, rfl, J, kG, ge, hoe, ⟨rfl, rfl, fun vs hv => by cases hv; rfl⟩, rfl, rfl, na, rfl, bare2, raises_own T.exC T.tyC, q2⟩
    | next => exact hq'.elim
    | brk => exact hq'.elim
    | cont => exact hq'.elim
end
end SL
set_option Elab.async false
set_option linter.all false
set_option maxRecDepth 100000
set_option maxHeartbeats 1000000
/-! SLTr: raise, self.f = e, try. -/
namespace SL
open PySem L2

theorem RepL.rev {w : Wd} {F H : Hp} {vs : List V} {ds : List D} (r : RepL w F H vs ds []) : RepL w F H vs.reverse ds.reverse [] := by
  induction ds generalizing vs with
  | nil => cases r; exact .nil
  | cons d ds ih =>
    obtain ⟨v, us, B, C, rfl, k1, k2, hc⟩ := r.uncons
    have e1 : B = [] := List.eq_nil_iff_forall_not_mem.mpr fun a ha => by
      have h1 := List.count_pos_iff.mpr ha; have h2 := hc a; simp at h2; omega
    have e2 : C = [] := List.eq_nil_iff_forall_not_mem.mpr fun a ha => by
      have h1 := List.count_pos_iff.mpr ha; have h2 := hc a; simp at h2; omega
    subst e1; subst e2
    have := (ih k2).app k1
    simpa using this
theorem frzL_rev : ∀ ds : List D, D.frzL ds.reverse = (D.frzL ds).reverse := by
  have app : ∀ (a b : List D), D.frzL (a ++ b) = D.frzL a ++ D.frzL b := by
    intro a b
    induction a with
    | nil => rfl
    | cons d ds ih => simp [D.frzL, ih]
  intro ds
  induction ds with
  | nil => rfl
  | cons d ds ih => rw [List.reverse_cons, app, ih]; simp [D.frzL]
theorem zip_rev {α β : Type} : ∀ {xs : List α} {ys : List β}, xs.length = ys.length → (xs.zip ys).reverse = xs.reverse.zip ys.reverse := by
  intro xs
  induction xs with
  | nil => intro ys h; simp
  | cons x xs ih =>
    intro ys h
    cases ys with
    | nil => simp at h
    | cons y ys =>
      have hl : xs.length = ys.length := by simpa using h
      rw [List.zip_cons_cons, List.reverse_cons, List.reverse_cons, List.reverse_cons, ih hl, List.zip_append (by simp [hl])]
      simp
section
variable {T : NT} {W0 : World0} {w0 w : Wd} {fa : Nat → Addr} {cv : Nat → Value} {S : Sem} {h : Bool} {k : Nat} {W : WX} {X : Cx} {pos p p2 apos : Pos}
variable {s : Sx} {ss : List Ex} {st : Stmt} {sts : List Stmt} {e : Expr} {es : List Expr} {a : Ex} {x : Str} {i : Nat}

theorem snd_raise (g : XS T W0 w0 w fa cv S false k W X) {c : Nat} (hc : T.rc c = true) (hk : 1 ≤ k) (hg : Gl X (T.cl c)) (ha : PA X (e :: es) (tKv S false w W ss)) (n1 : noStar e = true) (n2 : es.all noStar = true) :
    PS X (.Raise (some (.Call (.Name (T.cl c) p) (e :: es) [] p2)) none pos) (tSv S false w W (.raise_ c ss)) := by
  obtain ⟨⟨fI, fd, ps, iC, tI, hb, F⟩, hcl, hno, ⟨m1, m2⟩, hz, hl⟩ := g.f.rz c hc
  have Kx := g.f.K
  rw [← Kx] at iC tI hb F hcl hno
  rw [← g.f.mg] at m1 F
  rw [← g.f.prog, ← g.f.wd, ← g.f.base] at F
  have mk := pmk_rz (gs := (w0.fn c).reverse) (p := p) (pos := p2) hcl iC tI F ((g.f.room rfl).1.mono (by omega)) hb hg m1 (fun y hy => hno y (by simpa using hy)) (by simpa using hz) ha m2 (star_cons n1) (star_any n2)
  refine PS.of (L2N.ps_raise (g.f.room rfl).2 g.f.tk mk) fun Dn σ H ⟨F', ρ, As, pr, q⟩ => ?_
  rw [evalS] at q
  simp only [Bool.false_eq_true, if_false] at q
  refine ⟨F', ρ, As, pr, FinS.ofE (rp := rpDs w) pr q fun ds ρ2 vs F2 H2 As2 C2 e1 p1 k1 q1 => ?_⟩
  split at q1
  · rename_i hd
    have n := RepL.len (w := w) k1
    refine ⟨by rw [List.length_reverse]; omega, fun d hdn => ?_⟩
    obtain ⟨sh, lf⟩ := p1.shed (B := C2) (C' := []) (by simp)
    have fz : RepL w (ov F2 H2 C2) H2 vs (D.frzL ds) [] := RepL.frz (w := w) k1 lf.sF fun a ha => by unfold ov; rw [if_pos ha]
    obtain ⟨al, la⟩ := sh.allocF (o := .xd ((w0.fn c).zip vs.reverse)) hdn
    have e2 : ((w0.fn c).reverse.zip vs).reverse = (w0.fn c).zip vs.reverse := by
      rw [zip_rev (by rw [List.length_reverse]; omega), List.reverse_reverse]
    rw [e2, ← g.f.like.ca]
    refine q1 (some d) σ _ _ As2 (Post.spost pr al) ⟨vs.reverse, ?_, ?_, ?_⟩
    · rw [g.f.like.fn]; exact upd_same
    · rw [g.f.like.fn, List.length_reverse]; omega
    · rw [frzL_rev]
      exact (fz.mono la.sF (by simp)).rev
  · exact q1.elim

/-! ### self.f = e -/
theorem putF_set {f : Str} {y : V} : ∀ {ns : List Str} {ws : List V} {k : Nat}, ns.Nodup → ns[k]? = some f → k < ws.length → putF f y (ns.zip ws) = ns.zip (ws.set k y)
  | [], ws, k, _, h, _ => by simp at h
  | n :: ns, [], k, _, _, h => by simp at h
  | n :: ns, u :: ws, 0, nd, h, _ => by
    simp at h; subst h
    simp [putF]
  | n :: ns, u :: ws, k + 1, nd, h, hl => by
    have hm : f ∈ ns := List.mem_of_getElem? (by simpa using h)
    have ne : n ≠ f := fun e => (List.nodup_cons.mp nd).1 (e ▸ hm)
    have ih := putF_set (y := y) (List.nodup_cons.mp nd).2 (by simpa using h) (by simpa using hl)
    simp only [List.zip_cons_cons, List.set_cons_succ, putF]
    first
    | (rw [if_neg (Ne.symm ne), ih])
    | (rw [if_neg ne, ih])
    | (simp [ne, Ne.symm ne, ih])
theorem putF_new {f : Str} {y : V} : ∀ {ns : List Str} {ws : List V}, ns.Nodup → ns[ws.length]? = some f → putF f y (ns.zip ws) = ns.zip (ws ++ [y])
  | [], ws, _, h => by simp at h
  | n :: ns, [], _, h => by
    simp at h; subst h
    simp [putF]
  | n :: ns, u :: ws, nd, h => by
    have hm : f ∈ ns := List.mem_of_getElem? (by simpa using h)
    have ne : n ≠ f := fun e => (List.nodup_cons.mp nd).1 (e ▸ hm)
    have ih := putF_new (y := y) (List.nodup_cons.mp nd).2 (by simpa using h)
    simp only [List.zip_cons_cons, List.cons_append, putF]
    first
    | (rw [if_neg (Ne.symm ne), ih])
    | (rw [if_neg ne, ih])
    | (simp [ne, Ne.symm ne, ih])
theorem snd_sfld (g : XS T W0 w0 w fa cv S h k W X) {f : Nat} (hN : X.N[0]? = some x) (hv : Vis X.env.scope x) (hd : (x == ("__debug__" : Str)) = false) (hcd : (x == ("__classdict__" : Str)) = false) (he : PE X e (tEv S h w W a)) (hl : noLc e = true) :
    PS X (.Assign [.Attribute (.Name x p) (T.at_ f) p2] e pos) (tSv S h w W (.sfld f a)) := by
  refine PS.of (ps_fld (pe_var hN hv hd hcd) he (sw_no hl)) fun Dn σ H ⟨F, ρ, As, pr, q⟩ => ?_
  rw [evalS] at q
  cases h with
  | true => exact q.elim
  | false =>
    simp only [Bool.false_eq_true, if_false] at q
    have hw := g.f.hx rfl
    refine FinS.kept pr q fun d ρ2 v F2 H2 As2 C p1 k1 q1 => ?_
    cases eu : updAt 0 (fldItem S.tab f d) ρ2 with
    | none => rw [eu] at q1; exact q1.elim
    | some ρ3 =>
      rw [eu] at q1
      obtain ⟨d0, d1, u1, u2, rfl⟩ := updAt_at eu
      have sp := Post.spost (st := fun j => j ∈ stores (.sfld f a)) pr p1
      have st0 : (fun j => j ∈ stores (.sfld f a)) 0 := by simp [stores]
      obtain ⟨v0, A, hσ, hA, k0⟩ := sp.pre.env.get u1
      cases d0 with
      | ins o c xs =>
        cases o with
        | false => simp [fldItem] at u2
        | true =>
          simp only [fldItem] at u2
          cases hk : (S.tab.fields c).idxOf? f with
          | none => rw [hk] at u2; cases u2
          | some kk =>
            rw [hk] at u2
            simp only at u2
            obtain ⟨cl, na, hn⟩ := g.f.pr.fld c f kk hk
            have nd := g.f.pr.nd c
            have fl := g.f.pr.fl c
            rw [← g.f.K] at cl na
            cases k0 with
            | @insO b dx _ ws _ _ _ _ B kb lb kw kn =>
              cases kn
              rw [g.f.like.ca, g.f.like.fn] at kb
              rw [g.f.like.fn] at lb
              have uA : C.count b = 0 ∧ B.count b = 0 := by
                have h1 := own_get hA b; have h2 := sp.uni b
                simp only [List.count_cons, List.append_nil, beq_self_eq_true, if_true] at h1
                omega
              have hz : ((w0.fn c).zip ws).length < 1000 := by rw [List.length_zip]; omega
              refine ⟨_, hσ, b, _, dx, _, rfl, kb, cl, na, hz, ?_⟩
              have fin : ∀ (ws' : List V) (ys : List D) (By : List Addr), putF (T.at_ f) v ((w0.fn c).zip ws) = (w0.fn c).zip ws' → ws'.length ≤ (w0.fn c).length → (∀ H', (∀ c, c ≠ b → H' c = H2 c) → RepL w F2 H' ws' ys By) → (∀ x, By.count x ≤ B.count x + C.count x) → d1 = .ins true c ys →
                  Dn.nx σ (upd H2 b (.ins (w0.ca c) dx (putF (T.at_ f) v ((w0.fn c).zip ws)))) := fun ws' ys By e1 e2 e3 e4 e5 => by
                subst e5
                rw [e1]
                have p2 := (sp.give hA st0).poke (a := b) (o := .ins (w0.ca c) dx ((w0.fn c).zip ws')) (by rw [List.count_append, List.count_cons]; simp; omega)
                have rr : Rep w F2 (upd H2 b (.ins (w0.ca c) dx ((w0.fn c).zip ws'))) (.ref b) (.ins true c ys) (b :: (By ++ [])) := .insO (by rw [g.f.like.ca, g.f.like.fn]; exact upd_same) (by rw [g.f.like.fn]; exact e2) (e3 _ fun c hc => upd_ne hc) .nil
                have p3 := p2.set (i := 0) (C' := []) rr (by have := RepL.noX hw rr; simpa [D.noXL] using this) (fun x => by
                  have := e4 x
                  simp only [List.count_cons, List.append_nil, List.count_append, List.count_nil]; omega) st0 (.inl hσ)
                rw [set_eq hσ, List.set_set, List.set_set] at p3
                exact q1 σ F2 _ _ p3
              have keepB : ∀ H', (∀ c, c ≠ b → H' c = H2 c) → RepL w F2 H' ws xs B := fun H' hc => kw.mono (Same.refl _) fun z hz => hc z fun e => by subst e; omega
              have keepC : ∀ H', (∀ c, c ≠ b → H' c = H2 c) → Rep w F2 H' v d C := fun H' hc => k1.mono (Same.refl _) fun z hz => hc z fun e => by subst e; omega
              have hwl := kw.len
              split at u2
              · rename_i hlt
                simp only [Option.some.injEq] at u2
                obtain ⟨x0, hx0⟩ : ∃ x0, xs[kk]? = some x0 := ⟨xs[kk], List.getElem?_eq_getElem hlt⟩
                obtain ⟨z, B1, A', s1, s2, s3, s4⟩ := kw.set hx0 k1
                exact fin (ws.set kk v) (xs.set kk d) A' (putF_set nd hn (by omega)) (by simpa using lb) (fun H' hc => s3.mono (Same.refl _) fun z hz => hc z fun e => by subst e; have := s4 z; omega) (fun x => by have := s4 x; omega) u2.symm
              · split at u2
                · rename_i hlt heq
                  simp only [Option.some.injEq] at u2
                  have hn' : (w0.fn c)[ws.length]? = some (T.at_ f) := by rw [hwl, ← heq]; exact hn
                  have hlen : ws.length < (w0.fn c).length := (List.getElem?_eq_some_iff.mp hn').1
                  exact fin (ws ++ [v]) (xs ++ [d]) (B ++ C) (putF_new nd hn') (by simp; omega) (fun H' hc => (keepB H' hc).app (keepC H' hc)) (fun x => by rw [List.count_append]; omega) u2.symm
                · cases u2
      | _ => simp [fldItem] at u2
end
end SL
set_option Elab.async false
set_option linter.all false
set_option maxRecDepth 100000
set_option maxHeartbeats 1000000
/-! SLTy: try. -/
namespace SL
open PySem L2

/-- while an exception is handled -/
def wx (w : Wd) (a : Addr) (c : Nat) (d : Option Addr) : Wd := { w with hx := some (a, c, d) }
abbrev WF : WX := fun _ _ _ _ => False
section
variable {w w' : Wd} {F H F1 H1 F2 H2 : Hp} {σ σ1 σ2 : L2.St} {ρ ρ1 ρ2 : Env} {As As1 As2 : List (List Addr)} {C : List Addr} {st stS : Nat → Prop} {j : Nat} {W : WX}
theorem EnvR.toW (l : w.Like w') (r : EnvR w F H σ ρ As) : EnvR w' F H σ ρ As := by
  induction r with
  | nil => exact .nil
  | no _ ih => exact .no ih
  | yes k _ ih => exact .yes (RepL.toW l k) ih
theorem EnvR.toW0 (l : w.Like w') (r : EnvR w' F H σ ρ As) (n : ∀ (i : Nat) (d : D), ρ[i]? = some (some d) → d.noX = true) : EnvR w F H σ ρ As := by
  induction r with
  | nil => exact .nil
  | no _ ih => exact .no (ih fun i d h => n (i + 1) d (by simpa using h))
  | yes k _ ih => exact .yes (RepL.toW0 l k (by simp only [D.noXL, Bool.and_true]; exact n 0 _ rfl)) (ih fun i d h => n (i + 1) d (by simpa using h))
theorem EnvR.noX (e : w.hx = none) (r : EnvR w F H σ ρ As) {i : Nat} {d : D} (h : ρ[i]? = some (some d)) : d.noX = true := by
  obtain ⟨v, A, _, _, k⟩ := r.get h
  have := RepL.noX e k
  simpa [D.noXL] using this
theorem like_wx {w0 w : Wd} (l : w0.Like w) {a : Addr} {c : Nat} {d : Option Addr} : w0.Like (wx w a c d) := ⟨l.K, l.ca, l.fn, l.no⟩
theorem like_wx' (hw : w.hx = none) {a : Addr} {c : Nat} {d : Option Addr} : w.Like (wx w a c d) := ⟨rfl, rfl, rfl, hw⟩
theorem NXJ.all (h0 : NXJ 0 ρ) (h1 : NXJ 1 ρ) : ∀ (i : Nat) (d : D), ρ[i]? = some (some d) → d.noX = true := fun i d h => by
  by_cases e : i = 0
  · exact h1 i d (by omega) h
  · exact h0 i d e h
/-- a suite has run: except x -/
theorem suite0 (l : w.Like w') (p1 : SPost w st σ F H ρ As σ1 F1 H1 ρ1 As1 []) (p2 : SPost w' stS σ1 F1 H1 ρ1 As1 σ2 F2 H2 ρ2 As2 C) (hs : ∀ i, stS i → st i) : SPost w st σ F H ρ As σ2 F2 H2 ρ2 As2 C := by
  have nx : ∀ k, NXJ k ρ1 := fun k i d _ h => EnvR.noX l.no p1.env h
  have en := EnvR.toW0 l p2.env ((p2.nox 0 (nx 0)).all (p2.nox 1 (nx 1)))
  exact p1.trans0 ⟨p2.sF, p2.kH, p2.more, p2.same, en, p2.uni, p2.off, p2.old, p2.new, p2.there, fun i hi => p2.keep i fun z => hi (hs i z), p2.nox, fun h => p2.sig fun z => h (hs _ z)⟩
/-- .. except x as n, n at j -/
theorem suiteJ (l : w.Like w') {v : V} {c : Nat} {xs : List D} (p1 : SPost w st σ F H ρ As σ1 F1 H1 ρ1 As1 []) (p2 : SPost w' stS (σ1.set j (some v)) F1 H1 (ρ1.set j (some (.exn c xs))) (As1.set j []) σ2 F2 H2 ρ2 As2 C) (hs : ∀ i, stS i → st i) (hj : st j) (hb : j = 0 → st big) :
    SPost w st σ F H ρ As (σ2.set j none) F2 H2 (ρ2.set j none) (As2.set j []) C := by
  have le1 : ∀ a, own (As1.set j []) a ≤ own As1 a := fun a => by have := own_setL As1 [] j a; simpa using this
  have le2 : ∀ a, own (As2.set j []) a ≤ own As2 a := fun a => by have := own_setL As2 [] j a; simpa using this
  have nx : NXJ j (ρ1.set j (some (.exn c xs))) := fun i d hi h => by
    rw [List.getElem?_set_ne (Ne.symm hi)] at h
    exact EnvR.noX l.no p1.env h
  have nx2 := p2.nox j nx
  have en : EnvR w F2 H2 (σ2.set j none) (ρ2.set j none) (As2.set j []) := EnvR.toW0 l p2.env.del fun i d h => by
    by_cases e : j = i
    · subst e
      by_cases q : j < ρ2.length
      · rw [List.getElem?_set_self q] at h; cases h
      · rw [List.getElem?_eq_none (by simpa using q)] at h; cases h
    · rw [List.getElem?_set_ne e] at h
      exact nx2 i d (Ne.symm e) h
  refine p1.trans0 ⟨p2.sF, fun a o h1 h2 => p2.kH a o h1 (by have := le1 a; omega), p2.more, p2.same, en, fun a => by have := p2.uni a; have := le2 a; omega, fun a h => p2.off a (by have := le2 a; omega), fun a h => ?_, fun a h1 h2 => ?_, fun a h => p2.there a (by have := le2 a; omega), fun i hi => ?_, fun k hk i d hik h => EnvR.noX l.no en h, fun h => ?_⟩
  · rcases p2.old a (by have := le2 a; omega) with z | z
    · exact .inl (by have := le1 a; omega)
    · exact .inr z
  · rcases p2.new a h1 h2 with z | z
    · exact .inl (by have := le1 a; omega)
    · exact .inr z
  · have ne : j ≠ i := fun e => hi (e ▸ hj)
    obtain ⟨h1, h2⟩ := p2.keep i fun z => hi (hs i z)
    rw [List.getElem?_set_ne ne] at h1
    refine ⟨by rw [List.getElem?_set_ne ne]; exact h1, ?_⟩
    unfold KeepR at h2 ⊢
    rw [List.getElem?_set_ne ne, List.getElem?_set_ne ne] at h2
    rw [List.getElem?_set_ne ne, List.getElem?_set_ne ne]
    exact h2
  · have ne : j ≠ 0 := fun e => h (hb e)
    have := p2.sig fun z => h (hs _ z)
    rw [List.getElem?_set_ne ne] at this
    rw [List.getElem?_set_ne ne]
    exact this
end
section
variable {T : NT} {W0 : World0} {w0 w : Wd} {fa : Nat → Addr} {cv : Nat → Value} {S : Sem} {h : Bool} {k : Nat} {W : WX} {X : Cx} {pos p p2 apos : Pos}
variable {x n : Str} {i c : Nat} {sb ss : List Sx} {body suite : List Stmt} {b₀ : Stmt} {np pos' : Pos}

theorem xs_tr (g : XS T W0 w0 w fa cv S false k W X) {W' : WX} {pn : List (Addr × Obj)} {xe : Value → Shared → Prop} (tk : L2N.Takes (X.tr pn xe) W') (po : PassesOwn (model X.prog X.w) X.A X.env xe) : XS T W0 w0 w fa cv S false k W' (X.tr pn xe) where
  f := { pr := g.f.pr, prog := g.f.prog, wd := g.f.wd, mg := g.f.mg, base := g.f.base, K := g.f.K, like := g.f.like, hx := g.f.hx, units := g.f.units, room := g.f.room, hot := (fun z => nomatch z), hxp := (fun a c d e => by rw [g.f.hx rfl] at e; cases e), tk := tk, fn := g.f.fn, fm := g.f.fm, fp := g.f.fp, nw := g.f.nw, rz := g.f.rz }
  stack := g.stack
  frame := g.frame
  nd := g.nd
  po := po
  fnt := g.fnt
  fk := g.fk
theorem takes_no (X : Cx) : L2N.Takes X WF := fun u s' z => by
  obtain ⟨_, _, _, _, _, _, _, _, _, _, _, _, _, _, _, _, q⟩ := z
  exact q.elim
theorem xs_suite (g : XS T W0 w0 w fa cv S false k W X) {a : Addr} {oe : Obj} {c : Nat} {d : Option Addr} {pn : List (Addr × Obj)} (hz : L2N.Zn (.ref (w0.ca c)) d oe) {vs : Array Value} (hv : oe.data = .fields vs) :
    XS T W0 w0 (wx w a c d) fa cv S true k WF (X.suite a ((a, oe) :: pn)) where
  f := { pr := g.f.pr, prog := g.f.prog, wd := g.f.wd, mg := g.f.mg, base := g.f.base, K := g.f.K, like := like_wx g.f.like, hx := (fun z => nomatch z), units := g.f.units, room := (fun z => nomatch z),
         hot := fun _ => ⟨L2H.roomH_mark (g.f.room rfl).1 _, (a, oe), ⟨rfl, vs, hv, hz.2.2 vs hv⟩, List.mem_cons_self⟩,
         hxp := (fun a' c' d' e => by
           have e' : some (a, c, d) = some (a', c', d') := e
           cases e'
           exact ⟨oe, vs, List.mem_cons_self, hz.zc, hv⟩),
         tk := takes_no _, fn := g.f.fn, fm := g.f.fm, fp := g.f.fp, nw := g.f.nw, rz := g.f.rz }
  stack := g.stack
  frame := g.frame
  nd := g.nd
  po := PassesOwn.never
  fnt := g.fnt
  fk := g.fk
/-- the suite, whatever is handled -/
def tsS (S : Sem) (w : Wd) (ss : List Sx) : Addr → Value → Option Addr → TS := fun a cls d Dn σ H => ∃ c, cls = .ref (w.ca c) ∧ tSsv S true (wx w a c d) WF ss Dn σ H
theorem names_of (g : XF T W0 w0 w fa cv S h k W X) (hc : T.oc c = true) (hg : Gl X (T.cl c)) : Names X (T.cl c) (.ref (w0.ca c)) := by
  obtain ⟨m1, m2⟩ := g.pr.own c hc
  exact ⟨hg, m2, .inl (by rw [g.mg]; exact m1)⟩
theorem exn_rep {F H : Hp} {c : Nat} {xs : List D} {d : Option Addr} {a : Addr} (hw : w.hx = none) (r : RepX w F c xs d) : Rep (wx w a c d) F H (.ref a) (.exn c xs) [] := by
  cases d with
  | none =>
    have e : xs = [] := r
    subst e
    exact .exn0 rfl .nil
  | some dd =>
    obtain ⟨ws, h1, h2, h3⟩ := r
    exact .exn rfl h1 h2 ((RepL.toW (like_wx' hw) h3).mono (Same.refl _) (by simp)) .nil
theorem snd_try_as (g : XS T W0 w0 w fa cv S false k W X) (hi : X.N[i]? = some n) (hl : X.env.scope.names.lookup n = some .local) (hc : T.oc c = true) (hg : Gl X (T.cl c))
    (hb : ∀ (W' : WX) (pn : List (Addr × Obj)) (xe : Value → Shared → Prop), XS T W0 w0 w fa cv S false k W' (X.tr pn xe) → PSs (X.tr pn xe) body (tSsv S false w W' sb))
    (hsu : ∀ (w' : Wd) (a : Addr) (pn : List (Addr × Obj)), XS T W0 w0 w' fa cv S true k WF (X.suite a pn) → PSs (X.suite a pn) (b₀ :: suite) (tSsv S true w' WF ss)) :
    PS X (.Try body [.ExceptHandler (some (.Name (T.cl c) np)) (some n) (b₀ :: suite) pos'] [] [] pos) (tSv S false w W (.try_ sb c (some i) ss)) := by
  have hw := g.f.hx rfl
  refine PS.of (L2N.ps_try_as (tb := fun W' => tSsv S false w W' sb) (ts := tsS S w ss) g.stack g.frame g.nd hi hl (names_of g.f hc hg) g.f.tk (fun W' pn xe tk po => hb W' pn xe (xs_tr g tk po)) fun a oe cls d pn hz hv => ?_) ?_
  · refine ⟨fun pins st σ H Dn I q => ?_⟩
    obtain ⟨c', rfl, q⟩ := q
    obtain ⟨vs, hv⟩ := hv
    rw [g.f.like.ca] at hz
    exact (hsu _ a _ (xs_suite g hz hv)).run pins st σ H Dn I q
  · intro Dn σ H ⟨F, ρ, As, pr, q⟩
    rw [evalS] at q
    simp only [Bool.false_eq_true, if_false] at q
    refine ⟨F, ρ, As, pr, ?_⟩
    have sub : ∀ j, (fun j => j ∈ storesL sb) j → (fun j => j ∈ stores (.try_ sb c (some i) ss)) j := fun j hj => by show j ∈ stores _; rw [stores]; exact List.mem_append_left _ hj
    cases e : evalSs S false sb ρ with
    | none => rw [e] at q; exact q.elim
    | some r =>
      obtain ⟨f, ρ1⟩ := r
      rw [e] at q
      simp only [Option.bind_some] at q
      cases f with
      | nx => exact fun σ2 F2 H2 As2 z => q σ2 F2 H2 As2 (z.mono sub)
      | bk => exact fun σ2 F2 H2 As2 z => q σ2 F2 H2 As2 (z.mono sub)
      | ct => exact fun σ2 F2 H2 As2 z => q σ2 F2 H2 As2 (z.mono sub)
      | rt d => exact fun v σ2 F2 H2 As2 C z r => q v σ2 F2 H2 As2 C (z.mono sub) r
      | ex c' xs =>
        intro dd σ1 F1 H1 As1 z rx
        have z' := z.mono sub
        cases eb : S.tab.exm c' c with
        | none => simp only [eb] at q; exact q.elim
        | some b =>
          simp only [eb, Option.bind_some] at q
          have ex := g.f.pr.exm c' c b eb
          rw [← g.f.K, ← g.f.like.ca] at ex
          have e0 : w0.ca c = w.ca c := by rw [g.f.like.ca]
          refine ⟨b, by rw [e0]; exact ex, fun hbt a ha => ?_, fun hbf => ?_⟩
          · subst hbt
            simp only [if_true] at q
            refine ⟨c', rfl, F1, ρ1.set i (some (.exn c' xs)), As1.set i [], ⟨z.same, (EnvR.toW (like_wx' hw) z.env).set (exn_rep hw rx), fun b => ?_, fun b hb => ?_⟩, ?_⟩
            · have h1 := own_setL As1 [] i b; have h2 := z.uni b; rw [List.count_nil] at h1; omega
            · exact z.off b (by have h1 := own_setL As1 [] i b; rw [List.count_nil] at h1; omega)
            · have subS : ∀ j, (fun j => j ∈ storesL ss) j → (fun j => j ∈ stores (.try_ sb c (some i) ss)) j := fun j hj => by show j ∈ stores _; rw [stores]; exact List.mem_append_right _ (List.mem_append_right _ hj)
              have hij : (fun j => j ∈ stores (.try_ sb c (some i) ss)) i := by show i ∈ stores _; rw [stores]; exact List.mem_append_right _ (List.mem_append_left _ (rbs_mem (by simp)))
              have hib : i = 0 → (fun j => j ∈ stores (.try_ sb c (some i) ss)) big := fun e => by show big ∈ stores _; rw [stores]; exact List.mem_append_right _ (List.mem_append_left _ (rbs_big (by simp [e])))
              have bk : ∀ {σ2 : L2.St} {F2 H2 : Hp} {ρ2 : Env} {As2 : List (List Addr)} {C : List Addr}, SPost (wx w a c' dd) (fun j => j ∈ storesL ss) (σ1.set i (some (.ref a))) F1 H1 (ρ1.set i (some (.exn c' xs))) (As1.set i []) σ2 F2 H2 ρ2 As2 C →
                  SPost w (fun j => j ∈ stores (.try_ sb c (some i) ss)) σ F H ρ As (σ2.set i none) F2 H2 (ρ2.set i none) (As2.set i []) C := fun p2 => suiteJ (like_wx' hw) z' p2 subS hij hib
              cases e2 : evalSs S true ss (ρ1.set i (some (.exn c' xs))) with
              | none => rw [e2] at q; exact q.elim
              | some r2 =>
                obtain ⟨f2, ρ2⟩ := r2
                rw [e2] at q
                simp only [Option.bind_some] at q
                cases f2 with
                | nx => exact fun σ2 F2 H2 As2 p2 => q _ F2 H2 _ (bk p2)
                | bk => exact fun σ2 F2 H2 As2 p2 => q _ F2 H2 _ (bk p2)
                | ct => exact fun σ2 F2 H2 As2 p2 => q _ F2 H2 _ (bk p2)
                | rt d =>
                  simp only at q
                  split at q
                  · rename_i hn
                    exact fun v σ2 F2 H2 As2 C p2 r => q v _ F2 H2 _ C (bk p2) (RepL.toW0 (like_wx' hw) r (by simp only [D.noXL, hn, Bool.and_true]))
                  · exact q.elim
                | ex _ _ => exact q.elim
          · subst hbf
            simp only [Bool.false_eq_true, if_false] at q
            exact q dd σ1 F1 H1 As1 z' rx
/-- except x: -/
theorem snd_try_0 (g : XS T W0 w0 w fa cv S false k W X) (hc : T.oc c = true) (hg : Gl X (T.cl c))
    (hb : ∀ (W' : WX) (pn : List (Addr × Obj)) (xe : Value → Shared → Prop), XS T W0 w0 w fa cv S false k W' (X.tr pn xe) → PSs (X.tr pn xe) body (tSsv S false w W' sb))
    (hsu : ∀ (w' : Wd) (a : Addr) (pn : List (Addr × Obj)), XS T W0 w0 w' fa cv S true k WF (X.suite a pn) → PSs (X.suite a pn) (b₀ :: suite) (tSsv S true w' WF ss)) :
    PS X (.Try body [.ExceptHandler (some (.Name (T.cl c) np)) none (b₀ :: suite) pos'] [] [] pos) (tSv S false w W (.try_ sb c none ss)) := by
  have hw := g.f.hx rfl
  refine PS.of (L2N.ps_try_many (tb := fun W' => tSsv S false w W' sb) (l := [(.ref (w0.ca c), tsS S w ss)]) g.stack g.frame g.f.tk (fun W' pn xe tk po => hb W' pn xe (xs_tr g tk po)) (.cons (names_of g.f hc hg) (fun a oe cls d pn hz hv => ?_) .nil)) ?_
  · refine ⟨fun pins st σ H Dn I q => ?_⟩
    obtain ⟨c', rfl, q⟩ := q
    obtain ⟨vs, hv⟩ := hv
    rw [g.f.like.ca] at hz
    exact (hsu _ a _ (xs_suite g hz hv)).run pins st σ H Dn I q
  · intro Dn σ H ⟨F, ρ, As, pr, q⟩
    rw [evalS] at q
    simp only [Bool.false_eq_true, if_false] at q
    refine ⟨F, ρ, As, pr, ?_⟩
    have sub : ∀ j, (fun j => j ∈ storesL sb) j → (fun j => j ∈ stores (.try_ sb c none ss)) j := fun j hj => by show j ∈ stores _; rw [stores]; exact List.mem_append_left _ hj
    cases e : evalSs S false sb ρ with
    | none => rw [e] at q; exact q.elim
    | some r =>
      obtain ⟨f, ρ1⟩ := r
      rw [e] at q
      simp only [Option.bind_some] at q
      cases f with
      | nx => exact fun σ2 F2 H2 As2 z => q σ2 F2 H2 As2 (z.mono sub)
      | bk => exact fun σ2 F2 H2 As2 z => q σ2 F2 H2 As2 (z.mono sub)
      | ct => exact fun σ2 F2 H2 As2 z => q σ2 F2 H2 As2 (z.mono sub)
      | rt d => exact fun v σ2 F2 H2 As2 C z r => q v σ2 F2 H2 As2 C (z.mono sub) r
      | ex c' xs =>
        intro dd σ1 F1 H1 As1 z rx
        have z' := z.mono sub
        cases eb : S.tab.exm c' c with
        | none => simp only [eb] at q; exact q.elim
        | some b =>
          simp only [eb, Option.bind_some] at q
          have ex := g.f.pr.exm c' c b eb
          rw [← g.f.K, ← g.f.like.ca] at ex
          have e0 : w0.ca c = w.ca c := by rw [g.f.like.ca]
          refine ⟨b, by rw [e0]; exact ex, fun hbt a ha => ?_, fun hbf => ?_⟩
          · subst hbt
            simp only [if_true] at q
            refine ⟨c', rfl, F1, ρ1, As1, ⟨z.same, EnvR.toW (like_wx' hw) z.env, z.pre.uni, z.pre.off⟩, ?_⟩
            have subS : ∀ j, (fun j => j ∈ storesL ss) j → (fun j => j ∈ stores (.try_ sb c none ss)) j := fun j hj => by show j ∈ stores _; rw [stores]; exact List.mem_append_right _ (List.mem_append_right _ hj)
            have bk : ∀ {σ2 : L2.St} {F2 H2 : Hp} {ρ2 : Env} {As2 : List (List Addr)} {C : List Addr}, SPost (wx w a c' dd) (fun j => j ∈ storesL ss) σ1 F1 H1 ρ1 As1 σ2 F2 H2 ρ2 As2 C →
                SPost w (fun j => j ∈ stores (.try_ sb c none ss)) σ F H ρ As σ2 F2 H2 ρ2 As2 C := fun p2 => suite0 (like_wx' hw) z' p2 subS
            cases e2 : evalSs S true ss ρ1 with
            | none => rw [e2] at q; exact q.elim
            | some r2 =>
              obtain ⟨f2, ρ2⟩ := r2
              rw [e2] at q
              simp only [Option.bind_some] at q
              cases f2 with
              | nx => exact fun σ2 F2 H2 As2 p2 => q _ F2 H2 _ (bk p2)
              | bk => exact fun σ2 F2 H2 As2 p2 => q _ F2 H2 _ (bk p2)
              | ct => exact fun σ2 F2 H2 As2 p2 => q _ F2 H2 _ (bk p2)
              | rt d =>
                simp only at q
                split at q
                · rename_i hn
                  exact fun v σ2 F2 H2 As2 C p2 r => q v _ F2 H2 _ C (bk p2) (RepL.toW0 (like_wx' hw) r (by simp only [D.noXL, hn, Bool.and_true]))
                · exact q.elim
              | ex _ _ => exact q.elim
          · subst hbf
            simp only [Bool.false_eq_true, if_false] at q
            exact q dd σ1 F1 H1 As1 z' rx
end
end SL
set_option Elab.async false
set_option linter.all false
set_option maxRecDepth 100000
set_option maxHeartbeats 1000000
/-! SLLc: list comprehensions. -/
namespace SL
open PySem L2

def wipeA (As : List (List Addr)) (vs : List Nat) : List (List Addr) := vs.foldl (fun A i => A.set i []) As
theorem foldl_set {α : Type} (x : α) : ∀ (vs : List Nat) (l : List α) (j : Nat), (vs.foldl (fun l i => l.set i x) l)[j]? = if j ∈ vs ∧ j < l.length then some x else l[j]?
  | [], l, j => by simp
  | v :: vs, l, j => by
    rw [List.foldl_cons, foldl_set x vs (l.set v x) j, List.length_set]
    by_cases h1 : j ∈ vs ∧ j < l.length
    · rw [if_pos h1, if_pos ⟨List.mem_cons_of_mem _ h1.1, h1.2⟩]
    · rw [if_neg h1]
      by_cases e : v = j
      · subst e
        by_cases hl : v < l.length
        · rw [List.getElem?_set_self hl, if_pos ⟨List.mem_cons_self, hl⟩]
        · rw [if_neg fun z => hl z.2, List.getElem?_eq_none (by simpa using hl), List.getElem?_eq_none (by simpa using hl)]
      · rw [List.getElem?_set_ne e, if_neg]
        intro z
        rcases List.mem_cons.mp z.1 with q | q
        · exact e q.symm
        · exact h1 ⟨q, z.2⟩
theorem wipeE_at (ρ : Env) (vs : List Nat) (j : Nat) : (wipeE ρ vs)[j]? = if j ∈ vs ∧ j < ρ.length then some none else ρ[j]? := foldl_set none vs ρ j
theorem wipeA_at (As : List (List Addr)) (vs : List Nat) (j : Nat) : (wipeA As vs)[j]? = if j ∈ vs ∧ j < As.length then some [] else As[j]? := foldl_set [] vs As j
theorem wipe_at (σ : L2.St) : ∀ (vs : List Nat) (j : Nat), (L2.wipe σ vs)[j]? = if j ∈ vs ∧ j < σ.length then some none else σ[j]?
  | [], j => by simp [L2.wipe]
  | v :: vs, j => by
    unfold L2.wipe
    by_cases e : v = j
    · subst e
      by_cases hl : v < σ.length
      · rw [List.getElem?_set_self (by rw [wipe_length]; exact hl), if_pos ⟨List.mem_cons_self, hl⟩]
      · rw [if_neg fun z => hl z.2, List.getElem?_eq_none (by rw [List.length_set, wipe_length]; omega), List.getElem?_eq_none (by omega)]
    · rw [List.getElem?_set_ne e, wipe_at σ vs j]
      by_cases h1 : j ∈ vs ∧ j < σ.length
      · rw [if_pos h1, if_pos ⟨List.mem_cons_of_mem _ h1.1, h1.2⟩]
      · rw [if_neg h1, if_neg]
        intro z
        rcases List.mem_cons.mp z.1 with q | q
        · exact e q.symm
        · exact h1 ⟨q, z.2⟩
theorem wipeE_len (ρ : Env) (vs : List Nat) : (wipeE ρ vs).length = ρ.length := by
  unfold wipeE
  induction vs generalizing ρ with
  | nil => rfl
  | cons v vs ih => rw [List.foldl_cons, ih, List.length_set]
theorem wipeA_len (ρ : List (List Addr)) (vs : List Nat) : (wipeA ρ vs).length = ρ.length := by
  unfold wipeA
  induction vs generalizing ρ with
  | nil => rfl
  | cons v vs ih => rw [List.foldl_cons, ih, List.length_set]
theorem own_wipe (As : List (List Addr)) (vs : List Nat) (a : Addr) : own (wipeA As vs) a ≤ own As a := by
  unfold wipeA
  induction vs generalizing As with
  | nil => exact Nat.le_refl _
  | cons v vs ih =>
    rw [List.foldl_cons]
    have h1 := ih (As.set v [])
    have h2 := own_setL As [] v a
    rw [List.count_nil] at h2
    omega
section
variable {w : Wd} {F H F1 H1 F2 H2 F3 H3 : Hp} {σ σ1 σ2 : L2.St} {ρ ρ1 ρ2 ρ3 : Env} {As As1 As2 As3 : List (List Addr)} {C C2 : List Addr} {own_ : List Nat} {W : WX}
/-- env by places -/
theorem EnvR.of_at : ∀ {σ : L2.St} {ρ : Env} {As : List (List Addr)}, σ.length = ρ.length → As.length = ρ.length → (∀ (i : Nat) (d : D), ρ[i]? = some (some d) → ∃ v A, σ[i]? = some (some v) ∧ As[i]? = some A ∧ Rep w F H v d A) → (∀ i : Nat, ρ[i]? = some none → As[i]? = some []) → EnvR w F H σ ρ As
  | [], [], [], _, _, _, _ => .nil
  | o :: σ, none :: ρ, A :: As, h1, h2, h3, h4 => by
    have e := h4 0 rfl
    simp at e
    subst e
    exact .no (EnvR.of_at (by simpa using h1) (by simpa using h2) (fun i d h => by simpa using h3 (i + 1) d (by simpa using h)) fun i h => by simpa using h4 (i + 1) (by simpa using h))
  | o :: σ, some d :: ρ, A :: As, h1, h2, h3, h4 => by
    obtain ⟨v, B, e1, e2, k⟩ := h3 0 d rfl
    simp at e1 e2
    subst e1; subst e2
    exact .yes k (EnvR.of_at (by simpa using h1) (by simpa using h2) (fun i d h => by simpa using h3 (i + 1) d (by simpa using h)) fun i h => by simpa using h4 (i + 1) (by simpa using h))
  | [], _ :: _, _, h1, _, _, _ => by simp at h1
  | _ :: _, [], _, h1, _, _, _ => by simp at h1
  | [], [], _ :: _, _, h2, _, _ => by simp at h2
  | _ :: _, _ :: _, [], _, h2, _, _ => by simp at h2
theorem EnvR.none_at (r : EnvR w F H σ ρ As) {i : Nat} (h : ρ[i]? = some none) : As[i]? = some [] := by
  induction r generalizing i with
  | nil => simp at h
  | no _ ih =>
    cases i with
    | zero => rfl
    | succ i => simpa using ih (by simpa using h)
  | yes _ _ ih =>
    cases i with
    | zero => simp at h
    | succ i => simpa using ih (by simpa using h)
/-- other slots, where the variables are alive as they are -/
theorem EnvR.swap (r : EnvR w F H σ ρ As) (hl : σ1.length = σ.length) (h : ∀ (i : Nat) (d : D), ρ[i]? = some (some d) → σ1[i]? = σ[i]?) : EnvR w F H σ1 ρ As :=
  EnvR.of_at (by rw [hl]; exact r.len.1) r.len.2 (fun i d e => by
    obtain ⟨v, A, h1, h2, k⟩ := r.get e
    exact ⟨v, A, by rw [h i d e]; exact h1, h2, k⟩) fun i e => r.none_at e
/-- forgotten variables -/
theorem EnvR.wiped (r : EnvR w F H σ ρ As) (hl : σ1.length = σ.length) (vs : List Nat) (h : ∀ j, j ∉ vs → σ1[j]? = σ[j]?) : EnvR w F H σ1 (wipeE ρ vs) (wipeA As vs) := by
  refine EnvR.of_at (by rw [wipeE_len, hl]; exact r.len.1) (by rw [wipeE_len, wipeA_len]; exact r.len.2) (fun i d e => ?_) fun i e => ?_
  · rw [wipeE_at] at e
    split at e
    · cases e
    · rename_i hi
      obtain ⟨v, A, h1, h2, k⟩ := r.get e
      have hl2 : i < ρ.length := (List.getElem?_eq_some_iff.mp e).1
      have ni : i ∉ vs := fun z => hi ⟨z, hl2⟩
      exact ⟨v, A, by rw [h i ni]; exact h1, by rw [wipeA_at, if_neg fun z => ni z.1]; exact h2, k⟩
  · rw [wipeE_at] at e
    split at e
    · rename_i hi
      rw [wipeA_at, if_pos ⟨hi.1, by rw [r.len.2]; exact hi.2⟩]
    · rename_i hi
      have hl2 : i < ρ.length := (List.getElem?_eq_some_iff.mp e).1
      rw [wipeA_at, if_neg fun z => hi ⟨z.1, hl2⟩]
      exact r.none_at e
/-- .. is a step -/
theorem Post.wipe (p : Post w σ F1 H1 ρ1 As1 F H ρ As C) (vs : List Nat) : Post w σ F1 H1 ρ1 As1 F H (wipeE ρ vs) (wipeA As vs) C := by
  have le := own_wipe As vs
  refine ⟨p.sF, p.sH, p.same, p.env.wiped rfl vs fun _ _ => rfl, fun a => by have := le a; have := p.uni a; omega, fun a h => p.off a (by have := le a; omega), fun a h => p.old a (by have := le a; omega), p.new, fun a h => p.there a (by have := le a; omega), fun i => ?_⟩
  rw [SlotR, wipeE_at, wipeA_at]
  by_cases h : i ∈ vs ∧ i < ρ.length
  · rw [if_pos h, if_pos ⟨h.1, by rw [p.env.len.2]; exact h.2⟩]
    exact .inr (.inr ⟨rfl, rfl⟩)
  · rw [if_neg h, if_neg fun z => h ⟨z.1, by rw [← p.env.len.2]; exact z.2⟩]
    exact p.slots i
theorem Post.env' (p : Post w σ F H ρ As F1 H1 ρ1 As1 C) (e : EnvR w F1 H1 σ1 ρ1 As1) : Post w σ1 F H ρ As F1 H1 ρ1 As1 C := { p with env := e }
/-- a target is bound -/
theorem names_env {Q : L2.St → Hp → Prop} : ∀ {is : List Nat} {ws : List V} {xs : List D} {σ : L2.St} {ρ : Env} {As : List (List Addr)}, is.length = xs.length → RepL w F H ws xs [] → EnvR w F H σ ρ As →
    (∀ σ' As', EnvR w F H σ' ((is.zip xs).foldl (fun ρ p => ρ.set p.1 (some p.2)) ρ) As' → (∀ j, j ∉ is → σ'[j]? = σ[j]? ∧ ((is.zip xs).foldl (fun (ρ : Env) p => ρ.set p.1 (some p.2)) ρ)[j]? = ρ[j]? ∧ As'[j]? = As[j]?) → (∀ a, own As' a ≤ own As a) → σ'.length = σ.length → Q σ' H) → gNms is ws σ H Q
  | [], ws, xs, σ, ρ, As, hl, k, r, go => by
    have : xs = [] := List.length_eq_zero_iff.mp hl.symm
    subst this
    cases k
    exact ⟨rfl, go σ As r (fun _ _ => ⟨rfl, rfl, rfl⟩) (fun _ => Nat.le_refl _) rfl⟩
  | i :: is, ws, xs, σ, ρ, As, hl, k, r, go => by
    cases xs with
    | nil => simp at hl
    | cons x xs =>
      obtain ⟨v, us, B, C2, rfl, k1, k2, hc⟩ := k.uncons
      have e1 : B = [] := List.eq_nil_iff_forall_not_mem.mpr fun a ha => by
        have h1 := List.count_pos_iff.mpr ha; have h2 := hc a; simp at h2; omega
      have e2 : C2 = [] := List.eq_nil_iff_forall_not_mem.mpr fun a ha => by
        have h1 := List.count_pos_iff.mpr ha; have h2 := hc a; simp at h2; omega
      subst e1; subst e2
      refine ⟨v, us, rfl, ?_⟩
      refine names_env (by simpa using hl) k2 (r.set (i := i) k1) fun σ' As' r' h1 h2 h3 => ?_
      refine go σ' As' r' (fun j hj => ?_) (fun a => ?_) (by rw [h3]; simp)
      · simp only [List.mem_cons, not_or] at hj
        obtain ⟨g1, g2, g3⟩ := h1 j hj.2
        exact ⟨by rw [g1, List.getElem?_set_ne (Ne.symm hj.1)], by rw [List.zip_cons_cons, List.foldl_cons, g2, List.getElem?_set_ne (Ne.symm hj.1)], by rw [g3, List.getElem?_set_ne (Ne.symm hj.1)]⟩
      · have := h2 a; have h4 := own_setL As [] i a; rw [List.count_nil] at h4; omega
theorem bind_env {tg : Tg} {x : D} {v : V} {ρ' : Env} {Q : L2.St → Hp → Prop} (k : Rep w F H v x []) (sm : Same F H) (e : bindT tg x ρ = some ρ') (r : EnvR w F H σ ρ As)
    (go : ∀ σ' As', EnvR w F H σ' ρ' As' → (∀ j, j ∉ tgs tg → σ'[j]? = σ[j]? ∧ ρ'[j]? = ρ[j]? ∧ As'[j]? = As[j]?) → (∀ a, own As' a ≤ own As a) → σ'.length = σ.length → Q σ' H) : tgG w.K tg v σ H Q := by
  cases tg with
  | nm i =>
    simp only [bindT, Option.some.injEq] at e
    subst e
    exact go _ _ (r.set (i := i) k) (fun j hj => by
      have ne : i ≠ j := fun z => hj (by simp [tgs, z])
      exact ⟨List.getElem?_set_ne ne, List.getElem?_set_ne ne, List.getElem?_set_ne ne⟩) (fun a => by have := own_setL As [] i a; rw [List.count_nil] at this; omega) (by simp)
  | tp is =>
    cases x with
    | tup xs =>
      simp only [bindT] at e
      split at e
      · rename_i hl
        simp only [Option.some.injEq] at e
        subst e
        cases k with
        | tup k1 k2 _ => exact ⟨_, _, rfl, sqT_mono sm k1, by rw [k2.len, hl], names_env hl k2 r go⟩
      · cases e
    | _ => simp [bindT] at e
/-- what a turn leaves when its own variables are forgotten -/
theorem Post.scope {tg : Tg} (q : Post w σ2 F2 H2 ρ2 As2 F3 H3 ρ3 As3 C2) (r : EnvR w F2 H2 σ ρ As) (ho : ∀ a, own As2 a ≤ own As a) (ht : ∀ i ∈ tgs tg, i ∈ own_) (hs : ∀ j, j ∉ tgs tg → σ2[j]? = σ[j]? ∧ ρ2[j]? = ρ[j]? ∧ As2[j]? = As[j]?) (hl : σ2.length = σ.length) :
    Post w σ F2 H2 ρ As F3 H3 (wipeE ρ3 own_) (wipeA As3 own_) C2 := by
  have le := own_wipe As3 own_
  have ns : ∀ j, j ∉ own_ → j ∉ tgs tg := fun j hj z => hj (ht j z)
  refine ⟨q.sF, q.sH, q.same, q.env.wiped hl.symm own_ fun j hj => ((hs j (ns j hj)).1).symm, fun a => by have := le a; have := q.uni a; omega, fun a h => q.off a (by have := le a; omega), fun a h => ?_, fun a h1 h2 => ?_, fun a h => q.there a (by have := le a; omega), fun i => ?_⟩
  · rcases q.old a (by have := le a; omega) with z | z
    · exact .inl (by have := ho a; omega)
    · exact .inr z
  · rcases q.new a h1 h2 with z | z
    · exact .inl (by have := ho a; omega)
    · exact .inr z
  · have l3 : ρ3.length = ρ.length := by rw [← q.env.len.1, hl, r.len.1]
    have a3 : As3.length = ρ.length := by rw [q.env.len.2, l3]
    rw [SlotR, wipeE_at, wipeA_at]
    by_cases h : i ∈ own_
    · by_cases hi : i < ρ.length
      · rw [if_pos ⟨h, by omega⟩, if_pos ⟨h, by omega⟩]
        exact .inr (.inr ⟨rfl, rfl⟩)
      · rw [if_neg fun z => hi (by have := z.2; omega), if_neg fun z => hi (by have := z.2; omega)]
        exact .inl ⟨by rw [List.getElem?_eq_none (by omega), List.getElem?_eq_none (by omega)], by rw [List.getElem?_eq_none (by omega), List.getElem?_eq_none (by have := r.len.2; omega)]⟩
    · rw [if_neg fun z => h z.1, if_neg fun z => h z.1]
      have := q.slots i
      rw [SlotR, (hs i (ns i h)).2.1, (hs i (ns i h)).2.2] at this
      exact this
theorem Post.poke {a : Addr} {o : HO} (p : Post w σ F H ρ As F1 H1 ρ1 As1 C) (hC : 0 < C.count a) (hn : H a = none) : Post w σ F H ρ As F1 (upd H1 a o) ρ1 As1 C := by
  have nF : F1 a = none := p.off a (by omega)
  have no : own As1 a = 0 := by have := p.uni a; omega
  have up : ∀ b, H1 b ≠ none → upd H1 a o b ≠ none := fun b h => by
    by_cases e : b = a
    · subst e; rw [upd_same]; simp
    · rw [upd_ne e]; exact h
  exact { p with
    sH := fun b u h => by rw [upd_ne fun e => by subst e; rw [hn] at h; cases h]; exact p.sH b u h
    same := fun b u h => by rw [upd_ne fun e => by subst e; rw [nF] at h; cases h]; exact p.same b u h
    env := p.env.mono (Same.refl _) fun b h => upd_ne fun e => by subst e; omega
    there := fun b h => up b (p.there b h) }
end
end SL
set_option Elab.async false
set_option linter.all false
set_option maxRecDepth 100000
set_option maxHeartbeats 1000000
/-! SLLd: list comprehensions, the rule. -/
namespace SL
open PySem L2

section
variable {T : NT} {W0 : World0} {w0 w : Wd} {fa : Nat → Addr} {cv : Nat → Value} {S : Sem} {h : Bool} {k : Nat} {W : WX} {X : Cx} {pos p p2 apos : Pos}
variable {own_ : List Nat} {elt : Ex} {tg : Tg} {ik : Ik} {ie : List Ex} {cs : List Tx}

def tCv (S : Sem) (h : Bool) (w : Wd) (W : WX) (cs : List Tx) : TT := fun σ H Q => ∃ F ρ As, Pre w F H σ ρ As ∧ Fin rpB w σ W F H ρ As (evalC S h cs ρ) Q
theorem PTs.of {X : Cx} {ifs : List Expr} {t t' : TT} (h : PTs X ifs t) (k : ∀ σ H Q, t' σ H Q → t σ H Q) : PTs X ifs t' := ⟨fun pins s σ H Q I q => h.run pins s σ H Q I (k _ _ _ q)⟩
theorem snd_c0 : PTs X [] (tCv S h w W []) := PTs.of pts_nil fun σ H Q ⟨F, ρ, As, pr, q⟩ => by
  rw [evalC] at q
  exact q true F H As [] pr.post ⟨rfl, rfl⟩
theorem snd_c1 {c : Expr} {t : Tx} (hc : PT X c (tTv S h w W t)) : PTs X [c] (tCv S h w W [t]) := PTs.of (pts_one hc) fun σ H Q ⟨F, ρ, As, pr, q⟩ => ⟨F, ρ, As, pr, by rw [evalC] at q; exact q⟩
theorem it_bind {α : Type} {keep : Nat → Bool} {ρ : Env} {kk : List D → Env → Res α} : ((evalEs S h ie ρ).bind fun rs ρ => (iterR ik rs keep ρ).bind fun items ρ => kk items ρ) = (itM S h ik ie keep ρ).bind fun x ρ => kk x.2 ρ := by
  unfold itM
  cases evalEs S h ie ρ with
  | bad => rfl
  | exc c xs ρ' => rfl
  | ok rs ρ1 =>
    simp only [Res.bind_ok]
    cases iterR ik rs keep ρ1 <;> rfl
/-- the reading of a comprehension -/
theorem comp_read {own : List (Str × Nat)} (hv : own.map (·.2) = own_) (ht : ∀ i ∈ tgs tg, i ∈ own_) {σ : L2.St} {H : Hp} {Q : VK} (q0 : tEv S false w W (.comp own_ elt tg ik ie cs) σ H Q) :
    tLc (tItv S false w W ik ie (fun _ => true)) (tgG w.K tg) (tCv S false w WF cs) (tEv S false w WF elt) (own.map (·.2)) σ H Q := by
  obtain ⟨F, ρ, As, pr, q⟩ := q0
  rw [hv]
  rw [evalE] at q
  simp only [Bool.false_eq_true, if_false] at q
  rw [it_bind (α := R) (kk := fun items ρ => (compL own_ tg (evalC S false cs) (evalE S false elt) items [] (wipeE ρ own_)).bind fun acc ρ => .ok (.val (.lst true acc)) ρ)] at q
  refine ⟨F, ρ, As, pr, q.bind0 fun it ρ1 J F1 H1 As1 C1 e1 p1 k1 q1 => ?_⟩
  obtain ⟨rfl, K, jk, hK⟩ := k1
  obtain ⟨rs, items⟩ := it
  simp only at jk hK q1
  intro D0 hD
  -- the start of the turns
  have pw := p1.wipe own_
  have lw : (wipe σ own_).length = σ.length := wipe_length σ own_
  have ew : ∀ {F' H' : Hp} {ρ' : Env} {As' : List (List Addr)}, EnvR w F' H' σ ρ' As' → (∀ j, j ∈ own_ → ∀ d, ρ'[j]? ≠ some (some d)) → EnvR w F' H' (wipe σ own_) ρ' As' := fun r hn => r.swap lw fun i d e => by
    rw [wipe_at, if_neg]
    exact fun z => hn i z.1 d e
  have ew' : ∀ {F' H' : Hp} {ρ' : Env} {As' : List (List Addr)}, EnvR w F' H' (wipe σ own_) ρ' As' → (∀ j, j ∈ own_ → ∀ d, ρ'[j]? ≠ some (some d)) → EnvR w F' H' σ ρ' As' := fun r hn => r.swap lw.symm fun i d e => by
    rw [wipe_at, if_neg]
    exact fun z => hn i z.1 d e
  have hno : ∀ (ρ' : Env), ∀ j, j ∈ own_ → ∀ d, (wipeE ρ' own_)[j]? ≠ some (some d) := fun ρ' j hj d e => by
    rw [wipeE_at] at e
    split at e
    · cases e
    · rename_i hc
      have := (List.getElem?_eq_some_iff.mp e).1
      exact hc ⟨hj, this⟩
  -- the invariant
  refine ⟨fun i m H' => m = items.length - i ∧ i ≤ items.length ∧ ∃ F' ρ' As' B accV accD, Post w (wipe σ own_) F1 H1 (wipeE ρ1 own_) (wipeA As1 own_) F' H' (wipeE ρ' own_) As' (D0 :: B) ∧ H' D0 = some (.lst accV) ∧ RepL w F' H' accV accD B ∧
    Fin (rpR w) w σ W F H ρ As ((compL own_ tg (evalC S false cs) (evalE S false elt) (items.drop i) accD (wipeE ρ' own_)).bind fun acc ρ => .ok (.val (.lst true acc)) ρ) Q,
    ⟨items.length, by simp, Nat.zero_le _, F1, ρ1, wipeA As1 own_, [], [], [], ?_, upd_same, .nil, q1⟩, ?_⟩
  · have b0 : Post w (wipe σ own_) F1 H1 (wipeE ρ1 own_) (wipeA As1 own_) F1 H1 (wipeE ρ1 own_) (wipeA As1 own_) [] := Pre.post ⟨pw.same, ew pw.env (hno ρ1), fun a => by have := pw.uni a; omega, fun a h => pw.off a (by omega)⟩
    exact b0.alloc (o := .lst []) hD
  · rintro i m H2 ⟨rfl, hi, F2, ρ2, As2, B, accV, accD, p2, hacc, kacc, q2⟩
    have hK2 : K H2 := hK H2 (fun a o e => p2.same a o (p2.sF a o e)) fun j A _ hA b hb => by
      have := own_get hA b
      obtain ⟨o, e, _⟩ := p1.env.there b (by omega)
      rw [e]; exact p2.sH b o e
    have uD : (D0 :: B).count D0 ≤ 1 := by have := p2.uni D0; omega
    have nB : B.count D0 = 0 := by simp only [List.count_cons, beq_self_eq_true, if_true] at uD; omega
    by_cases hlt : i < items.length
    · have e : items.drop i = items[i] :: items.drop (i + 1) := List.drop_eq_getElem_cons hlt
      rw [e, compL] at q2
      refine .inr ⟨jk.go i H2 hlt hK2, fun H' => ∃ F' ρ' As' B accV accD, Post w (wipe σ own_) F1 H1 (wipeE ρ1 own_) (wipeA As1 own_) F' H' (wipeE ρ' own_) As' (D0 :: B) ∧ H' D0 = some (.lst accV) ∧ RepL w F' H' accV accD B ∧
        Fin (rpR w) w σ W F H ρ As ((compL own_ tg (evalC S false cs) (evalE S false elt) (items.drop (i + 1)) accD (wipeE ρ' own_)).bind fun acc ρ => .ok (.val (.lst true acc)) ρ) Q,
        fun H' ⟨F', ρ', As', B, aV, aD, z⟩ => ⟨_, by omega, rfl, hlt, F', ρ', As', B, aV, aD, z⟩, fun v H3 y => ?_⟩
      cases eb : bindT tg items[i] (wipeE ρ2 own_) with
      | none => rw [eb] at q2; exact q2.elim
      | some ρ3 =>
        rw [eb] at q2
        simp only at q2
        have main : ∀ (Nx : Hp → Prop), (∀ H' F' ρ' As' B accV accD, Post w (wipe σ own_) F1 H1 (wipeE ρ1 own_) (wipeA As1 own_) F' H' (wipeE ρ' own_) As' (D0 :: B) → H' D0 = some (.lst accV) → RepL w F' H' accV accD B →
            Fin (rpR w) w σ W F H ρ As ((compL own_ tg (evalC S false cs) (evalE S false elt) (items.drop (i + 1)) accD (wipeE ρ' own_)).bind fun acc ρ => .ok (.val (.lst true acc)) ρ) Q → Nx H') →
            ∀ F3, Post w (wipe σ own_) F1 H1 (wipeE ρ1 own_) (wipeA As1 own_) F3 H3 (wipeE ρ2 own_) As2 (D0 :: B) → H3 D0 = some (.lst accV) → RepL w F3 H3 accV accD B → Rep w F3 H3 v items[i] [] →
            tgG w.K tg v (wipe σ own_) H3 fun σ2 H2 => wipe σ2 own_ = wipe σ own_ ∧ tCv S false w WF cs σ2 H2 fun b H3 =>
              if b = true then tEv S false w WF elt σ2 H3 fun y H4 => ∃ acc, H4 D0 = some (.lst acc) ∧ acc.length < sizeLine ∧ Nx (upd H4 D0 (.lst (acc ++ [y]))) else Nx H3 := by
          intro Nx hNx F3 p3 ha3 ka3 k3
          refine bind_env k3 p3.same eb p3.env fun σ4 As4 r4 g1 g2 g3 => ⟨?_, ?_⟩
          · apply List.ext_getElem?
            intro j
            rw [wipe_at, wipe_at, g3, lw]
            by_cases hj : j ∈ own_ ∧ j < σ.length
            · rw [if_pos hj, if_pos hj]
            · rw [if_neg hj, if_neg hj]
              have : j ∉ tgs tg ∨ ¬ j < σ.length := by
                by_cases c : j ∈ own_
                · exact .inr fun z => hj ⟨c, z⟩
                · exact .inl fun z => c (ht j z)
              rcases this with z | z
              · rw [(g1 j z).1, wipe_at, if_neg hj]
              · rw [List.getElem?_eq_none (by rw [g3, lw]; omega), List.getElem?_eq_none (by omega)]
          · have pr4 : Pre w F3 H3 σ4 ρ3 As4 := ⟨p3.same, r4, fun a => by have := g2 a; have := p3.uni a; omega, fun a h => p3.off a (by have := g2 a; omega)⟩
            have scope_ : ∀ {F5 H5 : Hp} {ρ5 : Env} {As5 : List (List Addr)} {C5 : List Addr}, Post w σ4 F3 H3 ρ3 As4 F5 H5 ρ5 As5 C5 → Post w (wipe σ own_) F1 H1 (wipeE ρ1 own_) (wipeA As1 own_) F5 H5 (wipeE ρ5 own_) (wipeA As5 own_) ((D0 :: B) ++ C5) := fun q5 =>
              p3.trans (q5.scope p3.env g2 ht g1 g3)
            refine ⟨F3, ρ3, As4, pr4, ?_⟩
            cases ec : evalC S false cs ρ3 with
            | bad => rw [ec] at q2; exact q2.elim
            | exc c xs ρ' => rw [ec] at q2; exact q2.elim
            | ok b ρ4 =>
              rw [ec] at q2
              intro b' F4 H4 As4' C4 p4 kb
              obtain ⟨rfl, rfl⟩ := kb
              have ha4 : H4 D0 = some (.lst accV) := p4.sH _ _ ha3
              have ka4 : RepL w F4 H4 accV accD B := Rep.up ka3 p4.lift
              cases b' with
              | false =>
                simp only [Bool.false_eq_true, if_false] at q2 ⊢
                have s4 := scope_ p4
                rw [List.append_nil] at s4
                exact hNx H4 F4 ρ4 _ B accV accD s4 ha4 ka4 q2
              | true =>
                simp only [if_true] at q2 ⊢
                refine ⟨F4, ρ4, As4', p4.pre, ?_⟩
                cases ee : evalE S false elt ρ4 with
                | bad => rw [ee] at q2; exact q2.elim
                | exc c xs ρ' => rw [ee] at q2; exact q2.elim
                | ok r ρ5 =>
                  rw [ee] at q2
                  simp only [Res.bind_ok] at q2
                  intro y F5 H5 As5 C5 p5 k5
                  cases es : settle r ρ5 with
                  | bad => rw [es] at q2; exact q2.elim
                  | exc c xs ρ' => exact absurd es (settle_ne _ _ _)
                  | ok d ρ6 =>
                    rw [es] at q2
                    simp only at q2
                    obtain ⟨F6, As6, t, k6⟩ := settle_ok p5.pre k5 es
                    split at q2
                    · rename_i hz
                      have p6 := (p4.trans (p5.trans t)).weak (C' := C5) fun a => by simp
                      have s6 := scope_ p6
                      have ha5 : H5 D0 = some (.lst accV) := p5.sH _ _ ha4
                      have ka6 : RepL w F6 H5 accV accD B := Rep.up (Rep.up ka4 p5.lift) t.lift
                      have u6 : C5.count D0 = 0 := by
                        have := s6.uni D0
                        simp only [List.count_append, List.count_cons, beq_self_eq_true, if_true] at this
                        omega
                      refine ⟨accV, ha5, by rw [ka6.len]; exact hz, ?_⟩
                      have pk := s6.poke (a := D0) (o := .lst (accV ++ [y])) (by simp [List.count_append, List.count_cons]) hD
                      exact hNx _ F6 ρ6 _ (B ++ C5) (accV ++ [y]) (accD ++ [d]) (pk.weak fun a => by simp only [List.count_append, List.count_cons]; omega) upd_same
                        ((ka6.mono (Same.refl _) fun b hb => upd_ne fun e => by subst e; omega).app (k6.mono (Same.refl _) fun b hb => upd_ne fun e => by subst e; omega)) q2
                    · exact q2.elim
        rcases jk.yld i H2 v H3 items[i] (List.getElem?_eq_getElem hlt) hK2 y with ⟨rfl, r⟩ | ⟨a, ws, ds, rfl, hn, rfl, ed, r⟩
        · exact main _ (fun H' F' ρ' As' B aV aD z1 z2 z3 z4 => ⟨F', ρ', As', B, aV, aD, z1, z2, z3, z4⟩) F2 p2 hacc kacc (r F2 _ p2.sF)
        · obtain ⟨pa, la⟩ := p2.allocF (o := .tup ws) hn
          have nD : D0 ≠ a := fun e => by rw [e, hn] at hacc; cases hacc
          refine main _ (fun H' F' ρ' As' B aV aD z1 z2 z3 z4 => ⟨F', ρ', As', B, aV, aD, z1, z2, z3, z4⟩) _ pa (by rw [upd_ne nD]; exact hacc) (Rep.up kacc la) ?_
          rw [ed]
          exact .tup (SqT.of upd_same) (r _ _ pa.sF) .nil
    · have e : i = items.length := by omega
      subst e
      rw [List.drop_length, compL] at q2
      refine .inl ⟨jk.stop _ H2 (Nat.le_refl _) hK2, ?_⟩
      have pf := p2.env' (ew' p2.env (hno ρ2))
      exact q2 (.ref D0) F2 H2 As2 (D0 :: B) ((pw.trans pf).weak (by simp)) (.val (by have := RepL.lstO hacc kacc RepL.nil; simpa using this))
/-- the block's context -/
theorem xf_blk (x : XF T W0 w0 w fa cv S false k W X) {scope : Scope} (s : Shared) (H : Hp) (C : Addr) (cl : List (Str × Addr)) (fp : List Addr) : XF T W0 w0 w fa cv S false k WF (X.blk s H scope (compEnvC scope cl C X.env) fp) :=
  { pr := x.pr, prog := x.prog, wd := x.wd, mg := x.mg, base := x.base, K := x.K, like := x.like, hx := x.hx, units := x.units, room := x.room, hot := (fun z => nomatch z), hxp := (fun a c d e => by rw [x.hx rfl] at e; cases e), tk := takes_no _, fn := x.fn, fm := x.fm, fp := x.fp, nw := x.nw, rz := x.rz }
variable {eltE te iter : Expr} {ifs : List Expr} {scope : Scope} {own : List (Str × Nat)}
/-- what of a comprehension's block must hold -/
def BlkS (T : NT) (W0 : World0) (w0 w : Wd) (fa : Nat → Addr) (cv : Nat → Value) (S : Sem) (k : Nat) (X : Cx) (scope : Scope) (te : Expr) (tg : Tg) (ifs : List Expr) (cs : List Tx) (eltE : Expr) (elt : Ex) : Prop :=
  ∀ X' : Cx, XF T W0 w0 w fa cv S false k WF X' → X'.N = X.N → X'.env.scope = relS scope X.env.scope → (X'.fn = fun x => scope.names.lookup x == some .cell) → PG X' te (tgG w.K tg) ∧ PTs X' ifs (tCv S false w WF cs) ∧ PE X' eltE (tEv S false w WF elt)
theorem snd_comp (x : XF T W0 w0 w fa cv S false k W X) (hN : X.N.Nodup) (ok : BlkOk X.N X.env.scope scope own) (hv : own.map (·.2) = own_) (ht : ∀ i ∈ tgs tg, i ∈ own_)
    (hi : PI X te iter (tItv S false w W ik ie (fun _ => true))) (hs : noSet iter = true) (hb : BlkS T W0 w0 w fa cv S k X scope te tg ifs cs eltE elt) :
    PE X (.ListComp eltE [⟨te, iter, ifs, 0⟩] scope pos) (tEv S false w W (.comp own_ elt tg ik ie cs)) := by
  have blk := fun s H C cl fp => hb _ (xf_blk x (scope := scope) s H C cl fp) rfl rfl rfl
  exact PE.of (pe_lc (x.room rfl).2 hN hi ok (fun s H C cl fp => (blk s H C cl fp).1) (fun s H C cl fp => (blk s H C cl fp).2.1) (fun s H C cl fp => (blk s H C cl fp).2.2) (fs_no hs)) fun σ H Q q => comp_read hv ht q
/-- name = [..] -/
theorem snd_setLc (g : XS T W0 w0 w fa cv S false k W X) {i : Nat} {y : Str} {py : Pos} (hi0 : X.N[i]? = some y) (hy : X.env.scope.names.lookup y = some .local) (hl : (py.line == p.line) = true) (ha : (scope.names.any fun (n, k) => n == y && (k == .local || k == .cell)) = false)
    (ok : BlkOk X.N X.env.scope scope own) (hv : own.map (·.2) = own_) (ht : ∀ i ∈ tgs tg, i ∈ own_)
    (hi : PI X te iter (tItv S false w W ik ie (fun _ => true))) (hs : noSet iter = true) (hb : BlkS T W0 w0 w fa cv S k X scope te tg ifs cs eltE elt) :
    PS X (.Assign [.Name y py] (.ListComp eltE [⟨te, iter, ifs, 0⟩] scope p) pos) (tSv S false w W (.set i (.comp own_ elt tg ik ie cs))) := by
  have blk := fun s H C cl fp => hb _ (xf_blk g.f (scope := scope) s H C cl fp) rfl rfl rfl
  refine PS.of (ps_setLc (g.f.room rfl).2 g.nd hi0 hy (sw_true g.fk hy hl ha) hi ok (fun s H C cl fp => (blk s H C cl fp).1) (fun s H C cl fp => (blk s H C cl fp).2.1) (fun s H C cl fp => (blk s H C cl fp).2.2) (fs_no hs)) fun Dn σ H ⟨F, ρ, As, pr, q⟩ => ?_
  rw [evalS] at q
  refine comp_read hv ht (FinS.kept pr q fun d ρ2 v F2 H2 As2 C p1 k1 q1 => ?_)
  have hn : d.noX = true := by have := RepL.noX (g.f.hx rfl) k1; simpa [D.noXL] using this
  exact q1 (σ.set i (some v)) F2 H2 (As2.set i C) ((Post.spost pr p1).set k1 hn (by simp) (rbs_mem (by simp)) (.inr fun e => rbs_big (by simp [e])))
/-- a captured name: stored behind it -/
theorem sw_cell {elt : Expr} {gs : List Comprehension} {p py : Pos} {y : Str} {l : Nat} {env : PySem.Env} (hy : env.scope.names.lookup y = some .cell) : swapsWith (.ListComp elt gs scope p) (some (.Name y py)) l env = pure false := by
  have ky : env.kindOf y = some .cell := hy
  unfold swapsWith
  simp only [ky]
  have e : (NameKind.cell == NameKind.local) = false := rfl
  simp [e]
theorem snd_setLcC (g : XS T W0 w0 w fa cv S false k W X) {i : Nat} {y : Str} {py : Pos} {a : Ex} {gs : List Comprehension} (hi0 : X.N[i]? = some y) (hy : X.env.scope.names.lookup y = some .cell) (he : PE X (.ListComp eltE gs scope p) (tEv S false w W a)) :
    PS X (.Assign [.Name y py] (.ListComp eltE gs scope p) pos) (tSv S false w W (.set i a)) := by
  refine PS.of (ps_set g.nd hi0 (.inr hy) he (sw_cell hy) (.inl (g.fnt y))) fun Dn σ H ⟨F, ρ, As, pr, q⟩ => ?_
  rw [evalS] at q
  refine FinS.kept pr q fun d ρ2 v F2 H2 As2 C p1 k1 q1 => ?_
  have hn : d.noX = true := by have := RepL.noX (g.f.hx rfl) k1; simpa [D.noXL] using this
  exact q1 (σ.set i (some v)) F2 H2 (As2.set i C) ((Post.spost pr p1).set k1 hn (by simp) (rbs_mem (by simp)) (.inr fun e => rbs_big (by simp [e])))
end
end SL
set_option Elab.async false
set_option linter.all false
set_option maxRecDepth 100000
set_option maxHeartbeats 1000000
/-! SLChk: is this slim text the erased text of that one? -/
namespace SL
open PySem L2

def all2 {α β : Type} (f : α → β → Bool) : List α → List β → Bool
  | [], [] => true
  | a :: as, b :: bs => f a b && all2 f as bs
  | _, _ => false
def nilB {α : Type} : List α → Bool
  | [] => true
  | _ => false
def visC (N : List Str) (sc : Scope) (i : Nat) (x : Str) : Bool :=
  decide (N[i]? = some x) && (match sc.names.lookup x with | some .local => true | some .cell => true | some .free => true | _ => false) && !(x == ("__debug__" : Str)) && !(x == ("__classdict__" : Str))
def glC (sc : Scope) (x : Str) : Bool := decide (sc.names.lookup x = some .globalImplicit)
def locC (N : List Str) (sc : Scope) (i : Nat) (x : Str) : Bool := decide (N[i]? = some x) && (decide (sc.names.lookup x = some .local) || decide (sc.names.lookup x = some .cell))
def bopC : Bop → Operator → Bool
  | .add, .Add => true
  | .sub, .Sub => true
  | .mul, .Mult => true
  | .fdiv, .FloorDiv => true
  | .mod, .Mod => true
  | .pow, .Pow => true
  | _, _ => false
def bolC : Bool → BoolOp → Bool
  | true, .And => true
  | false, .Or => true
  | _, _ => false
def copC : Cop → CmpOp → Bool
  | .eq, .Eq => true
  | .ne, .NotEq => true
  | .lt, .Lt => true
  | .le, .LtE => true
  | .gt, .Gt => true
  | .ge, .GtE => true
  | .isn, .Is => true
  | .notn, .IsNot => true
  | .in_, .In => true
  | .nin, .NotIn => true
  | _, _ => false
def isNone : Ex → Bool
  | .non => true
  | _ => false
def copN (o : Cop) (b : Ex) : Bool := match o with
  | .isn => isNone b
  | .notn => isNone b
  | _ => true
def copP : Cop → Bool
  | .isn => false
  | .notn => false
  | _ => true
/-- a test that is a value's truth -/
def plainT : Expr → Bool
  | .UnaryOp .Not _ _ => false
  | .BoolOp _ _ _ => false
  | .IfExp _ _ _ _ => false
  | .Compare _ _ _ _ => false
  | _ => true
structure CkC where
  T : NT
  glob : Nat → Bool
  N : List Str
  hot : Bool
def icC (T : NT) : Ic → Bool
  | .cls c => T.oc c
  | _ => true
def biH (h : Bool) : Bi → Bool
  | .len => true
  | .int => true
  | _ => !h
def bmNe : Bm → Bool
  | .upper => false
  | _ => true
abbrev Rec (α : Type) := Scope → α → Expr → Bool
/-- an iterable -/
def chkI (c : CkC) (rE : Rec Ex) (sc : Scope) (te : Expr) : Ik → List Ex → Expr → Bool
  | .plain, [s], e => rE sc s e && noSet e
  | .range1, [s], .Call (.Name x _) [a] [] _ => decide (x = ("range" : Str)) && glC sc x && rE sc s a && noStar a
  | .range2, [s, s'], .Call (.Name x _) [a, b] [] _ => decide (x = ("range" : Str)) && glC sc x && rE sc s a && rE sc s' b && noStar a && noStar b
  | .enum, [s], .Call (.Name x _) [a] [] _ => decide (x = ("enumerate" : Str)) && glC sc x && rE sc s a && noStar a && isTupE te
  | _, _, _ => false
def ownL (N : List Str) (is : List Nat) : List (Str × Nat) := is.map fun i => (N.getD i Str.empty, i)
def chkO (rE : Rec Ex) (sc : Scope) : List Ex → Option Expr → Bool
  | [], none => true
  | [s], some e => rE sc s e
  | _, _ => false
def chkCs (rT : Rec Tx) (sc : Scope) : List Tx → List Expr → Bool
  | [], [] => true
  | [t], [e] => rT sc t e
  | _, _ => false
def chkLc (c : CkC) (rE : Rec Ex) (rT : Rec Tx) (sc : Scope) (own : List Nat) (elt : Ex) (tg : Tg) (ik : Ik) (ie : List Ex) (cs : List Tx) : Expr → Bool
  | .ListComp eltE [⟨te, iter, ifs, 0⟩] scope _ => blkC c.N sc scope (ownL c.N own) && (tgs tg).all (fun i => own.contains i) && chkI c rE sc te ik ie iter && noSet iter &&
    chkTg c.N (relS scope sc) (fun x => scope.names.lookup x == some .cell) te tg && chkCs rT (relS scope sc) cs ifs && rE (relS scope sc) elt eltE
  | _ => false
def stE (c : CkC) (rE : Rec Ex) (rT : Rec Tx) (sc : Scope) : Ex → Expr → Bool
  | .var i, .Name x _ => visC c.N sc i x
  | .take i, .Name x _ => visC c.N sc i x
  | .non, .Constant .none _ _ => true
  | .bl b, .Constant (.bool b') _ _ => b == b'
  | .int i, .Constant (.int j) _ _ => decide (i = j)
  | .str x, .Constant (.str y) _ _ => decide (x = y) && PyData.strOk x
  | .glob g, .Name x _ => decide (x = c.T.gl g) && glC sc x && c.glob g
  | .bin o a b, .BinOp ea op eb _ => bopC o op && rE sc a ea && rE sc b eb
  | .neg a, .UnaryOp .USub ea _ => rE sc a ea
  | .not_ (.e a), .UnaryOp .Not ea _ => rE sc a ea
  | .bop k es, .BoolOp op es' _ => bolC k op && !nilB es && all2 (rE sc) es es'
  | .cmp o a b, .Compare ea [op] [eb] _ => copC o op && copN o b && !behindInMarks op eb && rE sc a ea && rE sc b eb
  | .chain o o' a b d, .Compare ea [op, op'] [eb, ed] _ => copC o op && copC o' op' && copP o && copP o' && !behindInMarks op' ed && rE sc a ea && rE sc b eb && rE sc d ed
  | .ife t a b, .IfExp et ea eb _ => rT sc t et && rE sc a ea && rE sc b eb
  | .call f es, .Call (.Name x _) args [] _ => decide (x = c.T.fn f) && glC sc x && c.T.gf f && args.all noStar && all2 (rE sc) es args
  | .new d es, .Call (.Name x _) args [] _ => !c.hot && decide (x = c.T.cl d) && glC sc x && c.T.gc d && args.all noStar && all2 (rE sc) es args
  | .meth m o es, .Call (.Attribute eo y ap) args [] p => decide (y = c.T.at_ m) && noSup eo && decide (args.length < 19) && (ap.endLine == p.line) && args.all noStar && rE sc o eo && all2 (rE sc) es args
  | .fld a f, .Attribute ea y _ => decide (y = c.T.at_ f) && noSup ea && rE sc a ea
  | .bi b es, .Call (.Name x _) args [] _ => decide (x = biN b) && glC sc x && biH c.hot b && !nilB args && args.all noStar && all2 (rE sc) es args
  | .bm m o es, .Call (.Attribute eo y ap) args [] p => !c.hot && decide (y = bmN m) && noSup eo && decide (args.length < 19) && (ap.endLine == p.line) && args.all noStar && (bmNe m != nilB args) && rE sc o eo && all2 (rE sc) es args
  | .isin a ic, .Call (.Name x _) [ea, .Name y _] [] _ => decide (x = ("isinstance" : Str)) && glC sc x && decide (y = icN c.T ic) && glC sc y && icC c.T ic && noStar ea && rE sc a ea
  | .idx a b, .Subscript ea eb _ => noSlc eb && rE sc a ea && rE sc b eb
  | .slc a lo hi, .Subscript ea (.Slice el eh none _) _ => rE sc a ea && chkO rE sc lo el && chkO rE sc hi eh
  | .lst es, .List es' _ => es'.all noStar && all2 (rE sc) es es'
  | .tup es, .Tuple es' _ _ => es'.all noStar && all2 (rE sc) es es'
  | .comp own elt tg ik ie cs, e => !c.hot && chkLc c rE rT sc own elt tg ik ie cs e
  | _, _ => false
def stT (c : CkC) (rE : Rec Ex) (rT : Rec Tx) (sc : Scope) : Tx → Expr → Bool
  | .e (.cmp o a b), .Compare ea [op] [eb] _ => copC o op && copN o b && !behindInMarks op eb && rE sc a ea && rE sc b eb
  | .e (.chain o o' a b d), .Compare ea [op, op'] [eb, ed] _ => copC o op && copC o' op' && copP o && copP o' && !behindInMarks op' ed && rE sc a ea && rE sc b eb && rE sc d ed
  | .not_ t, .UnaryOp .Not e _ => rT sc t e
  | .bop k ts, .BoolOp op es _ => bolC k op && !nilB ts && all2 (rT sc) ts es
  | .e s, e => plainT e && rE sc s e
  | _, _ => false
mutual
def chkE (c : CkC) : Nat → Rec Ex
  | 0, _, _, _ => false
  | n + 1, sc, s, e => stE c (chkE c n) (chkT c n) sc s e
def chkT (c : CkC) : Nat → Rec Tx
  | 0, _, _, _ => false
  | n + 1, sc, s, e => stT c (chkE c n) (chkT c n) sc s e
end
def chkPr (c : CkC) (rE : Rec Ex) (sc : Scope) (i : Nat) : List Ex → Expr → Bool
  | [], .Name x _ => visC c.N sc i x
  | p :: ps, .Subscript er ep _ => noSlc ep && rE sc p ep && chkPr c rE sc i ps er
  | _, _ => false
/-- name = [..] -/
def chkSetLc (c : CkC) (rE : Rec Ex) (rT : Rec Tx) (sc : Scope) (x : Str) (px : Pos) : Ex → Expr → Bool
  | .comp own elt tg ik ie cs, .ListComp eltE gs scope p => !c.hot && (chkLc c rE rT sc own elt tg ik ie cs (.ListComp eltE gs scope p) &&
    (decide (sc.names.lookup x = some .cell) || (decide (sc.names.lookup x = some .local) && (px.line == p.line) && !(scope.names.any fun (n, k) => n == x && (k == .local || k == .cell)))))
  | _, _ => false
def chkS (c : CkC) : Nat → Scope → Sx → Stmt → Bool
  | 0, _, _, _ => false
  | n + 1, sc, .set i a, .Assign [.Name x px] v _ => locC c.N sc i x && ((noLc v && chkE c n sc a v) || chkSetLc c (chkE c n) (chkT c n) sc x px a v)
  | n + 1, sc, .unp is a, .Assign [te] v _ => !c.hot && chkTg c.N sc (fun _ => true) te (.tp is) && chkE c n sc a v && noLc v && noTup v && noStar te
  | n + 1, sc, .sset i path a, .Assign [.Subscript er ek _] v _ => !c.hot && noLc v && noTup v && noSlc ek && chkE c n sc a v && (match path.reverse with
    | [] => false
    | pk :: ps => chkE c n sc pk ek && chkPr c (chkE c n) sc i ps er)
  | n + 1, sc, .sfld f a, .Assign [.Attribute (.Name x _) y _] v _ => visC c.N sc 0 x && decide (y = c.T.at_ f) && noLc v && chkE c n sc a v
  | n + 1, sc, .app i path a, .Expr (.Call (.Attribute er y ap) [v] [] p) _ => decide (y = ("append" : Str)) && noStar v && noSup er && (ap.endLine == p.line) && chkE c n sc a v && chkPr c (chkE c n) sc i path.reverse er
  | n + 1, sc, .aug i o a, .AugAssign (.Name x _) op v _ => (match o, op with | .add, .Add => true | .sub, .Sub => true | _, _ => false) && locC c.N sc i x && chkE c n sc a v
  | n + 1, sc, .ex a, .Expr v _ => noLc v && chkE c n sc a v
  | n + 1, sc, .ret a, .Return (some v) _ => chkE c n sc a v
  | _ + 1, _, .ret0, .Return none _ => true
  | n + 1, sc, .ite t a b, .If et ea eb _ => chkT c n sc t et && all2 (chkS c n sc) a ea && all2 (chkS c n sc) b eb
  | n + 1, sc, .for_ tg ik ie body, .For te iter b [] _ => chkTg c.N sc (fun _ => true) te tg && chkI c (chkE c n) sc te ik ie iter && noSet iter && (!c.hot || (!isTupE te && decide (ik = .range1))) && all2 (chkS c n sc) body b
  | n + 1, sc, .while_ t body, .While et b [] _ => chkT c n sc t et && all2 (chkS c n sc) body b
  | n + 1, sc, .raise_ d es, .Raise (some (.Call (.Name x _) args [] _)) none _ => !c.hot && decide (x = c.T.cl d) && glC sc x && c.T.rc d && !nilB args && args.all noStar && all2 (chkE c n sc) es args
  | n + 1, sc, .try_ body d j suite, .Try b [.ExceptHandler (some (.Name x _)) nm sts _] [] [] _ => !c.hot && decide (x = c.T.cl d) && glC sc x && c.T.oc d && !nilB sts && all2 (chkS c n sc) body b && all2 (chkS { c with hot := true } n sc) suite sts && (match j, nm with
    | none, none => true
    | some j, some y => decide (c.N[j]? = some y) && decide (sc.names.lookup y = some .local)
    | _, _ => false)
  | _ + 1, _, .brk, .Break _ => true
  | _ + 1, _, .cont, .Continue _ => true
  | _ + 1, _, .pass, .Pass _ => true
  | _, _, _, _ => false
end SL
set_option Elab.async false
set_option linter.all false
set_option maxRecDepth 100000
set_option maxHeartbeats 2000000
/-! SLChs: a checked expression keeps what the evaluator says. -/
namespace SL
open PySem L2
section
variable {X : Cx} {S : Sem} {h : Bool} {w : Wd} {W : WX} {fE : Ex → Expr → Bool} {fT : Tx → Expr → Bool} {pos : Pos}
theorem es_ok (hf : ∀ s e, fE s e = true → PE X e (tEv S h w W s)) : ∀ {ss : List Ex} {es : List Expr}, all2 fE ss es = true → es.all noStar = true → PA X es (tEvs S h w W ss)
  | [], [], _, _ => snd_es_nil
  | s :: ss, e :: es, h1, h2 => by
    simp only [all2, List.all_cons, Bool.and_eq_true] at h1 h2
    exact snd_es_cons (hf s e h1.1) (es_ok hf h1.2 h2.2) h2.1
  | [], _ :: _, h1, _ => by simp [all2] at h1
  | _ :: _, [], h1, _ => by simp [all2] at h1
theorem as_ok (hf : ∀ s e, fE s e = true → PE X e (tEv S h w W s)) : ∀ {ss : List Ex} {es : List Expr}, all2 fE ss es = true → es.all noStar = true → PA X es (tAv S h w W ss)
  | [], [], _, _ => snd_a_nil
  | s :: ss, e :: es, h1, h2 => by
    simp only [all2, List.all_cons, Bool.and_eq_true] at h1 h2
    exact snd_a_cons (hf s e h1.1) (as_ok hf h1.2 h2.2) h2.1
  | [], _ :: _, h1, _ => by simp [all2] at h1
  | _ :: _, [], h1, _ => by simp [all2] at h1
theorem ks_ok (hf : ∀ s e, fE s e = true → PE X e (tEv S h w W s)) : ∀ {ss : List Ex} {es : List Expr}, all2 fE ss es = true → es.all noStar = true → PA X es (tKv S h w W ss)
  | [], [], _, _ => snd_k_nil
  | s :: ss, e :: es, h1, h2 => by
    simp only [all2, List.all_cons, Bool.and_eq_true] at h1 h2
    exact snd_k_cons (hf s e h1.1) (ks_ok hf h1.2 h2.2) h2.1
  | [], _ :: _, h1, _ => by simp [all2] at h1
  | _ :: _, [], h1, _ => by simp [all2] at h1
theorem bs_ok (hK : X.K = w.K) {k : Bool} (hf : ∀ s e, fE s e = true → PE X e (tEv S h w W s)) : ∀ {ss : List Ex} {es : List Expr}, all2 fE ss es = true → nilB ss = false → PE X (.BoolOp (bopOf k) es pos) (tBv S h w W k ss)
  | [], es, _, h2 => by cases h2
  | [s], [e], h1, _ => by
    simp only [all2, Bool.and_eq_true] at h1
    exact snd_b1 (hf s e h1.1)
  | [s], e :: e' :: es, h1, _ => by simp [all2] at h1
  | s :: s' :: ss, e :: e' :: es, h1, _ => by
    have h1' : (fE s e && all2 fE (s' :: ss) (e' :: es)) = true := h1
    rw [Bool.and_eq_true] at h1'
    exact snd_b2 hK (hf s e h1'.1) (bs_ok hK hf h1'.2 rfl)
  | s :: s' :: ss, [e], h1, _ => by simp [all2] at h1
  | _ :: _, [], h1, _ => by simp [all2] at h1
theorem ts_ok {k : Bool} (hf : ∀ s e, fT s e = true → PT X e (tTv S h w W s)) : ∀ {ss : List Tx} {es : List Expr}, all2 fT ss es = true → nilB ss = false → PW X (.BoolOp (bopOf k) es pos) (tBTv S h w W k ss)
  | [], es, _, h2 => by cases h2
  | [s], [e], h1, _ => by
    simp only [all2, Bool.and_eq_true] at h1
    exact snd_tb1 (hf s e h1.1)
  | [s], e :: e' :: es, h1, _ => by simp [all2] at h1
  | s :: s' :: ss, e :: e' :: es, h1, _ => by
    have h1' : (fT s e && all2 fT (s' :: ss) (e' :: es)) = true := h1
    rw [Bool.and_eq_true] at h1'
    exact snd_tb2 (hf s e h1'.1) (ts_ok hf h1'.2 rfl)
  | s :: s' :: ss, [e], h1, _ => by simp [all2] at h1
  | _ :: _, [], h1, _ => by simp [all2] at h1
end
theorem visC_ok {N : List Str} {sc : Scope} {i : Nat} {x : Str} (h : visC N sc i x = true) : N[i]? = some x ∧ Vis sc x ∧ (x == ("__debug__" : Str)) = false ∧ (x == ("__classdict__" : Str)) = false := by
  unfold visC at h
  rw [Bool.and_eq_true, Bool.and_eq_true, Bool.and_eq_true] at h
  obtain ⟨⟨⟨h1, h2⟩, h3⟩, h4⟩ := h
  refine ⟨of_decide_eq_true h1, ?_, by simpa using h3, by simpa using h4⟩
  unfold Vis
  split at h2
  · rename_i e; exact .inl e
  · rename_i e; exact .inr (.inl e)
  · rename_i e; exact .inr (.inr e)
  · cases h2
theorem locC_ok {N : List Str} {sc : Scope} {i : Nat} {x : Str} (h : locC N sc i x = true) : N[i]? = some x ∧ L2.Loc sc x := by
  unfold locC at h
  rw [Bool.and_eq_true, Bool.or_eq_true] at h
  exact ⟨of_decide_eq_true h.1, h.2.imp of_decide_eq_true of_decide_eq_true⟩
theorem glC_ok {X : Cx} {x : Str} (h : glC X.env.scope x = true) : Gl X x := by
  unfold glC at h
  have h' := of_decide_eq_true h
  exact h'
theorem bolC_ok {k : Bool} {op : BoolOp} (h : bolC k op = true) : op = bopOf k := by
  cases k <;> cases op <;> first | rfl | cases h
theorem copC_ok {o : Cop} {op : CmpOp} (h : copC o op = true) : op = copOf o := by
  cases o <;> cases op <;> first | rfl | cases h
theorem copN_ok {o : Cop} {b : Ex} (h : copN o b = true) : o = .isn ∨ o = .notn → b = .non := by
  intro z
  rcases z with rfl | rfl <;> (simp only [copN] at h; cases b <;> first | rfl | cases h)
theorem copP_ok {o : Cop} (h : copP o = true) : ¬ (o = .isn ∨ o = .notn) := by
  intro z
  rcases z with rfl | rfl <;> cases h
theorem plainT_ok {e : Expr} {env : PySem.Env} (h : plainT e = true) : ∀ whole, isTrue e env whole = (do let v ← whole; standAt e.pos; holding [v] (truthy v)) := by
  intro whole
  cases e <;> first | rfl | (cases h; done) | skip
  rename_i op e pos
  cases op <;> first | rfl | cases h
theorem biH_ok {h : Bool} {b : Bi} (e : biH h b = true) : h = true → b = .len ∨ b = .int := by
  intro hh
  subst hh
  cases b <;> first | exact .inl rfl | exact .inr rfl | cases e
theorem icC_ok {T : NT} {ic : Ic} (h : icC T ic = true) : ∀ c, ic = .cls c → T.oc c = true := by
  intro c e
  subst e
  exact h
theorem bne_ok {m : Bm} {args : List Expr} (h : (bmNe m != nilB args) = true) : (m = .upper ∧ args = []) ∨ ∃ e es, args = e :: es := by
  cases args with
  | nil => cases m <;> first | exact .inl ⟨rfl, rfl⟩ | cases h
  | cons e es => exact .inr ⟨e, es, rfl⟩

section
variable {T : NT} {W0 : World0} {w0 : Wd} {fa : Nat → Addr} {cv : Nat → Value} {S : Sem} {k : Nat}
/-- a context for a checked text -/
structure XC (T : NT) (W0 : World0) (w0 : Wd) (fa : Nat → Addr) (cv : Nat → Value) (S : Sem) (k : Nat) (c : CkC) (w : Wd) (W : WX) (X : Cx) : Prop where
  f : XF T W0 w0 w fa cv S c.hot k W X
  N : X.N = c.N
  nd : X.N.Nodup
def OkE (T : NT) (W0 : World0) (w0 : Wd) (fa : Nat → Addr) (cv : Nat → Value) (S : Sem) (k : Nat) (c : CkC) (rE : Rec Ex) : Prop := ∀ X w W, XC T W0 w0 fa cv S k c w W X → ∀ s e, rE X.env.scope s e = true → PE X e (tEv S c.hot w W s)
def OkT (T : NT) (W0 : World0) (w0 : Wd) (fa : Nat → Addr) (cv : Nat → Value) (S : Sem) (k : Nat) (c : CkC) (rT : Rec Tx) : Prop := ∀ X w W, XC T W0 w0 fa cv S k c w W X → ∀ s e, rT X.env.scope s e = true → PT X e (tTv S c.hot w W s)
variable {c : CkC} {rE : Rec Ex} {rT : Rec Tx} {X : Cx} {w : Wd} {W : WX}
theorem bin_ok (hK : X.K = w.K) {h : Bool} {o : Bop} {op : Operator} {a b : Ex} {ea eb : Expr} {pos : Pos} (e : bopC o op = true) (ha : PE X ea (tEv S h w W a)) (hb : PE X eb (tEv S h w W b)) : PE X (.BinOp ea op eb pos) (tEv S h w W (.bin o a b)) := by
  cases o <;> cases op <;> first | (cases e; done) | exact snd_add hK ha hb | exact snd_sub hK ha hb | exact snd_mul hK ha hb | exact snd_fdiv hK ha hb | exact snd_mod hK ha hb | exact snd_pow hK ha hb
theorem chkI_ok (hc : c.T = T) (x : XC T W0 w0 fa cv S k c w W X) (rE_ok : OkE T W0 w0 fa cv S k c rE) {te : Expr} {ik : Ik} {ie : List Ex} {e : Expr} {keep : Nat → Bool} (h : chkI c rE X.env.scope te ik ie e = true) :
    PI X te e (tItv S c.hot w W ik ie keep) := by
  unfold chkI at h
  split at h
  · simp only [Bool.and_eq_true] at h
    exact snd_it_plain x.f.KK (rE_ok X w W x _ _ h.1)
  · simp only [Bool.and_eq_true, decide_eq_true_eq] at h
    obtain ⟨⟨⟨rfl, h2⟩, h3⟩, h4⟩ := h
    exact snd_it_range1 x.f (glC_ok h2) (rE_ok X w W x _ _ h3) h4
  · simp only [Bool.and_eq_true, decide_eq_true_eq] at h
    obtain ⟨⟨⟨⟨⟨rfl, h2⟩, h3⟩, h4⟩, h5⟩, h6⟩ := h
    exact snd_it_range2 x.f (glC_ok h2) (rE_ok X w W x _ _ h3) (rE_ok X w W x _ _ h4) h5 h6
  · simp only [Bool.and_eq_true, decide_eq_true_eq] at h
    obtain ⟨⟨⟨⟨rfl, h2⟩, h3⟩, h4⟩, h5⟩ := h
    cases te <;> first | (cases h5; done) | exact snd_it_enum x.f (glC_ok h2) (rE_ok X w W x _ _ h3) h4
  · cases h
theorem chkIH_ok (hc : c.T = T) (x : XC T W0 w0 fa cv S k c w W X) (rE_ok : OkE T W0 w0 fa cv S k c rE) {te : Expr} {ie : List Ex} {e : Expr} {keep : Nat → Bool} (h : chkI c rE X.env.scope te .range1 ie e = true) :
    L2H.PIH X te e (tItv S c.hot w W .range1 ie keep) := by
  unfold chkI at h
  split at h
  · contradiction
  · simp only [Bool.and_eq_true, decide_eq_true_eq] at h
    obtain ⟨⟨⟨rfl, h2⟩, h3⟩, h4⟩ := h
    exact snd_it_range1H x.f (glC_ok h2) (rE_ok X w W x _ _ h3) h4
  · contradiction
  · contradiction
  · cases h
theorem ownL_ok {N : List Str} {is : List Nat} : (ownL N is).map (·.2) = is := by
  unfold ownL
  rw [List.map_map]
  exact (List.map_congr_left fun a _ => rfl).trans (List.map_id is)
theorem chkLc_ok (hc : c.T = T) (hh : c.hot = false) (x : XC T W0 w0 fa cv S k c w W X) (rE_ok : OkE T W0 w0 fa cv S k c rE) (rT_ok : OkT T W0 w0 fa cv S k c rT) {own : List Nat} {elt : Ex} {tg : Tg} {ik : Ik} {ie : List Ex} {cs : List Tx} {eltE : Expr} {gs : List Comprehension} {scope : Scope} {pos : Pos}
    (h : chkLc c rE rT X.env.scope own elt tg ik ie cs (.ListComp eltE gs scope pos) = true) : ∃ te iter ifs, gs = [⟨te, iter, ifs, 0⟩] ∧ BlkOk X.N X.env.scope scope (ownL c.N own) ∧ (∀ i ∈ tgs tg, i ∈ own) ∧ PI X te iter (tItv S false w W ik ie (fun _ => true)) ∧ noSet iter = true ∧
      BlkS T W0 w0 w fa cv S k X scope te tg ifs cs eltE elt := by
  have keyE := rE_ok
  have keyT := rT_ok
  unfold OkE at keyE
  unfold OkT at keyT
  unfold chkLc at h
  split at h
  · rename_i e1 te iter ifs sc p ez
    cases ez
    simp only [Bool.and_eq_true] at h
    obtain ⟨⟨⟨⟨⟨⟨h1, h2⟩, h3⟩, h4⟩, h5⟩, h6⟩, h7⟩ := h
    have pi := chkI_ok (keep := fun _ => true) hc x rE_ok h3
    rw [hh] at pi
    refine ⟨te, iter, ifs, rfl, by rw [x.N]; exact blkOk_by h1, fun i hi => by simpa using List.all_eq_true.mp h2 i hi, pi, h4, fun X' xf hN hsc hfn => ?_⟩
    have xc : XC T W0 w0 fa cv S k c w WF X' := ⟨by rw [hh]; exact xf, hN.trans x.N, by rw [hN]; exact x.nd⟩
    rw [← hsc] at h5 h6 h7
    refine ⟨chkTg_ok xc.nd xf.KK (.inl (xf.room rfl).2) (by rw [xc.N, hfn]; exact h5), ?_, ?_⟩
    · unfold chkCs at h6
      split at h6
      · exact snd_c0
      · have := keyT X' w WF xc _ _ h6
        rw [hh] at this
        exact snd_c1 this
      · cases h6
    · have := keyE X' w WF xc _ _ h7
      rw [hh] at this
      exact this
  · cases h
theorem chkO_ok (rE_ok : ∀ s e, rE X.env.scope s e = true → PE X e (tEv S c.hot w W s)) {ss : List Ex} {o : Option Expr} (h : chkO rE X.env.scope ss o = true) : PO X o (tOv S c.hot w W ss) ∧ ss.length ≤ 1 := by
  unfold chkO at h
  split at h
  · exact ⟨po_none, by simp⟩
  · exact ⟨po_some (rE_ok _ _ h), by simp⟩
  · cases h
end
end SL
set_option Elab.async false
set_option linter.all false
set_option maxRecDepth 100000
set_option maxHeartbeats 4000000
/-! SLChe: checked expressions are sound. -/
namespace SL
open PySem L2
section
variable {T : NT} {W0 : World0} {w0 : Wd} {fa : Nat → Addr} {cv : Nat → Value} {S : Sem} {k : Nat}
variable {c : CkC} {rE : Rec Ex} {rT : Rec Tx} {X : Cx} {w : Wd} {W : WX}
theorem stE_ok (hc : c.T = T) (hg : ∀ g, c.glob g = true → (S.tab.glob g).isSome = true) (rE_ok : OkE T W0 w0 fa cv S k c rE) (rT_ok : OkT T W0 w0 fa cv S k c rT) : OkE T W0 w0 fa cv S k c (stE c rE rT) := by
  intro X w W x s e h
  have keyE := rE_ok X w W x
  have keyT := rT_ok X w W x
  have hK := x.f.KK
  unfold stE at h
  split at h
  · rw [← x.N] at h
    obtain ⟨h1, h2, h3, h4⟩ := visC_ok h
    exact snd_var h1 h2 h3 h4
  · rw [← x.N] at h
    obtain ⟨h1, h2, h3, h4⟩ := visC_ok h
    exact snd_take h1 h2 h3 h4
  · exact snd_non
  · have := eq_of_beq h
    subst this
    exact snd_bl
  · have := of_decide_eq_true h
    subst this
    exact snd_int
  · rw [Bool.and_eq_true] at h
    have := of_decide_eq_true h.1
    subst this
    exact snd_str h.2
  · simp only [Bool.and_eq_true, decide_eq_true_eq] at h
    obtain ⟨⟨rfl, h2⟩, h3⟩ := h
    rw [hc] at h2 ⊢
    exact snd_glob x.f (glC_ok h2) (hg _ h3)
  · simp only [Bool.and_eq_true] at h
    exact bin_ok hK h.1.1 (keyE _ _ h.1.2) (keyE _ _ h.2)
  · exact snd_neg (keyE _ _ h)
  · exact snd_not hK (keyE _ _ h)
  · simp only [Bool.and_eq_true, Bool.not_eq_true'] at h
    have e := bolC_ok h.1.1
    subst e
    exact snd_bop (bs_ok hK keyE h.2 h.1.2)
  · simp only [Bool.and_eq_true, Bool.not_eq_true'] at h
    obtain ⟨⟨⟨⟨h1, h2⟩, h3⟩, h4⟩, h5⟩ := h
    have e := copC_ok h1
    subst e
    exact snd_cmp hK x.f.units (keyE _ _ h4) (keyE _ _ h5) (copN_ok h2) h3
  · simp only [Bool.and_eq_true, Bool.not_eq_true'] at h
    obtain ⟨⟨⟨⟨⟨⟨⟨h1, h2⟩, h3⟩, h4⟩, h5⟩, h6⟩, h7⟩, h8⟩ := h
    have e := copC_ok h1
    have e2 := copC_ok h2
    subst e; subst e2
    exact snd_chain hK x.f.units (keyE _ _ h6) (keyE _ _ h7) (keyE _ _ h8) (copP_ok h3) (copP_ok h4) h5
  · simp only [Bool.and_eq_true] at h
    exact snd_ife (keyT _ _ h.1.1) (keyE _ _ h.1.2) (keyE _ _ h.2)
  · rename_i f es y p args p2
    simp only [Bool.and_eq_true, decide_eq_true_eq] at h
    obtain ⟨⟨⟨⟨rfl, h2⟩, h3⟩, h4⟩, h5⟩ := h
    rw [hc] at h2 h3 ⊢
    cases args with
    | nil =>
      cases es with
      | nil => exact snd_call0 x.f h3 (glC_ok h2)
      | cons _ _ => simp [all2] at h5
    | cons e es' =>
      have pa := as_ok keyE h5 h4
      simp only [List.all_cons, Bool.and_eq_true] at h4
      exact snd_call x.f h3 (glC_ok h2) pa h4.1 h4.2
  · rename_i d es y p args p2
    simp only [Bool.and_eq_true, Bool.not_eq_true', decide_eq_true_eq] at h
    obtain ⟨⟨⟨⟨⟨h0, rfl⟩, h2⟩, h3⟩, h4⟩, h5⟩ := h
    rw [hc] at h2 h3 ⊢
    have xf := x.f
    rw [h0] at keyE xf ⊢
    cases args with
    | nil =>
      cases es with
      | nil => exact snd_new0 xf h3 (glC_ok h2)
      | cons _ _ => simp [all2] at h5
    | cons e es' =>
      have pa := as_ok keyE h5 h4
      simp only [List.all_cons, Bool.and_eq_true] at h4
      exact snd_new xf h3 (glC_ok h2) pa h4.1 h4.2
  · rename_i m o es eo y ap args p
    simp only [Bool.and_eq_true, decide_eq_true_eq] at h
    obtain ⟨⟨⟨⟨⟨⟨rfl, h1⟩, h2⟩, h3⟩, h4⟩, h5⟩, h6⟩ := h
    rw [hc]
    cases args with
    | nil =>
      cases es with
      | nil => exact snd_meth0 x.f (keyE _ _ h5) h1 h3
      | cons _ _ => simp [all2] at h6
    | cons e es' =>
      have pa := as_ok keyE h6 h4
      simp only [List.all_cons, Bool.and_eq_true] at h4
      exact snd_meth x.f (keyE _ _ h5) pa h4.1 h4.2 h1 (by simpa using Nat.lt_of_succ_lt h2) h3
  · simp only [Bool.and_eq_true, decide_eq_true_eq] at h
    obtain ⟨⟨rfl, h1⟩, h2⟩ := h
    rw [hc]
    exact snd_fld x.f (keyE _ _ h2) h1
  · rename_i b es y p args p2
    simp only [Bool.and_eq_true, Bool.not_eq_true', decide_eq_true_eq] at h
    obtain ⟨⟨⟨⟨⟨rfl, h1⟩, h2⟩, h3⟩, h4⟩, h5⟩ := h
    cases args with
    | nil => cases h3
    | cons e es' =>
      have pa := es_ok keyE h5 h4
      simp only [List.all_cons, Bool.and_eq_true] at h4
      exact snd_bi x.f (biH_ok h2) (glC_ok h1) pa h4.1 h4.2
  · rename_i m o es eo y ap args p
    simp only [Bool.and_eq_true, Bool.not_eq_true', decide_eq_true_eq] at h
    obtain ⟨⟨⟨⟨⟨⟨⟨⟨h0, rfl⟩, h1⟩, h2⟩, h3⟩, h4⟩, h5⟩, h6⟩, h7⟩ := h
    rcases bne_ok h5 with ⟨rfl, rfl⟩ | ⟨e, es', rfl⟩
    · cases es with
      | nil => exact snd_bm0 x.f (keyE _ _ h6) h1 h3
      | cons _ _ => simp [all2] at h7
    · have pa := es_ok keyE h7 h4
      simp only [List.all_cons, Bool.and_eq_true] at h4
      exact snd_bm x.f (keyE _ _ h6) pa h1 h4.1 h4.2 (by simpa using Nat.lt_of_succ_lt h2) h3
  · simp only [Bool.and_eq_true, decide_eq_true_eq] at h
    obtain ⟨⟨⟨⟨⟨⟨rfl, h1⟩, rfl⟩, h2⟩, h3⟩, h4⟩, h5⟩ := h
    rw [hc] at h2 h3 ⊢
    exact snd_isin x.f (keyE _ _ h5) h4 (glC_ok h2) (icC_ok h3) (glC_ok h1)
  · simp only [Bool.and_eq_true] at h
    exact snd_idx hK (keyE _ _ h.1.2) (keyE _ _ h.2) (plain_ix h.1.1)
  · simp only [Bool.and_eq_true] at h
    obtain ⟨o1, n1⟩ := chkO_ok (w := w) (W := W) (S := S) keyE h.1.2
    obtain ⟨o2, n2⟩ := chkO_ok (w := w) (W := W) (S := S) keyE h.2
    exact snd_slc hK (keyE _ _ h.1.1) o1 o2 n1 n2
  · rw [Bool.and_eq_true] at h
    exact snd_lst (ks_ok keyE h.2 h.1)
  · rw [Bool.and_eq_true] at h
    exact snd_tup (ks_ok keyE h.2 h.1)
  · rename_i own elt tg ik ie cs
    rw [Bool.and_eq_true, Bool.not_eq_true'] at h
    obtain ⟨h0, h1⟩ := h
    cases e with
    | ListComp eltE gs scope pos =>
      obtain ⟨te, iter, ifs, rfl, bo, ht, pi, hs, bs⟩ := chkLc_ok hc h0 x rE_ok rT_ok h1
      have xf := x.f
      rw [h0] at xf ⊢
      exact snd_comp xf x.nd bo ownL_ok ht pi hs bs
    | _ => unfold chkLc at h1; cases h1
  · cases h
theorem stT_ok (rE_ok : OkE T W0 w0 fa cv S k c rE) (rT_ok : OkT T W0 w0 fa cv S k c rT) : OkT T W0 w0 fa cv S k c (stT c rE rT) := by
  intro X w W x s e h
  have keyE := rE_ok X w W x
  have keyT := rT_ok X w W x
  have hK := x.f.KK
  unfold stT at h
  split at h
  · simp only [Bool.and_eq_true, Bool.not_eq_true'] at h
    obtain ⟨⟨⟨⟨h1, h2⟩, h3⟩, h4⟩, h5⟩ := h
    have e := copC_ok h1
    subst e
    exact snd_tcmp hK x.f.units (keyE _ _ h4) (keyE _ _ h5) (copN_ok h2) h3
  · simp only [Bool.and_eq_true, Bool.not_eq_true'] at h
    obtain ⟨⟨⟨⟨⟨⟨⟨h1, h2⟩, h3⟩, h4⟩, h5⟩, h6⟩, h7⟩, h8⟩ := h
    have e := copC_ok h1
    have e2 := copC_ok h2
    subst e; subst e2
    exact snd_tchain hK x.f.units (keyE _ _ h6) (keyE _ _ h7) (keyE _ _ h8) (copP_ok h3) (copP_ok h4) h5
  · exact snd_tnot (keyT _ _ h)
  · simp only [Bool.and_eq_true, Bool.not_eq_true'] at h
    have e := bolC_ok h.1.1
    subst e
    exact snd_tbop (ts_ok keyT h.2 h.1.2)
  · rw [Bool.and_eq_true] at h
    exact snd_te hK (keyE _ _ h.2) (plainT_ok h.1)
  · cases h
theorem chk_ok (hc : c.T = T) (hg : ∀ g, c.glob g = true → (S.tab.glob g).isSome = true) : ∀ n, OkE T W0 w0 fa cv S k c (chkE c n) ∧ OkT T W0 w0 fa cv S k c (chkT c n)
  | 0 => ⟨fun X w W x s e h => by simp [chkE] at h, fun X w W x s e h => by simp [chkT] at h⟩
  | n + 1 => by
    obtain ⟨h1, h2⟩ := chk_ok hc hg n
    refine ⟨fun X w W x s e h => ?_, fun X w W x s e h => ?_⟩
    · rw [chkE] at h; exact stE_ok hc hg h1 h2 X w W x s e h
    · rw [chkT] at h; exact stT_ok h1 h2 X w W x s e h
end
end SL
set_option Elab.async false
set_option linter.all false
set_option maxRecDepth 100000
set_option maxHeartbeats 4000000
/-! SLChz: checked statements are sound. -/
namespace SL
open PySem L2
section
variable {T : NT} {W0 : World0} {w0 : Wd} {fa : Nat → Addr} {cv : Nat → Value} {S : Sem} {k : Nat}
variable {X : Cx} {w : Wd} {W : WX}
theorem sts_ok {h : Bool} {f : Sx → Stmt → Bool} (hf : ∀ s st, f s st = true → PS X st (tSv S h w W s)) : ∀ {ss : List Sx} {sts : List Stmt}, all2 f ss sts = true → PSs X sts (tSsv S h w W ss)
  | [], [], _ => snd_ss_nil
  | s :: ss, st :: sts, h1 => by
    simp only [all2, Bool.and_eq_true] at h1
    exact snd_ss_cons (hf s st h1.1) (sts_ok hf h1.2)
  | [], _ :: _, h1 => by simp [all2] at h1
  | _ :: _, [], h1 => by simp [all2] at h1
theorem chkPr_ok {c : CkC} {rE : Rec Ex} (hN : X.N = c.N) (hK : X.K = w.K) {h : Bool} (rE_ok : ∀ s e, rE X.env.scope s e = true → PE X e (tEv S h w W s)) {i : Nat} : ∀ {ps : List Ex} {e : Expr}, chkPr c rE X.env.scope i ps e = true → PE X e (tPv S h w W i ps.reverse)
  | [], e, q => by
    cases e <;> simp only [chkPr, Bool.false_eq_true] at q
    rw [← hN] at q
    obtain ⟨h1, h2, h3, h4⟩ := visC_ok q
    exact snd_pv0 h1 h2 h3 h4
  | p :: ps, e, q => by
    cases e <;> simp only [chkPr, Bool.false_eq_true] at q
    simp only [Bool.and_eq_true] at q
    rw [List.reverse_cons]
    exact snd_pvS hK (chkPr_ok hN hK rE_ok q.2) (rE_ok _ _ q.1.2) q.1.1
theorem chkS_ok (hk : 1 ≤ k) : ∀ (n : Nat) (c : CkC), c.T = T → (∀ g, c.glob g = true → (S.tab.glob g).isSome = true) → ∀ (X : Cx) (w : Wd) (W : WX), XS T W0 w0 w fa cv S c.hot k W X → X.N = c.N → ∀ s st, chkS c n X.env.scope s st = true → PS X st (tSv S c.hot w W s)
  | 0, c, _, _, X, w, W, _, _, s, st, h => by simp [chkS] at h
  | n + 1, c, hc, hg, X, w, W, g, hN, s, st, h => by
    have xc : XC T W0 w0 fa cv S k c w W X := ⟨g.f, hN, g.nd⟩
    have okE := (chk_ok (W0 := W0) (w0 := w0) (fa := fa) (cv := cv) (k := k) hc hg n).1
    have okT := (chk_ok (W0 := W0) (w0 := w0) (fa := fa) (cv := cv) (k := k) hc hg n).2
    have keyE := okE X w W xc
    have keyT := okT X w W xc
    have keyS := chkS_ok hk n c hc hg X w W g hN
    have hK := g.f.KK
    have hfn : X.fn = fun _ => true := funext g.fnt
    unfold chkS at h
    split at h
    · cases h
    · rename_i n' i a x px v pos e1
      cases e1
      rw [Bool.and_eq_true, ← hN] at h
      obtain ⟨h1, h2⟩ := locC_ok h.1
      rcases Bool.or_eq_true_iff.mp h.2 with q | q
      · rw [Bool.and_eq_true] at q
        exact snd_set g h1 h2 (keyE _ _ q.2) q.1
      · unfold chkSetLc at q
        split at q
        · rename_i own elt tg ik ie cs eltE gs scope p
          rw [Bool.and_eq_true, Bool.not_eq_true', Bool.and_eq_true] at q
          obtain ⟨h0, q1, q2⟩ := q
          obtain ⟨te, iter, ifs, rfl, bo, ht, pi, hs, bs⟩ := chkLc_ok hc h0 xc okE okT q1
          rw [h0] at g ⊢
          rcases Bool.or_eq_true_iff.mp q2 with q3 | q3
          · exact snd_setLcC g h1 (of_decide_eq_true q3) (snd_comp g.f g.nd bo ownL_ok ht pi hs bs)
          · simp only [Bool.and_eq_true, Bool.not_eq_true', decide_eq_true_eq] at q3
            exact snd_setLc g h1 q3.1.1 q3.1.2 q3.2 bo ownL_ok ht pi hs bs
        · cases q
    · rename_i n' is a te v pos e1
      cases e1
      simp only [Bool.and_eq_true, Bool.not_eq_true'] at h
      obtain ⟨⟨⟨⟨⟨h0, h1⟩, h2⟩, h3⟩, h4⟩, h5⟩ := h
      rw [h0] at g keyE ⊢
      exact snd_unp g (by rw [hN, hfn]; exact h1) (keyE _ _ h2) h3 h4 h5
    · rename_i n' i path a er ek p v pos e1
      cases e1
      simp only [Bool.and_eq_true, Bool.not_eq_true'] at h
      obtain ⟨⟨⟨⟨⟨h0, h1⟩, h2⟩, h3⟩, h4⟩, h5⟩ := h
      split at h5
      · cases h5
      · rename_i pk ps e2
        rw [Bool.and_eq_true] at h5
        have e3 : path = ps.reverse ++ [pk] := by
          have := congrArg List.reverse e2
          simpa using this
        rw [e3]
        exact snd_sset g.f.hx hK (chkPr_ok hN hK keyE h5.2) (keyE _ _ h5.1) (keyE _ _ h4) h3 h1 h2
    · rename_i n' f a x px y py v pos e1
      cases e1
      simp only [Bool.and_eq_true, decide_eq_true_eq] at h
      obtain ⟨⟨⟨h1, rfl⟩, h3⟩, h4⟩ := h
      rw [← hN] at h1
      obtain ⟨g1, g2, g3, g4⟩ := visC_ok h1
      rw [hc]
      exact snd_sfld g g1 g2 g3 g4 (keyE _ _ h4) h3
    · rename_i n' i path a er y ap v p pos e1
      cases e1
      simp only [Bool.and_eq_true, decide_eq_true_eq] at h
      obtain ⟨⟨⟨⟨⟨rfl, h1⟩, h2⟩, h3⟩, h4⟩, h5⟩ := h
      have := chkPr_ok (w := w) (W := W) (S := S) hN hK keyE h5
      rw [List.reverse_reverse] at this
      exact snd_app g.f.hx hK this (keyE _ _ h4) h1 h2 h3
    · rename_i n' i o a x px op v pos e1
      cases e1
      simp only [Bool.and_eq_true] at h
      obtain ⟨⟨h1, h2⟩, h3⟩ := h
      rw [← hN] at h2
      obtain ⟨g1, g2⟩ := locC_ok h2
      exact snd_aug g (by cases o <;> cases op <;> first | exact .inl ⟨rfl, rfl⟩ | exact .inr ⟨rfl, rfl⟩ | cases h1) g1 g2 (keyE _ _ h3)
    · rename_i n' a v pos e1
      cases e1
      rw [Bool.and_eq_true] at h
      exact snd_ex (keyE _ _ h.2) h.1
    · rename_i n' a v pos e1
      cases e1
      exact snd_ret (keyE _ _ h)
    · exact snd_ret0
    · rename_i n' t a b et ea eb pos e1
      cases e1
      simp only [Bool.and_eq_true] at h
      exact snd_ite (keyT _ _ h.1.1) (sts_ok keyS h.1.2) (sts_ok keyS h.2)
    · rename_i n' tg ik ie body te iter b pos e1
      cases e1
      simp only [Bool.and_eq_true] at h
      obtain ⟨⟨⟨⟨h1, h2⟩, h3⟩, h4⟩, h5⟩ := h
      have ht : chkTg X.N X.env.scope X.fn te tg = true := by rw [hN, hfn]; exact h1
      cases hh : c.hot with
      | false =>
        have pi := chkI_ok (keep := fKeep tg body) hc xc okE h2
        have bs := sts_ok keyS h5
        rw [hh] at g pi bs
        exact snd_for g ht pi bs h3
      | true =>
        rw [hh] at h4
        simp only [Bool.not_true, Bool.false_or, Bool.and_eq_true, Bool.not_eq_true', decide_eq_true_eq] at h4
        obtain ⟨h4, rfl⟩ := h4
        have pi := chkIH_ok (keep := fKeep tg body) hc xc okE h2
        have bs := sts_ok keyS h5
        rw [hh] at g pi bs
        exact snd_forH g ht h4 pi bs h3
    · rename_i n' t body et b pos e1
      cases e1
      rw [Bool.and_eq_true] at h
      exact snd_while g (keyT _ _ h.1) (sts_ok keyS h.2)
    · rename_i n' d es x px args p pos e1
      cases e1
      simp only [Bool.and_eq_true, Bool.not_eq_true', decide_eq_true_eq] at h
      obtain ⟨⟨⟨⟨⟨⟨h0, rfl⟩, h1⟩, h2⟩, h3⟩, h4⟩, h5⟩ := h
      rw [hc] at h1 h2 ⊢
      rw [h0] at g keyE ⊢
      cases args with
      | nil => cases h3
      | cons e es' =>
        have pa := ks_ok keyE h5 h4
        simp only [List.all_cons, Bool.and_eq_true] at h4
        exact snd_raise g h2 hk (glC_ok h1) pa h4.1 h4.2
    · rename_i n' body d j suite b x px nm sts pp pos e1
      cases e1
      simp only [Bool.and_eq_true, Bool.not_eq_true', decide_eq_true_eq] at h
      obtain ⟨⟨⟨⟨⟨⟨⟨h0, rfl⟩, h1⟩, h2⟩, h3⟩, h4⟩, h5⟩, h6⟩ := h
      rw [hc] at h1 h2 ⊢
      have g' := g
      rw [h0] at g' ⊢
      have hb : ∀ (W' : WX) (pn : List (Addr × Obj)) (xe : Value → Shared → Prop), XS T W0 w0 w fa cv S false k W' (X.tr pn xe) → PSs (X.tr pn xe) b (tSsv S false w W' body) := fun W' pn xe g2 => by
        rw [← h0] at g2 ⊢
        exact sts_ok (chkS_ok hk n c hc hg (X.tr pn xe) w W' g2 hN) h4
      have hsu : ∀ (w' : Wd) (a : Addr) (pn : List (Addr × Obj)), XS T W0 w0 w' fa cv S true k WF (X.suite a pn) → PSs (X.suite a pn) sts (tSsv S true w' WF suite) := fun w' a pn g2 =>
        sts_ok (chkS_ok hk n { c with hot := true } hc hg (X.suite a pn) w' WF g2 hN) h5
      cases sts with
      | nil => cases h3
      | cons b0 sts =>
        split at h6
        · exact snd_try_0 g' h2 (glC_ok h1) hb hsu
        · rename_i jj y
          simp only [Bool.and_eq_true, decide_eq_true_eq] at h6
          exact snd_try_as g' (by rw [hN]; exact h6.1) h6.2 h2 (glC_ok h1) hb hsu
        · cases h6
    · exact snd_brk
    · exact snd_cont
    · exact snd_pass
    · cases h
end
end SL
set_option Elab.async false
set_option linter.all false
set_option maxRecDepth 100000
set_option maxHeartbeats 4000000
/-! SLDef: every def keeps what the evaluator says, by the evaluator's depth. -/
namespace SL
open PySem PySem.Spec PyProof.Rows L2
section
variable {w w0 : Wd} {F H F' H' : Hp} {σ σ' : L2.St} {ρ ρ' : Env} {As As' : List (List Addr)} {C : List Addr} {st : Nat → Prop}
theorem env_start {ws : List V} {ds : List D} {m : Nat} (r : RepL w F H ws ds []) : ∃ As, EnvR w F H (ws.map some ++ List.replicate m none) (ds.map some ++ List.replicate m none) As ∧ ∀ a, own As a = 0 := by
  have base : ∀ m, ∃ As, EnvR w F H (List.replicate m none) (List.replicate m none) As ∧ ∀ a, own As a = 0 := by
    intro m
    induction m with
    | zero => exact ⟨[], .nil, fun a => by simp [own]⟩
    | succ m ih =>
      obtain ⟨As, h1, h2⟩ := ih
      exact ⟨[] :: As, .no h1, fun a => by rw [own_cons, h2]; simp⟩
  induction ds generalizing ws with
  | nil => cases r; simpa using base m
  | cons d ds ih =>
    obtain ⟨v, us, B, C, rfl, k1, k2, hc⟩ := r.uncons
    have e1 : B = [] := List.eq_nil_iff_forall_not_mem.mpr fun a ha => by
      have h1 := List.count_pos_iff.mpr ha; have h2 := hc a; simp at h2; omega
    have e2 : C = [] := List.eq_nil_iff_forall_not_mem.mpr fun a ha => by
      have h1 := List.count_pos_iff.mpr ha; have h2 := hc a; simp at h2; omega
    subst e1; subst e2
    obtain ⟨As, h1, h2⟩ := ih k2
    exact ⟨[] :: As, .yes k1 h1, fun a => by rw [own_cons, h2]; simp⟩
theorem own_nil (a : Addr) : own ([] : List (List Addr)) a = 0 := by simp [own]
/-- behind a def that owned nothing at its start -/
theorem SPost.cpost (h0 : ∀ a, own As a = 0) (p : SPost w st σ F H ρ As σ' F' H' ρ' As' C) : CPost w F H F' H' C where
  sF := p.sF
  sH := fun a o e => p.kH a o e (h0 a)
  same := p.same
  env := .nil
  uni := fun a => by have := p.uni a; have e := own_nil a; omega
  off := fun a h => p.off a (by have e := own_nil a; omega)
  old := fun a h => by
    rcases p.old a (by have e := own_nil a; omega) with z | z
    · rw [h0] at z; omega
    · exact .inr z
  new := fun a h1 h2 => by
    rcases p.new a h1 h2 with z | z
    · rw [h0] at z; omega
    · exact .inr z
  there := fun a h => p.there a (by have e := own_nil a; omega)
  slots := fun i => .inl ⟨rfl, rfl⟩
theorem CPost.to {w w' : Wd} (p : CPost w F H F' H' C) : CPost w' F H F' H' C := { p with env := .nil }
end
section
variable {T : NT} {W0 : World0} {w0 : Wd} {fa : Nat → Addr} {cv : Nat → Value} {S : Sem} {k : Nat}
/-- a def of the text and its slim form -/
structure DefF (T : NT) (glob : Nat → Bool) (w0 : Wd) (a : Addr) (hot : Bool) (fd : FnD) : Prop where
  ex : ∃ (oc : Value) (od : Option Addr) (dV kV doc pm : Value) (an : Option Addr) (cdv ct : Value) (osl : Array (Option Value)) (name qual : Str) (params : Arguments) (body : List Stmt) (scope : Scope) (N ps : List Str) (n : Nat),
    w0.K.lookup a = some ⟨oc, od, .func (PySem.W.fnOf name qual params body scope dV kV doc pm an cdv ct), osl⟩ ∧ PySem.W.codeIn w0.K cdv qual = true ∧ FnScope N ps scope ∧ Binds w0.K (PySem.W.fnOf name qual params body scope dV kV doc pm an cdv ct) ps [] ∧
    N.length = fd.n ∧ ps.length = fd.ps ∧ all2 (chkS ⟨T, glob, N, false⟩ n scope) fd.body body = true ∧ (hot = true → all2 (chkS ⟨T, glob, N, true⟩ n scope) fd.body body = true)
  kp : PySem.W.keepIn w0.K (.ref a) = true
/-- what holds of the calls -/
structure Lv (T : NT) (W0 : World0) (w0 : Wd) (fa : Nat → Addr) (S : Sem) (k : Nat) : Prop where
  fn : ∀ f, T.gf f = true → FnAt W0 w0 fa S k f
  fm : ∀ c m f, S.tab.meth c m = some f → FnAt W0 w0 fa S k f
  fp : ∀ c m f, S.tab.prop c m = some f → FnAt W0 w0 fa S k f
  nw : ∀ c, T.gc c = true → NewAt W0 w0 S k c
  rz : ∀ c, T.rc c = true → RzAt T W0 w0 S c
theorem like_self (h : w0.hx = none) : w0.Like w0 := ⟨rfl, rfl, rfl, h⟩
variable {A : Around} {outer : List PySem.Env} {s : Shared} {H : Hp} {E : XK} {N ps : List Str} {qual : Str} {scope : Scope} {f : Addr} {cd : Value}
theorem xs_cold (pr : Prog0 T W0 w0 fa cv S.tab) (lv : Lv T W0 w0 fa S k) (sc : FnScope N ps scope) (hr : Room (k + 1) (A.deeper (envOfC qual scope s.heap.objs.size f cd))) :
    XS T W0 w0 w0 fa cv S false k (fun cls d _ H => E cls d H) (cxOf (L2N.CX W0.P W0.w) W0.P W0.w w0.K W0.mg W0.base N qual scope f cd A outer s H E) where
  f := { pr := pr, prog := rfl, wd := rfl, mg := rfl, base := rfl, K := rfl, like := like_self pr.no, hx := fun _ => pr.no, units := by have := hr.un; show (A.deeper _).units + 65 < _; omega, room := fun _ => ⟨hr, rfl⟩, hot := (fun z => nomatch z),
         hxp := (fun a c d e => by rw [pr.no] at e; cases e), tk := L2N.takes_of rfl rfl rfl rfl, fn := lv.fn, fm := lv.fm, fp := lv.fp, nw := lv.nw, rz := lv.rz }
  stack := rfl
  frame := rfl
  nd := sc.nd
  po := PassesOwn.leaving
  fnt := fun _ => rfl
  fk := sc.kind
theorem xs_hot (pr : Prog0 T W0 w0 fa cv S.tab) (lv : Lv T W0 w0 fa S k) (sc : FnScope N ps scope) {p : Addr × Obj} (hot : L2H.Hot1 A p) (hr : L2H.RoomH (k + 1) (A.deeper (envOfC qual scope s.heap.objs.size f cd))) :
    XS T W0 w0 w0 fa cv S true k (fun cls d _ H => E cls d H) (L2H.cxH (L2N.CX W0.P W0.w) W0.P W0.w w0.K W0.mg W0.base N qual scope f cd A outer s H E p) where
  f := { pr := pr, prog := rfl, wd := rfl, mg := rfl, base := rfl, K := rfl, like := like_self pr.no, hx := (fun z => nomatch z), units := by have := hr.un; show (A.deeper _).units + 65 < _; omega, room := (fun z => nomatch z), hot := fun _ => ⟨hr, p, hot, List.mem_cons_self⟩,
         hxp := (fun a c d e => by rw [pr.no] at e; cases e), tk := L2N.takes_of rfl rfl rfl rfl, fn := lv.fn, fm := lv.fm, fp := lv.fp, nw := lv.nw, rz := lv.rz }
  stack := rfl
  frame := rfl
  nd := sc.nd
  po := PassesOwn.leaving
  fnt := fun _ => rfl
  fk := sc.kind
/-- a body run to its end -/
theorem body_go {h : Bool} {fd : FnD} {vs : List V} {Q : VK} (hps : ps.length = fd.ps) (hn : N.length = fd.n) (q : spF w0 (runBody S h fd) vs H Q E) :
    vs.length = ps.length ∧ tSsv S h w0 (fun cls d _ H => E cls d H) fd.body { nx := fun _ H' => Q .non H', rt := Q } (L2.start N vs) H := by
  obtain ⟨F, ds, sm, r, fin⟩ := q
  have hl := r.len
  unfold runBody at fin
  by_cases hd : ds.length = fd.ps
  · rw [if_pos hd] at fin
    refine ⟨by omega, ?_⟩
    obtain ⟨As, en, h0⟩ := env_start (m := fd.n - ds.length) r
    have es : L2.start N vs = vs.map some ++ List.replicate (fd.n - ds.length) none := by unfold L2.start; rw [hn, hl]
    rw [es]
    refine ⟨F, _, As, ⟨sm, en, fun a => by rw [h0]; omega, fun a h => by rw [h0] at h; omega⟩, ?_⟩
    cases e : evalSs S h fd.body (ds.map some ++ List.replicate (fd.n - ds.length) none) with
    | none => rw [e] at fin; exact fin.elim
    | some r =>
      obtain ⟨fl, ρ'⟩ := r
      rw [e] at fin
      cases fl with
      | nx => exact fun σ' F' H' As' p => fin .non F' H' [] (p.cpost h0) (.non .nil)
      | rt d => exact fun v σ' F' H' As' C p k => fin v F' H' C (p.cpost h0) k
      | ex c xs => exact fun dd σ' F' H' As' p x => fin dd F' H' (p.cpost h0) x
      | bk => exact fin.elim
      | ct => exact fin.elim
  · rw [if_neg hd] at fin; exact fin.elim
/-- __init__, run to its end -/
theorem init_go {fd : FnD} (hbig : (storesL fd.body).contains big = false) {c : Nat} {vs : List V} {Q : VK} (hps : ps.length = fd.ps) (hn : N.length = fd.n) (h2 : 1 ≤ fd.ps) (q : spI w0 c (runInit S false fd c) vs H Q E) :
    vs.length = ps.length ∧ tSsv S false w0 (fun cls d _ H => E cls d H) fd.body { nx := fun _ H' => Q .non H', rt := fun _ _ => False } (L2.start N vs) H := by
  obtain ⟨H1, x, dx, us, F, ds, rfl, hx, hdx, ne, rfl, sm, r, fin⟩ := q
  have hl := r.len
  unfold runInit at fin
  by_cases hd : ds.length + 1 = fd.ps
  · rw [if_pos hd] at fin
    refine ⟨by simp; omega, ?_⟩
    have sH : Same H1 (upd (upd H1 dx (.own x)) x (.ins (w0.ca c) dx [])) := fun a o e => by
      have n1 : a ≠ x := fun z => by rw [z, hx] at e; cases e
      have n2 : a ≠ dx := fun z => by rw [z, hdx] at e; cases e
      rw [upd_ne n1, upd_ne n2]; exact e
    obtain ⟨As, en, h0⟩ := env_start (m := fd.n - (ds.length + 1)) (r.mono (H' := upd (upd H1 dx (.own x)) x (.ins (w0.ca c) dx [])) (Same.refl F) (by simp))
    have es : L2.start N (.ref x :: us) = some (.ref x) :: (us.map some ++ List.replicate (fd.n - (ds.length + 1)) none) := by
      unfold L2.start
      rw [hn]
      simp [hl]
    rw [es]
    have Fx : F x = none := by
      cases e : F x with
      | none => rfl
      | some o => have := sm x o e; rw [hx] at this; cases this
    have zip0 : (w0.fn c).zip ([] : List V) = [] := by simp
    have own0 : ∀ a, own ([x] :: As) a = if x = a then 1 else 0 := fun a => by
      rw [own_cons, h0]
      by_cases e : x = a
      · subst e; simp
      · simp [e]
    have en2 : EnvR w0 F (upd (upd H1 dx (.own x)) x (.ins (w0.ca c) dx [])) (some (.ref x) :: (us.map some ++ List.replicate (fd.n - (ds.length + 1)) none)) (some (.ins true c []) :: (ds.map some ++ List.replicate (fd.n - (ds.length + 1)) none)) ([x] :: As) := by
      refine .yes ?_ en
      have := RepL.insO (w := w0) (F := F) (H := upd (upd H1 dx (.own x)) x (.ins (w0.ca c) dx [])) (a := x) (dx := dx) (c := c) (ws := []) (xs := []) (B := []) (vs := []) (ds := []) (A := []) (by rw [zip0]; exact upd_same) (by simp) .nil .nil
      simpa using this
    have pr : Pre w0 F (upd (upd H1 dx (.own x)) x (.ins (w0.ca c) dx [])) (some (.ref x) :: (us.map some ++ List.replicate (fd.n - (ds.length + 1)) none)) (some (.ins true c []) :: (ds.map some ++ List.replicate (fd.n - (ds.length + 1)) none)) ([x] :: As) :=
      ⟨sm.trans sH, en2, fun a => by rw [own0]; split <;> omega, fun a h => by rw [own0] at h; split at h <;> first | omega | (rename_i e; rw [← e]; exact Fx)⟩
    refine ⟨F, _, _, pr, ?_⟩
    -- what the callee leaves, seen from ahead of the instance
    have back : ∀ {σ' : L2.St} {F' H' : Hp} {ρ' : Env} {As' : List (List Addr)} {C C0 : List Addr} {st : Nat → Prop}, SPost w0 st (some (.ref x) :: (us.map some ++ List.replicate (fd.n - (ds.length + 1)) none)) F (upd (upd H1 dx (.own x)) x (.ins (w0.ca c) dx [])) (some (.ins true c []) :: (ds.map some ++ List.replicate (fd.n - (ds.length + 1)) none)) ([x] :: As) σ' F' H' ρ' As' C →
        (∀ a, C0.count a ≤ own As' a + C.count a) → CPost w0 F H1 F' H' C0 := fun {σ' F' H' ρ' As' C C0 st} p hC => by
      have old : ∀ a, (0 < own ([x] :: As) a ∨ (upd (upd H1 dx (.own x)) x (.ins (w0.ca c) dx [])) a = none) → H1 a = none := fun a z => by
        rcases z with z | z
        · rw [own0] at z
          split at z
          · rename_i e; rw [← e]; exact hx
          · omega
        · by_cases e : a = x
          · rw [e]; exact hx
          · rw [upd_ne e] at z
            by_cases e2 : a = dx
            · rw [e2]; exact hdx
            · rw [upd_ne e2] at z; exact z
      refine ⟨p.sF, fun a o e => p.kH a o (sH a o e) ?_, p.same, .nil, fun a => by have := p.uni a; have := hC a; have e := own_nil a; omega, fun a h => p.off a ?_, fun a h => .inr (old a (p.old a ?_)), fun a h1 h2 => .inr (old a (p.new a h1 h2)), fun a h => p.there a ?_, fun i => .inl ⟨rfl, rfl⟩⟩
      · rw [own0, if_neg]
        intro z; subst z; rw [hx] at e; cases e
      · have := hC a; have e := own_nil a; omega
      · have := hC a; have e := own_nil a; omega
      · have := hC a; have e := own_nil a; omega
    cases e : evalSs S false fd.body (some (.ins true c []) :: (ds.map some ++ List.replicate (fd.n - (ds.length + 1)) none)) with
    | none => rw [e] at fin; exact fin.elim
    | some r =>
      obtain ⟨fl, ρ'⟩ := r
      rw [e] at fin
      cases fl with
      | nx =>
        intro σ' F' H' As' p
        match ρ', fin, p with
        | some (.ins true c' xs) :: ρr, fin, p =>
          simp only at fin
          by_cases hc : c' = c
          · subst hc
            rw [if_pos rfl] at fin
            obtain ⟨v, A, h1, h2, kv⟩ := p.env.get (i := 0) rfl
            have hv : v = .ref x := by
              have := p.sig (by simpa using hbig)
              rw [h1] at this
              simpa using this
            exact fin v F' H' A (back p fun a => by have := own_get h2 a; omega) kv hv
          · rw [if_neg hc] at fin; exact fin.elim
        | [], fin, p => exact fin.elim
        | none :: _, fin, p => exact fin.elim
        | some (.ins false _ _) :: _, fin, p => exact fin.elim
        | some .non :: _, fin, p => exact fin.elim
        | some (.bl _) :: _, fin, p => exact fin.elim
        | some (.int _) :: _, fin, p => exact fin.elim
        | some (.str _) :: _, fin, p => exact fin.elim
        | some (.scr _) :: _, fin, p => exact fin.elim
        | some (.tup _) :: _, fin, p => exact fin.elim
        | some (.lst _ _) :: _, fin, p => exact fin.elim
        | some (.exn _ _) :: _, fin, p => exact fin.elim
      | rt d => exact fin.elim
      | ex c xs => exact fun dd σ' F' H' As' p x => fin dd F' H' (back p (by simp)) x
      | bk => exact fin.elim
      | ct => exact fin.elim
  · rw [if_neg hd] at fin; exact fin.elim
end
end SL
set_option Elab.async false
set_option linter.all false
set_option maxRecDepth 100000
set_option maxHeartbeats 4000000
/-! SLLv: the evaluator's depth. -/
namespace SL
open PySem PySem.Spec PyProof.Rows L2
/-- what is asked of a program -/
structure PF (T : NT) (glob : Nat → Bool) (W0 : World0) (w0 : Wd) (fa : Nat → Addr) (cv : Nat → Value) (P : Prog) : Prop where
  pr : Prog0 T W0 w0 fa cv P.tab
  gl : ∀ g, glob g = true → (P.tab.glob g).isSome = true
  fn : ∀ f fd, P.fns f = some fd → DefF T glob w0 (fa f) (P.hot f) fd
  gf : ∀ f, T.gf f = true → (P.fns f).isSome = true
  gm : ∀ c m f, P.tab.meth c m = some f → (P.fns f).isSome = true
  gp : ∀ c m f, P.tab.prop c m = some f → (P.fns f).isSome = true
  nw : ∀ c, T.gc c = true → ∃ f fd, P.init c = some f ∧ P.fns f = some fd ∧ Mk w0.K (w0.ca c) (fa f) ∧ 1 ≤ fd.ps ∧ (storesL fd.body).contains big = false
  rz : ∀ c, T.rc c = true → RzAt T W0 w0 ⟨fun _ _ _ => none, fun _ _ _ => none, P.tab⟩ c
section
variable {T : NT} {glob : Nat → Bool} {W0 : World0} {w0 : Wd} {fa : Nat → Addr} {cv : Nat → Value} {P : Prog}
theorem semN_tab : ∀ n, (semN P n).tab = P.tab
  | 0 => rfl
  | n + 1 => rfl
theorem spF_none {w : Wd} {vs : List V} {H : Hp} {Q : VK} {E : XK} : ¬ spF w (fun _ => none) vs H Q E := fun ⟨_, _, _, _, h⟩ => h
theorem spI_none {w : Wd} {c : Nat} {vs : List V} {H : Hp} {Q : VK} {E : XK} : ¬ spI w c (fun _ => none) vs H Q E := fun ⟨_, _, _, _, _, _, _, _, _, _, _, _, _, h⟩ => h
theorem rz_tab {S S' : Sem} (e : S'.tab = S.tab) {c : Nat} (r : RzAt T W0 w0 S c) : RzAt T W0 w0 S' c := ⟨r.ex, r.cls, r.no, r.mg, ⟨r.len.1, by rw [e]; exact r.len.2⟩⟩
theorem fnAt_step (F : PF T glob W0 w0 fa cv P) {n : Nat} (lv : Lv T W0 w0 fa (semN P n) (2 * n + 1)) {f : Nat} {fd : FnD} (hf : P.fns f = some fd) : FnAt W0 w0 fa (semN P (n + 1)) (2 * (n + 1) + 1) f := by
  obtain ⟨⟨oc, od, dV, kV, doc, pm, an, cdv, ct, osl, name, qual, params, body, scope, N, ps, m, lk, hcd, sc, hb, hN, hps, c1, c2⟩, kp⟩ := F.fn f fd hf
  have pr : Prog0 T W0 w0 fa cv (semN P n).tab := by rw [semN_tab]; exact F.pr
  have gl : ∀ g, glob g = true → ((semN P n).tab.glob g).isSome = true := by rw [semN_tab]; exact F.gl
  refine ⟨⟨_, ps, hb, ?_, ?_⟩, kp⟩
  · have e : (semN P (n + 1)).fn false f = runBody (semN P n) false fd := by funext ds; simp [semN, hf]
    rw [e]
    refine fn_of (k := 2 * n + 2) lk hcd sc (fun vs H Q E q => (body_go hps hN q).1) fun A outer s H vs Q E hr q => ?_
    have xs := xs_cold (E := E) (f := fa f) (cd := cdv) (qual := qual) (A := A) (outer := outer) (s := s) (H := H) pr lv sc hr
    exact ⟨_, sts_ok (chkS_ok (by omega) m ⟨T, glob, N, false⟩ rfl gl _ w0 _ xs rfl) c1, (body_go hps hN q).2⟩
  · cases hh : P.hot f with
    | false =>
      have e : (semN P (n + 1)).fn true f = fun _ => none := by funext ds; simp [semN, hh]
      rw [e]
      exact ⟨fun vs H Q E q => absurd q spF_none, fun A outer s H args us vs Q E p _ _ _ _ _ _ q => absurd q spF_none⟩
    | true =>
      have e : (semN P (n + 1)).fn true f = runBody (semN P n) true fd := by funext ds; simp [semN, hf, hh]
      rw [e]
      refine L2H.fn_ofH (k := 2 * n + 2) lk hcd sc (fun vs H Q E q => (body_go hps hN q).1) fun A outer s H vs Q E p hot hr q => ?_
      have xs := xs_hot (E := E) (f := fa f) (cd := cdv) (qual := qual) (A := A) (outer := outer) (s := s) (H := H) pr lv sc hot hr
      exact ⟨_, sts_ok (chkS_ok (by omega) m ⟨T, glob, N, true⟩ rfl gl _ w0 _ xs rfl) (c2 hh), (body_go hps hN q).2⟩
theorem newAt_step (F : PF T glob W0 w0 fa cv P) {n : Nat} (lv : Lv T W0 w0 fa (semN P n) (2 * n + 1)) {c : Nat} (hc : T.gc c = true) : NewAt W0 w0 (semN P (n + 1)) (2 * (n + 1) + 1) c := by
  obtain ⟨f, fd, hi, hf, M, h1, hbig⟩ := F.nw c hc
  obtain ⟨⟨oc, od, dV, kV, doc, pm, an, cdv, ct, osl, name, qual, params, body, scope, N, ps, m, lk, hcd, sc, hb, hN, hps, c1, c2⟩, kp⟩ := F.fn f fd hf
  have pr : Prog0 T W0 w0 fa cv (semN P n).tab := by rw [semN_tab]; exact F.pr
  have gl : ∀ g, glob g = true → ((semN P n).tab.glob g).isSome = true := by rw [semN_tab]; exact F.gl
  refine ⟨⟨fa f, _, ps, M, hb, ?_⟩⟩
  have e : (semN P (n + 1)).new false c = runInit (semN P n) false fd c := by funext ds; simp [semN, hi, hf]
  rw [e]
  refine fn_of (k := 2 * n + 2) lk hcd sc (fun vs H Q E q => (init_go hbig hps hN h1 q).1) fun A outer s H vs Q E hr q => ?_
  have xs := xs_cold (E := E) (f := fa f) (cd := cdv) (qual := qual) (A := A) (outer := outer) (s := s) (H := H) pr lv sc hr
  refine ⟨_, sts_ok (chkS_ok (by omega) m ⟨T, glob, N, false⟩ rfl gl _ w0 _ xs rfl) c1, ?_⟩
  obtain ⟨F', ρ, As, p, z⟩ := (init_go hbig hps hN h1 q).2
  exact ⟨F', ρ, As, p, z.ends (fun _ _ h => h) (fun _ _ h => h.elim) (fun _ _ h => h) (fun _ _ h => h)⟩
theorem lv_all (F : PF T glob W0 w0 fa cv P) : ∀ n, Lv T W0 w0 fa (semN P n) (2 * n + 1)
  | 0 => by
    have fn : ∀ f, (P.fns f).isSome = true → FnAt W0 w0 fa (semN P 0) (2 * 0 + 1) f := fun f hf => by
      obtain ⟨fd, hf⟩ := Option.isSome_iff_exists.mp hf
      obtain ⟨⟨oc, od, dV, kV, doc, pm, an, cdv, ct, osl, name, qual, params, body, scope, N, ps, m, lk, hcd, sc, hb, hN, hps, c1, c2⟩, kp⟩ := F.fn f fd hf
      exact ⟨⟨_, ps, hb, ⟨fun vs H Q E q => absurd q spF_none, fun A outer s H args us vs Q E _ _ _ _ q => absurd q spF_none⟩, ⟨fun vs H Q E q => absurd q spF_none, fun A outer s H args us vs Q E p _ _ _ _ _ _ q => absurd q spF_none⟩⟩, kp⟩
    refine ⟨fun f h => fn f (F.gf f h), fun c m f h => fn f (F.gm c m f h), fun c m f h => fn f (F.gp c m f h), fun c hc => ?_, fun c hc => rz_tab (semN_tab _) (F.rz c hc)⟩
    obtain ⟨f, fd, hi, hf, M, h1, hbig⟩ := F.nw c hc
    obtain ⟨⟨oc, od, dV, kV, doc, pm, an, cdv, ct, osl, name, qual, params, body, scope, N, ps, m, lk, hcd, sc, hb, hN, hps, c1, c2⟩, kp⟩ := F.fn f fd hf
    exact ⟨⟨fa f, _, ps, M, hb, fun vs H Q E q => absurd q spI_none, fun A outer s H args us vs Q E _ _ _ _ q => absurd q spI_none⟩⟩
  | n + 1 => by
    have lv := lv_all F n
    have fn : ∀ f, (P.fns f).isSome = true → FnAt W0 w0 fa (semN P (n + 1)) (2 * (n + 1) + 1) f := fun f hf => by
      obtain ⟨fd, hf⟩ := Option.isSome_iff_exists.mp hf
      exact fnAt_step F lv hf
    exact ⟨fun f h => fn f (F.gf f h), fun c m f h => fn f (F.gm c m f h), fun c m f h => fn f (F.gp c m f h), fun c hc => newAt_step F lv hc, fun c hc => rz_tab (semN_tab _) (F.rz c hc)⟩
end
end SL
set_option Elab.async false
set_option linter.all false
set_option maxRecDepth 100000
set_option maxHeartbeats 4000000
/-! SLJoin: from what the top has written to PF. -/
namespace SL
open PySem PySem.Spec PyProof.Rows L2

/-- a def as the top has written it -/
structure DefK (K : PySem.W.Frag) (a : Addr) (name qual : Str) (st : Stmt) : Prop where
  ex : ∃ (oc : Value) (od : Option Addr) (kV doc pm : Value) (an : Option Addr) (cdv ct : Value) (osl : Array (Option Value)),
    K.lookup a = some ⟨oc, od, .func (PySem.W.fnOf name qual (defArgs st) (defBody st) (defScope st) .none kV doc pm an cdv ct), osl⟩ ∧ PySem.W.codeIn K cdv qual = true
  kp : PySem.W.keepIn K (.ref a) = true
theorem defK {K : PySem.W.Frag} {a : Addr} {name qual : Str} {st : Stmt} {oc : Value} {od an : Option Addr} {osl : Array (Option Value)} {kV doc pm cdv ct : Value} (l : K.lookup a = some ⟨oc, od, .func (PySem.W.fnOf name qual (defArgs st) (defBody st) (defScope st) .none kV doc pm an cdv ct), osl⟩)
    (c : PySem.W.codeIn K cdv qual = true) (k : PySem.W.keepIn K (.ref a) = true) : DefK K a name qual st := ⟨⟨oc, od, kV, doc, pm, an, cdv, ct, osl, l, c⟩, k⟩
def kindB (sc : Scope) : Bool := match sc.kind with | .function => true | _ => false
def scB (N ps : List Str) (sc : Scope) : Bool := kindB sc && !sc.isCoroutine && !sc.isGenerator && decide N.Nodup && decide (N.take ps.length = ps) && (ps.all fun x => decide (sc.names.lookup x = some .local) || decide (sc.names.lookup x = some .cell)) &&
  sc.names.all fun y => !decide (y.2 = .free)
theorem scB_ok {N ps : List Str} {sc : Scope} (h : scB N ps sc = true) : FnScope N ps sc := by
  unfold scB at h
  simp only [Bool.and_eq_true, decide_eq_true_eq, Bool.not_eq_true', List.all_eq_true, Bool.or_eq_true, decide_eq_false_iff_not] at h
  obtain ⟨⟨⟨⟨⟨⟨h1, h2⟩, h3⟩, h4⟩, h5⟩, h6⟩, h7⟩ := h
  refine ⟨?_, h2, h3, h4, h5, h6, fun y hy => h7 y hy⟩
  unfold kindB at h1
  split at h1
  · assumption
  · cases h1
/-- the check of one def -/
def defB (T : NT) (glob : Nat → Bool) (m : Nat) (N ps : List Str) (st : Stmt) (hot : Bool) (fd : FnD) : Bool :=
  scB N ps (defScope st) && decide (N.length = fd.n) && decide (ps.length = fd.ps) && all2 (chkS ⟨T, glob, N, false⟩ m (defScope st)) fd.body (defBody st) && (!hot || all2 (chkS ⟨T, glob, N, true⟩ m (defScope st)) fd.body (defBody st))
theorem defF_of {T : NT} {glob : Nat → Bool} {w0 : Wd} {a : Addr} {name qual : Str} {st : Stmt} {hot : Bool} {fd : FnD} {m : Nat} (N ps : List Str) (d : DefK w0.K a name qual st)
    (hb : ∀ (kV doc pm : Value) (an : Option Addr) (cdv ct : Value) (us : List Value), us.length = ps.length → bindArgs (PySem.W.fnOf name qual (defArgs st) (defBody st) (defScope st) .none kV doc pm an cdv ct) ⟨us, []⟩ = pure (ps.zip us))
    (h : defB T glob m N ps st hot fd = true) : DefF T glob w0 a hot fd := by
  obtain ⟨⟨oc, od, kV, doc, pm, an, cdv, ct, osl, lk, hc⟩, kp⟩ := d
  unfold defB at h
  simp only [Bool.and_eq_true, decide_eq_true_eq, Bool.or_eq_true, Bool.not_eq_true'] at h
  obtain ⟨⟨⟨⟨h1, h2⟩, h3⟩, h4⟩, h5⟩ := h
  exact ⟨⟨oc, od, .none, kV, doc, pm, an, cdv, ct, osl, name, qual, _, _, _, N, ps, m, lk, hc, scB_ok h1, .all (hb kV doc pm an cdv ct), h2, h3, h4, fun e => by rcases h5 with z | z; rw [e] at z; cases z; exact z⟩, kp⟩
/-! ### classes -/
def clsB (K : PySem.W.Frag) (C : Addr) : Bool := PySem.W.plainGet K C Str.empty && PySem.W.hasDictIn K C && PySem.W.plainOver K C && (PySem.W.findIn K (.ref C) "__setattr__" == some (some (.builtin "object.__setattr__")))
def obB (K : PySem.W.Frag) (C : Addr) : Bool := (PySem.W.findIn K (.ref C) "__class__" == some (some (.builtin "object.__class__"))) && (PySem.W.specialIn K (.builtin "object.__class__") "__get__" == some (some (.builtin "getset_descriptor.__get__"))) &&
  (PySem.W.takesIn K (.builtin "object.__class__") == some true) && (PySem.W.mroIn K C (.type "object") == some true)
def noB (K : PySem.W.Frag) (C : Addr) (fs : List Str) : Bool := fs.all fun f => PySem.W.findIn K (.ref C) f == some none
theorem clsB_ok {K : PySem.W.Frag} {C : Addr} (h : clsB K C = true) : Cls K C := by
  unfold clsB at h
  simp only [Bool.and_eq_true, beq_iff_eq] at h
  exact ⟨h.1.1.1, h.1.1.2, h.1.2, h.2⟩
theorem obB_ok {K : PySem.W.Frag} {C : Addr} (h : obB K C = true) : ClsOb K C := by
  unfold obB at h
  simp only [Bool.and_eq_true, beq_iff_eq] at h
  exact ⟨h.1.1.1, h.1.1.2, h.1.2, h.2⟩
theorem noB_ok {K : PySem.W.Frag} {C : Addr} {fs : List Str} (h : noB K C fs = true) : ∀ f ∈ fs, PySem.W.findIn K (.ref C) f = some none := fun f hf => by
  unfold noB at h
  simp only [List.all_eq_true, beq_iff_eq] at h
  exact h f hf
structure ClsK (K : PySem.W.Frag) (C : Addr) (fs : List Str) : Prop where
  cl : Cls K C
  ob : ClsOb K C
  no : ∀ f ∈ fs, PySem.W.findIn K (.ref C) f = some none
theorem clsK {K : PySem.W.Frag} {C : Addr} {fs : List Str} (h : (clsB K C && obB K C && noB K C fs) = true) : ClsK K C fs := by
  simp only [Bool.and_eq_true] at h
  exact ⟨clsB_ok h.1.1, obB_ok h.1.2, noB_ok h.2⟩
structure ExcK (K : PySem.W.Frag) (C : Addr) (fs : List Str) : Prop where
  xf : XfC K C
  cs : (PySem.W.clsIn K C).isSome = true
  ob : ClsOb K C
  no : ∀ f ∈ fs, PySem.W.findIn K (.ref C) f = some none
theorem excK {K : PySem.W.Frag} {C : Addr} {fs : List Str} (h : (xfB K C && (PySem.W.clsIn K C).isSome && obB K C && noB K C fs) = true) : ExcK K C fs := by
  simp only [Bool.and_eq_true] at h
  exact ⟨xfB_ok h.1.1.1, h.1.1.2, obB_ok h.1.2, noB_ok h.2⟩
def mkB (K : PySem.W.Frag) (C f : Addr) : Bool := PySem.W.makesIn K C && (PySem.W.findIn K (.ref C) "__init__" == some (some (.ref f))) && PySem.W.isFn K (.ref f) && PySem.W.keepIn K (.ref C)
theorem mkB_ok {K : PySem.W.Frag} {C f : Addr} (h : mkB K C f = true) : Mk K C f := by
  unfold mkB at h
  simp only [Bool.and_eq_true, beq_iff_eq] at h
  exact ⟨h.1.1.1, h.1.1.2, h.1.2, h.2⟩
def methB (K : PySem.W.Frag) (C : Addr) (m : Str) (f : Addr) : Bool := (PySem.W.findIn K (.ref C) m == some (some (.ref f))) && PySem.W.isFn K (.ref f) && PySem.W.keepIn K (.ref f)
theorem methB_ok {K : PySem.W.Frag} {C f : Addr} {m : Str} (h : methB K C m f = true) : L2.Meth K C m f := by
  unfold methB at h
  simp only [Bool.and_eq_true, beq_iff_eq] at h
  exact ⟨h.1.1, h.1.2, h.2⟩
def oexB (K : PySem.W.Frag) (C : Addr) : Bool := (PySem.W.findIn K (.ref C) "__setattr__" == some (some (.builtin "object.__setattr__"))) && (PySem.W.subIn K (.ref C) (.type "BaseException") == some true) && (PySem.W.typeIn K (.ref C) == some (.type "type")) && PySem.W.keepIn K (.ref C)
theorem oexB_ok {K : PySem.W.Frag} {C : Addr} (hc : ∃ nm q N bs bm sn sub ab col dd k0 k1 k2 k3 k5, K.lookup C = some (excClassObj nm q C N bs bm true sn sub ab col dd k0 k1 k2 k3 k5 "ValueError.__new__") ∧ PySem.HandSPX.refsVE bm = true) (h : oexB K C = true) : OexC K C := by
  unfold oexB at h
  simp only [Bool.and_eq_true, beq_iff_eq] at h
  exact ⟨hc, h.1.1.1, h.1.1.2, h.1.2, h.2⟩
/-- an exception's __init__ -/
def rzB (K : PySem.W.Frag) (C f : Addr) (fs : List Str) (N : List Str) (st : Stmt) : Bool := oexB K C && (PySem.W.findIn K (.ref C) "__init__" == some (some (.ref f))) && (PySem.W.typeIn K (.ref f) == some (.type "function")) && noB K C fs &&
  scB N N (defScope st) && decide (N.length = fs.length + 1) && !nilB fs && chkXi N (defScope st) (defBody st) fs.reverse 0
section
variable {T : NT} {W0 : World0} {w0 : Wd}
theorem rz_of {S : Sem} {c : Nat} {f : Addr} {name qual : Str} {st : Stmt} (N : List Str) (d : DefK w0.K f name qual st)
    (hb : ∀ (kV doc pm : Value) (an : Option Addr) (cdv ct : Value) (us : List Value), us.length = N.length → bindArgs (PySem.W.fnOf name qual (defArgs st) (defBody st) (defScope st) .none kV doc pm an cdv ct) ⟨us, []⟩ = pure (N.zip us))
    (hc : ∃ nm q N bs bm sn sub ab col dd k0 k1 k2 k3 k5, w0.K.lookup (w0.ca c) = some (excClassObj nm q (w0.ca c) N bs bm true sn sub ab col dd k0 k1 k2 k3 k5 "ValueError.__new__") ∧ PySem.HandSPX.refsVE bm = true)
    (mg : W0.mg (T.cl c) = some (.ref (w0.ca c))) (hd : (T.cl c == ("__debug__" : Str)) = false) (hl : (w0.fn c).length ≤ 800) (hx : (w0.fn c).length = (S.tab.xf c).length)
    (h : rzB w0.K (w0.ca c) f (w0.fn c) N st = true) : RzAt T W0 w0 S c := by
  obtain ⟨⟨oc, od, kV, doc, pm, an, cdv, ct, osl, lk, hcd⟩, kp⟩ := d
  unfold rzB at h
  simp only [Bool.and_eq_true, beq_iff_eq, decide_eq_true_eq] at h
  obtain ⟨⟨⟨⟨⟨⟨⟨h1, h2⟩, h3⟩, h4⟩, h5⟩, h6⟩, h7⟩, h8⟩ := h
  have O := oexB_ok hc h1
  refine ⟨⟨f, _, N, h2, h3, .all (hb kV doc pm an cdv ct), ?_⟩, O, noB_ok h4, ⟨mg, hd⟩, hl, hx⟩
  have hlen : ∀ {vs : List V} {H : Hp} {Q : VK} {E : XK}, spX w0.K (w0.ca c) (w0.fn c).reverse vs H Q E → vs.length = N.length := fun ⟨a, ys, e, hy, _⟩ => by rw [e, h6]; simp [hy]
  refine fn_of (k := 0) lk hcd (scB_ok h5) (fun vs H Q E q => hlen q) fun A outer s H vs Q E hr q => ?_
  cases e : (w0.fn c).reverse with
  | nil =>
    have : w0.fn c = [] := by simpa using e
    rw [this] at h7; simp [nilB] at h7
  | cons g gs =>
    rw [e] at h8
    have hl := hlen q
    rw [e] at q
    exact xi_fn (X := cxOf (L2N.CX W0.P W0.w) W0.P W0.w w0.K W0.mg W0.base N qual (defScope st) f cdv A outer s H E) (C := w0.ca c) h8 q hl.symm
end
/-! ### tables -/
theorem lookup_mem {α β : Type} [BEq α] [LawfulBEq α] {k : α} {v : β} : ∀ {l : List (α × β)}, l.lookup k = some v → (k, v) ∈ l
  | [], h => by cases h
  | (a, b) :: l, h => by
    rw [List.lookup_cons] at h
    split at h
    · rename_i e
      cases h
      rw [beq_iff_eq] at e
      subst e
      exact List.mem_cons_self
    · exact List.mem_cons_of_mem _ (lookup_mem h)
theorem idxOf_get {α : Type} [BEq α] [LawfulBEq α] {f : α} {l : List α} {k : Nat} (h : l.idxOf? f = some k) : l[k]? = some f := by
  induction l generalizing k with
  | nil => simp [List.idxOf?] at h
  | cons a l ih =>
    rw [List.idxOf?, List.findIdx?_cons] at h
    split at h
    · rename_i e
      cases h
      rw [beq_iff_eq] at e
      simp [e]
    · cases q : List.findIdx? (fun x => x == f) l with
      | none => rw [q] at h; cases h
      | some j =>
        rw [q] at h
        cases h
        simpa using ih q
/-- a module's tuple -/
theorem globT {w0 : Wd} {K : PySem.W.Frag} {a : Addr} {od : Option Addr} {its : Array Value} {n : Nat} {sl : Array (Option Value)} {xs : List V} {ds : List D} (hK : w0.K = K) (l : K.lookup a = some ⟨.type "tuple", od, .seq its n, sl⟩) (hz : its.size ≤ sizeLine) (hv : Vals xs its.toList)
    (r : ∀ F H : Hp, RepL w0 F H xs ds []) : ∀ F H : Hp, Rep w0 F H (.ref a) (.tup ds) [] := fun F H => .tup (.inr ⟨_, its, n, by rw [hK]; exact l, rfl, rfl, hz, hv⟩) (r F H) .nil
theorem vals_str {x : Str} {t : Nat} {xs : List V} {us : List Value} (h : Vals xs us) : Vals (.str x :: xs) (.str x t :: us) := .cons ⟨t, rfl⟩ h
theorem vals_int {x : Int} {t : Nat} {xs : List V} {us : List Value} (h : Vals xs us) : Vals (.int x :: xs) (.int x t :: us) := .cons ⟨t, rfl⟩ h
/-- the law's own end -/
theorem hsp_of {w0 : Wd} {o : List D → Option Out} {m : Nat} (h : ∀ ns : List Int, ns.length ≤ m → o [.scr ns] = some (.ret (.bl true))) (H : Hp) (a : Addr) (ns : List Int) (hl : ns.length ≤ m) (ho : Only H) (hs : SqL w0.K H a (ns.map V.int)) :
    spF w0 o [.ref a] H (fun v _ => v = .bl true) fun _ _ _ => False := by
  refine ⟨H, [.scr ns], fun _ _ e => e, .scr ?_ .nil, ?_⟩
  · rcases hs with (e | ⟨o, e⟩) | e
    · rcases ho a with z | ⟨o, xs, z⟩
      · rw [z] at e; cases e
      · rw [z] at e; cases e
    · exact .inl ⟨o, e⟩
    · exact .inr fun _ => .inr e
  · rw [h ns hl]
    intro v F' H' C c r
    cases r; rfl
end SL
namespace SL
open PySem PySem.Spec PyProof.Rows L2
section
variable {T : NT} {glob : Nat → Bool} {W0 : World0} {w0 : Wd} {fa : Nat → Addr} {cv : Nat → Value} {P : Prog}
/-- the law's def at its own function object -/
theorem law_of (F : PF T glob W0 w0 fa cv P) (n : Nat) {f m : Nat} {fd : FnD} {name qual : Str} {st : Stmt} {hot : Bool} {oc : Value} {od an : Option Addr} {osl : Array (Option Value)} {kV doc pm cdv ct : Value} (N ps : List Str) (hf : P.fns f = some fd)
    (lk : w0.K.lookup (fa f) = some ⟨oc, od, .func (PySem.W.fnOf name qual (defArgs st) (defBody st) (defScope st) .none kV doc pm an cdv ct), osl⟩) (hcd : PySem.W.codeIn w0.K cdv qual = true) (h : defB T glob m N ps st hot fd = true) :
    FnOk W0.P W0.w w0.K W0.mg W0.base (L2N.CX W0.P W0.w) (2 * (n + 1) + 1) (fa f) (PySem.W.fnOf name qual (defArgs st) (defBody st) (defScope st) .none kV doc pm an cdv ct) ps (spF w0 ((semN P (n + 1)).fn false f)) := by
  unfold defB at h
  simp only [Bool.and_eq_true, decide_eq_true_eq, Bool.or_eq_true, Bool.not_eq_true'] at h
  obtain ⟨⟨⟨⟨h1, hN⟩, hps⟩, c1⟩, -⟩ := h
  have lv := lv_all F n
  have pr : Prog0 T W0 w0 fa cv (semN P n).tab := by rw [semN_tab]; exact F.pr
  have gl : ∀ g, glob g = true → ((semN P n).tab.glob g).isSome = true := by rw [semN_tab]; exact F.gl
  have e : (semN P (n + 1)).fn false f = runBody (semN P n) false fd := by funext ds; simp [semN, hf]
  rw [e]
  have sc := scB_ok h1
  refine fn_of (k := 2 * n + 2) lk hcd sc (fun vs H Q E q => (body_go hps hN q).1) fun A outer s H vs Q E hr q => ?_
  have xs := xs_cold (E := E) (f := fa f) (cd := cdv) (qual := qual) (A := A) (outer := outer) (s := s) (H := H) pr lv sc hr
  exact ⟨_, sts_ok (chkS_ok (by omega) m ⟨T, glob, N, false⟩ rfl gl _ w0 _ xs rfl) c1, (body_go hps hN q).2⟩
end
theorem all_nil {α : Type} {p : α → Prop} : ∀ a ∈ ([] : List α), p a := fun _ h => nomatch h
theorem all_cons {α : Type} {p : α → Prop} {a : α} {l : List α} (h : p a) (t : ∀ a ∈ l, p a) : ∀ b ∈ a :: l, p b := List.forall_mem_cons.mpr ⟨h, t⟩
def bltL : List Str := ["len", "int", "str", "list", "tuple", "sum", "any", "all", "min", "max", "abs", "sorted", "isinstance", "range", "enumerate", "zip", "bool", "ValueError"]
def bltB (K : PySem.W.Frag) : Bool := bltL.all fun x => PySem.W.nsIn K mainGlobals x == some none
theorem bltB_ok {K : PySem.W.Frag} {h : Heap} {mg : Str → Option Value} (X : K.In h) (G : h.Ns mainGlobals mg) (e : bltB K = true) : ∀ x ∈ bltL, mg x = none := fun x hx => by
  unfold bltB at e
  simp only [List.all_eq_true, beq_iff_eq] at e
  exact PySem.W.mg_none_of X G (e x hx)
/-- no wish of an exception at the law's end -/
theorem no_cx (P : Program) (w : World) (H : Hp) (s : Shared) (e : Value) (s' : Shared) (h : L2N.CX P w [] H s (fun _ _ _ => False) e s') : False := by
  obtain ⟨_, _, _, _, _, _, _, _, _, _, _, _, z⟩ := h
  exact z
end SL
namespace SL
open PySem PySem.Spec PyProof.Rows L2
theorem propK {K : PySem.W.Frag} {C p g : Addr} {f : Str} {rest : List Value} (a : PySem.W.findIn K (.ref C) f = some (some (.ref p))) (r : PySem.W.recIn K p "property" = some (.ref g :: rest))
    (q : (PySem.W.specialIn K (.ref p) "__get__" == some (some (.builtin "property.__get__")) && PySem.W.takesIn K (.ref p) == some true) = true) : PropOf K C f p g := by
  simp only [Bool.and_eq_true, beq_iff_eq] at q
  exact ⟨a, q.1, q.2, _, r⟩
theorem fldK {K : PySem.W.Frag} {C : Addr} {at_ : Nat → Str} {fs : List Nat} {gs : List Str} {f k : Nat} (c : ClsK K C gs) (e : fs.map at_ = gs) (h : fs.idxOf? f = some k) : Cls K C ∧ NoAttr K C (at_ f) ∧ gs[k]? = some (at_ f) := by
  have hk := idxOf_get h
  subst e
  exact ⟨c.cl, c.no _ (List.mem_map.mpr ⟨f, List.mem_of_getElem? hk, rfl⟩), by rw [List.getElem?_map, hk]; rfl⟩
theorem xfK {K : PySem.W.Frag} {C : Addr} {at_ : Nat → Str} {fs : List Nat} {gs : List Str} {f k : Nat} (c : ExcK K C gs) (e : fs.map at_ = gs) (h : fs.idxOf? f = some k) : XfC K C ∧ PySem.W.findIn K (.ref C) (at_ f) = some none ∧ gs[k]? = some (at_ f) := by
  have hk := idxOf_get h
  subst e
  exact ⟨c.xf, c.no _ (List.mem_map.mpr ⟨f, List.mem_of_getElem? hk, rfl⟩), by rw [List.getElem?_map, hk]; rfl⟩
end SL
namespace SL
open PySem PySem.Spec PyProof.Rows L2
/-- what the law asks of its own def -/
def lawSp (K : PySem.W.Frag) (m : Nat) : Sp := fun vs H Q E => ∃ (a : Addr) (ns : List Int), vs = [.ref a] ∧ ns.length ≤ m ∧ Only H ∧ SqL K H a (ns.map V.int) ∧ Q = (fun v _ => v = .bl true) ∧ E = fun _ _ _ => False
theorem lawSp_of {w0 : Wd} {o : List D → Option Out} {m : Nat} (h : ∀ ns : List Int, ns.length ≤ m → o [.scr ns] = some (.ret (.bl true))) : ∀ vs H Q E, lawSp w0.K m vs H Q E → spF w0 o vs H Q E := by
  rintro vs H Q E ⟨a, ns, rfl, hl, ho, hs, rfl, rfl⟩
  exact hsp_of h H a ns hl ho hs
theorem walk_law {l : PySem.W.OpenLaw} {q : Program} {loose : List Str} {XP : (Str → Option Value) → Heap → Prop} {YP : World → Heap → Prop} {d : DefRec} {K : Params → PySem.W.Frag} {k : Nat} (hn : l.most = some 63) (hdf : d.params.defaults = []) (hr : Room k callerA)
    (hY : ∀ (w : World) (h : Heap), YP w h → (K w.params).In h)
    (F : ∀ (w : World) (mg : Str → Option Value) (fa : Addr) (h : Heap), (K w.params).In h → h.Ns mainGlobals mg → mg d.name = some (.ref fa) →
      ∃ fd : FuncData, (∀ (s : Shared) (u : Value), BindsTo s fd ⟨[u], []⟩ [("script", u)]) ∧ ∀ base : Heap, (K w.params).In base → base.Ns mainGlobals mg → FnOk l.prog w (K w.params) mg base (L2N.CX l.prog w) k fa fd ["script"] (lawSp (K w.params) 63)) :
    PySem.W.WalkO q loose XP YP l.row.toRowW d [] (fun f vs => PySem.call f vs) :=
  L2.walk_of (n := 63) (k := k) (x := "script") (CX := fun w => L2N.CX l.prog w) (sp := fun w => lawSp (K w.params) 63) hn (by decide) hdf hr hY F (fun w H a ns hl ho hS => ⟨a, ns, rfl, hl, ho, hS, rfl, rfl⟩) fun w H s e s' z => no_cx _ w H s e s' z
end SL
set_option Elab.async false
set_option linter.all false
set_option maxRecDepth 100000
set_option maxHeartbeats 1000000
/-! SLSimp: the evaluator by simp. -/
namespace SL
open PySem L2
/-- stands for a continuation: what follows is left alone -/
structure Kt {α : Type} (k : α) : Type where
def Res.bnd {α β : Type} (r : Res α) (k : α → Env → Res β) (_ : Kt k := ⟨⟩) : Res β := r.bind k
def Res.tos {α : Type} (r : Res α) (k : α → Env → SRes) (_ : Kt k := ⟨⟩) : SRes := r.toS k
@[simp] theorem bnd_ok {α β : Type} {a : α} {ρ : Env} {k : α → Env → Res β} {w : Kt k} : Res.bnd (.ok a ρ) k w = k a ρ := Eq.trans rfl rfl
@[simp] theorem bnd_exc {α β : Type} {c : Nat} {xs : List D} {ρ : Env} {k : α → Env → Res β} {w : Kt k} : Res.bnd (.exc c xs ρ : Res α) k w = .exc c xs ρ := Eq.trans rfl rfl
@[simp] theorem tos_ok {α : Type} {a : α} {ρ : Env} {k : α → Env → SRes} {w : Kt k} : Res.tos (.ok a ρ) k w = k a ρ := Eq.trans rfl rfl
@[simp] theorem tos_exc {α : Type} {c : Nat} {xs : List D} {ρ : Env} {k : α → Env → SRes} {w : Kt k} : Res.tos (.exc c xs ρ : Res α) k w = some (.ex c xs, ρ) := Eq.trans rfl rfl
theorem bnd_eq {α β : Type} {r : Res α} {k : α → Env → Res β} {w : Kt k} : Res.bnd r k w = r.bind k := Eq.trans rfl rfl
theorem tos_eq {α : Type} {r : Res α} {k : α → Env → SRes} {w : Kt k} : Res.tos r k w = r.toS k := rfl
def Res.kp (r : Res R) : Res D := r.bind settle
@[simp] theorem kp_ok {r : R} {ρ : Env} : (Res.ok r ρ).kp = settle r ρ := Eq.trans rfl rfl
@[simp] theorem kp_exc {c : Nat} {xs : List D} {ρ : Env} : (Res.exc c xs ρ : Res R).kp = .exc c xs ρ := Eq.trans rfl rfl
theorem kp_eq {r : Res R} : r.kp = r.bind settle := rfl
section
variable {S : Sem} {h : Bool} {ρ : Env}
@[simp↓] theorem e_var {i : Nat} : evalE S h (.var i) ρ = (match ρ[i]? with
    | some (some (.lst true xs)) => .ok (.brw i (.lst false (D.frzL xs))) ρ
    | some (some (.ins true c xs)) => .ok (.brw i (.ins false c (D.frzL xs))) ρ
    | some (some d) => .ok (.val d) ρ
    | _ => .bad) := by rw [evalE] <;> rfl
@[simp↓] theorem e_take {i : Nat} : evalE S h (.take i) ρ = (match ρ[i]? with
    | some (some d) => .ok (.val d) (ρ.set i none)
    | _ => .bad) := by rw [evalE] <;> rfl
@[simp↓] theorem e_non : evalE S h .non ρ = .ok (.val .non) ρ := by rw [evalE] <;> rfl
@[simp↓] theorem e_bl {b : Bool} : evalE S h (.bl b) ρ = .ok (.val (.bl b)) ρ := by rw [evalE] <;> rfl
@[simp↓] theorem e_int {i : Int} : evalE S h (.int i) ρ = .ok (.val (.int i)) ρ := by rw [evalE] <;> rfl
@[simp↓] theorem e_str {x : Str} : evalE S h (.str x) ρ = .ok (.val (.str x)) ρ := by rw [evalE] <;> rfl
@[simp↓] theorem e_glob {g : Nat} : evalE S h (.glob g) ρ = (Res.of (S.tab.glob g) ρ).bnd fun d ρ => .ok (.val d) ρ := by simp only [bnd_eq, tos_eq, kp_eq]; rw [evalE] <;> rfl
@[simp↓] theorem e_bin {o : Bop} {a b : Ex} : evalE S h (.bin o a b) ρ = (evalE S h a ρ).bnd fun x ρ => (evalE S h b ρ).bnd fun y ρ => binR o x y ρ := by simp only [bnd_eq, tos_eq, kp_eq]; rw [evalE] <;> rfl
@[simp↓] theorem e_neg {a : Ex} : evalE S h (.neg a) ρ = (evalE S h a ρ).bnd fun x ρ => match x.d with
    | .int i => .ok (.val (.int (-i))) ρ
    | _ => .bad := by simp only [bnd_eq, tos_eq, kp_eq]; rw [evalE] <;> rfl
@[simp↓] theorem e_not {a : Tx} : evalE S h (.not_ a) ρ = (evalT S h a ρ).bnd fun b ρ => .ok (.val (.bl (!b))) ρ := by simp only [bnd_eq, tos_eq, kp_eq]; rw [evalE] <;> rfl
@[simp↓] theorem e_bop {k : Bool} {es : List Ex} : evalE S h (.bop k es) ρ = evalB S h k es ρ := by rw [evalE] <;> rfl
@[simp↓] theorem e_cmp {o : Cop} {a b : Ex} : evalE S h (.cmp o a b) ρ = (evalE S h a ρ).bnd fun x ρ => (evalE S h b ρ).bnd fun y ρ => (Res.of (cmpD o x.d y.d) ρ).bnd fun c ρ => .ok (.val (.bl c)) ρ := by simp only [bnd_eq, tos_eq, kp_eq]; rw [evalE] <;> rfl
@[simp↓] theorem e_chain {o o' : Cop} {a b c : Ex} : evalE S h (.chain o o' a b c) ρ = (evalE S h a ρ).bnd fun x ρ => (evalE S h b ρ).bnd fun y ρ => (Res.of (cmpD o x.d y.d) ρ).bnd fun k ρ =>
      if k then (evalE S h c ρ).bnd fun z ρ => (Res.of (cmpD o' y.d z.d) ρ).bnd fun c ρ => .ok (.val (.bl c)) ρ else .ok (.val (.bl false)) ρ := by simp only [bnd_eq, tos_eq, kp_eq]; rw [evalE] <;> rfl
@[simp↓] theorem e_ife {c : Tx} {a b : Ex} : evalE S h (.ife c a b) ρ = (evalT S h c ρ).bnd fun k ρ => if k then evalE S h a ρ else evalE S h b ρ := by simp only [bnd_eq, tos_eq, kp_eq]; rw [evalE] <;> rfl
@[simp↓] theorem e_call {f : Nat} {es : List Ex} : evalE S h (.call f es) ρ = (evalA S h es ρ).bnd fun rs ρ => callR h rs (S.fn h f) ρ := by simp only [bnd_eq, tos_eq, kp_eq]; rw [evalE] <;> rfl
@[simp↓] theorem e_new {f : Nat} {es : List Ex} : evalE S h (.new f es) ρ = (evalA S h es ρ).bnd fun rs ρ => callR h rs (S.new h f) ρ := by simp only [bnd_eq, tos_eq, kp_eq]; rw [evalE] <;> rfl
@[simp↓] theorem e_meth {m : Nat} {o : Ex} {es : List Ex} : evalE S h (.meth m o es) ρ = (evalE S h o ρ).bnd fun r ρ => (settle r ρ).bnd fun d ρ => match d with
    | .ins _ c _ => match S.tab.meth c m with
      | some f => (evalA S h es ρ).bnd fun rs ρ => callR h (.val d :: rs) (S.fn h f) ρ
      | none => .bad
    | _ => .bad := by simp only [bnd_eq, tos_eq, kp_eq]; rw [evalE] <;> rfl
@[simp↓] theorem e_fld {a : Ex} {f : Nat} : evalE S h (.fld a f) ρ = (evalE S h a ρ).bnd fun r ρ => match r.d with
    | .ins _ c xs => match S.tab.prop c f with
      | some g => (settle r ρ).bnd fun d ρ => propR h d (S.fn h g) ρ
      | none => (Res.of (((S.tab.fields c).idxOf? f).bind fun k => xs[k]?) ρ).bnd fun x ρ => part r x ρ
    | .exn c xs => (Res.of (((S.tab.xf c).idxOf? f).bind fun k => xs[k]?) ρ).bnd fun x ρ => part r x ρ
    | _ => .bad := by simp only [bnd_eq, tos_eq, kp_eq]; rw [evalE] <;> rfl
@[simp↓] theorem e_bi {b : Bi} {es : List Ex} : evalE S h (.bi b es) ρ = (evalEs S h es ρ).bnd fun rs ρ => biR h b rs ρ := by simp only [bnd_eq, tos_eq, kp_eq]; rw [evalE] <;> rfl
@[simp↓] theorem e_bm {m : Bm} {o : Ex} {es : List Ex} : evalE S h (.bm m o es) ρ = (evalE S h o ρ).bnd fun r ρ => if bmT m r.d then (evalEs S h es ρ).bnd fun rs ρ => (Res.of (bmD m r.d (rs.map R.d)) ρ).bnd fun d ρ => .ok (.val d) ρ else .bad := by simp only [bnd_eq, tos_eq, kp_eq]; rw [evalE] <;> rfl
@[simp↓] theorem e_isin {a : Ex} {c : Ic} : evalE S h (.isin a c) ρ = (evalE S h a ρ).bnd fun r ρ => (Res.of (isInst S.tab r.d c) ρ).bnd fun b ρ => .ok (.val (.bl b)) ρ := by simp only [bnd_eq, tos_eq, kp_eq]; rw [evalE] <;> rfl
@[simp↓] theorem e_idx {a b : Ex} : evalE S h (.idx a b) ρ = (evalE S h a ρ).bnd fun x ρ => (evalE S h b ρ).bnd fun y ρ => idxR x y ρ := by simp only [bnd_eq, tos_eq, kp_eq]; rw [evalE] <;> rfl
@[simp↓] theorem e_slc {a : Ex} {lo hi : List Ex} : evalE S h (.slc a lo hi) ρ = (evalE S h a ρ).bnd fun x ρ => (evalEs S h lo ρ).bnd fun l ρ => (Res.of (partR l) ρ).bnd fun i ρ => (evalEs S h hi ρ).bnd fun u ρ => (Res.of (partR u) ρ).bnd fun j ρ => slcR x i j ρ := by simp only [bnd_eq, tos_eq, kp_eq]; rw [evalE] <;> rfl
@[simp↓] theorem e_lst {es : List Ex} : evalE S h (.lst es) ρ = (evalK S h es ρ).bnd fun ds ρ => if ds.length ≤ sizeLine then .ok (.val (.lst true ds)) ρ else .bad := by simp only [bnd_eq, tos_eq, kp_eq]; rw [evalE] <;> rfl
@[simp↓] theorem e_tup {es : List Ex} : evalE S h (.tup es) ρ = (evalK S h es ρ).bnd fun ds ρ => if ds.length ≤ sizeLine then .ok (.val (.tup (D.frzL ds))) ρ else .bad := by simp only [bnd_eq, tos_eq, kp_eq]; rw [evalE] <;> rfl
@[simp↓] theorem e_comp {own : List Nat} {elt : Ex} {tg : Tg} {ik : Ik} {ie : List Ex} {cs : List Tx} : evalE S h (.comp own elt tg ik ie cs) ρ = if h then .bad else (evalEs S h ie ρ).bnd fun rs ρ => (iterR ik rs (fun _ => true) ρ).bnd fun items ρ =>
      (compL own tg (evalC S h cs) (evalE S h elt) items [] (wipeE ρ own)).bnd fun acc ρ => .ok (.val (.lst true acc)) ρ := by simp only [bnd_eq, tos_eq, kp_eq]; rw [evalE] <;> rfl
@[simp↓] theorem t_not {a : Tx} : evalT S h (.not_ a) ρ = (evalT S h a ρ).bnd fun b ρ => .ok (!b) ρ := by simp only [bnd_eq, tos_eq, kp_eq]; rw [evalT] <;> rfl
@[simp↓] theorem t_bop {k : Bool} {es : List Tx} : evalT S h (.bop k es) ρ = evalBT S h k es ρ := by rw [evalT] <;> rfl
@[simp↓] theorem t_ife {c a b : Tx} : evalT S h (.ife c a b) ρ = (evalT S h c ρ).bnd fun k ρ => if k then evalT S h a ρ else evalT S h b ρ := by simp only [bnd_eq, tos_eq, kp_eq]; rw [evalT] <;> rfl
@[simp↓] theorem t_e {e : Ex} : evalT S h (.e e) ρ = (evalE S h e ρ).bnd fun r ρ => Res.of (truth r.d) ρ := by simp only [bnd_eq, tos_eq, kp_eq]; rw [evalT] <;> rfl
@[simp↓] theorem es_nil : evalEs S h [] ρ = .ok [] ρ := by rw [evalEs] <;> rfl
@[simp↓] theorem es_cons {e : Ex} {es : List Ex} : evalEs S h (e :: es) ρ = (evalE S h e ρ).bnd fun r ρ => (evalEs S h es ρ).bnd fun rs ρ => .ok (r :: rs) ρ := by simp only [bnd_eq, tos_eq, kp_eq]; rw [evalEs] <;> rfl
@[simp↓] theorem a_nil : evalA S h [] ρ = .ok [] ρ := by rw [evalA] <;> rfl
@[simp↓] theorem a_cons {e : Ex} {es : List Ex} : evalA S h (e :: es) ρ = (evalE S h e ρ).bnd fun r ρ => (argR r ρ).bnd fun r ρ => (evalA S h es ρ).bnd fun rs ρ => .ok (r :: rs) ρ := by simp only [bnd_eq, tos_eq, kp_eq]; rw [evalA] <;> rfl
@[simp↓] theorem k_nil : evalK S h [] ρ = .ok [] ρ := by rw [evalK] <;> rfl
@[simp↓] theorem k_cons {e : Ex} {es : List Ex} : evalK S h (e :: es) ρ = (evalE S h e ρ).bnd fun r ρ => (settle r ρ).bnd fun d ρ => (evalK S h es ρ).bnd fun ds ρ => .ok (d :: ds) ρ := by simp only [bnd_eq, tos_eq, kp_eq]; rw [evalK] <;> rfl
@[simp↓] theorem b_one {k : Bool} {e : Ex} : evalB S h k [e] ρ = evalE S h e ρ := by rw [evalB] <;> rfl
@[simp↓] theorem b_cons {k : Bool} {e e' : Ex} {es : List Ex} : evalB S h k (e :: e' :: es) ρ = (evalE S h e ρ).bnd fun r ρ => (Res.of (truth r.d) ρ).bnd fun b ρ => if b = k then evalB S h k (e' :: es) ρ else .ok r ρ := by simp only [bnd_eq, tos_eq, kp_eq]; rw [evalB]
@[simp↓] theorem bt_nil {k : Bool} : evalBT S h k [] ρ = .ok k ρ := by rw [evalBT] <;> rfl
@[simp↓] theorem bt_cons {k : Bool} {e : Tx} {es : List Tx} : evalBT S h k (e :: es) ρ = (evalT S h e ρ).bnd fun b ρ => if b = k then evalBT S h k es ρ else .ok b ρ := by simp only [bnd_eq, tos_eq, kp_eq]; rw [evalBT] <;> rfl
@[simp↓] theorem c_nil : evalC S h [] ρ = .ok true ρ := by rw [evalC] <;> rfl
@[simp↓] theorem c_one {e : Tx} : evalC S h [e] ρ = evalT S h e ρ := by rw [evalC] <;> rfl
@[simp↓] theorem p_nil {i : Nat} {acc : List Int} : evalP S h i [] acc ρ = if okAt i acc ρ then .ok acc ρ else .bad := by rw [evalP] <;> rfl
@[simp↓] theorem p_cons {i : Nat} {acc : List Int} {p : Ex} {ps : List Ex} : evalP S h i (p :: ps) acc ρ = if okL i acc ρ then (evalE S h p ρ).bnd fun r ρ => match r.int? with
    | some k => evalP S h i ps (acc ++ [k]) ρ
    | none => .bad
    else .bad := by simp only [bnd_eq, tos_eq, kp_eq]; rw [evalP] <;> rfl
/-- what follows -/
def sq (r : SRes) (k : Env → SRes) : SRes := match r with
  | some (.nx, ρ) => k ρ
  | r => r
@[simp] theorem sq_nx {k : Env → SRes} : sq (some (.nx, ρ)) k = k ρ := Eq.trans rfl rfl
@[simp] theorem sq_rt {k : Env → SRes} {d : D} : sq (some (.rt d, ρ)) k = some (.rt d, ρ) := Eq.trans rfl rfl
@[simp] theorem sq_ex {k : Env → SRes} {c : Nat} {xs : List D} : sq (some (.ex c xs, ρ)) k = some (.ex c xs, ρ) := Eq.trans rfl rfl
@[simp] theorem sq_bk {k : Env → SRes} : sq (some (.bk, ρ)) k = some (.bk, ρ) := Eq.trans rfl rfl
@[simp] theorem sq_ct {k : Env → SRes} : sq (some (.ct, ρ)) k = some (.ct, ρ) := Eq.trans rfl rfl
@[simp] theorem sq_none {k : Env → SRes} : sq none k = none := Eq.trans rfl rfl
@[simp↓] theorem ss_nil : evalSs S h [] ρ = some (.nx, ρ) := by rw [evalSs] <;> rfl
@[simp↓] theorem ss_cons {s : Sx} {ss : List Sx} : evalSs S h (s :: ss) ρ = sq (evalS S h s ρ) (evalSs S h ss) := by
  rw [evalSs]
  cases evalS S h s ρ with
  | none => rfl
  | some r => obtain ⟨f, ρ'⟩ := r; cases f <;> rfl
@[simp↓] theorem s_set {i : Nat} {e : Ex} : evalS S h (.set i e) ρ = ((evalE S h e ρ).kp).tos fun d ρ => if h && !d.noX then none else some (.nx, ρ.set i (some d)) := by simp only [bnd_eq, tos_eq, kp_eq]; rw [evalS] <;> rfl
@[simp↓] theorem s_unp {is : List Nat} {e : Ex} : evalS S h (.unp is e) ρ = if h then none else (evalE S h e ρ).tos fun r ρ => match r with
    | .val (.tup xs) => (bindT (.tp is) (.tup xs) ρ).map fun ρ => (.nx, ρ)
    | _ => none := by simp only [bnd_eq, tos_eq, kp_eq]; rw [evalS] <;> rfl
@[simp↓] theorem s_sset {i : Nat} {path : List Ex} {e : Ex} : evalS S h (.sset i path e) ρ = if h then none else ((evalE S h e ρ).kp).tos fun d ρ => (evalP S h i path [] ρ).tos fun is ρ => match is.reverse with
    | [] => none
    | k :: rest => (updAt i (atPath (setItem k d) rest.reverse) ρ).map fun ρ => (.nx, ρ) := by simp only [bnd_eq, tos_eq, kp_eq]; rw [evalS] <;> rfl
@[simp↓] theorem s_sfld {f : Nat} {e : Ex} : evalS S h (.sfld f e) ρ = if h then none else ((evalE S h e ρ).kp).tos fun d ρ => (updAt 0 (fldItem S.tab f d) ρ).map fun ρ => (.nx, ρ) := by simp only [bnd_eq, tos_eq, kp_eq]; rw [evalS] <;> rfl
@[simp↓] theorem s_app {i : Nat} {path : List Ex} {e : Ex} : evalS S h (.app i path e) ρ = if h then none else (evalP S h i path [] ρ).tos fun is ρ => if okL i is ρ then ((evalE S h e ρ).kp).tos fun d ρ => (updAt i (atPath (appItem d) is) ρ).map fun ρ => (.nx, ρ) else none := by simp only [bnd_eq, tos_eq, kp_eq]; rw [evalS] <;> rfl
@[simp↓] theorem s_apop {i j : Nat} {e : Ex} : evalS S h (.apop i j e) ρ = if h then none else (evalE S h e ρ).tos fun r ρ => r.int?.bind fun k => if i = j then none else match ρ[j]? with
    | some (some d) => (popItem k d).bind fun p => (updAt i (appItem p.1) (ρ.set j (some p.2))).map fun ρ => (.nx, ρ)
    | _ => none := by simp only [bnd_eq, tos_eq, kp_eq]; rw [evalS] <;> rfl
@[simp↓] theorem s_aug {i : Nat} {o : Bop} {e : Ex} : evalS S h (.aug i o e) ρ = match ρ[i]? with
    | some (some (.int a)) => (evalE S h e ρ).tos fun r ρ => r.int?.bind fun b => (augI o a b).map fun k => (.nx, ρ.set i (some (.int k)))
    | _ => none := by simp only [bnd_eq, tos_eq, kp_eq]; rw [evalS] <;> rfl
@[simp↓] theorem s_ex {e : Ex} : evalS S h (.ex e) ρ = (evalE S h e ρ).tos fun _ ρ => some (.nx, ρ) := by simp only [bnd_eq, tos_eq, kp_eq]; rw [evalS] <;> rfl
@[simp↓] theorem s_ret {e : Ex} : evalS S h (.ret e) ρ = ((evalE S h e ρ).kp).tos fun d ρ => some (.rt d, ρ) := by simp only [bnd_eq, tos_eq, kp_eq]; rw [evalS] <;> rfl
@[simp↓] theorem s_ret0 : evalS S h .ret0 ρ = some (.rt .non, ρ) := by rw [evalS] <;> rfl
@[simp↓] theorem s_ite {c : Tx} {a b : List Sx} : evalS S h (.ite c a b) ρ = (evalT S h c ρ).tos fun k ρ => if k then evalSs S h a ρ else evalSs S h b ρ := by simp only [bnd_eq, tos_eq, kp_eq]; rw [evalS] <;> rfl
/-- what a for's list may stand in -/
def keepS (tg : Tg) (body : List Sx) : Nat → Bool := fun i => !(rbs (tgs tg) ++ storesL body).contains i
@[simp↓] theorem s_for {tg : Tg} {ik : Ik} {ie : List Ex} {body : List Sx} : evalS S h (.for_ tg ik ie body) ρ = if h && (ik != .range1) then none else (evalEs S h ie ρ).tos fun rs ρ => (iterR ik rs (keepS tg body) ρ).tos fun items ρ =>
      forL (gdR rs) tg (evalSs S h body) items ρ := by simp only [bnd_eq, tos_eq, kp_eq]; rw [evalS] <;> rfl
@[simp↓] theorem s_while {c : Tx} {body : List Sx} : evalS S h (.while_ c body) ρ = whileL (evalT S h c) (evalSs S h body) ρ := by rw [evalS] <;> rfl
@[simp↓] theorem s_raise {c : Nat} {es : List Ex} : evalS S h (.raise_ c es) ρ = if h then none else (evalK S h es ρ).tos fun ds ρ => if ds.length = (S.tab.xf c).length then some (.ex c (D.frzL ds.reverse), ρ) else none := by simp only [bnd_eq, tos_eq, kp_eq]; rw [evalS] <;> rfl
@[simp↓] theorem s_brk : evalS S h .brk ρ = some (.bk, ρ) := by rw [evalS] <;> rfl
@[simp↓] theorem s_cont : evalS S h .cont ρ = some (.ct, ρ) := by rw [evalS] <;> rfl
@[simp↓] theorem s_pass : evalS S h .pass ρ = some (.nx, ρ) := by rw [evalS] <;> rfl
/-- behind a try's body -/
noncomputable def tryK (S : Sem) (c : Nat) (j : Option Nat) (suite : List Sx) (r : SRes) : SRes := match r with
  | none => none
  | some (.ex c' xs, ρ) => (S.tab.exm c' c).bind fun b => if b then (match j with
        | some j => (evalSs S true suite (ρ.set j (some (.exn c' xs)))).bind fun r => match r with
          | (.ex _ _, _) => none
          | (.rt d, ρ) => if d.noX then some (.rt d, ρ.set j none) else none
          | (f, ρ) => some (f, ρ.set j none)
        | none => (evalSs S true suite ρ).bind fun r => match r with
          | (.ex _ _, _) => none
          | (.rt d, ρ) => if d.noX then some (.rt d, ρ) else none
          | r => some r) else some (.ex c' xs, ρ)
  | some r => some r
@[simp↓] theorem s_try {body : List Sx} {c : Nat} {j : Option Nat} {suite : List Sx} : evalS S h (.try_ body c j suite) ρ = if h then none else tryK S c j suite (evalSs S h body ρ) := by
  rw [evalS]
  split
  · rfl
  · cases evalSs S h body ρ with
    | none => rfl
    | some r => obtain ⟨f, ρ'⟩ := r; cases f <;> rfl
@[simp] theorem tryK_nx {c : Nat} {j : Option Nat} {suite : List Sx} : tryK S c j suite (some (.nx, ρ)) = some (.nx, ρ) := Eq.trans rfl rfl
@[simp] theorem tryK_rt {c : Nat} {j : Option Nat} {suite : List Sx} {d : D} : tryK S c j suite (some (.rt d, ρ)) = some (.rt d, ρ) := Eq.trans rfl rfl
@[simp] theorem tryK_ex {c c' j : Nat} {suite : List Sx} {xs : List D} : tryK S c (some j) suite (some (.ex c' xs, ρ)) = (S.tab.exm c' c).bind fun b => if b then ((evalSs S true suite (ρ.set j (some (.exn c' xs)))).bind fun r => match r with
          | (.ex _ _, _) => none
          | (.rt d, ρ) => if d.noX then some (.rt d, ρ.set j none) else none
          | (f, ρ) => some (f, ρ.set j none)) else some (.ex c' xs, ρ) := Eq.trans rfl rfl
@[simp] theorem tryK_ex0 {c c' : Nat} {suite : List Sx} {xs : List D} : tryK S c none suite (some (.ex c' xs, ρ)) = (S.tab.exm c' c).bind fun b => if b then ((evalSs S true suite ρ).bind fun r => match r with
          | (.ex _ _, _) => none
          | (.rt d, ρ) => if d.noX then some (.rt d, ρ) else none
          | r => some r) else some (.ex c' xs, ρ) := Eq.trans rfl rfl
end
/-! ### values -/
@[simp] theorem d_val {d : D} : (R.val d).d = d := Eq.trans rfl rfl
@[simp] theorem d_brw {i : Nat} {d : D} : (R.brw i d).d = d := Eq.trans rfl rfl
@[simp] theorem settle_val {d : D} {ρ : Env} : settle (.val d) ρ = .ok d ρ := Eq.trans rfl rfl
@[simp] theorem argR_val {d : D} {ρ : Env} : argR (.val d) ρ = .ok (.val d) ρ := Eq.trans rfl rfl
@[simp] theorem elems_lst {o : Bool} {xs : List D} {ρ : Env} : elems (.val (.lst o xs)) ρ = .ok (if o then D.frzL xs else xs) ρ := Eq.trans rfl rfl
@[simp] theorem elems_tup {xs : List D} {ρ : Env} : elems (.val (.tup xs)) ρ = .ok xs ρ := Eq.trans rfl rfl
@[simp] theorem part_val {x d : D} {ρ : Env} : part (.val d) x ρ = .ok (.val x) ρ := Eq.trans rfl rfl
@[simp] theorem int_val {i : Int} : (R.val (.int i)).int? = some i := Eq.trans rfl rfl
@[simp] theorem frzL_nil : D.frzL [] = [] := by rw [D.frzL]
@[simp] theorem frzL_cons {d : D} {ds : List D} : D.frzL (d :: ds) = d.frz :: D.frzL ds := by rw [D.frzL]
@[simp] theorem frz_int {i : Int} : (D.int i).frz = .int i := by rw [D.frz]
@[simp] theorem frz_str {x : Str} : (D.str x).frz = .str x := by rw [D.frz]
@[simp] theorem frz_non : D.non.frz = .non := by rw [D.frz]
@[simp] theorem frz_bl {b : Bool} : (D.bl b).frz = .bl b := by rw [D.frz]
@[simp] theorem frz_scr {ns : List Int} : (D.scr ns).frz = .scr ns := by rw [D.frz]
@[simp] theorem frz_tup {xs : List D} : (D.tup xs).frz = .tup xs := by rw [D.frz]
@[simp] theorem frz_exn {c : Nat} {xs : List D} : (D.exn c xs).frz = .exn c xs := by rw [D.frz]
@[simp] theorem frz_lst {o : Bool} {xs : List D} : (D.lst o xs).frz = .lst false (D.frzL xs) := by rw [D.frz]
@[simp] theorem frz_ins {o : Bool} {c : Nat} {xs : List D} : (D.ins o c xs).frz = .ins false c (D.frzL xs) := by rw [D.frz]
@[simp] theorem frzL_int {l : List Int} : D.frzL (l.map D.int) = l.map D.int := by induction l <;> simp_all
@[simp] theorem frzL_str {l : List Str} : D.frzL (l.map D.str) = l.map D.str := by induction l <;> simp_all
@[simp] theorem frzL_app {a b : List D} : D.frzL (a ++ b) = D.frzL a ++ D.frzL b := by induction a <;> simp_all
@[simp] theorem imm_int {i : Int} : (D.int i).imm = true := by rw [D.imm]
@[simp] theorem imm_str {x : Str} : (D.str x).imm = true := by rw [D.imm]
@[simp] theorem imm_non : D.non.imm = true := by rw [D.imm]
@[simp] theorem imm_bl {b : Bool} : (D.bl b).imm = true := by rw [D.imm]
@[simp] theorem imm_tup {xs : List D} : (D.tup xs).imm = D.immL xs := by rw [D.imm]
@[simp] theorem imm_lst {o : Bool} {xs : List D} : (D.lst o xs).imm = false := by rw [D.imm]
@[simp] theorem imm_ins {o : Bool} {c : Nat} {xs : List D} : (D.ins o c xs).imm = false := by rw [D.imm]
@[simp] theorem immL_nil : D.immL [] = true := by rw [D.immL]
@[simp] theorem immL_cons {d : D} {ds : List D} : D.immL (d :: ds) = (d.imm && D.immL ds) := by rw [D.immL]
@[simp] theorem immL_int {l : List Int} : D.immL (l.map D.int) = true := by induction l <;> simp_all
@[simp] theorem immL_str {l : List Str} : D.immL (l.map D.str) = true := by induction l <;> simp_all
@[simp] theorem noF_int {i : Int} : (D.int i).noF = true := by rw [D.noF]
@[simp] theorem noF_str {x : Str} : (D.str x).noF = true := by rw [D.noF]
@[simp] theorem noF_non : D.non.noF = true := by rw [D.noF]
@[simp] theorem noF_bl {b : Bool} : (D.bl b).noF = true := by rw [D.noF]
@[simp] theorem noF_tup {xs : List D} : (D.tup xs).noF = D.noFL xs := by rw [D.noF]
@[simp] theorem noF_lst {o : Bool} {xs : List D} : (D.lst o xs).noF = (o && D.noFL xs) := by rw [D.noF]
@[simp] theorem noF_ins {o : Bool} {c : Nat} {xs : List D} : (D.ins o c xs).noF = D.noFL xs := by rw [D.noF]
@[simp] theorem noFL_nil : D.noFL [] = true := by rw [D.noFL]
@[simp] theorem noFL_cons {d : D} {ds : List D} : D.noFL (d :: ds) = (d.noF && D.noFL ds) := by rw [D.noFL]
@[simp] theorem noFL_int {l : List Int} : D.noFL (l.map D.int) = true := by induction l <;> simp_all
@[simp] theorem noFL_str {l : List Str} : D.noFL (l.map D.str) = true := by induction l <;> simp_all
@[simp] theorem noX_int {i : Int} : (D.int i).noX = true := by rw [D.noX]
@[simp] theorem noX_str {x : Str} : (D.str x).noX = true := by rw [D.noX]
@[simp] theorem noX_non : D.non.noX = true := by rw [D.noX]
@[simp] theorem noX_bl {b : Bool} : (D.bl b).noX = true := by rw [D.noX]
@[simp] theorem noX_tup {xs : List D} : (D.tup xs).noX = D.noXL xs := by rw [D.noX]
@[simp] theorem noX_lst {o : Bool} {xs : List D} : (D.lst o xs).noX = D.noXL xs := by rw [D.noX]
@[simp] theorem noX_ins {o : Bool} {c : Nat} {xs : List D} : (D.ins o c xs).noX = D.noXL xs := by rw [D.noX]
@[simp] theorem noXL_nil : D.noXL [] = true := by rw [D.noXL]
@[simp] theorem noXL_cons {d : D} {ds : List D} : D.noXL (d :: ds) = (d.noX && D.noXL ds) := by rw [D.noXL]
@[simp] theorem noI_int {i : Int} : (D.int i).noI = true := by rw [D.noI]
@[simp] theorem noI_str {x : Str} : (D.str x).noI = true := by rw [D.noI]
@[simp] theorem noI_non : D.non.noI = true := by rw [D.noI]
@[simp] theorem noI_bl {b : Bool} : (D.bl b).noI = true := by rw [D.noI]
@[simp] theorem noI_scr {l : List Int} : (D.scr l).noI = true := by rw [D.noI]
@[simp] theorem noI_tup {xs : List D} : (D.tup xs).noI = D.noIL xs := by rw [D.noI]
@[simp] theorem noI_lst2 {o : Bool} {xs : List D} : (D.lst o xs).noI = D.noIL xs := by rw [D.noI]
@[simp] theorem noI_ins {o : Bool} {c : Nat} {xs : List D} : (D.ins o c xs).noI = false := by rw [D.noI]
@[simp] theorem noIL_nil : D.noIL [] = true := by rw [D.noIL]
@[simp] theorem noIL_cons {d : D} {ds : List D} : D.noIL (d :: ds) = (d.noI && D.noIL ds) := by rw [D.noIL]
@[simp] theorem noIL_int {l : List Int} : D.noIL (l.map D.int) = true := by induction l <;> simp_all
@[simp] theorem noIL_str {l : List Str} : D.noIL (l.map D.str) = true := by induction l <;> simp_all
@[simp] theorem py_int {i : Int} : (D.int i).py = some (.int i) := by rw [D.py]
@[simp] theorem py_str {x : Str} : (D.str x).py = some (.str x) := by rw [D.py]
@[simp] theorem py_non : D.non.py = some .none := by rw [D.py]
@[simp] theorem py_bl {b : Bool} : (D.bl b).py = some (.bool b) := by rw [D.py]
@[simp] theorem py_tup {xs : List D} : (D.tup xs).py = (D.pyL xs).map PyData.tuple := by rw [D.py]
@[simp] theorem py_lst {o : Bool} {xs : List D} : (D.lst o xs).py = (D.pyL xs).map PyData.list := by rw [D.py]
@[simp] theorem pyL_nil : D.pyL [] = some [] := by rw [D.pyL]
@[simp] theorem pyL_cons {d : D} {ds : List D} : D.pyL (d :: ds) = match d.py, D.pyL ds with
    | some p, some ps => some (p :: ps)
    | _, _ => none := by rw [D.pyL] <;> rfl
@[simp] theorem pyL_int {l : List Int} : D.pyL (l.map D.int) = some (l.map PyData.int) := by induction l <;> simp_all
@[simp] theorem pyL_str {l : List Str} : D.pyL (l.map D.str) = some (l.map PyData.str) := by induction l <;> simp_all
@[simp] theorem dep_int {i : Int} : (D.int i).dep = 1 := by simp [D.dep]
@[simp] theorem dep_str {x : Str} : (D.str x).dep = 1 := by simp [D.dep]
@[simp] theorem dep_non : D.non.dep = 1 := by simp [D.dep]
@[simp] theorem dep_bl {b : Bool} : (D.bl b).dep = 1 := by simp [D.dep]
@[simp] theorem dep_tup {xs : List D} : (D.tup xs).dep = D.depL xs + 1 := by rw [D.dep]
@[simp] theorem dep_lst {o : Bool} {xs : List D} : (D.lst o xs).dep = D.depL xs + 1 := by rw [D.dep]
@[simp] theorem depL_nil : D.depL [] = 0 := by rw [D.depL]
@[simp] theorem depL_cons {d : D} {ds : List D} : D.depL (d :: ds) = max d.dep (D.depL ds) := by rw [D.depL]
@[simp] theorem eqv_int {i j : Int} : (D.int i).eqv (.int j) = (i == j) := by rw [D.eqv]
@[simp] theorem eqv_str {x y : Str} : (D.str x).eqv (.str y) = (x == y) := by rw [D.eqv]
@[simp] theorem eqv_bl {x y : Bool} : (D.bl x).eqv (.bl y) = (x == y) := by rw [D.eqv]
@[simp] theorem eqv_non : D.non.eqv .non = true := by rw [D.eqv]
@[simp] theorem eqv_lst {o p : Bool} {xs ys : List D} : (D.lst o xs).eqv (.lst p ys) = D.eqvL xs ys := by rw [D.eqv]
@[simp] theorem eqv_tup {xs ys : List D} : (D.tup xs).eqv (.tup ys) = D.eqvL xs ys := by rw [D.eqv]
@[simp] theorem eqvL_nil : D.eqvL [] [] = true := by rw [D.eqvL]
@[simp] theorem eqvL_cons {x y : D} {xs ys : List D} : D.eqvL (x :: xs) (y :: ys) = (x.eqv y && D.eqvL xs ys) := by rw [D.eqvL]
@[simp] theorem eqvL_nc {y : D} {ys : List D} : D.eqvL [] (y :: ys) = false := by rw [D.eqvL] <;> simp
@[simp] theorem eqvL_cn {y : D} {ys : List D} : D.eqvL (y :: ys) [] = false := by rw [D.eqvL] <;> simp
@[simp] theorem eqvL_int {xs ys : List Int} : D.eqvL (xs.map D.int) (ys.map D.int) = (xs == ys) := by
  induction xs generalizing ys with
  | nil => cases ys <;> simp
  | cons x xs ih => cases ys <;> simp [ih]
@[simp] theorem eqvL_str {xs ys : List Str} : D.eqvL (xs.map D.str) (ys.map D.str) = (xs == ys) := by
  induction xs generalizing ys with
  | nil => cases ys <;> simp
  | cons x xs ih => cases ys <;> simp [ih]
@[simp] theorem truth_bl {b : Bool} : truth (.bl b) = some b := Eq.trans rfl rfl
@[simp] theorem truth_int {i : Int} : truth (.int i) = some (i != 0) := Eq.trans rfl rfl
@[simp] theorem truth_non : truth .non = some false := Eq.trans rfl rfl
@[simp] theorem truth_lst {o : Bool} {xs : List D} : truth (.lst o xs) = some (!xs.isEmpty) := Eq.trans rfl rfl
@[simp] theorem truth_tup {xs : List D} : truth (.tup xs) = some (!xs.isEmpty) := Eq.trans rfl rfl
end SL
set_option Elab.async false
set_option linter.all false
set_option maxRecDepth 100000
set_option maxHeartbeats 1000000
/-! SLLib: loops by invariants; defs that many laws share. -/
namespace SL
open PySem L2
/-- a turn's end -/
def Wp (r : SRes) (N : Env → Prop) (Q : Fl × Env → Prop) : Prop := match r with
  | some (.nx, ρ) => N ρ
  | some (.ct, ρ) => N ρ
  | some (.bk, ρ) => Q (.nx, ρ)
  | some r => Q r
  | none => False
section
variable {N : Env → Prop} {Q : Fl × Env → Prop} {ρ : Env}
@[simp] theorem wp_nx : Wp (some (.nx, ρ)) N Q = N ρ := Eq.trans rfl rfl
@[simp] theorem wp_ct : Wp (some (.ct, ρ)) N Q = N ρ := Eq.trans rfl rfl
@[simp] theorem wp_bk : Wp (some (.bk, ρ)) N Q = Q (.nx, ρ) := Eq.trans rfl rfl
@[simp] theorem wp_rt {d : D} : Wp (some (.rt d, ρ)) N Q = Q (.rt d, ρ) := Eq.trans rfl rfl
@[simp] theorem wp_ex {c : Nat} {xs : List D} : Wp (some (.ex c xs, ρ)) N Q = Q (.ex c xs, ρ) := Eq.trans rfl rfl
end
theorem forL_inv {g : Env → Bool} {tg : Tg} {b : Env → SRes} (I : Nat → Env → Prop) (Q : Fl × Env → Prop) : ∀ {xs : List D} {n : Nat}
    (step : ∀ k x ρ, xs[k]? = some x → I (n + k) ρ → g ρ = true ∧ ∃ ρ1, bindT tg x ρ = some ρ1 ∧ ∀ (N : Env → Prop) (Q' : Fl × Env → Prop), (∀ ρ, I (n + k + 1) ρ → N ρ) → (∀ r, Q r → Q' r) → Wp (b ρ1) N Q')
    (fin : ∀ ρ, I (n + xs.length) ρ → g ρ = true ∧ Q (.nx, ρ)) {ρ : Env} (h0 : I n ρ), ∃ r, forL g tg b xs ρ = some r ∧ Q r
  | [], n, step, fin, ρ, h0 => by
    obtain ⟨hg, q⟩ := fin ρ h0
    exact ⟨_, by rw [forL, if_pos hg], q⟩
  | x :: xs, n, step, fin, ρ, h0 => by
    obtain ⟨hg, ρ1, h1, h3⟩ := step 0 x ρ rfl h0
    replace h3 := h3 _ _ (fun _ z => z) (fun _ z => z)
    rw [forL, if_pos hg, h1]
    simp only [Option.bind_some]
    have more : ∀ ρ2, I (n + 1) ρ2 → ∃ r, forL g tg b xs ρ2 = some r ∧ Q r := fun ρ2 hi =>
      forL_inv I Q (n := n + 1) (fun k y ρ hk hI => by
        have := step (k + 1) y ρ (by simpa using hk) (by rw [Nat.add_assoc] at hI; rwa [Nat.add_comm k 1])
        rwa [show n + (k + 1) + 1 = n + 1 + k + 1 by omega] at this) (fun ρ hI => fin ρ (by rwa [List.length_cons, show n + (xs.length + 1) = n + 1 + xs.length by omega])) hi
    cases q : b ρ1 with
    | none => rw [q] at h3; exact h3.elim
    | some r =>
      rw [q] at h3
      simp only [Option.bind_some]
      obtain ⟨f, ρ2⟩ := r
      cases f with
      | nx => exact more _ h3
      | ct => exact more _ h3
      | bk => exact ⟨_, rfl, h3⟩
      | rt d => exact ⟨_, rfl, h3⟩
      | ex c ys => exact ⟨_, rfl, h3⟩
theorem range_get {n k : Nat} {x : D} (h : ((List.range n).map fun (k : Nat) => D.int k)[k]? = some x) : k < n ∧ x = .int k := by
  by_cases q : k < n
  · rw [List.getElem?_map, List.getElem?_range q] at h
    exact ⟨q, by cases h; rfl⟩
  · rw [List.getElem?_eq_none (by simp; omega)] at h; cases h
def cs2 (r : Res D) (own : List Nat) : Option (Option D × Env) := match r with
  | .ok d ρ => some (some d, wipeE ρ own)
  | _ => none
def cs1 (r : Res Bool) (elt : Env → Res R) (own : List Nat) : Option (Option D × Env) := match r with
  | .ok true ρ => cs2 (elt ρ).kp own
  | .ok false ρ => some (none, wipeE ρ own)
  | _ => none
@[simp] theorem cs2_ok {d : D} {ρ : Env} {own : List Nat} : cs2 (.ok d ρ) own = some (some d, wipeE ρ own) := Eq.trans rfl rfl
@[simp] theorem cs1_t {ρ : Env} {elt : Env → Res R} {own : List Nat} : cs1 (.ok true ρ) elt own = cs2 (elt ρ).kp own := Eq.trans rfl rfl
@[simp] theorem cs1_f {ρ : Env} {elt : Env → Res R} {own : List Nat} : cs1 (.ok false ρ) elt own = some (none, wipeE ρ own) := Eq.trans rfl rfl
theorem compL_fm {own : List Nat} {tg : Tg} {test : Env → Res Bool} {elt : Env → Res R} {ρ0 : Env} {α : Type} (g : α → D) (f : α → Option D) : ∀ {l : List α} {acc : List D}
    (step : ∀ a ∈ l, ∃ ρ1, bindT tg (g a) ρ0 = some ρ1 ∧ cs1 (test ρ1) elt own = some (f a, ρ0)) (hl : acc.length + l.length ≤ sizeLine),
    compL own tg test elt (l.map g) acc ρ0 = .ok (acc ++ l.filterMap f) ρ0
  | [], acc, _, _ => by simp [compL]
  | x :: xs, acc, step, hl => by
    obtain ⟨ρ1, h1, h2⟩ := step x List.mem_cons_self
    rw [List.map_cons, compL, h1]
    have more : ∀ acc' : List D, acc'.length ≤ acc.length + 1 → compL own tg test elt (xs.map g) acc' ρ0 = .ok (acc' ++ xs.filterMap f) ρ0 := fun acc' ha =>
      compL_fm g f (fun y hy => step y (List.mem_cons_of_mem _ hy)) (by rw [List.length_cons] at hl; omega)
    cases q : test ρ1 with
    | bad => rw [q] at h2; simp [cs1] at h2
    | exc c ys ρ => rw [q] at h2; simp [cs1] at h2
    | ok b ρ2 =>
      rw [q] at h2
      cases b with
      | false =>
        simp only [cs1_f, Option.some.injEq, Prod.mk.injEq] at h2
        simp only [q, h2.2]
        rw [more acc (by omega), List.filterMap_cons_none h2.1.symm]
      | true =>
        rw [cs1_t, kp_eq] at h2
        simp only [q]
        cases q2 : (elt ρ2).bind settle with
        | bad => rw [q2] at h2; simp [cs2] at h2
        | exc c ys ρ => rw [q2] at h2; simp [cs2] at h2
        | ok d ρ3 =>
          rw [q2] at h2
          simp only [cs2_ok, Option.some.injEq, Prod.mk.injEq] at h2
          simp only [h2.2]
          rw [if_pos (by rw [List.length_cons] at hl; omega), more _ (by simp), List.filterMap_cons_some h2.1.symm]
          simp
theorem compL_map {own : List Nat} {tg : Tg} {test : Env → Res Bool} {elt : Env → Res R} {ρ0 : Env} {α : Type} (g : α → D) (f : α → D) {l : List α} {acc : List D}
    (step : ∀ a ∈ l, ∃ ρ1, bindT tg (g a) ρ0 = some ρ1 ∧ cs1 (test ρ1) elt own = some (some (f a), ρ0)) (hl : acc.length + l.length ≤ sizeLine) :
    compL own tg test elt (l.map g) acc ρ0 = .ok (acc ++ l.map f) ρ0 := by
  rw [compL_fm g (fun a => some (f a)) step hl]
  rw [show List.filterMap (fun a => some (f a)) l = List.map f l from by simp]
@[simp] theorem frzL_map {α : Type} {f : α → D} {l : List α} (h : ∀ a, (f a).frz = f a) : D.frzL (l.map f) = l.map f := by
  induction l with
  | nil => rw [List.map_nil, frzL_nil]
  | cons a l ih => rw [List.map_cons, frzL_cons, h, ih]
@[simp] theorem noIL_map {α : Type} {f : α → D} {l : List α} (h : ∀ a, (f a).noI = true) : D.noIL (l.map f) = true := by
  induction l with
  | nil => rw [List.map_nil, noIL_nil]
  | cons a l ih => rw [List.map_cons, noIL_cons, h, ih]; rfl
@[simp] theorem noFL_map {α : Type} {f : α → D} {l : List α} (h : ∀ a, (f a).noF = true) : D.noFL (l.map f) = true := by
  induction l with
  | nil => rw [List.map_nil, noFL_nil]
  | cons a l ih => rw [List.map_cons, noFL_cons, h, ih]; rfl
@[simp] theorem noXL_map {α : Type} {f : α → D} {l : List α} (h : ∀ a, (f a).noX = true) : D.noXL (l.map f) = true := by
  induction l with
  | nil => rw [List.map_nil, noXL_nil]
  | cons a l ih => rw [List.map_cons, noXL_cons, h, ih]; rfl
@[simp] theorem immL_map {α : Type} {f : α → D} {l : List α} (h : ∀ a, (f a).imm = true) : D.immL (l.map f) = true := by
  induction l with
  | nil => rw [List.map_nil, immL_nil]
  | cons a l ih => rw [List.map_cons, immL_cons, h, ih]; rfl
@[simp] theorem gdR_val {d : D} : gdR [.val d] = fun _ => true := by funext ρ; rfl
@[simp] theorem gdR_two {a b : R} : gdR [a, b] = fun _ => true := by funext ρ; cases a <;> rfl
@[simp] theorem iter_range1 {n : Int} {keep : Nat → Bool} {ρ : Env} : iterR .range1 [.val (.int n)] keep ρ = if -(2 ^ 62) ≤ n ∧ n < 2 ^ 62 then .ok ((List.range n.toNat).map fun (k : Nat) => D.int k) ρ else .bad := Eq.trans rfl rfl
theorem small_cast {n : Nat} (h : n < 4611686018427387904) : -(2 ^ 62 : Int) ≤ (n : Int) ∧ (n : Int) < 2 ^ 62 := by omega
/-- a length -/
def Sm (n : Nat) : Prop := n < 4611686018427387904
theorem sm_of {n : Nat} (h : n ≤ 100000000) : Sm n := by unfold Sm; omega
@[simp high] theorem iter_range1n {n : Nat} {keep : Nat → Bool} {ρ : Env} (h : Sm n) : iterR .range1 [.val (.int (n : Int))] keep ρ = .ok ((List.range n).map fun (k : Nat) => D.int k) ρ := by
  rw [iter_range1, if_pos (small_cast h), Int.toNat_natCast]
@[simp] theorem iter_lst {o : Bool} {xs : List D} {keep : Nat → Bool} {ρ : Env} : iterR .plain [.val (.lst o xs)] keep ρ = .ok (if o then D.frzL xs else xs) ρ := Eq.trans rfl rfl
@[simp] theorem iter_tup {xs : List D} {keep : Nat → Bool} {ρ : Env} : iterR .plain [.val (.tup xs)] keep ρ = .ok xs ρ := Eq.trans rfl rfl
@[simp] theorem iter_scr {ns : List Int} {keep : Nat → Bool} {ρ : Env} : iterR .plain [.val (.scr ns)] keep ρ = .ok (ns.map D.int) ρ := Eq.trans rfl rfl
theorem slz : sizeLine = 16777216 := Eq.trans rfl rfl
@[simp] theorem bind_nm {i : Nat} {d : D} {ρ : Env} : bindT (.nm i) d ρ = some (ρ.set i (some d)) := Eq.trans rfl rfl
/-! ### _law_cell -/
def cellB : List Sx := [.set 2 (.bin .mod (.bi .int [.bin .add (.bin .mul (.var 2) (.int 31)) (.bin .mod (.bi .int [.var 3]) (.int 1000003))]) (.int 1000003))]
def cellD : FnD := ⟨2, 4,
   [.ite (.e (.cmp .lt (.var 1) (.bi .len [.var 0]))) [.ret (.idx (.var 0) (.var 1))] [],
    .set 2 (.int 17),
    .for_ (.nm 3) .plain [.var 0] cellB,
    .ret (.bin .mod (.bi .int [.bin .mul (.bin .mul (.bin .add (.var 2) (.int 7)) (.bin .add (.var 1) (.int 3))) (.int 69621)]) (.int 2147483647))]⟩
theorem mulOk_r {i j : Int} (h : -(2 ^ 64) < j ∧ j < 2 ^ 64) : mulOk i j = true := by simp [mulOk]; omega
theorem cell_ok {S : Sem} (ns : List Int) (k : Int) (hk : 0 ≤ k) (hk2 : k < 1000) : ∃ c, runBody S false cellD [.scr ns, .int k] = some (.ret (.int c)) := by
  unfold runBody cellD
  by_cases h : k < ns.length
  · refine ⟨ns[k.toNat]'(by omega), ?_⟩
    simp [cmpD, ordD, biR, biD, lenD, h, idxR, ixD, hk]
  · have lp : ∀ ρ0 : Env, (∃ s : Int, ρ0 = [some (.scr ns), some (.int k), some (.int s), none]) → ∃ r, forL (fun _ => true) (Tg.nm 3) (evalSs S false cellB) (ns.map D.int) ρ0 = some r ∧ ∃ (s : Int) (t : Option D), r = (.nx, [some (.scr ns), some (.int k), some (.int s), t]) := by
      intro ρ0 h0
      refine forL_inv (fun _ ρ => ∃ (s : Int) (t : Option D), ρ = [some (.scr ns), some (.int k), some (.int s), t]) _ (n := 0) ?_ ?_ (by obtain ⟨s, e⟩ := h0; exact ⟨s, none, e⟩)
      · rintro j x ρ hx ⟨s, t, rfl⟩
        obtain ⟨i, rfl⟩ : ∃ i, x = D.int i := by
          rw [List.getElem?_map] at hx
          cases q : ns[j]? with
          | none => rw [q] at hx; cases hx
          | some i => rw [q] at hx; exact ⟨i, by cases hx; rfl⟩
        refine ⟨rfl, _, rfl, fun N Q hN hQ => ?_⟩
        simp [cellB, binR, biR, biD, binI, mulOk]
        exact hN _ ⟨_, _, rfl⟩
      · rintro ρ ⟨s, t, rfl⟩
        exact ⟨rfl, s, t, rfl⟩
    obtain ⟨r, hr, s, t, rfl⟩ := lp _ ⟨17, rfl⟩
    refine ⟨((s + 7) * (k + 3) * 69621) % 2147483647, ?_⟩
    have m1 : mulOk (s + 7) (k + 3) = true := mulOk_r (by omega)
    have m2 : mulOk ((s + 7) * (k + 3)) 69621 = true := mulOk_r (by omega)
    simp [cmpD, ordD, biR, biD, lenD, h, binR, binI, hr, m1, m2]
/-! ### _law_digits -/
def digB1 : List Sx := [.app 2 [] (.bin .mod (.bi .int [.var 3]) (.var 4)),
    .set 3 (.bin .fdiv (.bi .int [.var 3]) (.var 4))]
def digB2 : List Sx := [.set 5 (.bin .mod (.bi .int [.bin .add (.bin .add (.bin .mul (.var 5) (.int 48271)) (.bin .mul (.int 974711) (.var 6))) (.int 12345)]) (.int 2147483647)),
    .set 7 (.bin .mod (.bi .int [.bin .mul (.var 5) (.bin .add (.bin .fdiv (.var 5) (.int 65537)) (.int 3))]) (.int 2147483629)),
    .app 2 [] (.bin .mod (.bin .fdiv (.var 7) (.int 19)) (.idx (.var 1) (.var 6)))]
def digD : FnD := ⟨2, 8,
   [.set 2 (.lst []),
    .set 3 (.bi .int [.var 0]),
    .ite (.e (.cmp .ge (.var 3) (.bin .pow (.int 10) (.int 18)))) [.set 3 (.bin .sub (.var 3) (.bin .pow (.int 10) (.int 18))),
    .for_ (.nm 4) .plain [.var 1] digB1,
    .ret (.take 2)] [],
    .set 5 (.bin .mod (.bi .int [.var 3]) (.int 2147483629)),
    .for_ (.nm 6) .range1 [.bi .len [.var 1]] digB2,
    .ret (.take 2)]⟩
/-- digits below their sizes -/
def Dig : List Int → List Int → Prop
  | [], [] => True
  | d :: ds, s :: ss => (0 ≤ d ∧ d < s) ∧ Dig ds ss
  | _, _ => False
theorem Dig.snoc : ∀ {ds ss : List Int} {d s : Int}, Dig ds ss → 0 ≤ d → d < s → Dig (ds ++ [d]) (ss ++ [s])
  | [], [], _, _, _, h1, h2 => ⟨⟨h1, h2⟩, trivial⟩
  | _ :: _, _ :: _, _, _, h, h1, h2 => ⟨h.1, Dig.snoc h.2 h1 h2⟩
  | [], _ :: _, _, _, h, _, _ => h.elim
  | _ :: _, [], _, _, h, _, _ => h.elim
theorem Dig.len : ∀ {ds ss : List Int}, Dig ds ss → ds.length = ss.length
  | [], [], _ => rfl
  | _ :: _, _ :: _, h => by simp [Dig.len h.2]
  | [], _ :: _, h => h.elim
  | _ :: _, [], h => h.elim
theorem Dig.take_next {ds ss : List Int} {k : Nat} {s d : Int} (hd : Dig ds (ss.take k)) (hs : ss[k]? = some s) (h1 : 0 ≤ d) (h2 : d < s) : Dig (ds ++ [d]) (ss.take (k + 1)) := by
  rw [List.take_add_one, hs]
  exact hd.snoc h1 h2
/-- good sizes -/
def Szs (ss : List Int) : Prop := ss.length ≤ 1000 ∧ ∀ s ∈ ss, 0 < s ∧ s < 1000000000
theorem map_int_get {ss : List Int} {k : Nat} {x : D} (h : (ss.map D.int)[k]? = some x) : ∃ s, ss[k]? = some s ∧ x = .int s := by
  rw [List.getElem?_map] at h
  cases q : ss[k]? with
  | none => rw [q] at h; cases h
  | some s => rw [q] at h; exact ⟨s, rfl, by cases h; rfl⟩
@[simp] theorem upd_lst {ρ : Env} {i : Nat} {f : D → Option D} : updAt i f ρ = match ρ[i]? with
  | some (some d) => (f d).map fun d' => ρ.set i (some d')
  | _ => none := Eq.trans rfl rfl
@[simp] theorem appItem_lst {v : D} {xs : List D} : appItem v (.lst true xs) = if xs.length < sizeLine then some (.lst true (xs ++ [v])) else none := Eq.trans rfl rfl
@[simp] theorem atPath_nil {f : D → Option D} {d : D} : atPath f [] d = f d := Eq.trans rfl rfl
@[simp] theorem okAt_nil {i : Nat} {ρ : Env} : okAt i [] ρ = match ρ[i]? with | some (some d) => true | _ => false := by
  unfold okAt; split <;> simp_all [getAt]
@[simp] theorem okL_nil {i : Nat} {ρ : Env} : okL i [] ρ = match ρ[i]? with | some (some (.lst true _)) => true | _ => false := by
  unfold okL
  cases ρ[i]? with
  | none => rfl
  | some o => cases o with
    | none => rfl
    | some d => simp only [getAt]; cases d with
      | lst o xs => cases o <;> rfl
      | _ => rfl
theorem dig_lp1 {S : Sem} {c : Int} {ss : List Int} (hs1 : ss.length ≤ 1000) (hs2 : ∀ s ∈ ss, 0 < s ∧ s < 1000000000) : ∀ r0 : Int, ∃ r, forL (fun _ => true) (Tg.nm 4) (evalSs S false digB1) (ss.map D.int) [some (.int c), some (.lst false (ss.map D.int)), some (.lst true []), some (.int r0), none, none, none, none] = some r ∧ ∃ (row : List Int) (a b : Option D), Dig row ss ∧ r = (.nx, [some (.int c), some (.lst false (ss.map D.int)), some (.lst true (row.map D.int)), a, b, none, none, none]) := by
  intro r0
  refine forL_inv (fun k ρ => ∃ (row : List Int) (r : Int) (t : Option D), Dig row (ss.take k) ∧ ρ = [some (.int c), some (.lst false (ss.map D.int)), some (.lst true (row.map D.int)), some (.int r), t, none, none, none]) _ (n := 0) ?_ ?_ ⟨[], r0, none, trivial, rfl⟩
  · rintro k x ρ hx ⟨row, r, t, hd, rfl⟩
    obtain ⟨s, hk, rfl⟩ := map_int_get hx
    have hm := hs2 s (List.mem_of_getElem? hk)
    have hl : row.length < sizeLine := by
      have := hd.len
      rw [List.length_take] at this
      rw [slz]; omega
    refine ⟨rfl, _, rfl, fun N Q hN hQ => ?_⟩
    have q1 : 0 < s ∧ s < 1073741824 := by omega
    simp [digB1, binR, biR, biD, binI, hl, hm, q1]
    refine hN _ ⟨row ++ [r % s], r / s, _, ?_, by simp; rfl⟩
    rw [Nat.zero_add] at hd ⊢
    exact hd.take_next hk (Int.emod_nonneg _ (by omega)) (Int.emod_lt_of_pos _ hm.1)
  · rintro ρ ⟨row, r, t, hd, rfl⟩
    rw [Nat.zero_add, List.length_map, List.take_length] at hd
    exact ⟨rfl, row, _, _, hd, rfl⟩
theorem dig_lp2 {S : Sem} {c : Int} {ss : List Int} (hs1 : ss.length ≤ 1000) (hs2 : ∀ s ∈ ss, 0 < s ∧ s < 1000000000) : ∀ r0 : Int, 0 ≤ r0 → r0 < 2147483647 → ∃ r, forL (fun _ => true) (Tg.nm 6) (evalSs S false digB2) ((List.range ss.length).map fun (k : Nat) => D.int k) [some (.int c), some (.lst false (ss.map D.int)), some (.lst true []), some (.int c), none, some (.int r0), none, none] = some r ∧ ∃ (row : List Int) (a b e : Option D), Dig row ss ∧ r = (.nx, [some (.int c), some (.lst false (ss.map D.int)), some (.lst true (row.map D.int)), some (.int c), none, a, b, e]) := by
  intro r0 h1 h2
  refine forL_inv (fun k ρ => ∃ (row : List Int) (r : Int) (t u : Option D), Dig row (ss.take k) ∧ 0 ≤ r ∧ r < 2147483647 ∧ ρ = [some (.int c), some (.lst false (ss.map D.int)), some (.lst true (row.map D.int)), some (.int c), none, some (.int r), t, u]) _ (n := 0) ?_ ?_ ⟨[], r0, none, none, trivial, h1, h2, rfl⟩
  · rintro k x ρ hx ⟨row, r, t, u, hd, h1, h2, rfl⟩
    obtain ⟨hk, rfl⟩ := range_get hx
    have hg := List.getElem?_eq_getElem hk
    have hm := hs2 _ (List.getElem_mem hk)
    have hl : row.length < sizeLine := by
      have := hd.len
      rw [List.length_take] at this
      rw [slz]; omega
    refine ⟨rfl, _, rfl, fun N Q hN hQ => ?_⟩
    have z1 : mulOk r 48271 = true := mulOk_r (by omega)
    have z2 : mulOk 974711 (k : Int) = true := mulOk_r (by omega)
    have hr1 := Int.emod_nonneg (r * 48271 + 974711 * k + 12345) (show (2147483647 : Int) ≠ 0 by omega)
    have hr2 := Int.emod_lt_of_pos (r * 48271 + 974711 * k + 12345) (show (0 : Int) < 2147483647 by omega)
    generalize hr : (r * 48271 + 974711 * (k : Int) + 12345) % 2147483647 = r' at hr1 hr2
    have z3 : mulOk r' (r' / 65537 + 3) = true := mulOk_r (by omega)
    simp [digB2, binR, biR, biD, binI, hl, hm, z1, z2, z3, hr, idxR, ixD, hk, hg]
    refine hN _ ⟨row ++ [_], r', _, _, ?_, hr1, hr2, by simp; exact ⟨rfl, rfl, rfl⟩⟩
    rw [Nat.zero_add] at hd ⊢
    exact hd.take_next hg (Int.emod_nonneg _ (by omega)) (Int.emod_lt_of_pos _ hm.1)
  · rintro ρ ⟨row, r, t, u, hd, h1, h2, rfl⟩
    rw [Nat.zero_add, List.length_map, List.length_range, List.take_length] at hd
    exact ⟨rfl, row, _, _, _, hd, rfl⟩
theorem dig_ok {S : Sem} {c : Int} {ss : List Int} (hs : Szs ss) : ∃ row, runBody S false digD [.int c, .lst false (ss.map D.int)] = some (.ret (.lst true (row.map D.int))) ∧ Dig row ss := by
  obtain ⟨hs1, hs2⟩ := hs
  by_cases h : 1000000000000000000 ≤ c
  · obtain ⟨r, hr, row, a, b, hd, rfl⟩ := dig_lp1 (S := S) (c := c) hs1 hs2 (c - 1000000000000000000)
    refine ⟨row, ?_, hd⟩
    unfold runBody digD
    simp [cmpD, ordD, biR, biD, lenD, h, binR, binI, hr]
  · obtain ⟨r, hr, row, a, b, e, hd, rfl⟩ := dig_lp2 (S := S) (c := c) hs1 hs2 (c % 2147483629) (Int.emod_nonneg _ (by omega)) (by have := Int.emod_lt_of_pos c (show (0:Int) < 2147483629 by omega); omega)
    refine ⟨row, ?_, hd⟩
    have hz : Sm ss.length := sm_of (by omega)
    unfold runBody digD
    simp [cmpD, ordD, biR, biD, lenD, h, binR, binI, hr, hz]
end SL
set_option Elab.async false
set_option linter.all false
set_option maxRecDepth 100000
set_option maxHeartbeats 1000000
/-! SLSimq: the rest of the evaluator by simp; defs and calls; texts. -/
namespace SL
open PySem L2
section
variable {ρ : Env} {h : Bool}
@[simp] theorem live_def {i : Nat} : live i ρ = match ρ[i]? with | some (some _) => true | _ => false := Eq.trans rfl rfl
@[simp] theorem frzAt_def {i : Nat} : frzAt i ρ = match ρ[i]? with | some (some d) => ρ.set i (some d.frz) | _ => ρ := Eq.trans rfl rfl
@[simp] theorem settle_brw {i : Nat} {d : D} : settle (.brw i d) ρ = if live i ρ then .ok d (if d.imm then ρ else frzAt i ρ) else .bad := Eq.trans rfl rfl
@[simp] theorem elems_brwl {i : Nat} {o : Bool} {xs : List D} : elems (.brw i (.lst o xs)) ρ = if live i ρ then .ok xs (if D.immL xs then ρ else frzAt i ρ) else .bad := Eq.trans rfl rfl
@[simp] theorem elems_brwt {i : Nat} {xs : List D} : elems (.brw i (.tup xs)) ρ = if live i ρ then .ok xs (if D.immL xs then ρ else frzAt i ρ) else .bad := Eq.trans rfl rfl
@[simp] theorem elems_scr {ns : List Int} : elems (.val (.scr ns)) ρ = .ok (ns.map D.int) ρ := Eq.trans rfl rfl
@[simp] theorem part_brw {i : Nat} {x d : D} : part (.brw i d) x ρ = if live i ρ then .ok (if x.imm then .val x else .brw i x) ρ else .bad := Eq.trans rfl rfl
@[simp] theorem argR_brw {i : Nat} {d : D} : argR (.brw i d) ρ = match ρ[i]? with
    | some (some e) => if e.noI then .ok (.brw i d) ρ else (settle (.brw i d) ρ).bnd fun d ρ => .ok (.val d) ρ
    | _ => .bad := Eq.trans rfl rfl
@[simp] theorem liveAll_nil : liveAll [] ρ = true := Eq.trans rfl rfl
@[simp] theorem liveAll_val {d : D} {rs : List R} : liveAll (.val d :: rs) ρ = liveAll rs ρ := Eq.trans rfl rfl
@[simp] theorem liveAll_brw {i : Nat} {d : D} {rs : List R} : liveAll (.brw i d :: rs) ρ = ((match ρ[i]? with
    | some (some e) => e.noI
    | _ => false) && liveAll rs ρ) := Eq.trans rfl rfl
@[simp] theorem frzAll_nil : frzAll [] ρ = ρ := Eq.trans rfl rfl
@[simp] theorem frzAll_val {d : D} {rs : List R} : frzAll (.val d :: rs) ρ = frzAll rs ρ := Eq.trans rfl rfl
@[simp] theorem frzAll_brw {i : Nat} {d : D} {rs : List R} : frzAll (.brw i d :: rs) ρ = frzAll rs (frzAt i ρ) := Eq.trans rfl rfl
@[simp] theorem after_ret {rs : List R} {d : D} : after rs (some (.ret d)) ρ = .ok (.val d) (if d.noF then ρ else frzAll rs ρ) := Eq.trans rfl rfl
@[simp] theorem after_exc {rs : List R} {c : Nat} {xs : List D} : after rs (some (.exc c xs)) ρ = .exc c xs (if D.noFL xs then ρ else frzAll rs ρ) := Eq.trans rfl rfl
@[simp] theorem callR_def {rs : List R} {o : List D → Option Out} : callR h rs o ρ = if liveAll rs ρ && (!h || D.noXL (argsOf rs)) then after rs (o (argsOf rs)) ρ else .bad := Eq.trans rfl rfl
@[simp] theorem argsOf_nil : argsOf [] = [] := by simp [argsOf]
@[simp] theorem argsOf_cons {r : R} {rs : List R} : argsOf (r :: rs) = r.d.frz :: argsOf rs := by simp [argsOf]
@[simp] theorem noXL_int {l : List Int} : D.noXL (l.map D.int) = true := by induction l <;> simp_all
@[simp] theorem noXL_str {l : List Str} : D.noXL (l.map D.str) = true := by induction l <;> simp_all
theorem le_slz' {k : Nat} (h : k ≤ 1000000) : k ≤ sizeLine := by rw [slz]; omega
/-! idx, slices -/
@[simp] theorem ix_nat {n k : Nat} (hk : k < n) : ixD n (k : Int) = some k := by
  unfold ixD; rw [if_pos (by omega), if_pos (by omega)]; simp
theorem ix_lit {n k : Nat} (hk : k < n) : ixD n (k : Int) = some k := ix_nat hk
@[simp] theorem ix_2 {n : Nat} (hk : 2 < n) : ixD n 2 = some 2 := ix_nat hk
@[simp] theorem ix_3 {n : Nat} (hk : 3 < n) : ixD n 3 = some 3 := ix_nat hk
@[simp] theorem ix_4 {n : Nat} (hk : 4 < n) : ixD n 4 = some 4 := ix_nat hk
@[simp] theorem ix_5 {n : Nat} (hk : 5 < n) : ixD n 5 = some 5 := ix_nat hk
@[simp] theorem ix_6 {n : Nat} (hk : 6 < n) : ixD n 6 = some 6 := ix_nat hk
@[simp] theorem ix_7 {n : Nat} (hk : 7 < n) : ixD n 7 = some 7 := ix_nat hk
@[simp] theorem ix_8 {n : Nat} (hk : 8 < n) : ixD n 8 = some 8 := ix_nat hk
@[simp] theorem ix_9 {n : Nat} (hk : 9 < n) : ixD n 9 = some 9 := ix_nat hk
@[simp] theorem ix_0 {n : Nat} (hk : 0 < n) : ixD n 0 = some 0 := ix_nat hk
@[simp] theorem ix_1 {n : Nat} (hk : 1 < n) : ixD n 1 = some 1 := ix_nat hk
@[simp] theorem ix_neg1 {n : Nat} (hk : 0 < n) : ixD n (-1) = some (n - 1) := by
  unfold ixD; rw [if_neg (by omega), if_pos (by omega)]; congr 1; omega
@[simp] theorem idx_vl {o : Bool} {xs : List D} {i : Int} : idxR (.val (.lst o xs)) (.val (.int i)) ρ = (Res.of ((ixD xs.length i).bind fun j => xs[j]?) ρ).bnd fun x ρ => .ok (.val x) ρ := Eq.trans rfl rfl
@[simp] theorem idx_vt {xs : List D} {i : Int} : idxR (.val (.tup xs)) (.val (.int i)) ρ = (Res.of ((ixD xs.length i).bind fun j => xs[j]?) ρ).bnd fun x ρ => .ok (.val x) ρ := Eq.trans rfl rfl
@[simp] theorem idx_bl {k : Nat} {o : Bool} {xs : List D} {i : Int} : idxR (.brw k (.lst o xs)) (.val (.int i)) ρ = (Res.of ((ixD xs.length i).bind fun j => xs[j]?) ρ).bnd fun x ρ => part (.brw k (.lst o xs)) x ρ := Eq.trans rfl rfl
@[simp] theorem idx_bt {k : Nat} {xs : List D} {i : Int} : idxR (.brw k (.tup xs)) (.val (.int i)) ρ = (Res.of ((ixD xs.length i).bind fun j => xs[j]?) ρ).bnd fun x ρ => part (.brw k (.tup xs)) x ρ := Eq.trans rfl rfl
@[simp] theorem idx_vs {ns : List Int} {i : Int} : idxR (.val (.scr ns)) (.val (.int i)) ρ = (Res.of ((ixD ns.length i).bind fun j => ns[j]?) ρ).bnd fun x ρ => .ok (.val (.int x)) ρ := Eq.trans rfl rfl
@[simp] theorem partR_nil : partR [] = some none := Eq.trans rfl rfl
@[simp] theorem partR_int {i : Int} : partR [.val (.int i)] = some (some i) := Eq.trans rfl rfl
@[simp] theorem slc_vl {o : Bool} {xs : List D} {lo hi : Option Int} : slcR (.val (.lst o xs)) lo hi ρ = .ok (.val (.lst true (cutD (if o then D.frzL xs else xs) lo hi))) ρ := Eq.trans rfl rfl
@[simp] theorem slc_vt {xs : List D} {lo hi : Option Int} : slcR (.val (.tup xs)) lo hi ρ = .ok (.val (.tup (cutD xs lo hi))) ρ := Eq.trans rfl rfl
@[simp] theorem slc_bl {k : Nat} {o : Bool} {xs : List D} {lo hi : Option Int} : slcR (.brw k (.lst o xs)) lo hi ρ = (elems (.brw k (.lst o xs)) ρ).bnd fun us ρ => .ok (.val (.lst true (cutD us lo hi))) ρ := Eq.trans rfl rfl
theorem cutD_take {α : Type} {xs : List α} {k : Nat} : cutD xs none (some (k : Int)) = xs.take k := by
  unfold cutD; rw [HT.sIx_none, HT.sIx_nat, List.drop_zero, Nat.sub_zero]
  rcases Nat.le_total k xs.length with h | h
  · rw [Nat.min_eq_left h]
  · rw [Nat.min_eq_right h, List.take_of_length_le h, List.take_length]
theorem cutD_drop {α : Type} {xs : List α} {k : Nat} : cutD xs (some (k : Int)) none = xs.drop k := by
  unfold cutD; rw [HT.sIx_none, HT.sIx_nat]
  rcases Nat.le_total k xs.length with h | h
  · rw [Nat.min_eq_left h, List.take_of_length_le (by rw [List.length_drop]; exact Nat.le_refl _)]
  · rw [Nat.min_eq_right h, List.drop_of_length_le h]; simp
theorem cutD_drop2 {α : Type} {x y : α} {xs : List α} : cutD (x :: y :: xs) (some 2) none = xs := cutD_drop (k := 2)
@[simp] theorem binR_mulv {o : Bool} {xs : List D} {k : Int} (hk : -9000000000000000000 ≤ k ∧ k ≤ 9000000000000000000) (hl : (if o then D.frzL xs else xs).length * k.toNat ≤ 1000000) : binR .mul (.val (.lst o xs)) (.val (.int k)) ρ = .ok (.val (.lst true (List.replicate k.toNat (if o then D.frzL xs else xs)).flatten)) ρ := by
  have e : binR .mul (.val (.lst o xs)) (.val (.int k)) ρ = if Bop.mul = .mul ∧ (-(2 ^ 63) ≤ k ∧ k < 2 ^ 63) ∧ (if o then D.frzL xs else xs).length * k.toNat ≤ sizeLine then .ok (.val (.lst true (List.replicate k.toNat (if o then D.frzL xs else xs)).flatten)) ρ else .bad := rfl
  rw [e, if_pos ⟨rfl, by omega, le_slz' hl⟩]
/-! numbers -/
@[simp] theorem binR_int {o : Bop} {i j : Int} : binR o (.val (.int i)) (.val (.int j)) ρ = (Res.of (binI o i j) ρ).bnd fun k ρ => .ok (.val (.int k)) ρ := Eq.trans rfl rfl
theorem if_and_l {α : Type} {p : Prop} [Decidable p] {a b : α} {q : Prop} [Decidable q] (hq : q) : (if q ∧ p then a else b) = if p then a else b := by
  by_cases h : p
  · rw [if_pos ⟨hq, h⟩, if_pos h]
  · rw [if_neg (fun z => h z.2), if_neg h]
@[simp] theorem binR_str {x y : Str} : binR .add (.val (.str x)) (.val (.str y)) ρ = if x.length + y.length ≤ sizeLine then .ok (.val (.str (x ++ y))) ρ else .bad :=
  if_and_l (a := Res.ok (R.val (.str (x ++ y))) ρ) (b := .bad) rfl
@[simp] theorem binI_add {i j : Int} : binI .add i j = some (i + j) := Eq.trans rfl rfl
@[simp] theorem binI_sub {i j : Int} : binI .sub i j = some (i - j) := Eq.trans rfl rfl
@[simp] theorem binI_mul {i j : Int} (hm : mulOk i j = true) : binI .mul i j = some (i * j) := by simp [binI, hm]
@[simp] theorem binI_fdiv {i j : Int} (hj : 0 < j) (hj2 : j < 1073741824) : binI .fdiv i j = some (i / j) := by simp [binI, hj, hj2]
@[simp] theorem binI_mod {i j : Int} (hj : 0 < j) : binI .mod i j = some (i % j) := by simp [binI, hj]
/-- lists added -/
theorem binR_lst {a b : R} {o p : Bool} {xs ys : List D} (ha : a.d = .lst o xs) (hb : b.d = .lst p ys) : binR .add a b ρ = (elems a ρ).bnd fun us ρ => (elems b ρ).bnd fun vs ρ => if us.length + vs.length ≤ sizeLine then .ok (.val (.lst true (us ++ vs))) ρ else .bad := by
  unfold binR
  simp only [ha, hb, bnd_eq, if_and_l]
@[simp] theorem binR_lvv {o p : Bool} {xs ys : List D} : binR .add (.val (.lst o xs)) (.val (.lst p ys)) ρ = (elems (.val (.lst o xs)) ρ).bnd fun us ρ => (elems (.val (.lst p ys)) ρ).bnd fun vs ρ => if us.length + vs.length ≤ sizeLine then .ok (.val (.lst true (us ++ vs))) ρ else .bad := binR_lst rfl rfl
@[simp] theorem binR_lvb {j : Nat} {o p : Bool} {xs ys : List D} : binR .add (.val (.lst o xs)) (.brw j (.lst p ys)) ρ = (elems (.val (.lst o xs)) ρ).bnd fun us ρ => (elems (.brw j (.lst p ys)) ρ).bnd fun vs ρ => if us.length + vs.length ≤ sizeLine then .ok (.val (.lst true (us ++ vs))) ρ else .bad := binR_lst rfl rfl
@[simp] theorem binR_lbv {i : Nat} {o p : Bool} {xs ys : List D} : binR .add (.brw i (.lst o xs)) (.val (.lst p ys)) ρ = (elems (.brw i (.lst o xs)) ρ).bnd fun us ρ => (elems (.val (.lst p ys)) ρ).bnd fun vs ρ => if us.length + vs.length ≤ sizeLine then .ok (.val (.lst true (us ++ vs))) ρ else .bad := binR_lst rfl rfl
@[simp] theorem binR_lbb {i j : Nat} {o p : Bool} {xs ys : List D} : binR .add (.brw i (.lst o xs)) (.brw j (.lst p ys)) ρ = (elems (.brw i (.lst o xs)) ρ).bnd fun us ρ => (elems (.brw j (.lst p ys)) ρ).bnd fun vs ρ => if us.length + vs.length ≤ sizeLine then .ok (.val (.lst true (us ++ vs))) ρ else .bad := binR_lst rfl rfl
/-! comparisons -/
@[simp] theorem cmp_lt {i j : Int} : cmpD .lt (.int i) (.int j) = some (decide (i < j)) := Eq.trans rfl rfl
@[simp] theorem cmp_le {i j : Int} : cmpD .le (.int i) (.int j) = some (decide (i ≤ j)) := Eq.trans rfl rfl
@[simp] theorem cmp_gt {i j : Int} : cmpD .gt (.int i) (.int j) = some (decide (j < i)) := Eq.trans rfl rfl
@[simp] theorem cmp_ge {i j : Int} : cmpD .ge (.int i) (.int j) = some (decide (j ≤ i)) := Eq.trans rfl rfl
@[simp] theorem cmp_eqi {i j : Int} : cmpD .eq (.int i) (.int j) = some (decide (i = j)) := by unfold cmpD; simp only []; rw [if_pos (by simp [isData])]; simp [bne]; try exact Bool.eq_iff_iff.mpr (by simp)
@[simp] theorem cmp_nei {i j : Int} : cmpD .ne (.int i) (.int j) = some (decide (i ≠ j)) := by unfold cmpD; simp only []; rw [if_pos (by simp [isData])]; simp [bne]; try exact Bool.eq_iff_iff.mpr (by simp)
@[simp] theorem cmp_eqs {x y : Str} : cmpD .eq (.str x) (.str y) = some (decide (x = y)) := by unfold cmpD; simp only []; rw [if_pos (by simp [isData])]; simp [bne]; try exact Bool.eq_iff_iff.mpr (by simp)
@[simp] theorem cmp_nes {x y : Str} : cmpD .ne (.str x) (.str y) = some (decide (x ≠ y)) := by unfold cmpD; simp only []; rw [if_pos (by simp [isData])]; simp [bne]; try exact Bool.eq_iff_iff.mpr (by simp)
@[simp] theorem cmp_isn {d : D} : cmpD .isn d .non = match d with | .non => some true | _ => some false := Eq.trans rfl rfl
@[simp] theorem cmp_notn {d : D} : cmpD .notn d .non = match d with | .non => some false | _ => some true := Eq.trans rfl rfl
theorem cmp_inl {a : D} {o : Bool} {xs : List D} : cmpD .in_ a (.lst o xs) = if isData a && isData (.lst o xs) && decide (a.dep ≤ 64) then some (xs.any fun x => x.eqv a) else none := Eq.trans rfl rfl
theorem cmp_int_ {a : D} {xs : List D} : cmpD .in_ a (.tup xs) = if isData a && isData (.tup xs) && decide (a.dep ≤ 64) then some (xs.any fun x => x.eqv a) else none := Eq.trans rfl rfl
theorem cmp_ninl {a : D} {o : Bool} {xs : List D} : cmpD .nin a (.lst o xs) = if isData a && isData (.lst o xs) && decide (a.dep ≤ 64) then some (!xs.any fun x => x.eqv a) else none := Eq.trans rfl rfl
theorem cmp_nint {a : D} {xs : List D} : cmpD .nin a (.tup xs) = if isData a && isData (.tup xs) && decide (a.dep ≤ 64) then some (!xs.any fun x => x.eqv a) else none := Eq.trans rfl rfl
@[simp] theorem isData_def {d : D} : isData d = d.py.isSome := Eq.trans rfl rfl
/-! built-ins -/
@[simp] theorem bi_len {r : R} : biR h .len [r] ρ = (Res.of (lenD r.d) ρ).bnd fun n ρ => .ok (.val (.int (n : Int))) ρ := by
  unfold biR
  simp only [bne_self_eq_false, Bool.false_and, Bool.and_false, Bool.false_eq_true, if_false, List.map, biD, bnd_eq]
  cases lenD r.d <;> rfl
@[simp] theorem len_l {o : Bool} {xs : List D} : lenD (.lst o xs) = some xs.length := Eq.trans rfl rfl
@[simp] theorem len_t {xs : List D} : lenD (.tup xs) = some xs.length := Eq.trans rfl rfl
@[simp] theorem len_scr {ns : List Int} : lenD (.scr ns) = some ns.length := Eq.trans rfl rfl
@[simp] theorem len_s {x : Str} (hx : x.length ≤ sizeLine) : lenD (.str x) = some x.length := by simp [lenD, hx]
@[simp] theorem bi_int {i : Int} : biR h .int [.val (.int i)] ρ = .ok (.val (.int i)) ρ := by simp [biR, biD]
@[simp] theorem bi_intb {b : Bool} : biR h .int [.val (.bl b)] ρ = .ok (.val (.int (if b then 1 else 0))) ρ := by simp [biR, biD]
@[simp] theorem bi_list {r : R} : biR false .list [r] ρ = (elems r ρ).bnd fun xs ρ => .ok (.val (.lst true xs)) ρ := Eq.trans rfl rfl
@[simp] theorem bi_tupl {o : Bool} {xs : List D} : biR false .tuple [.val (.lst o xs)] ρ = .ok (.val (.tup (if o then D.frzL xs else xs))) ρ := Eq.trans rfl rfl
@[simp] theorem bi_tupt {xs : List D} : biR false .tuple [.val (.tup xs)] ρ = .ok (.val (.tup xs)) ρ := Eq.trans rfl rfl
@[simp] theorem bi_tupb {k : Nat} {o : Bool} {xs : List D} : biR false .tuple [.brw k (.lst o xs)] ρ = (elems (.brw k (.lst o xs)) ρ).bnd fun us ρ => .ok (.val (.tup us)) ρ := Eq.trans rfl rfl
/-! isinstance -/
@[simp] theorem isi_int {t : Tab} {i : Int} {c : Ic} : isInst t (.int i) c = match c with | .cls _ => none | c => some (c == .int) := Eq.trans rfl rfl
@[simp] theorem isi_bl {t : Tab} {i : Bool} {c : Ic} : isInst t (.bl i) c = match c with | .cls _ => none | c => some (c == .int || c == .bool) := Eq.trans rfl rfl
@[simp] theorem isi_str {t : Tab} {i : Str} {c : Ic} : isInst t (.str i) c = match c with | .cls _ => none | c => some (c == .str) := Eq.trans rfl rfl
@[simp] theorem isi_tup {t : Tab} {i : List D} {c : Ic} : isInst t (.tup i) c = match c with | .cls _ => none | c => some (c == .tuple) := Eq.trans rfl rfl
@[simp] theorem isi_lst {t : Tab} {o : Bool} {i : List D} {c : Ic} : isInst t (.lst o i) c = match c with | .cls _ => none | c => some (c == .list) := Eq.trans rfl rfl
@[simp] theorem isi_non {t : Tab} {c : Ic} : isInst t .non c = match c with | .cls _ => none | _ => some false := Eq.trans rfl rfl
@[simp] theorem isi_ins {t : Tab} {o : Bool} {k : Nat} {xs : List D} {c : Ic} : isInst t (.ins o k xs) c = t.kit k c := Eq.trans rfl rfl
@[simp] theorem isi_exn {t : Tab} {k : Nat} {xs : List D} {c : Ic} : isInst t (.exn k xs) c = t.xkit k c := Eq.trans rfl rfl
/-! what is walked -/
@[simp] theorem iter_brw {i : Nat} {o : Bool} {xs : List D} {keep : Nat → Bool} : iterR .plain [.brw i (.lst o xs)] keep ρ = if keep i then elems (.brw i (.lst o xs)) ρ else if live i ρ then .ok xs (frzAt i ρ) else .bad := Eq.trans rfl rfl
@[simp] theorem iter_enumv {o : Bool} {xs : List D} {keep : Nat → Bool} : iterR .enum [.val (.lst o xs)] keep ρ = .ok ((if o then D.frzL xs else xs).zipIdx.map fun (p : D × Nat) => D.tup [.int p.2, p.1]) ρ := Eq.trans rfl rfl
@[simp] theorem iter_enumb {i : Nat} {o : Bool} {xs : List D} {keep : Nat → Bool} : iterR .enum [.brw i (.lst o xs)] keep ρ = (seqR (.brw i (.lst o xs)) keep ρ).bnd fun xs ρ => .ok (xs.zipIdx.map fun (p : D × Nat) => D.tup [.int p.2, p.1]) ρ := Eq.trans rfl rfl
@[simp] theorem seq_brw {i : Nat} {o : Bool} {xs : List D} {keep : Nat → Bool} : seqR (.brw i (.lst o xs)) keep ρ = if keep i then elems (.brw i (.lst o xs)) ρ else if live i ρ then .ok xs (frzAt i ρ) else .bad := Eq.trans rfl rfl
@[simp] theorem bind_tp {is : List Nat} {xs : List D} : bindT (.tp is) (.tup xs) ρ = if is.length = xs.length then some ((is.zip xs).foldl (fun ρ p => ρ.set p.1 (some p.2)) ρ) else none := Eq.trans rfl rfl
@[simp] theorem gdR_brw {i : Nat} {d : D} : gdR [.brw i d] = live i := Eq.trans rfl rfl
@[simp] theorem wipe_nil : wipeE ρ [] = ρ := Eq.trans rfl rfl
@[simp] theorem wipe_cons {i : Nat} {is : List Nat} : wipeE ρ (i :: is) = wipeE (ρ.set i none) is := Eq.trans rfl rfl
end
@[simp] theorem le_slz {k : Nat} (h : k ≤ 1000000) : k ≤ sizeLine := by rw [slz]; omega
@[simp] theorem lt_slz {k : Nat} (h : k ≤ 1000000) : k < sizeLine := by rw [slz]; omega
/-! texts -/
@[simp] theorem bmT_str {m : Bm} {x : Str} : bmT m (.str x) = match m with | .index => false | _ => true := by cases m <;> rfl
@[simp] theorem bmT_lst {m : Bm} {o : Bool} {xs : List D} : bmT m (.lst o xs) = match m with | .index => true | _ => false := by cases m <;> rfl
@[simp] theorem bm_split {x s : Str} (hs : s.length ≠ 0) (hx : x.length ≤ 1000000) : bmD .split (.str x) [.str s] = some (.lst true ((Txt.split x s).map D.str)) := by
  have : x.length + 2 ≤ sizeLine := by rw [slz]; omega
  simp [bmD, hs, this]
theorem strs_map (ys : List Str) : D.strs (ys.map D.str) = some ys := by induction ys <;> simp_all [D.strs]
theorem ints_map (ys : List Int) : D.ints (ys.map D.int) = some ys := by induction ys <;> simp_all [D.ints]
@[simp] theorem bm_join {s : Str} {o : Bool} {ys : List Str} (h : (ys.map Str.length).sum + ys.length * s.length ≤ 16777216) : bmD .join (.str s) [.lst o (ys.map D.str)] = some (.str (Txt.join s ys)) := by simp [bmD, seqStrs, strs_map, h]
@[simp] theorem bm_joint {s : Str} {ys : List Str} (h : (ys.map Str.length).sum + ys.length * s.length ≤ 16777216) : bmD .join (.str s) [.tup (ys.map D.str)] = some (.str (Txt.join s ys)) := by simp [bmD, seqStrs, strs_map, h]
/-! defs -/
def outOf (r : SRes) : Option Out := match r with
    | some (.nx, _) => some (.ret .non)
    | some (.rt d, _) => some (.ret d)
    | some (.ex c xs, _) => some (.exc c xs)
    | _ => none
@[simp] theorem out_nx {ρ : Env} : outOf (some (.nx, ρ)) = some (.ret .non) := Eq.trans rfl rfl
@[simp] theorem out_rt {ρ : Env} {d : D} : outOf (some (.rt d, ρ)) = some (.ret d) := Eq.trans rfl rfl
@[simp] theorem out_ex {ρ : Env} {c : Nat} {xs : List D} : outOf (some (.ex c xs, ρ)) = some (.exc c xs) := Eq.trans rfl rfl
def initOf (c : Nat) (r : SRes) : Option Out := match r with
    | some (.nx, some (.ins true c' xs) :: _) => if c' = c then some (.ret (.ins true c xs)) else none
    | some (.ex c xs, _) => some (.exc c xs)
    | _ => none
@[simp] theorem init_nx {c c' : Nat} {ρ : Env} {xs : List D} : initOf c (some (.nx, some (.ins true c' xs) :: ρ)) = if c' = c then some (.ret (.ins true c xs)) else none := Eq.trans rfl rfl
@[simp] theorem init_ex {ρ : Env} {c c' : Nat} {xs : List D} : initOf c' (some (.ex c xs, ρ)) = some (.exc c xs) := Eq.trans rfl rfl
theorem run_eq {S : Sem} {h : Bool} {fd : FnD} {ds : List D} (e : ds.length = fd.ps) : runBody S h fd ds = outOf (evalSs S h fd.body (ds.map some ++ List.replicate (fd.n - fd.ps) none)) := by
  unfold runBody outOf; rw [if_pos e, e] <;> rfl
theorem init_eq {S : Sem} {h : Bool} {fd : FnD} {c : Nat} {ds : List D} (e : ds.length + 1 = fd.ps) : runInit S h fd c ds = initOf c (evalSs S h fd.body (some (.ins true c []) :: (ds.map some ++ List.replicate (fd.n - fd.ps) none))) := by
  unfold runInit initOf; rw [if_pos e, e] <;> rfl
theorem fn_at {P : Prog} {n f : Nat} {fd : FnD} {ds : List D} (hf : P.fns f = some fd) (e : ds.length = fd.ps) : (semN P (n + 1)).fn false f ds = outOf (evalSs (semN P n) false fd.body (ds.map some ++ List.replicate (fd.n - fd.ps) none)) := by
  rw [← run_eq e]; simp [semN, hf]
theorem fn_run {P : Prog} {n f : Nat} {fd : FnD} {ds : List D} (hf : P.fns f = some fd) : (semN P (n + 1)).fn false f ds = runBody (semN P n) false fd ds := by
  simp [semN, hf]
theorem fn_hot {P : Prog} {n f : Nat} {fd : FnD} {ds : List D} (hf : P.fns f = some fd) (hh : P.hot f = true) (e : ds.length = fd.ps) : (semN P (n + 1)).fn true f ds = outOf (evalSs (semN P n) true fd.body (ds.map some ++ List.replicate (fd.n - fd.ps) none)) := by
  rw [← run_eq e]; simp [semN, hf, hh]
theorem new_at {P : Prog} {n c f : Nat} {fd : FnD} {ds : List D} (hc : P.init c = some f) (hf : P.fns f = some fd) (e : ds.length + 1 = fd.ps) : (semN P (n + 1)).new false c ds = initOf c (evalSs (semN P n) false fd.body (some (.ins true c []) :: (ds.map some ++ List.replicate (fd.n - fd.ps) none))) := by
  rw [← init_eq e]; simp [semN, hf, hc]
@[simp] theorem semN_tab' {P : Prog} {n : Nat} : (semN P n).tab = P.tab := semN_tab n
theorem Str.lenMk (s : String) : (Str.ofString s).length = s.length := by
  rw [Str.ofString_eq_toList]; simp [Str.length, String.length_toList]
end SL
set_option Elab.async false
set_option linter.all false
set_option maxRecDepth 100000
set_option maxHeartbeats 1000000
/-! SLTxt: plain facts of texts. -/
namespace SL
open PySem L2
theorem sum_len {B : Nat} : ∀ {ys : List Str}, (∀ y ∈ ys, y.length ≤ B) → (ys.map Str.length).sum ≤ ys.length * B
  | [], _ => by simp
  | y :: ys, h => by
    have h1 := h y List.mem_cons_self
    have h2 := sum_len fun z hz => h z (List.mem_cons_of_mem _ hz)
    simp only [List.map_cons, List.sum_cons, List.length_cons, Nat.add_mul, Nat.one_mul]
    omega
theorem sjoin_len {s : Str} {B : Nat} : ∀ {ys : List Str}, (∀ y ∈ ys, y.length ≤ B) → (Str.join s ys).length ≤ ys.length * (B + s.length)
  | [], _ => by simp [Str.join, Str.empty, Str.length]
  | [y], h => by
    have h1 := h y List.mem_cons_self
    simp only [Str.join, List.length_cons, List.length_nil]
    omega
  | y :: z :: r, h => by
    have h1 := h y List.mem_cons_self
    have h2 := sjoin_len (s := s) fun z hz => h z (List.mem_cons_of_mem _ hz)
    show (y ++ s ++ Str.join s (z :: r)).length ≤ _
    rw [Str.length_append, Str.length_append]
    simp only [List.length_cons, Nat.add_mul, Nat.one_mul] at h2 ⊢
    omega
theorem join_len {s : Str} {B : Nat} {ys : List Str} (h : ∀ y ∈ ys, y.length ≤ B) : (Txt.join s ys).length ≤ ys.length * (B + s.length) := by
  rw [TL.join_eq]; exact sjoin_len h
theorem mem_sjoin {s : Str} {c : Nat} : ∀ {ys : List Str}, c ∈ TL.tl (Str.join s ys) → c ∈ TL.tl s ∨ ∃ y ∈ ys, c ∈ TL.tl y
  | [], h => by simp [Str.join, Str.empty, TL.tl] at h
  | [y], h => .inr ⟨y, List.mem_cons_self, h⟩
  | y :: z :: r, h => by
    have h : c ∈ TL.tl (y ++ s ++ Str.join s (z :: r)) := h
    rw [TL.tl_append, TL.tl_append] at h
    simp only [List.mem_append] at h
    rcases h with (h | h) | h
    · exact .inr ⟨y, List.mem_cons_self, h⟩
    · exact .inl h
    · rcases mem_sjoin h with q | ⟨x, hx, q⟩
      · exact .inl q
      · exact .inr ⟨x, List.mem_cons_of_mem _ hx, q⟩
theorem mem_join {s : Str} {c : Nat} {ys : List Str} (h : c ∈ TL.tl (Txt.join s ys)) : c ∈ TL.tl s ∨ ∃ y ∈ ys, c ∈ TL.tl y := by
  rw [TL.join_eq] at h; exact mem_sjoin h
theorem sjoin_mem {s : Str} {c : Nat} : ∀ {ys : List Str} {y : Str}, y ∈ ys → c ∈ TL.tl y → c ∈ TL.tl (Str.join s ys)
  | [], _, h, _ => by cases h
  | [y], _, h, q => by rcases List.mem_singleton.mp h with rfl; exact q
  | y :: z :: r, x, h, q => by
    show c ∈ TL.tl (y ++ s ++ Str.join s (z :: r))
    rw [TL.tl_append, TL.tl_append]
    simp only [List.mem_append]
    rcases List.mem_cons.mp h with rfl | h
    · exact .inl (.inl q)
    · exact .inr (sjoin_mem h q)
theorem split_mem {x s p : Str} {c : Nat} (hp : p ∈ Txt.split x s) (hc : c ∈ TL.tl p) : c ∈ TL.tl x := by
  have := sjoin_mem (s := s) hp hc
  rwa [PySem.StrLaws.join_split] at this
theorem split_len_le {x s p : Str} (hp : p ∈ Txt.split x s) : p.length ≤ x.length := PyProof.Rows.part_short hp
theorem split_ne {x s : Str} : Txt.split x s ≠ [] := fun e => by
  have := PyProof.Rows.split_pos x s
  rw [e] at this; simp at this
theorem split_cnt {x s : Str} : (Txt.split x s).length ≤ x.length + 2 := PyProof.Rows.split_le x s
theorem join_split {x s : Str} : Txt.join s (Txt.split x s) = x := by rw [TL.join_eq]; exact PySem.StrLaws.join_split x s
theorem tl_lit (s : String) : TL.tl (Str.ofString s) = s.toList.map Char.toNat := by rw [Str.ofString_eq_toList]
theorem len_lit (s : String) : (Str.ofString s).length = s.toList.length := by rw [Str.ofString_eq_toList]; simp [Str.length]
theorem sp_len : (Str.ofString " ").length = 1 := by decide +kernel
theorem nl_len : (Str.ofString "\n").length = 1 := by decide +kernel
theorem sp_tl : TL.tl (Str.ofString " ") = [32] := by decide +kernel
theorem nl_tl : TL.tl (Str.ofString "\n") = [10] := by decide +kernel
/-- lines without a line feed, read back -/
theorem split_join_nl {ys : List Str} (hne : ys ≠ []) (h : ∀ y ∈ ys, 10 ∉ TL.tl y) : Txt.split (Txt.join (Str.ofString "\n") ys) (Str.ofString "\n") = ys :=
  TL.split_join nl_tl (by decide +kernel) hne h
theorem split_join_sp {ys : List Str} (hne : ys ≠ []) (h : ∀ y ∈ ys, 32 ∉ TL.tl y) : Txt.split (Txt.join (Str.ofString " ") ys) (Str.ofString " ") = ys :=
  TL.split_join sp_tl (by decide +kernel) hne h
/-- a short text without a line feed -/
def Ln (B : Nat) (x : Str) : Prop := x.length ≤ B ∧ 10 ∉ TL.tl x
theorem Ln.mono {B C : Nat} {x : Str} (h : Ln B x) (hb : B ≤ C) : Ln C x := ⟨Nat.le_trans h.1 hb, h.2⟩
theorem Ln.app {B C : Nat} {x y : Str} (h : Ln B x) (g : Ln C y) : Ln (B + C) (x ++ y) := ⟨by rw [Str.length_append]; have := h.1; have := g.1; omega, by rw [TL.tl_append, List.mem_append]; exact fun z => z.elim h.2 g.2⟩
theorem Ln.split {B : Nat} {x s p : Str} (h : Ln B x) (hp : p ∈ Txt.split x s) : Ln B p := ⟨Nat.le_trans (split_len_le hp) h.1, fun z => h.2 (split_mem hp z)⟩
theorem Ln.join {B N : Nat} {s : Str} {ys : List Str} (hs : Ln 1 s) (h : ∀ y ∈ ys, Ln B y) (hn : ys.length ≤ N) : Ln (N * (B + 1)) (Txt.join s ys) := by
  refine ⟨Nat.le_trans (join_len fun y hy => (h y hy).1) (Nat.le_trans (Nat.mul_le_mul_left _ (Nat.add_le_add_left hs.1 B)) (Nat.mul_le_mul_right _ hn)), fun z => ?_⟩
  rcases mem_join z with q | ⟨y, hy, q⟩
  · exact hs.2 q
  · exact (h y hy).2 q
theorem Ln.sp : Ln 1 (Str.ofString " ") := ⟨by decide +kernel, by decide +kernel⟩
end SL
set_option Elab.async false
set_option linter.all false
set_option maxRecDepth 100000
set_option maxHeartbeats 4000000
/-! K80P: the slim program of law_k80_rule_texts, printed by gen.py. -/
namespace K80
open PySem L2 SL
def top (i : Nat) : Stmt := PySem.Challenge.pw_anymap_k80_rule_texts.main.body.getD i (.Pass ⟨0, 0, 0, 0⟩)
def fnN : List Str := ["__init__", "good_step", "read_rule", "write_rule", "_law_whole", "_law_cell", "_law_digits", "_law_same", "_law_numbers", "_law_names", "_law_words", "_law_line_is_good", "_law_fault", "_law_near", "_law_spoilt_line", "_law_spoilt", "_law_told_fault", "_law_is_read", "law"]
def clN : List Str := ["AnymapError", "BadBook", "NoSuch", "BadSize", "BadRule", "BadMeasure", "BadText", "Rule"]
def atN : List Str := ["line", "name", "steps"]
def glN : List Str := ["MOST_LINES", "ACTIONS", "SIDES", "MEASURES", "NUMBERS"]
def T : NT := ⟨fun i => fnN.getD i "", fun i => clN.getD i "", fun i => atN.getD i "", fun i => glN.getD i "", fun i => ([1, 2, 3, 4, 5, 6, 7, 8, 9, 10, 11, 12, 13, 14, 15, 16, 17, 18] : List Nat).contains i, fun i => ([7] : List Nat).contains i, fun i => ([0, 1, 2, 3, 4, 5, 6, 7] : List Nat).contains i, fun i => ([4] : List Nat).contains i, fun _ => ""⟩
def fieldsL : List (List Nat) := [[], [], [], [], [], [], [], [2]]
def xfL : List (List Nat) := [[], [], [], [], [0], [], [], []]
def methL : List ((Nat × Nat) × Nat) := []
def propL : List ((Nat × Nat) × Nat) := []
def kitL : List ((Nat × Ic) × Bool) := [((7, .cls 1), false), ((7, .cls 2), false), ((7, .cls 3), false), ((7, .cls 4), false), ((7, .cls 5), false), ((7, .cls 6), false), ((7, .cls 7), true)]
def xkitL : List ((Nat × Ic) × Bool) := [((4, (.cls 1)), false), ((4, (.cls 2)), false), ((4, (.cls 3)), false), ((4, (.cls 4)), true), ((4, (.cls 5)), false), ((4, (.cls 6)), false), ((4, (.cls 7)), false), ((4, .ve), true)]
def exmL : List ((Nat × Nat) × Bool) := [((4, 0), true)]
def globL : List (Nat × D) := [(0, .int (12)), (1, .tup [.str "keep", .str "drop"]), (2, .tup [.str "most", .str "least"]), (3, .tup [.str "firsts", .str "lasts", .str "points", .str "wins", .str "margin"]), (4, .tup [.str "1", .str "2", .str "3", .str "4", .str "5", .str "6", .str "7", .str "8", .str "all"])]
def tab : Tab := ⟨fun c => fieldsL.getD c [], fun c => xfL.getD c [], fun c m => methL.lookup (c, m), fun c p => propL.lookup (c, p), fun c i => kitL.lookup (c, i), fun c i => xkitL.lookup (c, i), fun c d => exmL.lookup (c, d), fun g => globL.lookup g⟩
abbrev glob : Nat → Bool := fun g => (tab.glob g).isSome
/-- Rule.__init__: self steps step -/
def b0 : FnD := ⟨2, 3,
   [.sfld 2 (.bi .tuple [.comp [2] (.bi .tuple [.var 2]) (.nm 2) .plain [.var 1] []])]⟩
/-- good_step: words -/
def b1 : FnD := ⟨1, 1,
   [.ite (.bop false [.e (.cmp .ne (.bi .len [.var 0]) (.int 4)), .e (.cmp .nin (.idx (.var 0) (.int 0)) (.glob 1)), .e (.cmp .nin (.idx (.var 0) (.int 1)) (.glob 4))]) [.ret (.bl false)] [],
    .ret (.bop true [.cmp .in_ (.idx (.var 0) (.int 2)) (.glob 2), .cmp .in_ (.idx (.var 0) (.int 3)) (.glob 3)])]⟩
/-- read_rule: text lines steps at line words is_end -/
def b2_1 : List Sx := [.set 5 (.bm .split (.var 4) [.str " "]),
    .set 6 (.bop true [.cmp .eq (.var 4) (.str "again"), .cmp .gt (.var 3) (.int 0), .cmp .eq (.var 3) (.bin .sub (.bi .len [.var 1]) (.int 1))]),
    .ite (.bop false [.e (.cmp .eq (.var 3) (.glob 0)), .bop true [.not_ (.e (.var 6)), .not_ (.e (.call 1 [.var 5]))]]) [.raise_ 4 [.bin .add (.var 3) (.int 1)]] [],
    .app 2 [] (.var 5)]
def b2 : FnD := ⟨1, 7,
   [.set 1 (.bm .split (.var 0) [.str "\n"]),
    .set 2 (.lst []),
    .for_ (.tp [3, 4]) .enum [.var 1] b2_1,
    .ret (.new 7 [.var 2])]⟩
/-- write_rule: rule step -/
def b3 : FnD := ⟨1, 2,
   [.ret (.bm .join (.str "\n") [.comp [1] (.bm .join (.str " ") [.var 1]) (.nm 1) .plain [.fld (.var 0) 2] []])]⟩
/-- _law_whole: value -/
def b4 : FnD := ⟨1, 1,
   [.ret (.bop true [.isin (.var 0) .int, .not_ (.e (.isin (.var 0) .bool))])]⟩
/-- _law_cell: script k seed cell -/
def b5_1 : List Sx := [.set 2 (.bin .mod (.bi .int [.bin .add (.bin .mul (.var 2) (.int 31)) (.bin .mod (.bi .int [.var 3]) (.int 1000003))]) (.int 1000003))]
def b5 : FnD := ⟨2, 4,
   [.ite (.e (.cmp .lt (.var 1) (.bi .len [.var 0]))) [.ret (.idx (.var 0) (.var 1))] [],
    .set 2 (.int 17),
    .for_ (.nm 3) .plain [.var 0] b5_1,
    .ret (.bin .mod (.bi .int [.bin .mul (.bin .mul (.bin .add (.var 2) (.int 7)) (.bin .add (.var 1) (.int 3))) (.int 69621)]) (.int 2147483647))]⟩
/-- _law_digits: cell sizes row rest size seed k twice -/
def b6_1 : List Sx := [.app 2 [] (.bin .mod (.bi .int [.var 3]) (.var 4)),
    .set 3 (.bin .fdiv (.bi .int [.var 3]) (.var 4))]
def b6_2 : List Sx := [.set 5 (.bin .mod (.bi .int [.bin .add (.bin .add (.bin .mul (.var 5) (.int 48271)) (.bin .mul (.int 974711) (.var 6))) (.int 12345)]) (.int 2147483647)),
    .set 7 (.bin .mod (.bi .int [.bin .mul (.var 5) (.bin .add (.bin .fdiv (.var 5) (.int 65537)) (.int 3))]) (.int 2147483629)),
    .app 2 [] (.bin .mod (.bin .fdiv (.var 7) (.int 19)) (.idx (.var 1) (.var 6)))]
def b6 : FnD := ⟨2, 8,
   [.set 2 (.lst []),
    .set 3 (.bi .int [.var 0]),
    .ite (.e (.cmp .ge (.var 3) (.bin .pow (.int 10) (.int 18)))) [.set 3 (.bin .sub (.var 3) (.bin .pow (.int 10) (.int 18))),
    .for_ (.nm 4) .plain [.var 1] b6_1,
    .ret (.take 2)] [],
    .set 5 (.bin .mod (.bi .int [.var 3]) (.int 2147483629)),
    .for_ (.nm 6) .range1 [.bi .len [.var 1]] b6_2,
    .ret (.take 2)]⟩
/-- _law_same: told due k -/
def b7_1 : List Sx := [.ite (.not_ (.e (.call 7 [.idx (.var 0) (.var 2), .idx (.var 1) (.var 2)]))) [.ret (.bl false)] []]
def b7 : FnD := ⟨2, 3,
   [.ite (.e (.isin (.var 1) .tuple)) [.ite (.bop false [.not_ (.e (.isin (.var 0) .tuple)), .e (.cmp .ne (.bi .len [.var 0]) (.bi .len [.var 1]))]) [.ret (.bl false)] [],
    .for_ (.nm 2) .range1 [.bi .len [.var 1]] b7_1,
    .ret (.bl true)] [],
    .ite (.e (.cmp .isn (.var 1) (.non))) [.ret (.cmp .isn (.var 0) (.non))] [],
    .ite (.e (.isin (.var 1) .str)) [.ret (.bop true [.isin (.var 0) .str, .cmp .eq (.var 0) (.var 1)])] [],
    .ret (.bop true [.call 4 [.var 0], .cmp .eq (.var 0) (.var 1)])]⟩
/-- _law_numbers:  -/
def b8 : FnD := ⟨0, 0,
   [.ret (.lst [.str "1", .str "2", .str "3", .str "4", .str "5", .str "6", .str "7", .str "8", .str "all"])]⟩
/-- _law_names:  -/
def b9 : FnD := ⟨0, 0,
   [.ret (.lst [.str "firsts", .str "lasts", .str "points", .str "wins", .str "margin"])]⟩
/-- _law_words: row -/
def b10 : FnD := ⟨1, 1,
   [.ret (.lst [.idx (.lst [.str "keep", .str "drop"]) (.idx (.var 0) (.int 0)), .idx (.call 8 []) (.idx (.var 0) (.int 1)), .idx (.lst [.str "most", .str "least"]) (.idx (.var 0) (.int 2)), .idx (.call 9 []) (.idx (.var 0) (.int 3))])]⟩
/-- _law_line_is_good: line words -/
def b11 : FnD := ⟨1, 2,
   [.set 1 (.bm .split (.var 0) [.str " "]),
    .ite (.bop false [.e (.cmp .ne (.bi .len [.var 1]) (.int 4)), .e (.cmp .nin (.idx (.var 1) (.int 0)) (.lst [.str "keep", .str "drop"])), .e (.cmp .nin (.idx (.var 1) (.int 1)) (.call 8 []))]) [.ret (.bl false)] [],
    .ret (.bop true [.cmp .in_ (.idx (.var 1) (.int 2)) (.lst [.str "most", .str "least"]), .cmp .in_ (.idx (.var 1) (.int 3)) (.call 9 [])])]⟩
/-- _law_fault: text lines k -/
def b12_1 : List Sx := [.ite (.e (.cmp .eq (.var 2) (.int 12))) [.ret (.int 13)] [],
    .ite (.not_ (.e (.call 11 [.idx (.var 1) (.var 2)]))) [.ite (.bop false [.e (.cmp .ne (.idx (.var 1) (.var 2)) (.str "again")), .e (.cmp .eq (.var 2) (.int 0)), .e (.cmp .lt (.var 2) (.bin .sub (.bi .len [.var 1]) (.int 1)))]) [.ret (.bin .add (.var 2) (.int 1))] []] []]
def b12 : FnD := ⟨1, 3,
   [.set 1 (.bm .split (.var 0) [.str "\n"]),
    .for_ (.nm 2) .range1 [.bi .len [.var 1]] b12_1,
    .ret (.int 0)]⟩
/-- _law_near: place digit near -/
def b13 : FnD := ⟨2, 3,
   [.ite (.e (.cmp .eq (.var 0) (.int 0))) [.set 2 (.lst [.str "Keep", .str "keeps", .str "kee", .str "hold", .str "DROP", .str "drops", .str "again", .str "", .str "most", .str "1", .str "keep.", .str "drop\t"])] [.ite (.e (.cmp .eq (.var 0) (.int 1))) [.set 2 (.lst [.str "0", .str "9", .str "01", .str "10", .str "-1", .str "+1", .str "1.", .str "", .str "All", .str "alls", .str "al", .str "one"])] [.ite (.e (.cmp .eq (.var 0) (.int 2))) [.set 2 (.lst [.str "Most", .str "mosts", .str "more", .str "leas", .str "LEAST", .str "", .str "lest", .str "firsts", .str "all", .str "fewest", .str "most,", .str "leasts"])] [.set 2 (.lst [.str "first", .str "firstss", .str "Lasts", .str "last", .str "point", .str "Points", .str "win", .str "winss", .str "margins", .str "", .str "MARGIN", .str "most"])]]],
    .ret (.idx (.var 2) (.var 1))]⟩
/-- _law_spoilt_line: words row kind place -/
def b14 : FnD := ⟨2, 4,
   [.set 2 (.idx (.var 1) (.int 0)),
    .set 3 (.idx (.var 1) (.int 1)),
    .ite (.e (.cmp .lt (.var 2) (.int 4))) [.ret (.bm .join (.str " ") [.bin .add (.bin .add (.slc (.var 0) [] [.var 3]) (.lst [.call 13 [.var 3, .idx (.var 1) (.int 2)]])) (.slc (.var 0) [.bin .add (.var 3) (.int 1)] [])])] [],
    .ite (.e (.cmp .eq (.var 2) (.int 4))) [.ret (.bm .join (.str " ") [.bin .add (.slc (.var 0) [] [.var 3]) (.slc (.var 0) [.bin .add (.var 3) (.int 1)] [])])] [],
    .ite (.e (.cmp .eq (.var 2) (.int 5))) [.ret (.bm .join (.str " ") [.bin .add (.bin .add (.slc (.var 0) [] [.var 3]) (.lst [.idx (.var 0) (.var 3)])) (.slc (.var 0) [.var 3] [])])] [],
    .ite (.e (.cmp .eq (.var 2) (.int 6))) [.ret (.bin .add (.bm .join (.str " ") [.var 0]) (.str " "))] [],
    .ite (.e (.cmp .eq (.var 2) (.int 7))) [.ret (.bin .add (.str " ") (.bm .join (.str " ") [.var 0]))] [],
    .ite (.e (.cmp .eq (.var 2) (.int 8))) [.ret (.bin .add (.bin .add (.bm .join (.str " ") [.slc (.var 0) [] [.bin .add (.var 3) (.int 1)]]) (.str "  ")) (.bm .join (.str " ") [.slc (.var 0) [.bin .add (.var 3) (.int 1)] []]))] [],
    .ite (.e (.cmp .eq (.var 2) (.int 9))) [.ret (.bin .add (.bin .add (.bm .join (.str " ") [.slc (.var 0) [] [.int 2]]) (.idx (.lst [.str "\t", .str "_", .str ",", .str ":"]) (.var 3))) (.bm .join (.str " ") [.slc (.var 0) [.int 2] []]))] [],
    .ite (.e (.cmp .eq (.var 2) (.int 10))) [.ret (.idx (.lst [.str "", .str " ", .str "again ", .str "Again"]) (.var 3))] [],
    .ret (.idx (.lst [.str "again", .str "again again", .str " again", .str "keep"]) (.var 3))]⟩
/-- _law_spoilt: lines row kind at words longer k -/
def b15_1 : List Sx := [.ite (.e (.cmp .lt (.bi .len [.var 5]) (.bin .add (.int 13) (.idx (.var 1) (.int 3))))) [.set 5 (.bin .add (.bin .add (.slc (.var 5) [] [.var 3]) (.lst [.bm .join (.str " ") [.var 4]])) (.slc (.var 5) [.var 3] []))] []]
def b15 : FnD := ⟨2, 7,
   [.set 2 (.idx (.var 1) (.int 0)),
    .set 3 (.bin .mod (.bi .int [.idx (.var 1) (.int 1)]) (.bi .len [.var 0])),
    .set 4 (.bm .split (.idx (.var 0) (.var 3)) [.str " "]),
    .ite (.e (.cmp .ne (.bi .len [.var 4]) (.int 4))) [.set 4 (.lst [.str "keep", .str "1", .str "most", .str "wins"])] [],
    .ite (.e (.cmp .lt (.var 2) (.int 8))) [.ret (.bin .add (.bin .add (.slc (.var 0) [] [.var 3]) (.lst [.call 14 [.var 4, .slc (.var 1) [.int 2] []]])) (.slc (.var 0) [.bin .add (.var 3) (.int 1)] []))] [],
    .ite (.e (.cmp .eq (.var 2) (.int 8))) [.ret (.bin .add (.bin .add (.slc (.var 0) [] [.var 3]) (.lst [.str "again"])) (.slc (.var 0) [.var 3] []))] [],
    .ite (.e (.cmp .eq (.var 2) (.int 9))) [.ret (.bin .add (.var 0) (.lst [.str "again"]))] [],
    .ite (.e (.cmp .eq (.var 2) (.int 10))) [.ret (.bin .add (.var 0) (.lst [.str ""]))] [],
    .ite (.e (.cmp .eq (.var 2) (.int 11))) [.ret (.bin .mul (.lst [.str "again"]) (.bin .add (.int 1) (.idx (.var 1) (.int 3))))] [],
    .ite (.e (.cmp .eq (.var 2) (.int 12))) [.ret (.bin .add (.bin .add (.slc (.var 0) [] [.var 3]) (.lst [.str ""])) (.slc (.var 0) [.var 3] []))] [],
    .set 5 (.bi .list [.var 0]),
    .for_ (.nm 6) .range1 [.bin .add (.int 13) (.idx (.var 1) (.int 3))] b15_1,
    .ite (.e (.cmp .eq (.var 2) (.int 13))) [.ret (.take 5)] [],
    .ite (.e (.cmp .eq (.var 2) (.int 14))) [.ret (.slc (.var 5) [] [.int 12])] [],
    .ret (.bin .add (.slc (.var 5) [] [.int 12]) (.lst [.call 14 [.var 4, .slc (.var 1) [.int 2] []]]))]⟩
/-- _law_told_fault: text e -/
def b16 : FnD := ⟨1, 2,
   [.try_ [.ex (.call 2 [.var 0])] 0 (some 1) [.ite (.bop false [.not_ (.e (.isin (.var 1) (.cls 4))), .not_ (.e (.isin (.var 1) .ve)), .not_ (.e (.call 4 [.fld (.var 1) 0]))]) [.ret (.int 99)] [],
    .ite (.bop false [.e (.isin (.var 1) (.cls 6)), .e (.isin (.var 1) (.cls 5)), .e (.isin (.var 1) (.cls 2))]) [.ret (.int 99)] [],
    .ite (.bop false [.e (.isin (.var 1) (.cls 3)), .e (.isin (.var 1) (.cls 1))]) [.ret (.int 99)] [],
    .ret (.fld (.var 1) 0)],
    .ret (.int 0)]⟩
/-- _law_is_read: lines text line due told handed made -/
def b17 : FnD := ⟨1, 7,
   [.set 1 (.bm .join (.str "\n") [.var 0]),
    .set 3 (.bi .tuple [.comp [2] (.bi .tuple [.bm .split (.var 2) [.str " "]]) (.nm 2) .plain [.var 0] []]),
    .set 4 (.call 2 [.var 1]),
    .ite (.bop false [.not_ (.e (.isin (.var 4) (.cls 7))), .not_ (.e (.call 7 [.fld (.var 4) 2, .var 3])), .not_ (.e (.call 7 [.call 3 [.var 4], .var 1]))]) [.ret (.bl false)] [],
    .set 5 (.comp [2] (.bm .split (.var 2) [.str " "]) (.nm 2) .plain [.var 0] []),
    .set 6 (.new 7 [.var 5]),
    .ite (.bop false [.not_ (.e (.isin (.var 6) (.cls 7))), .e (.cmp .ne (.var 5) (.comp [2] (.bm .split (.var 2) [.str " "]) (.nm 2) .plain [.var 0] []))]) [.ret (.bl false)] [],
    .sset 5 [.int 0, .int 0] (.str "spoilt"),
    .app 5 [] (.lst [.str "again"]),
    .ite (.bop false [.not_ (.e (.call 7 [.fld (.var 6) 2, .var 3])), .not_ (.e (.call 7 [.call 3 [.var 6], .var 1]))]) [.ret (.bl false)] [],
    .ret (.bop true [.call 7 [.fld (.new 7 [.var 3]) 2, .var 3], .call 7 [.fld (.var 4) 2, .var 3]])]⟩
/-- law: script row sizes lines k part spoilt text due -/
def b18_1 : List Sx := [.app 3 [] (.bm .join (.str " ") [.call 10 [.call 6 [.call 5 [.var 0, .bin .add (.int 1) (.var 4)], .lst [.int 2, .int 9, .int 2, .int 5]]]])]
def b18_2 : List Sx := [.set 5 (.call 6 [.call 5 [.var 0, .bin .add (.int 13) (.var 4)], .lst [.int 16, .int 840, .int 12, .int 4, .int 12, .int 5]]),
    .set 6 (.call 15 [.var 3, .var 5]),
    .ite (.e (.cmp .eq (.idx (.var 5) (.int 5)) (.int 0))) [.set 6 (.call 15 [.var 6, .call 6 [.call 5 [.var 0, .bin .add (.int 20) (.var 4)], .lst [.int 16, .int 840, .int 12, .int 4, .int 12]]])] [],
    .set 7 (.bm .join (.str "\n") [.var 6]),
    .set 8 (.call 12 [.var 7]),
    .ite (.e (.cmp .ne (.call 16 [.var 7]) (.var 8))) [.ret (.bl false)] [],
    .ite (.bop true [.e (.cmp .eq (.var 8) (.int 0)), .not_ (.e (.call 17 [.var 6]))]) [.ret (.bl false)] []]
def b18_3 : List Sx := [.ite (.bop false [.e (.cmp .ne (.call 16 [.var 7]) (.call 12 [.var 7])), .e (.cmp .eq (.call 12 [.var 7]) (.int 0))]) [.ret (.bl false)] []]
def b18 : FnD := ⟨1, 9,
   [.set 1 (.call 6 [.call 5 [.var 0, .int 0], .lst [.int 24, .int 2]]),
    .set 2 (.lst [.int 1, .int 2, .int 3, .int 1, .int 12, .int 4, .int 2, .int 3, .int 11, .int 1, .int 5, .int 2, .int 8, .int 3, .int 1, .int 12, .int 6, .int 2, .int 4, .int 10, .int 3, .int 9, .int 7, .int 2]),
    .set 3 (.lst []),
    .for_ (.nm 4) .range1 [.bin .sub (.idx (.var 2) (.idx (.var 1) (.int 0))) (.bin .mul (.idx (.var 1) (.int 1)) (.bi .int [.cmp .gt (.idx (.var 2) (.idx (.var 1) (.int 0))) (.int 1)]))] b18_1,
    .ite (.bop true [.e (.cmp .eq (.idx (.var 1) (.int 1)) (.int 1)), .e (.cmp .gt (.idx (.var 2) (.idx (.var 1) (.int 0))) (.int 1))]) [.app 3 [] (.str "again")] [],
    .ite (.bop false [.e (.cmp .ne (.call 12 [.bm .join (.str "\n") [.var 3]]) (.int 0)), .not_ (.e (.call 17 [.var 3]))]) [.ret (.bl false)] [],
    .for_ (.nm 4) .range1 [.int 7] b18_2,
    .for_ (.nm 7) .plain [.lst [.bin .add (.bm .join (.str "\n") [.var 3]) (.str "\n"), .bm .join (.str "\n") [.bin .add (.var 3) (.lst [.str "again", .str "again"])], .str "", .str "again", .bin .add (.str "\n") (.bm .join (.str "\n") [.var 3])]] b18_3,
    .ite (.bop false [.not_ (.e (.call 7 [.fld (.new 7 [.lst []]) 2, .tup []])), .not_ (.e (.call 7 [.fld (.new 7 [.lst [.lst [.str "x"], .lst []]]) 2, .tup [.tup [.str "x"], .tup []]]))]) [.ret (.bl false)] [],
    .ret (.call 17 [.var 3])]⟩
def fnsL : List FnD := [b0, b1, b2, b3, b4, b5, b6, b7, b8, b9, b10, b11, b12, b13, b14, b15, b16, b17, b18]
def initL : List (Nat × Nat) := [(7, 0)]
def P : Prog := ⟨tab, fun f => fnsL[f]?, fun c => initL.lookup c, fun f => ([4] : List Nat).contains f⟩
@[simp] theorem P_glob_0 : P.tab.glob 0 = some (.int (12)) := Eq.trans rfl rfl
@[simp] theorem P_glob_1 : P.tab.glob 1 = some (.tup [.str "keep", .str "drop"]) := Eq.trans rfl rfl
@[simp] theorem P_glob_2 : P.tab.glob 2 = some (.tup [.str "most", .str "least"]) := Eq.trans rfl rfl
@[simp] theorem P_glob_3 : P.tab.glob 3 = some (.tup [.str "firsts", .str "lasts", .str "points", .str "wins", .str "margin"]) := Eq.trans rfl rfl
@[simp] theorem P_glob_4 : P.tab.glob 4 = some (.tup [.str "1", .str "2", .str "3", .str "4", .str "5", .str "6", .str "7", .str "8", .str "all"]) := Eq.trans rfl rfl
@[simp] theorem P_kit_7_1 : P.tab.kit 7 (.cls 1) = some false := Eq.trans rfl rfl
@[simp] theorem P_kit_7_2 : P.tab.kit 7 (.cls 2) = some false := Eq.trans rfl rfl
@[simp] theorem P_kit_7_3 : P.tab.kit 7 (.cls 3) = some false := Eq.trans rfl rfl
@[simp] theorem P_kit_7_4 : P.tab.kit 7 (.cls 4) = some false := Eq.trans rfl rfl
@[simp] theorem P_kit_7_5 : P.tab.kit 7 (.cls 5) = some false := Eq.trans rfl rfl
@[simp] theorem P_kit_7_6 : P.tab.kit 7 (.cls 6) = some false := Eq.trans rfl rfl
@[simp] theorem P_kit_7_7 : P.tab.kit 7 (.cls 7) = some true := Eq.trans rfl rfl
@[simp] theorem P_xkit_0 : P.tab.xkit 4 (.cls 1) = some false := Eq.trans rfl rfl
@[simp] theorem P_xkit_1 : P.tab.xkit 4 (.cls 2) = some false := Eq.trans rfl rfl
@[simp] theorem P_xkit_2 : P.tab.xkit 4 (.cls 3) = some false := Eq.trans rfl rfl
@[simp] theorem P_xkit_3 : P.tab.xkit 4 (.cls 4) = some true := Eq.trans rfl rfl
@[simp] theorem P_xkit_4 : P.tab.xkit 4 (.cls 5) = some false := Eq.trans rfl rfl
@[simp] theorem P_xkit_5 : P.tab.xkit 4 (.cls 6) = some false := Eq.trans rfl rfl
@[simp] theorem P_xkit_6 : P.tab.xkit 4 (.cls 7) = some false := Eq.trans rfl rfl
@[simp] theorem P_xkit_7 : P.tab.xkit 4 .ve = some true := Eq.trans rfl rfl
@[simp] theorem P_exm_4_0 : P.tab.exm 4 0 = some true := Eq.trans rfl rfl
@[simp] theorem P_xf_4 : P.tab.xf 4 = [0] := Eq.trans rfl rfl
@[simp] theorem P_fields_7 : P.tab.fields 7 = [2] := Eq.trans rfl rfl
@[simp] theorem P_prop_7_2 : P.tab.prop 7 2 = none := Eq.trans rfl rfl
theorem ck0 : defB T glob 40 ["self", "steps", "step"] ["self", "steps"] (inClass (top 14) 0) false b0 = true := by decide +kernel
theorem ck1 : defB T glob 40 ["words"] ["words"] (top 15) false b1 = true := by decide +kernel
theorem ck2 : defB T glob 40 ["text", "lines", "steps", "at", "line", "words", "is_end"] ["text"] (top 16) false b2 = true := by decide +kernel
theorem ck3 : defB T glob 40 ["rule", "step"] ["rule"] (top 17) false b3 = true := by decide +kernel
theorem ck4 : defB T glob 40 ["value"] ["value"] (top 19) true b4 = true := by decide +kernel
theorem ck5 : defB T glob 40 ["script", "k", "seed", "cell"] ["script", "k"] (top 20) false b5 = true := by decide +kernel
theorem ck6 : defB T glob 40 ["cell", "sizes", "row", "rest", "size", "seed", "k", "twice"] ["cell", "sizes"] (top 21) false b6 = true := by decide +kernel
theorem ck7 : defB T glob 40 ["told", "due", "k"] ["told", "due"] (top 22) false b7 = true := by decide +kernel
theorem ck8 : defB T glob 40 [] [] (top 23) false b8 = true := by decide +kernel
theorem ck9 : defB T glob 40 [] [] (top 24) false b9 = true := by decide +kernel
theorem ck10 : defB T glob 40 ["row"] ["row"] (top 25) false b10 = true := by decide +kernel
theorem ck11 : defB T glob 40 ["line", "words"] ["line"] (top 26) false b11 = true := by decide +kernel
theorem ck12 : defB T glob 40 ["text", "lines", "k"] ["text"] (top 27) false b12 = true := by decide +kernel
theorem ck13 : defB T glob 40 ["place", "digit", "near"] ["place", "digit"] (top 28) false b13 = true := by decide +kernel
theorem ck14 : defB T glob 40 ["words", "row", "kind", "place"] ["words", "row"] (top 29) false b14 = true := by decide +kernel
theorem ck15 : defB T glob 40 ["lines", "row", "kind", "at", "words", "longer", "k"] ["lines", "row"] (top 30) false b15 = true := by decide +kernel
theorem ck16 : defB T glob 40 ["text", "e"] ["text"] (top 31) false b16 = true := by decide +kernel
theorem ck17 : defB T glob 40 ["lines", "text", "line", "due", "told", "handed", "made"] ["lines"] (top 32) false b17 = true := by decide +kernel
theorem ck18 : defB T glob 40 ["script", "row", "sizes", "lines", "k", "part", "spoilt", "text", "due"] ["script"] (top 33) false b18 = true := by decide +kernel
end K80
set_option Elab.async false
set_option linter.all false
set_option maxRecDepth 100000
set_option maxHeartbeats 4000000
/-! K80J: the join of law_k80_rule_texts, printed by gen.py. -/
namespace K80
open PySem PySem.Spec PyProof.Rows L2 SL
def fnm (c : Nat) : List Str := ((tab.fields c) ++ (tab.xf c)).map T.at_
theorem fnm_small : ∀ c, (fnm c).length < 900 ∧ (fnm c).Nodup
  | 0 => by decide +kernel
  | 1 => by decide +kernel
  | 2 => by decide +kernel
  | 3 => by decide +kernel
  | 4 => by decide +kernel
  | 5 => by decide +kernel
  | 6 => by decide +kernel
  | 7 => by decide +kernel
  | _ + 8 => ⟨by simp [fnm, tab, fieldsL, xfL], by simp [fnm, tab, fieldsL, xfL]⟩
section
variable {l : PySem.W.OpenLaw} {w : World} {K : PySem.W.Frag} {h : Heap} {mg : Str → Option Value} {fa f0 f1 f2 f3 f4 f5 f6 f7 f8 f9 f10 f11 f12 f13 f14 f15 f16 f17 f18 x4 c0 c1 c2 c3 c4 c5 c6 c7 g0 g1 g2 g3 : Addr} {xnm4 xq4 : Str} {xN4 : Addr} {xbs4 xbm4 xsub4 : List Value} {xsn4 : List Str} {xab4 : Bool} {xcol4 : Option Bool} {xdd4 : Option Addr} {xk04 xk14 xk24 xk34 xk54 : Option Value} {u0 : Nat} {god0 : Option Addr} {gi0 : Array Value} {gn0 : Nat} {gs0 : Array (Option Value)} {god1 : Option Addr} {gi1 : Array Value} {gn1 : Nat} {gs1 : Array (Option Value)} {god2 : Option Addr} {gi2 : Array Value} {gn2 : Nat} {gs2 : Array (Option Value)} {god3 : Option Addr} {gi3 : Array Value} {gn3 : Nat} {gs3 : Array (Option Value)}
theorem all_mk (hlaw : ∀ ns : List Int, ns.length ≤ 63 → (semN P (10 + 1)).fn false 18 [.scr ns] = some (.ret (.bl true))) (X : K.In h) (G : h.Ns mainGlobals mg) (hfa : mg "law" = some (.ref fa))
    (nc0 : PySem.W.nsIn K mainGlobals "AnymapError" = some (some (.ref c0)))
    (nc1 : PySem.W.nsIn K mainGlobals "BadBook" = some (some (.ref c1)))
    (nc2 : PySem.W.nsIn K mainGlobals "NoSuch" = some (some (.ref c2)))
    (nc3 : PySem.W.nsIn K mainGlobals "BadSize" = some (some (.ref c3)))
    (nc4 : PySem.W.nsIn K mainGlobals "BadRule" = some (some (.ref c4)))
    (nc5 : PySem.W.nsIn K mainGlobals "BadMeasure" = some (some (.ref c5)))
    (nc6 : PySem.W.nsIn K mainGlobals "BadText" = some (some (.ref c6)))
    (nc7 : PySem.W.nsIn K mainGlobals "Rule" = some (some (.ref c7)))
    (a0 : PySem.W.findIn K (.ref c7) "__init__" = some (some (.ref f0)))
    (d0 : DefK K f0 "__init__" "Rule.__init__" (inClass (top 14) 0))
    (a1 : PySem.W.nsIn K mainGlobals "good_step" = some (some (.ref f1)))
    (d1 : DefK K f1 "good_step" "good_step" (top 15))
    (a2 : PySem.W.nsIn K mainGlobals "read_rule" = some (some (.ref f2)))
    (d2 : DefK K f2 "read_rule" "read_rule" (top 16))
    (a3 : PySem.W.nsIn K mainGlobals "write_rule" = some (some (.ref f3)))
    (d3 : DefK K f3 "write_rule" "write_rule" (top 17))
    (a4 : PySem.W.nsIn K mainGlobals "_law_whole" = some (some (.ref f4)))
    (d4 : DefK K f4 "_law_whole" "_law_whole" (top 19))
    (a5 : PySem.W.nsIn K mainGlobals "_law_cell" = some (some (.ref f5)))
    (d5 : DefK K f5 "_law_cell" "_law_cell" (top 20))
    (a6 : PySem.W.nsIn K mainGlobals "_law_digits" = some (some (.ref f6)))
    (d6 : DefK K f6 "_law_digits" "_law_digits" (top 21))
    (a7 : PySem.W.nsIn K mainGlobals "_law_same" = some (some (.ref f7)))
    (d7 : DefK K f7 "_law_same" "_law_same" (top 22))
    (a8 : PySem.W.nsIn K mainGlobals "_law_numbers" = some (some (.ref f8)))
    (d8 : DefK K f8 "_law_numbers" "_law_numbers" (top 23))
    (a9 : PySem.W.nsIn K mainGlobals "_law_names" = some (some (.ref f9)))
    (d9 : DefK K f9 "_law_names" "_law_names" (top 24))
    (a10 : PySem.W.nsIn K mainGlobals "_law_words" = some (some (.ref f10)))
    (d10 : DefK K f10 "_law_words" "_law_words" (top 25))
    (a11 : PySem.W.nsIn K mainGlobals "_law_line_is_good" = some (some (.ref f11)))
    (d11 : DefK K f11 "_law_line_is_good" "_law_line_is_good" (top 26))
    (a12 : PySem.W.nsIn K mainGlobals "_law_fault" = some (some (.ref f12)))
    (d12 : DefK K f12 "_law_fault" "_law_fault" (top 27))
    (a13 : PySem.W.nsIn K mainGlobals "_law_near" = some (some (.ref f13)))
    (d13 : DefK K f13 "_law_near" "_law_near" (top 28))
    (a14 : PySem.W.nsIn K mainGlobals "_law_spoilt_line" = some (some (.ref f14)))
    (d14 : DefK K f14 "_law_spoilt_line" "_law_spoilt_line" (top 29))
    (a15 : PySem.W.nsIn K mainGlobals "_law_spoilt" = some (some (.ref f15)))
    (d15 : DefK K f15 "_law_spoilt" "_law_spoilt" (top 30))
    (a16 : PySem.W.nsIn K mainGlobals "_law_told_fault" = some (some (.ref f16)))
    (d16 : DefK K f16 "_law_told_fault" "_law_told_fault" (top 31))
    (a17 : PySem.W.nsIn K mainGlobals "_law_is_read" = some (some (.ref f17)))
    (d17 : DefK K f17 "_law_is_read" "_law_is_read" (top 32))
    (a18 : PySem.W.nsIn K mainGlobals "law" = some (some (.ref f18)))
    (d18 : DefK K f18 "law" "law" (top 33))
    (k4 : (xfB K c4 && (PySem.W.clsIn K c4).isSome && obB K c4 && noB K c4 ["line"]) = true)
    (k7 : (clsB K c7 && obB K c7 && noB K c7 ["steps"]) = true)
    (mk7 : mkB K c7 f0 = true)
    (xa4 : PySem.W.findIn K (.ref c4) "__init__" = some (some (.ref x4)))
    (xd4 : DefK K x4 "__init__" "BadRule.__init__" (inClass (top 5) 0))
    (xl4 : K.lookup c4 = some (excClassObj xnm4 xq4 c4 xN4 xbs4 xbm4 true xsn4 xsub4 xab4 xcol4 xdd4 xk04 xk14 xk24 xk34 xk54 "ValueError.__new__"))
    (xr4 : PySem.HandSPX.refsVE xbm4 = true)
    (xb4 : rzB K c4 x4 ["line"] ["self", "line"] (inClass (top 5) 0) = true)
    (ki0 : PySem.W.kitOne K (.ref c7) (.ref c1) = some false)
    (ki1 : PySem.W.kitOne K (.ref c7) (.ref c2) = some false)
    (ki2 : PySem.W.kitOne K (.ref c7) (.ref c3) = some false)
    (ki3 : PySem.W.kitOne K (.ref c7) (.ref c4) = some false)
    (ki4 : PySem.W.kitOne K (.ref c7) (.ref c5) = some false)
    (ki5 : PySem.W.kitOne K (.ref c7) (.ref c6) = some false)
    (ki6 : PySem.W.kitOne K (.ref c7) (.ref c7) = some true)
    (xk0 : PySem.W.kitOne K (.ref c4) (.ref c1) = some false)
    (xk1 : PySem.W.kitOne K (.ref c4) (.ref c2) = some false)
    (xk2 : PySem.W.kitOne K (.ref c4) (.ref c3) = some false)
    (xk3 : PySem.W.kitOne K (.ref c4) (.ref c4) = some true)
    (xk4 : PySem.W.kitOne K (.ref c4) (.ref c5) = some false)
    (xk5 : PySem.W.kitOne K (.ref c4) (.ref c6) = some false)
    (xk6 : PySem.W.kitOne K (.ref c4) (.ref c7) = some false)
    (xk7 : PySem.W.kitOne K (.ref c4) (.type "ValueError") = some true)
    (ex0 : PySem.W.exmOne K (.ref c4) (.ref c0) = some true)
    (gm0 : PySem.W.nsIn K mainGlobals "MOST_LINES" = some (some (.int (12) u0)))
    (gm1 : PySem.W.nsIn K mainGlobals "ACTIONS" = some (some (.ref g0)))
    (gm2 : PySem.W.nsIn K mainGlobals "SIDES" = some (some (.ref g1)))
    (gm3 : PySem.W.nsIn K mainGlobals "MEASURES" = some (some (.ref g2)))
    (gm4 : PySem.W.nsIn K mainGlobals "NUMBERS" = some (some (.ref g3)))
    (gl0 : K.lookup g0 = some ⟨.type "tuple", god0, .seq gi0 gn0, gs0⟩)
    (gz0 : gi0.size ≤ sizeLine)
    (gv0 : Vals [V.str "keep", V.str "drop"] gi0.toList)
    (gl1 : K.lookup g1 = some ⟨.type "tuple", god1, .seq gi1 gn1, gs1⟩)
    (gz1 : gi1.size ≤ sizeLine)
    (gv1 : Vals [V.str "most", V.str "least"] gi1.toList)
    (gl2 : K.lookup g2 = some ⟨.type "tuple", god2, .seq gi2 gn2, gs2⟩)
    (gz2 : gi2.size ≤ sizeLine)
    (gv2 : Vals [V.str "firsts", V.str "lasts", V.str "points", V.str "wins", V.str "margin"] gi2.toList)
    (gl3 : K.lookup g3 = some ⟨.type "tuple", god3, .seq gi3 gn3, gs3⟩)
    (gz3 : gi3.size ≤ sizeLine)
    (gv3 : Vals [V.str "1", V.str "2", V.str "3", V.str "4", V.str "5", V.str "6", V.str "7", V.str "8", V.str "all"] gi3.toList)
    (nb : bltB K = true) :
    ∃ fd : FuncData, (∀ (s : Shared) (v : Value), BindsTo s fd ⟨[v], []⟩ [("script", v)]) ∧ ∀ base : Heap, K.In base → base.Ns mainGlobals mg →
      FnOk l.prog w K mg base (L2N.CX l.prog w) (2 * (10 + 1) + 1) fa fd ["script"] (lawSp K 63) := by
  have e : f18 = fa := Value.ref.inj (Option.some.inj ((PySem.W.mg_of X G a18).symm.trans hfa))
  subst e
  obtain ⟨⟨oc, od, kV, doc, pm, an, cdv, ct, osl, lk, hc⟩, kp⟩ := id d18
  refine ⟨PySem.W.fnOf "law" "law" (defArgs (top 33)) (defBody (top 33)) (defScope (top 33)) .none kV doc pm an cdv ct, fun s v => .of_eq rfl, fun base _ _ => ?_⟩
  refine FnOk.imp ?_ (lawSp_of (w0 := ⟨K, fun i => ([c0, c1, c2, c3, c4, c5, c6, c7] : List Addr).getD i 0, fnm, none⟩) hlaw)
  refine law_of (T := T) (glob := glob) (W0 := ⟨l.prog, w, mg, base⟩) (w0 := ⟨K, fun i => ([c0, c1, c2, c3, c4, c5, c6, c7] : List Addr).getD i 0, fnm, none⟩) (fa := fun i => ([f0, f1, f2, f3, f4, f5, f6, f7, f8, f9, f10, f11, f12, f13, f14, f15, f16, f17, f18] : List Addr).getD i 0) (cv := fun _ => .none) (P := P) ?_ 10 (f := 18) (fd := b18) ["script", "row", "sizes", "lines", "k", "part", "spoilt", "text", "due"] ["script"] rfl lk hc ck18
  refine ⟨⟨rfl, bltB_ok X G nb, ?gf, ?gc, ?glob, ?meth, ?prop, fun c => (fnm_small c).1, ?fld, fun c => (fnm_small c).2, ?xf, ?kit, ?xkit, ?exm, ?own⟩, fun g h => h, ?fn, ?pgf, ?gm, ?gp, ?nw, ?rz⟩
  case gf =>
    intro f hf
    have hm : f ∈ ([1, 2, 3, 4, 5, 6, 7, 8, 9, 10, 11, 12, 13, 14, 15, 16, 17, 18] : List Nat) := List.contains_iff_mem.mp hf
    clear hf
    revert hm
    revert f
    exact all_cons (⟨PySem.W.mg_of X G a1, by decide +kernel⟩) (all_cons (⟨PySem.W.mg_of X G a2, by decide +kernel⟩) (all_cons (⟨PySem.W.mg_of X G a3, by decide +kernel⟩) (all_cons (⟨PySem.W.mg_of X G a4, by decide +kernel⟩) (all_cons (⟨PySem.W.mg_of X G a5, by decide +kernel⟩) (all_cons (⟨PySem.W.mg_of X G a6, by decide +kernel⟩) (all_cons (⟨PySem.W.mg_of X G a7, by decide +kernel⟩) (all_cons (⟨PySem.W.mg_of X G a8, by decide +kernel⟩) (all_cons (⟨PySem.W.mg_of X G a9, by decide +kernel⟩) (all_cons (⟨PySem.W.mg_of X G a10, by decide +kernel⟩) (all_cons (⟨PySem.W.mg_of X G a11, by decide +kernel⟩) (all_cons (⟨PySem.W.mg_of X G a12, by decide +kernel⟩) (all_cons (⟨PySem.W.mg_of X G a13, by decide +kernel⟩) (all_cons (⟨PySem.W.mg_of X G a14, by decide +kernel⟩) (all_cons (⟨PySem.W.mg_of X G a15, by decide +kernel⟩) (all_cons (⟨PySem.W.mg_of X G a16, by decide +kernel⟩) (all_cons (⟨PySem.W.mg_of X G a17, by decide +kernel⟩) (all_cons (⟨PySem.W.mg_of X G a18, by decide +kernel⟩) (all_nil))))))))))))))))))
  case gc =>
    intro f hf
    have hm : f ∈ ([7] : List Nat) := List.contains_iff_mem.mp hf
    clear hf
    revert hm
    revert f
    exact all_cons (⟨PySem.W.mg_of X G nc7, by decide +kernel⟩) (all_nil)
  case own =>
    intro f hf
    have hm : f ∈ ([0, 1, 2, 3, 4, 5, 6, 7] : List Nat) := List.contains_iff_mem.mp hf
    clear hf
    revert hm
    revert f
    exact all_cons (⟨PySem.W.mg_of X G nc0, by decide +kernel⟩) (all_cons (⟨PySem.W.mg_of X G nc1, by decide +kernel⟩) (all_cons (⟨PySem.W.mg_of X G nc2, by decide +kernel⟩) (all_cons (⟨PySem.W.mg_of X G nc3, by decide +kernel⟩) (all_cons (⟨PySem.W.mg_of X G nc4, by decide +kernel⟩) (all_cons (⟨PySem.W.mg_of X G nc5, by decide +kernel⟩) (all_cons (⟨PySem.W.mg_of X G nc6, by decide +kernel⟩) (all_cons (⟨PySem.W.mg_of X G nc7, by decide +kernel⟩) (all_nil))))))))
  case glob =>
    intro g d hh
    have hm := lookup_mem hh
    clear hh
    exact (show ∀ p ∈ globL, (T.gl p.1 == ("__debug__" : Str)) = false ∧ ∃ u v, mg (T.gl p.1) = some u ∧ RelV v u ∧ ∀ F H : Hp, Rep (⟨K, fun i => ([c0, c1, c2, c3, c4, c5, c6, c7] : List Addr).getD i 0, fnm, none⟩ : Wd) F H v p.2 [] from all_cons (⟨by decide +kernel, _, .int (12), PySem.W.mg_of X G gm0, ⟨_, rfl⟩, fun F H => .int .nil⟩) (all_cons (⟨by decide +kernel, _, .ref g0, PySem.W.mg_of X G gm1, rfl, globT rfl gl0 gz0 gv0 (fun F H => .str (by decide +kernel) (.str (by decide +kernel) (.nil)))⟩) (all_cons (⟨by decide +kernel, _, .ref g1, PySem.W.mg_of X G gm2, rfl, globT rfl gl1 gz1 gv1 (fun F H => .str (by decide +kernel) (.str (by decide +kernel) (.nil)))⟩) (all_cons (⟨by decide +kernel, _, .ref g2, PySem.W.mg_of X G gm3, rfl, globT rfl gl2 gz2 gv2 (fun F H => .str (by decide +kernel) (.str (by decide +kernel) (.str (by decide +kernel) (.str (by decide +kernel) (.str (by decide +kernel) (.nil))))))⟩) (all_cons (⟨by decide +kernel, _, .ref g3, PySem.W.mg_of X G gm4, rfl, globT rfl gl3 gz3 gv3 (fun F H => .str (by decide +kernel) (.str (by decide +kernel) (.str (by decide +kernel) (.str (by decide +kernel) (.str (by decide +kernel) (.str (by decide +kernel) (.str (by decide +kernel) (.str (by decide +kernel) (.str (by decide +kernel) (.nil))))))))))⟩) (all_nil)))))) _ hm
  case meth =>
    intro c m f hh
    have hm := lookup_mem hh
    clear hh
    exact (show ∀ p ∈ methL, Cls K ((⟨K, fun i => ([c0, c1, c2, c3, c4, c5, c6, c7] : List Addr).getD i 0, fnm, none⟩ : Wd).ca p.1.1) ∧ L2.Meth K ((⟨K, fun i => ([c0, c1, c2, c3, c4, c5, c6, c7] : List Addr).getD i 0, fnm, none⟩ : Wd).ca p.1.1) (T.at_ p.1.2) ((fun i => ([f0, f1, f2, f3, f4, f5, f6, f7, f8, f9, f10, f11, f12, f13, f14, f15, f16, f17, f18] : List Addr).getD i 0) p.2) ∧ T.at_ p.1.2 ∉ fnm p.1.1 from all_nil) _ hm
  case prop =>
    intro c m f hh
    have hm := lookup_mem hh
    clear hh
    exact (show ∀ p ∈ propL, Cls K ((⟨K, fun i => ([c0, c1, c2, c3, c4, c5, c6, c7] : List Addr).getD i 0, fnm, none⟩ : Wd).ca p.1.1) ∧ ∃ pa, PropOf K ((⟨K, fun i => ([c0, c1, c2, c3, c4, c5, c6, c7] : List Addr).getD i 0, fnm, none⟩ : Wd).ca p.1.1) (T.at_ p.1.2) pa ((fun i => ([f0, f1, f2, f3, f4, f5, f6, f7, f8, f9, f10, f11, f12, f13, f14, f15, f16, f17, f18] : List Addr).getD i 0) p.2) from all_nil) _ hm
  case fld =>
    intro c f k hh
    match c, hh with
    | 0, hh => cases hh
    | 1, hh => cases hh
    | 2, hh => cases hh
    | 3, hh => cases hh
    | 4, hh => cases hh
    | 5, hh => cases hh
    | 6, hh => cases hh
    | 7, hh => exact fldK (clsK k7) rfl hh
    | _ + 8, hh => cases hh
  case xf =>
    intro c f k hh
    match c, hh with
    | 0, hh => cases hh
    | 1, hh => cases hh
    | 2, hh => cases hh
    | 3, hh => cases hh
    | 4, hh => exact xfK (excK k4) rfl hh
    | 5, hh => cases hh
    | 6, hh => cases hh
    | 7, hh => cases hh
    | _ + 8, hh => cases hh
  case kit =>
    intro c ic b hh
    have hm := lookup_mem hh
    clear hh
    exact (show ∀ p ∈ kitL, PySem.W.kitOne K (.ref ((⟨K, fun i => ([c0, c1, c2, c3, c4, c5, c6, c7] : List Addr).getD i 0, fnm, none⟩ : Wd).ca p.1.1)) (icU (⟨K, fun i => ([c0, c1, c2, c3, c4, c5, c6, c7] : List Addr).getD i 0, fnm, none⟩ : Wd) p.1.2) = some p.2 ∧ Cls K ((⟨K, fun i => ([c0, c1, c2, c3, c4, c5, c6, c7] : List Addr).getD i 0, fnm, none⟩ : Wd).ca p.1.1) ∧ ClsOb K ((⟨K, fun i => ([c0, c1, c2, c3, c4, c5, c6, c7] : List Addr).getD i 0, fnm, none⟩ : Wd).ca p.1.1) from all_cons (⟨ki0, (clsK k7).cl, (clsK k7).ob⟩) (all_cons (⟨ki1, (clsK k7).cl, (clsK k7).ob⟩) (all_cons (⟨ki2, (clsK k7).cl, (clsK k7).ob⟩) (all_cons (⟨ki3, (clsK k7).cl, (clsK k7).ob⟩) (all_cons (⟨ki4, (clsK k7).cl, (clsK k7).ob⟩) (all_cons (⟨ki5, (clsK k7).cl, (clsK k7).ob⟩) (all_cons (⟨ki6, (clsK k7).cl, (clsK k7).ob⟩) (all_nil)))))))) _ hm
  case xkit =>
    intro c ic b hh
    have hm := lookup_mem hh
    clear hh
    exact (show ∀ p ∈ xkitL, PySem.W.kitOne K (.ref ((⟨K, fun i => ([c0, c1, c2, c3, c4, c5, c6, c7] : List Addr).getD i 0, fnm, none⟩ : Wd).ca p.1.1)) (icU (⟨K, fun i => ([c0, c1, c2, c3, c4, c5, c6, c7] : List Addr).getD i 0, fnm, none⟩ : Wd) p.1.2) = some p.2 ∧ XfC K ((⟨K, fun i => ([c0, c1, c2, c3, c4, c5, c6, c7] : List Addr).getD i 0, fnm, none⟩ : Wd).ca p.1.1) ∧ (PySem.W.clsIn K ((⟨K, fun i => ([c0, c1, c2, c3, c4, c5, c6, c7] : List Addr).getD i 0, fnm, none⟩ : Wd).ca p.1.1)).isSome = true ∧ ClsOb K ((⟨K, fun i => ([c0, c1, c2, c3, c4, c5, c6, c7] : List Addr).getD i 0, fnm, none⟩ : Wd).ca p.1.1) from all_cons (⟨xk0, (excK k4).xf, (excK k4).cs, (excK k4).ob⟩) (all_cons (⟨xk1, (excK k4).xf, (excK k4).cs, (excK k4).ob⟩) (all_cons (⟨xk2, (excK k4).xf, (excK k4).cs, (excK k4).ob⟩) (all_cons (⟨xk3, (excK k4).xf, (excK k4).cs, (excK k4).ob⟩) (all_cons (⟨xk4, (excK k4).xf, (excK k4).cs, (excK k4).ob⟩) (all_cons (⟨xk5, (excK k4).xf, (excK k4).cs, (excK k4).ob⟩) (all_cons (⟨xk6, (excK k4).xf, (excK k4).cs, (excK k4).ob⟩) (all_cons (⟨xk7, (excK k4).xf, (excK k4).cs, (excK k4).ob⟩) (all_nil))))))))) _ hm
  case exm =>
    intro c d b hh
    have hm := lookup_mem hh
    clear hh
    exact (show ∀ p ∈ exmL, PySem.W.exmOne K (.ref ((⟨K, fun i => ([c0, c1, c2, c3, c4, c5, c6, c7] : List Addr).getD i 0, fnm, none⟩ : Wd).ca p.1.1)) (.ref ((⟨K, fun i => ([c0, c1, c2, c3, c4, c5, c6, c7] : List Addr).getD i 0, fnm, none⟩ : Wd).ca p.1.2)) = some p.2 from all_cons (ex0) (all_nil)) _ hm
  case fn =>
    intro f fd hh
    match f, hh with
    | 0, hh => obtain rfl := Option.some.inj hh; exact defF_of ["self", "steps", "step"] ["self", "steps"] d0 (fun _ _ _ _ _ _ us hl => match us, hl with | [_, _], _ => rfl) ck0
    | 1, hh => obtain rfl := Option.some.inj hh; exact defF_of ["words"] ["words"] d1 (fun _ _ _ _ _ _ us hl => match us, hl with | [_], _ => rfl) ck1
    | 2, hh => obtain rfl := Option.some.inj hh; exact defF_of ["text", "lines", "steps", "at", "line", "words", "is_end"] ["text"] d2 (fun _ _ _ _ _ _ us hl => match us, hl with | [_], _ => rfl) ck2
    | 3, hh => obtain rfl := Option.some.inj hh; exact defF_of ["rule", "step"] ["rule"] d3 (fun _ _ _ _ _ _ us hl => match us, hl with | [_], _ => rfl) ck3
    | 4, hh => obtain rfl := Option.some.inj hh; exact defF_of ["value"] ["value"] d4 (fun _ _ _ _ _ _ us hl => match us, hl with | [_], _ => rfl) ck4
    | 5, hh => obtain rfl := Option.some.inj hh; exact defF_of ["script", "k", "seed", "cell"] ["script", "k"] d5 (fun _ _ _ _ _ _ us hl => match us, hl with | [_, _], _ => rfl) ck5
    | 6, hh => obtain rfl := Option.some.inj hh; exact defF_of ["cell", "sizes", "row", "rest", "size", "seed", "k", "twice"] ["cell", "sizes"] d6 (fun _ _ _ _ _ _ us hl => match us, hl with | [_, _], _ => rfl) ck6
    | 7, hh => obtain rfl := Option.some.inj hh; exact defF_of ["told", "due", "k"] ["told", "due"] d7 (fun _ _ _ _ _ _ us hl => match us, hl with | [_, _], _ => rfl) ck7
    | 8, hh => obtain rfl := Option.some.inj hh; exact defF_of [] [] d8 (fun _ _ _ _ _ _ us hl => match us, hl with | [], _ => rfl) ck8
    | 9, hh => obtain rfl := Option.some.inj hh; exact defF_of [] [] d9 (fun _ _ _ _ _ _ us hl => match us, hl with | [], _ => rfl) ck9
    | 10, hh => obtain rfl := Option.some.inj hh; exact defF_of ["row"] ["row"] d10 (fun _ _ _ _ _ _ us hl => match us, hl with | [_], _ => rfl) ck10
    | 11, hh => obtain rfl := Option.some.inj hh; exact defF_of ["line", "words"] ["line"] d11 (fun _ _ _ _ _ _ us hl => match us, hl with | [_], _ => rfl) ck11
    | 12, hh => obtain rfl := Option.some.inj hh; exact defF_of ["text", "lines", "k"] ["text"] d12 (fun _ _ _ _ _ _ us hl => match us, hl with | [_], _ => rfl) ck12
    | 13, hh => obtain rfl := Option.some.inj hh; exact defF_of ["place", "digit", "near"] ["place", "digit"] d13 (fun _ _ _ _ _ _ us hl => match us, hl with | [_, _], _ => rfl) ck13
    | 14, hh => obtain rfl := Option.some.inj hh; exact defF_of ["words", "row", "kind", "place"] ["words", "row"] d14 (fun _ _ _ _ _ _ us hl => match us, hl with | [_, _], _ => rfl) ck14
    | 15, hh => obtain rfl := Option.some.inj hh; exact defF_of ["lines", "row", "kind", "at", "words", "longer", "k"] ["lines", "row"] d15 (fun _ _ _ _ _ _ us hl => match us, hl with | [_, _], _ => rfl) ck15
    | 16, hh => obtain rfl := Option.some.inj hh; exact defF_of ["text", "e"] ["text"] d16 (fun _ _ _ _ _ _ us hl => match us, hl with | [_], _ => rfl) ck16
    | 17, hh => obtain rfl := Option.some.inj hh; exact defF_of ["lines", "text", "line", "due", "told", "handed", "made"] ["lines"] d17 (fun _ _ _ _ _ _ us hl => match us, hl with | [_], _ => rfl) ck17
    | 18, hh => obtain rfl := Option.some.inj hh; exact defF_of ["script", "row", "sizes", "lines", "k", "part", "spoilt", "text", "due"] ["script"] d18 (fun _ _ _ _ _ _ us hl => match us, hl with | [_], _ => rfl) ck18
    | _ + 19, hh => cases hh
  case pgf =>
    intro f hf
    have hm : f ∈ ([1, 2, 3, 4, 5, 6, 7, 8, 9, 10, 11, 12, 13, 14, 15, 16, 17, 18] : List Nat) := List.contains_iff_mem.mp hf
    clear hf
    revert hm
    revert f
    exact all_cons (rfl) (all_cons (rfl) (all_cons (rfl) (all_cons (rfl) (all_cons (rfl) (all_cons (rfl) (all_cons (rfl) (all_cons (rfl) (all_cons (rfl) (all_cons (rfl) (all_cons (rfl) (all_cons (rfl) (all_cons (rfl) (all_cons (rfl) (all_cons (rfl) (all_cons (rfl) (all_cons (rfl) (all_cons (rfl) (all_nil))))))))))))))))))
  case gm =>
    intro c m f hh
    have hm := lookup_mem hh
    clear hh
    exact (show ∀ p ∈ methL, (P.fns p.2).isSome = true from all_nil) _ hm
  case gp =>
    intro c m f hh
    have hm := lookup_mem hh
    clear hh
    exact (show ∀ p ∈ propL, (P.fns p.2).isSome = true from all_nil) _ hm
  case nw =>
    intro f hf
    have hm : f ∈ ([7] : List Nat) := List.contains_iff_mem.mp hf
    clear hf
    revert hm
    revert f
    exact all_cons (⟨0, b0, rfl, rfl, mkB_ok mk7, by decide +kernel, by decide +kernel⟩) (all_nil)
  case rz =>
    intro f hf
    have hm : f ∈ ([4] : List Nat) := List.contains_iff_mem.mp hf
    clear hf
    revert hm
    revert f
    exact all_cons (rz_of ["self", "line"] xd4 (fun _ _ _ _ _ _ us hl => match us, hl with | [_, _], _ => rfl) ⟨_, _, _, _, _, _, _, _, _, _, _, _, _, _, _, xl4, xr4⟩ (PySem.W.mg_of X G nc4) (by decide +kernel) (show (fnm 4).length ≤ 800 by decide +kernel) (show (fnm 4).length = (tab.xf 4).length by decide +kernel) xb4) (all_nil)
end
end K80
set_option Elab.async false
set_option linter.all false
set_option maxRecDepth 100000
set_option maxHeartbeats 4000000
/-! K80L: the plain law of law_k80_rule_texts. -/
namespace K80
open PySem L2 SL
/-! ### shared defs -/
theorem f5 {n : Nat} (ns : List Int) (k : Int) (hk : 0 ≤ k) (hk2 : k < 1000) : ∃ c, (semN P (n + 1)).fn false 5 [.scr ns, .int k] = some (.ret (.int c)) := by
  rw [fn_run (fd := b5) rfl]; exact cell_ok ns k hk hk2
theorem f6 {n : Nat} {c : Int} {ss : List Int} (hs : Szs ss) : ∃ row, (semN P (n + 1)).fn false 6 [.int c, .lst false (ss.map D.int)] = some (.ret (.lst true (row.map D.int))) ∧ Dig row ss := by
  rw [fn_run (fd := b6) rfl]; exact dig_ok hs
theorem f4 {n : Nat} {i : Int} : (semN P (n + 1)).fn true 4 [.int i] = some (.ret (.bl true)) := by
  rw [fn_hot (fd := b4) rfl rfl rfl]; simp [b4]
/-! ### words -/
def isAct (a : Str) : Bool := [("keep" : Str), "drop"].any fun x => x == a
def isNum (a : Str) : Bool := [("1" : Str), "2", "3", "4", "5", "6", "7", "8", "all"].any fun x => x == a
def isSide (a : Str) : Bool := [("most" : Str), "least"].any fun x => x == a
def isMeas (a : Str) : Bool := [("firsts" : Str), "lasts", "points", "wins", "margin"].any fun x => x == a
def good (ws : List Str) : Bool := match ws with
  | [a, b, c, d] => isAct a && isNum b && isSide c && isMeas d
  | _ => false
theorem any_strs (ss : List Str) (a : Str) : ((ss.map D.str).any fun x => x.eqv (.str a)) = ss.any fun x => x == a := by induction ss <;> simp_all
theorem cin (ss : List Str) (a : Str) (o : Bool) : cmpD .in_ (.str a) (.lst o (ss.map D.str)) = some (ss.any fun x => x == a) := by
  rw [cmp_inl, if_pos (by simp), any_strs]
theorem cint (ss : List Str) (a : Str) : cmpD .in_ (.str a) (.tup (ss.map D.str)) = some (ss.any fun x => x == a) := by
  rw [cmp_int_, if_pos (by simp), any_strs]
theorem cnin (ss : List Str) (a : Str) (o : Bool) : cmpD .nin (.str a) (.lst o (ss.map D.str)) = some (!ss.any fun x => x == a) := by
  rw [cmp_ninl, if_pos (by simp), any_strs]
theorem cnint (ss : List Str) (a : Str) : cmpD .nin (.str a) (.tup (ss.map D.str)) = some (!ss.any fun x => x == a) := by
  rw [cmp_nint, if_pos (by simp), any_strs]
theorem c1 (a : Str) : cmpD .nin (.str a) (.tup [.str "keep", .str "drop"]) = some (!isAct a) := cnint [_, _] a
theorem c2 (a : Str) : cmpD .nin (.str a) (.tup [.str "1", .str "2", .str "3", .str "4", .str "5", .str "6", .str "7", .str "8", .str "all"]) = some (!isNum a) := cnint [_, _, _, _, _, _, _, _, _] a
theorem c3 (a : Str) : cmpD .in_ (.str a) (.tup [.str "most", .str "least"]) = some (isSide a) := cint [_, _] a
theorem c4 (a : Str) : cmpD .in_ (.str a) (.tup [.str "firsts", .str "lasts", .str "points", .str "wins", .str "margin"]) = some (isMeas a) := cint [_, _, _, _, _] a
theorem c5 (o : Bool) (a : Str) : cmpD .nin (.str a) (.lst o [.str "keep", .str "drop"]) = some (!isAct a) := cnin [_, _] a o
theorem c6 (o : Bool) (a : Str) : cmpD .nin (.str a) (.lst o [.str "1", .str "2", .str "3", .str "4", .str "5", .str "6", .str "7", .str "8", .str "all"]) = some (!isNum a) := cnin [_, _, _, _, _, _, _, _, _] a o
theorem c7 (o : Bool) (a : Str) : cmpD .in_ (.str a) (.lst o [.str "most", .str "least"]) = some (isSide a) := cin [_, _] a o
theorem c8 (o : Bool) (a : Str) : cmpD .in_ (.str a) (.lst o [.str "firsts", .str "lasts", .str "points", .str "wins", .str "margin"]) = some (isMeas a) := cin [_, _, _, _, _] a o
theorem good_ne {ws : List Str} (h : ws.length ≠ 4) : good ws = false := by
  match ws, h with
  | [], _ => rfl
  | [_], _ => rfl
  | [_, _], _ => rfl
  | [_, _, _], _ => rfl
  | [_, _, _, _], h => exact absurd rfl h
  | _ :: _ :: _ :: _ :: _ :: _, _ => rfl
theorem f1 {n : Nat} {o : Bool} (ws : List Str) (hw : ws.length ≤ 100000) : (semN P (n + 1)).fn false 1 [.lst false (ws.map D.str)] = some (.ret (.bl (good ws))) := by
  rw [fn_at (fd := b1) rfl rfl]
  by_cases h : ws.length = 4
  · match ws, h with
    | [a, b, c, d], _ =>
      cases h1 : isAct a <;> cases h2 : isNum b <;> cases h3 : isSide c <;> cases h4 : isMeas d <;> simp [b1, c1, c2, c3, c4, good, h1, h2, h3, h4]
  · rw [good_ne h]
    have h2 : ((ws.length : Int) = 4) = False := by simp; omega
    simp [b1, h2]
theorem f8 {n : Nat} : (semN P (n + 1)).fn false 8 [] = some (.ret (.lst true [.str "1", .str "2", .str "3", .str "4", .str "5", .str "6", .str "7", .str "8", .str "all"])) := by
  rw [fn_at (fd := b8) rfl rfl]; simp [b8]
theorem f9 {n : Nat} : (semN P (n + 1)).fn false 9 [] = some (.ret (.lst true [.str "firsts", .str "lasts", .str "points", .str "wins", .str "margin"])) := by
  rw [fn_at (fd := b9) rfl rfl]; simp [b9]
def goodL (x : Str) : Bool := good (Txt.split x " ")
theorem f11 {n : Nat} {x : Str} (hx : x.length ≤ 100000) : (semN P (n + 2)).fn false 11 [.str x] = some (.ret (.bl (goodL x))) := by
  rw [fn_at (fd := b11) rfl rfl]
  have hx2 : x.length ≤ 1000000 := by omega
  unfold goodL
  have hc := split_cnt (x := x) (s := " ")
  generalize hw : Txt.split x " " = ws at hc
  by_cases h : ws.length = 4
  · match ws, h with
    | [a, b, c, d], _ =>
      cases h1 : isAct a <;> cases h2 : isNum b <;> cases h3 : isSide c <;> cases h4 : isMeas d <;> simp [b11, sp_len, hx2, hw, c5, c6, c7, c8, good, f8, f9, slz, h1, h2, h3, h4]
  · rw [good_ne h]
    have h2 : ((ws.length : Int) = 4) = False := by simp; omega
    simp [b11, sp_len, hx2, hw, h2]
/-! ### the number of the first bad line -/
/-- n lines in all; from the k-th on -/
def fauF (n : Nat) : Nat → List Str → Nat
  | _, [] => 0
  | k, x :: xs => if k = 12 then 13 else if goodL x = true ∨ (x = "again" ∧ 0 < k ∧ k + 1 = n) then fauF n (k + 1) xs else k + 1
def fau (ls : List Str) : Nat := fauF ls.length 0 ls
theorem strs_get {ss : List Str} {k : Nat} {x : D} (h : (ss.map D.str)[k]? = some x) : ∃ s, ss[k]? = some s ∧ x = .str s := by
  rw [List.getElem?_map] at h
  cases q : ss[k]? with
  | none => rw [q] at h; cases h
  | some s => rw [q] at h; exact ⟨s, rfl, by cases h; rfl⟩
theorem drop_get {α : Type} {l : List α} {k : Nat} {x : α} (h : l[k]? = some x) : l.drop k = x :: l.drop (k + 1) := by
  obtain ⟨hk, rfl⟩ := List.getElem?_eq_some_iff.mp h
  exact List.drop_eq_getElem_cons hk
theorem f12 {n : Nat} {x : Str} {ls : List Str} (hx : x.length ≤ 900000) (hl : Txt.split x "\n" = ls) (hs : ∀ l ∈ ls, l.length ≤ 100000) : (semN P (n + 3)).fn false 12 [.str x] = some (.ret (.int (fau ls))) := by
  rw [fn_at (fd := b12) rfl rfl]
  have hx2 : x.length ≤ 1000000 := by omega
  have hc := split_cnt (x := x) (s := "\n")
  rw [hl] at hc
  have hz : Sm ls.length := sm_of (by omega)
  have lp : ∃ r, forL (fun _ => true) (Tg.nm 2) (evalSs (semN P (n + 2)) false b12_1) ((List.range ls.length).map fun (k : Nat) => D.int k) [some (.str x), some (.lst true (ls.map D.str)), none] = some r ∧ outOf (sq (some r) (evalSs (semN P (n + 2)) false [Sx.ret (.int 0)])) = some (.ret (.int (fau ls))) := by
    refine forL_inv (fun k ρ => (∃ t : Option D, ρ = [some (.str x), some (.lst true (ls.map D.str)), t]) ∧ fau ls = fauF ls.length k (ls.drop k)) _ (n := 0) ?_ ?_ ⟨⟨none, rfl⟩, rfl⟩
    · rintro k d ρ hd ⟨⟨t, rfl⟩, he⟩
      obtain ⟨hk, rfl⟩ := range_get hd
      rw [Nat.zero_add] at he
      have hm := hs _ (List.getElem_mem hk)
      have hg0 := List.getElem?_eq_getElem hk
      generalize hg : ls[k] = l at hm hg0
      refine ⟨rfl, _, rfl, fun N Q' hN hQ => ?_⟩
      rw [drop_get hg0, fauF] at he
      have f := f11 (n := n) hm
      by_cases h1 : k = 12
      · subst h1
        rw [if_pos rfl] at he
        simp [b12_1]
        exact hQ _ (by simp [he])
      · rw [if_neg h1] at he
        have h1' : ¬ ((k : Int) = 12) := by omega
        cases hgl : goodL l with
        | true =>
          rw [if_pos (.inl hgl)] at he
          simp [b12_1, h1', hk, hg, f, hgl]
          exact hN _ ⟨⟨_, rfl⟩, by rw [he, Nat.zero_add]⟩
        | false =>
          by_cases h2 : l = "again" ∧ 0 < k ∧ k + 1 = ls.length
          · rw [if_pos (.inr h2)] at he
            obtain ⟨rfl, h3, h4⟩ := h2
            have h5 : ¬ (k = 0) := by omega
            have h6 : ¬ ((k : Int) < (ls.length : Int) - 1) := by omega
            simp [b12_1, h1', hk, hg, f, hgl, h5, h6]
            exact hN _ ⟨⟨_, rfl⟩, by rw [he, Nat.zero_add]⟩
          · rw [if_neg (by rw [hgl]; simpa using h2)] at he
            have h7 : ¬ l = Str.ofString "again" ∨ (k : Int) = 0 ∨ (k : Int) < (ls.length : Int) - 1 := by
              by_cases q1 : l = Str.ofString "again"
              · by_cases q2 : k = 0
                · exact .inr (.inl (by omega))
                · exact .inr (.inr (by have : ¬ (k + 1 = ls.length) := fun z => h2 ⟨q1, by omega, z⟩; omega))
              · exact .inl q1
            have e : Wp (evalSs (semN P (n + 2)) false b12_1 [some (.str x), some (.lst true (ls.map D.str)), some (.int k)]) N Q' = Q' (.rt (.int (k + 1)), [some (.str x), some (.lst true (ls.map D.str)), some (.int k)]) := by
              by_cases q1 : l = Str.ofString "again"
              · subst q1
                by_cases q2 : k = 0
                · subst q2
                  simp [b12_1, hk, hg, f, hgl]
                · have q2' : ¬ (k : Int) = 0 := by omega
                  have q3 : (k : Int) < (ls.length : Int) - 1 := (h7.resolve_left (fun z => z rfl)).resolve_left q2'
                  simp [b12_1, h1', hk, hg, f, hgl, q2, q3]
              · simp [b12_1, h1', hk, hg, f, hgl, q1]
            show Wp (evalSs (semN P (n + 2)) false b12_1 [some (.str x), some (.lst true (ls.map D.str)), some (.int k)]) N Q'
            rw [e]
            exact hQ _ (by simp [he])
    · rintro ρ ⟨⟨t, rfl⟩, he⟩
      refine ⟨rfl, ?_⟩
      rw [Nat.zero_add, List.length_map, List.length_range, List.drop_length, fauF] at he
      simp [he]
  obtain ⟨r, hr, hq⟩ := lp
  have e : evalSs (semN P (n + 2)) false b12.body ([.str x].map some ++ List.replicate (b12.n - b12.ps) none) = sq (some r) (evalSs (semN P (n + 2)) false [Sx.ret (.int 0)]) := by
    simp [b12, nl_len, hx2, hl, hz, hr]
  rw [e, hq]
/-! ### rules -/
abbrev lstS (ws : List Str) : D := .lst false (ws.map D.str)
abbrev tupS (ws : List Str) : D := .tup (ws.map D.str)
def steps (wss : List (List Str)) : D := .tup (wss.map tupS)
def rule (wss : List (List Str)) : D := .ins true 7 [steps wss]
theorem noF_strs {wss : List (List Str)} : (steps wss).noF = true := by
  unfold steps; rw [noF_tup]
  induction wss with
  | nil => simp
  | cons w ws ih => simp [ih]
theorem imm_steps {wss : List (List Str)} : (steps wss).imm = true := by
  unfold steps; rw [imm_tup]
  induction wss with
  | nil => simp
  | cons w ws ih => simp [ih]
theorem new7 {n : Nat} {wss : List (List Str)} (hw : wss.length ≤ 1000000) : (semN P (n + 1)).new false 7 [.lst false (wss.map lstS)] = some (.ret (rule wss)) := by
  rw [new_at (f := 0) (fd := b0) rfl rfl rfl]
  have e : compL [2] (Tg.nm 2) (evalC (semN P n) false []) (evalE (semN P n) false (.bi .tuple [.var 2])) (wss.map lstS) [] [some (.ins true 7 []), some (.lst false (wss.map lstS)), none] = .ok ([] ++ wss.map tupS) [some (.ins true 7 []), some (.lst false (wss.map lstS)), none] :=
    compL_map _ _ (fun ws _ => ⟨_, rfl, by simp⟩) (by simpa using le_slz hw)
  simp [b0, e, fldItem, rule, steps]
theorem new7t {n : Nat} {wss : List (List Str)} (hw : wss.length ≤ 1000000) : (semN P (n + 1)).new false 7 [.tup (wss.map tupS)] = some (.ret (rule wss)) := by
  rw [new_at (f := 0) (fd := b0) rfl rfl rfl]
  have e : compL [2] (Tg.nm 2) (evalC (semN P n) false []) (evalE (semN P n) false (.bi .tuple [.var 2])) (wss.map tupS) [] [some (.ins true 7 []), some (.tup (wss.map tupS)), none] = .ok ([] ++ wss.map tupS) [some (.ins true 7 []), some (.tup (wss.map tupS)), none] :=
    compL_map _ _ (fun ws _ => ⟨_, rfl, by simp⟩) (by simpa using le_slz hw)
  simp [b0, e, fldItem, rule, steps]
theorem enum_get {α : Type} {f : α → D} {ss : List α} {k : Nat} {x : D} (h : ((ss.map f).zipIdx.map fun (p : D × Nat) => D.tup [.int p.2, p.1])[k]? = some x) : ∃ (hk : k < ss.length), x = .tup [.int k, f ss[k]] := by
  obtain ⟨hk, rfl⟩ := List.getElem?_eq_some_iff.mp h
  simp at hk
  exact ⟨hk, by simp⟩
def wordsL (ls : List Str) : List (List Str) := ls.map fun l => Txt.split l " "
theorem f2 {n : Nat} {x : Str} {ls : List Str} (hx : x.length ≤ 900000) (hl : Txt.split x "\n" = ls) (hs : ∀ l ∈ ls, l.length ≤ 9000) :
    (semN P (n + 2)).fn false 2 [.str x] = some (if fau ls = 0 then .ret (rule (wordsL ls)) else .exc 4 [.int (fau ls)]) := by
  rw [fn_at (fd := b2) rfl rfl]
  have hx2 : x.length ≤ 1000000 := by omega
  have hc := split_cnt (x := x) (s := "\n")
  rw [hl] at hc
  have hz : Sm ls.length := sm_of (by omega)
  have hkp : keepS (.tp [3, 4]) b2_1 1 = true := by decide
  have hlen : (wordsL ls).length ≤ 1000000 := by unfold wordsL; rw [List.length_map]; omega
  have lp : ∃ r, forL (live 1) (Tg.tp [3, 4]) (evalSs (semN P (n + 1)) false b2_1) ((ls.map D.str).zipIdx.map fun (p : D × Nat) => D.tup [.int p.2, p.1]) [some (.str x), some (.lst true (ls.map D.str)), some (.lst true []), none, none, none, none] = some r ∧ outOf (sq (some r) (evalSs (semN P (n + 1)) false [Sx.ret (.new 7 [.var 2])])) = some (if fau ls = 0 then .ret (rule (wordsL ls)) else .exc 4 [.int (fau ls)]) := by
    refine forL_inv (fun k ρ => (∃ t u v w : Option D, ρ = [some (.str x), some (.lst true (ls.map D.str)), some (.lst true ((wordsL (ls.take k)).map lstS)), t, u, v, w]) ∧ fau ls = fauF ls.length k (ls.drop k)) _ (n := 0) ?_ ?_ ⟨⟨none, none, none, none, rfl⟩, rfl⟩
    · rintro k d ρ hd ⟨⟨t, u, v, w, rfl⟩, he⟩
      obtain ⟨hk, rfl⟩ := enum_get hd
      rw [Nat.zero_add] at he ⊢
      have hm := hs _ (List.getElem_mem hk)
      have hg0 := List.getElem?_eq_getElem hk
      generalize hg : ls[k] = l at hm hg0
      have hws := split_cnt (x := l) (s := " ")
      refine ⟨rfl, _, rfl, fun N Q' hN hQ => ?_⟩
      rw [drop_get hg0, fauF] at he
      have f := f1 (n := n) (o := false) (Txt.split l " ") (by omega)
      have htk : wordsL (ls.take (k + 1)) = wordsL (ls.take k) ++ [Txt.split l " "] := by
        rw [List.take_add_one, hg0]; simp [wordsL]
      have hln : (wordsL (ls.take k)).length ≤ 1000000 := by
        unfold wordsL; rw [List.length_map, List.length_take]; omega
      have hm2 : l.length ≤ 1000000 := by omega
      have hE : ∀ a b : Option D, evalE (semN P (n + 1)) false (.bop true [.cmp .eq (.var 4) (.str "again"), .cmp .gt (.var 3) (.int 0), .cmp .eq (.var 3) (.bin .sub (.bi .len [.var 1]) (.int 1))])
          [some (.str x), some (.lst true (ls.map D.str)), some (.lst true ((wordsL (ls.take k)).map lstS)), some (.int k), some (.str l), a, b] =
          .ok (.val (.bl (decide (l = "again" ∧ 0 < k ∧ k + 1 = ls.length)))) [some (.str x), some (.lst true (ls.map D.str)), some (.lst true ((wordsL (ls.take k)).map lstS)), some (.int k), some (.str l), a, b] := by
        intro a b
        have q : ((k : Int) = (ls.length : Int) - 1) = (k + 1 = ls.length) := by apply propext; omega
        have q2 : (0 < (k : Int)) = (0 < k) := by apply propext; omega
        by_cases h1 : l = Str.ofString "again" <;> by_cases h2 : 0 < k <;> by_cases h3 : k + 1 = ls.length <;> simp [h1, q, q2, h2, h3]
      cases hb : decide (l = Str.ofString "again" ∧ 0 < k ∧ k + 1 = ls.length) <;> rw [hb] at hE
      · have hb := of_decide_eq_false hb
        by_cases h1 : k = 12
        · rw [if_pos h1] at he
          have he2 : ¬ fau ls = 0 := by omega
          have h1' : decide ((k : Int) = 12) = true := by simp; omega
          simp [b2_1, hm2, sp_len, hg, f, ↓hE, h1']
          refine hQ _ ?_
          simp [he, h1]
        · rw [if_neg h1] at he
          have h1' : ¬ ((k : Int) = 12) := by omega
          cases hgl : good (Txt.split l " ") with
          | true =>
            rw [if_pos (.inl hgl)] at he
            simp [b2_1, hm2, sp_len, hg, f, ↓hE, h1', hgl, hln]
            exact hN _ ⟨⟨_, _, _, _, by rw [htk, List.map_append] <;> rfl⟩, he⟩
          | false =>
            rw [if_neg (fun z => z.elim (fun z => by rw [goodL, hgl] at z; cases z) hb)] at he
            have he2 : ¬ fau ls = 0 := by omega
            simp [b2_1, hm2, sp_len, hg, f, ↓hE, h1', hgl, hln]
            refine hQ _ ?_
            simp [he]
      · have hb := of_decide_eq_true hb
        by_cases h1 : k = 12
        · rw [if_pos h1] at he
          have he2 : ¬ fau ls = 0 := by omega
          have h1' : decide ((k : Int) = 12) = true := by simp; omega
          simp [b2_1, hm2, sp_len, hg, f, ↓hE, h1']
          refine hQ _ ?_
          simp [he, h1]
        · rw [if_neg h1, if_pos (.inr hb)] at he
          have h1' : ¬ ((k : Int) = 12) := by omega
          simp [b2_1, hm2, sp_len, hg, f, ↓hE, h1', hln]
          exact hN _ ⟨⟨_, _, _, _, by rw [htk, List.map_append] <;> rfl⟩, he⟩
    · rintro ρ ⟨⟨t, u, v, w, rfl⟩, he⟩
      refine ⟨rfl, ?_⟩
      simp at he
      have e0 : fau ls = 0 := by rw [he, fauF]
      have hlen2 : (List.map D.str ls).length = ls.length := List.length_map _
      have := new7 (n := n) hlen
      simp [e0, this]
  obtain ⟨r, hr, hq⟩ := lp
  have e : evalSs (semN P (n + 1)) false b2.body ([.str x].map some ++ List.replicate (b2.n - b2.ps) none) = sq (some r) (evalSs (semN P (n + 1)) false [Sx.ret (.new 7 [.var 2])]) := by
    simp [b2, nl_len, hx2, hl, hz, hkp, -live_def]
    simp [hr]
  rw [e, hq]
theorem f16 {n : Nat} {x : Str} {ls : List Str} (hx : x.length ≤ 900000) (hl : Txt.split x "\n" = ls) (hs : ∀ l ∈ ls, l.length ≤ 9000) :
    (semN P (n + 3)).fn false 16 [.str x] = some (.ret (.int (fau ls))) := by
  rw [fn_at (fd := b16) rfl rfl]
  have f := f2 (n := n) hx hl hs
  by_cases e0 : fau ls = 0
  · rw [if_pos e0] at f
    simp [b16, f, e0]
  · rw [if_neg e0] at f
    simp [b16, f, f4]
theorem f3 {n : Nat} {ls : List Str} (hn : ls.length ≤ 900) (hs : ∀ l ∈ ls, l.length ≤ 9000) :
    (semN P (n + 1)).fn false 3 [.ins false 7 [steps (wordsL ls)]] = some (.ret (.str (Txt.join "\n" ls))) := by
  rw [fn_at (fd := b3) rfl rfl]
  have e : compL [1] (Tg.nm 1) (evalC (semN P n) false []) (evalE (semN P n) false (.bm .join (.str " ") [.var 1])) (ls.map fun l => tupS (Txt.split l " ")) [] [some (.ins false 7 [steps (wordsL ls)]), none] = .ok ([] ++ ls.map D.str) [some (.ins false 7 [steps (wordsL ls)]), none] := by
    refine compL_map _ _ (fun l hl => ⟨_, rfl, ?_⟩) (by rw [slz]; simp; omega)
    have w : ((Txt.split l " ").map Str.length).sum + (Txt.split l " ").length ≤ l.length + 1 := PyProof.Rows.split_weight l (Str.ofString " ") (by rw [sp_len]; exact Nat.le_refl 1)
    have hb : ((Txt.split l " ").map Str.length).sum + (Txt.split l " ").length * (Str.ofString " ").length ≤ 16777216 := by
      have := hs l hl
      rw [sp_len]; omega
    have j := bm_joint hb
    rw [join_split] at j
    simp [j]
  have hb : (ls.map Str.length).sum + ls.length * (Str.ofString "\n").length ≤ 16777216 := by
    have h1 := sum_len hs
    have h2 : ls.length * 9000 ≤ 900 * 9000 := Nat.mul_le_mul_right _ hn
    rw [nl_len]; omega
  have j := bm_join (o := true) hb
  have e2 : List.map tupS (wordsL ls) = ls.map fun l => tupS (Txt.split l " ") := by simp [wordsL]
  simp [b3, steps, e2] at e ⊢
  simp [e, j]
/-! ### _law_same -/
theorem f7s {n : Nat} {x : Str} : (semN P (n + 1)).fn false 7 [.str x, .str x] = some (.ret (.bl true)) := by
  rw [fn_at (fd := b7) rfl rfl]
  simp [b7]
theorem f7t {n : Nat} {xs : List D} (hn : xs.length ≤ 1000000) (h : ∀ x ∈ xs, x.frz = x ∧ (semN P n).fn false 7 [x, x] = some (.ret (.bl true))) : (semN P (n + 1)).fn false 7 [.tup xs, .tup xs] = some (.ret (.bl true)) := by
  rw [fn_at (fd := b7) rfl rfl]
  have hz : Sm xs.length := sm_of (by omega)
  have lp : ∃ r, forL (fun _ => true) (Tg.nm 2) (evalSs (semN P n) false b7_1) ((List.range xs.length).map fun (k : Nat) => D.int k) [some (.tup xs), some (.tup xs), none] = some r ∧ ∃ t, r = (.nx, [some (.tup xs), some (.tup xs), t]) := by
    refine forL_inv (fun k ρ => ∃ t : Option D, ρ = [some (.tup xs), some (.tup xs), t]) _ (n := 0) ?_ ?_ ⟨none, rfl⟩
    · rintro k d ρ hd ⟨t, rfl⟩
      obtain ⟨hk, rfl⟩ := range_get hd
      obtain ⟨h1, h2⟩ := h _ (List.getElem_mem hk)
      generalize hg : xs[k] = x at h1 h2
      refine ⟨rfl, _, rfl, fun N Q' hN hQ => ?_⟩
      simp [b7_1, hk, hg, h1, h2]
      exact hN _ ⟨_, rfl⟩
    · rintro ρ ⟨t, rfl⟩
      exact ⟨rfl, t, rfl⟩
  obtain ⟨r, hr, t, rfl⟩ := lp
  simp [b7, hz, hr]
theorem f7ss {n : Nat} {ws : List Str} (hn : ws.length ≤ 1000000) : (semN P (n + 2)).fn false 7 [tupS ws, tupS ws] = some (.ret (.bl true)) :=
  f7t (by simpa using hn) fun x hx => by
    obtain ⟨w, _, rfl⟩ := List.mem_map.mp hx
    exact ⟨by simp, f7s⟩
theorem f7st {n : Nat} {wss : List (List Str)} (hn : wss.length ≤ 1000000) (hw : ∀ ws ∈ wss, ws.length ≤ 1000000) : (semN P (n + 3)).fn false 7 [steps wss, steps wss] = some (.ret (.bl true)) :=
  f7t (by simpa using hn) fun x hx => by
    obtain ⟨w, hm, rfl⟩ := List.mem_map.mp hx
    exact ⟨by simp, f7ss (hw w hm)⟩
theorem pick (ss : List Str) {i : Int} (h0 : 0 ≤ i) (h1 : i < ss.length) : ∃ w ∈ ss, (ixD ss.length i).bind (fun j => (ss.map D.str)[j]?) = some (.str w) := by
  obtain ⟨k, rfl⟩ := Int.eq_ofNat_of_zero_le h0
  have hk : k < ss.length := by omega
  exact ⟨ss[k], List.getElem_mem hk, by rw [ix_nat hk]; simp [hk]⟩
theorem pick_int (ss : List Int) {i : Int} (h0 : 0 ≤ i) (h1 : i < ss.length) : ∃ w ∈ ss, (ixD ss.length i).bind (fun j => (ss.map D.int)[j]?) = some (.int w) := by
  obtain ⟨k, rfl⟩ := Int.eq_ofNat_of_zero_le h0
  have hk : k < ss.length := by omega
  exact ⟨ss[k], List.getElem_mem hk, by rw [ix_nat hk]; simp [hk]⟩
theorem f10 {n : Nat} {a b c d : Int} (h : Dig [a, b, c, d] [2, 9, 2, 5]) : ∃ ws : List Str, (semN P (n + 2)).fn false 10 [.lst false [.int a, .int b, .int c, .int d]] = some (.ret (.lst true (ws.map D.str))) ∧ good ws = true ∧ ws ≠ [] ∧ (∀ w ∈ ws, Ln 6 w ∧ 32 ∉ TL.tl w) ∧ ws.length = 4 := by
  obtain ⟨⟨a1, a2⟩, ⟨b1, b2⟩, ⟨c1, c2⟩, ⟨d1, d2⟩, -⟩ := h
  obtain ⟨w1, m1, e1⟩ := pick ["keep", "drop"] a1 a2
  obtain ⟨w2, m2, e2⟩ := pick ["1", "2", "3", "4", "5", "6", "7", "8", "all"] b1 b2
  obtain ⟨w3, m3, e3⟩ := pick ["most", "least"] c1 c2
  obtain ⟨w4, m4, e4⟩ := pick ["firsts", "lasts", "points", "wins", "margin"] d1 d2
  refine ⟨[w1, w2, w3, w4], ?_, ?_, by simp, ?_, rfl⟩
  · rw [fn_at (fd := b10) rfl rfl]
    simp only [List.length_cons, List.length_nil, List.map_cons, List.map_nil, Nat.reduceAdd] at e1 e2 e3 e4
    simp [b10, f8, f9, e1, e2, e3, e4]
  · have q1 : isAct w1 = true := (show ∀ w ∈ ([("keep" : Str), "drop"]), isAct w = true by decide +kernel) _ m1
    have q2 : isNum w2 = true := (show ∀ w ∈ ([("1" : Str), "2", "3", "4", "5", "6", "7", "8", "all"]), isNum w = true by decide +kernel) _ m2
    have q3 : isSide w3 = true := (show ∀ w ∈ ([("most" : Str), "least"]), isSide w = true by decide +kernel) _ m3
    have q4 : isMeas w4 = true := (show ∀ w ∈ ([("firsts" : Str), "lasts", "points", "wins", "margin"]), isMeas w = true by decide +kernel) _ m4
    simp [good, q1, q2, q3, q4]
  · have q1 := (show ∀ w ∈ ([("keep" : Str), "drop"]), (w.length ≤ 6 ∧ 10 ∉ TL.tl w) ∧ 32 ∉ TL.tl w by decide +kernel) _ m1
    have q2 := (show ∀ w ∈ ([("1" : Str), "2", "3", "4", "5", "6", "7", "8", "all"]), (w.length ≤ 6 ∧ 10 ∉ TL.tl w) ∧ 32 ∉ TL.tl w by decide +kernel) _ m2
    have q3 := (show ∀ w ∈ ([("most" : Str), "least"]), (w.length ≤ 6 ∧ 10 ∉ TL.tl w) ∧ 32 ∉ TL.tl w by decide +kernel) _ m3
    have q4 := (show ∀ w ∈ ([("firsts" : Str), "lasts", "points", "wins", "margin"]), (w.length ≤ 6 ∧ 10 ∉ TL.tl w) ∧ 32 ∉ TL.tl w by decide +kernel) _ m4
    intro w hw
    simp only [List.mem_cons, List.not_mem_nil, or_false] at hw
    rcases hw with rfl | rfl | rfl | rfl
    · exact q1
    · exact q2
    · exact q3
    · exact q4
/-! ### faults put in -/
def near0 : List Str := ["Keep", "keeps", "kee", "hold", "DROP", "drops", "again", "", "most", "1", "keep.", "drop\t"]
def near1 : List Str := ["0", "9", "01", "10", "-1", "+1", "1.", "", "All", "alls", "al", "one"]
def near2 : List Str := ["Most", "mosts", "more", "leas", "LEAST", "", "lest", "firsts", "all", "fewest", "most,", "leasts"]
def near3 : List Str := ["first", "firstss", "Lasts", "last", "point", "Points", "win", "winss", "margins", "", "MARGIN", "most"]
theorem f13 {n : Nat} {p d : Int} (p1 : 0 ≤ p) (p2 : p < 4) (d1 : 0 ≤ d) (d2 : d < 12) : ∃ w : Str, (semN P (n + 1)).fn false 13 [.int p, .int d] = some (.ret (.str w)) ∧ Ln 8 w := by
  rw [fn_at (fd := b13) rfl rfl]
  have hp : p = 0 ∨ p = 1 ∨ p = 2 ∨ p = 3 := by omega
  obtain ⟨w0, m0, e0⟩ := pick near0 d1 d2
  obtain ⟨w1, m1, e1⟩ := pick near1 d1 d2
  obtain ⟨w2, m2, e2⟩ := pick near2 d1 d2
  obtain ⟨w3, m3, e3⟩ := pick near3 d1 d2
  simp only [near0, near1, near2, near3, List.length_cons, List.length_nil, List.map_cons, List.map_nil, Nat.reduceAdd] at e0 e1 e2 e3
  rcases hp with rfl | rfl | rfl | rfl
  · exact ⟨w0, by simp [b13, e0], (show ∀ w ∈ near0, w.length ≤ 8 ∧ 10 ∉ TL.tl w by decide +kernel) _ m0⟩
  · exact ⟨w1, by simp [b13, e1], (show ∀ w ∈ near1, w.length ≤ 8 ∧ 10 ∉ TL.tl w by decide +kernel) _ m1⟩
  · exact ⟨w2, by simp [b13, e2], (show ∀ w ∈ near2, w.length ≤ 8 ∧ 10 ∉ TL.tl w by decide +kernel) _ m2⟩
  · exact ⟨w3, by simp [b13, e3], (show ∀ w ∈ near3, w.length ≤ 8 ∧ 10 ∉ TL.tl w by decide +kernel) _ m3⟩
theorem cutD_map {α β : Type} (f : α → β) (xs : List α) (lo hi : Option Int) : cutD (xs.map f) lo hi = (cutD xs lo hi).map f := by simp [cutD]
theorem cutD_mem {α : Type} {xs : List α} {lo hi : Option Int} {x : α} (h : x ∈ cutD xs lo hi) : x ∈ xs := List.mem_of_mem_drop (List.mem_of_mem_take h)
theorem cutD_len {α : Type} {xs : List α} {lo hi : Option Int} : (cutD xs lo hi).length ≤ xs.length := by
  unfold cutD; rw [List.length_take, List.length_drop]; omega
/-- words -/
def Wd (B N : Nat) (ys : List Str) : Prop := ys.length ≤ N ∧ ∀ y ∈ ys, Ln B y
theorem Wd.cut {B N : Nat} {ys : List Str} (h : Wd B N ys) (lo hi : Option Int) : Wd B N (cutD ys lo hi) := ⟨Nat.le_trans cutD_len h.1, fun y hy => h.2 y (cutD_mem hy)⟩
theorem Wd.app {B N M : Nat} {xs ys : List Str} (h : Wd B N xs) (g : Wd B M ys) : Wd B (N + M) (xs ++ ys) := ⟨by rw [List.length_append]; have := h.1; have := g.1; omega, fun y hy => (List.mem_append.mp hy).elim (h.2 y) (g.2 y)⟩
theorem Wd.one {B : Nat} {x : Str} (h : Ln B x) : Wd B 1 [x] := ⟨Nat.le_refl 1, fun y hy => by rcases List.mem_singleton.mp hy with rfl; exact h⟩
theorem Wd.join {B N : Nat} {ys : List Str} (h : Wd B N ys) : Ln (N * (B + 1)) (Txt.join " " ys) := Ln.join Ln.sp h.2 h.1
theorem Wd.fits {B N : Nat} {ys : List Str} (h : Wd B N ys) (hb : B ≤ 100000) (hn : N ≤ 150) (s : Str) (hs : s.length ≤ 1) : (ys.map Str.length).sum + ys.length * s.length ≤ 16777216 := by
  have h1 := sum_len fun y hy => (h.2 y hy).1
  have h2 : ys.length * B ≤ 150 * 100000 := Nat.mul_le_mul (Nat.le_trans h.1 hn) hb
  have h3 : ys.length * s.length ≤ 150 * 1 := Nat.mul_le_mul (Nat.le_trans h.1 hn) hs
  omega
theorem join_go {ys : List Str} {B N : Nat} {o : Bool} (h : Wd B N ys) (hb : B ≤ 100000) (hn : N ≤ 150) : bmD .join (.str " ") [.lst o (ys.map D.str)] = some (.str (Txt.join " " ys)) :=
  bm_join (h.fits hb hn _ (by rw [sp_len]; exact Nat.le_refl 1))
theorem f14 {n B : Nat} {ws : List Str} {k p d : Int} {rest : List D} (hw : Wd B 4 ws) (hl : ws.length = 4) (hb : B ≤ 10000) (hb2 : 8 ≤ B) (k1 : 0 ≤ k) (k2 : k < 12) (p1 : 0 ≤ p) (p2 : p < 4) (d1 : 0 ≤ d) (d2 : d < 12) :
    ∃ w : Str, (semN P (n + 2)).fn false 14 [.lst false (ws.map D.str), .lst false (.int k :: .int p :: .int d :: rest)] = some (.ret (.str w)) ∧ Ln (9 * (B + 1) + 20) w := by
  rw [fn_at (fd := b14) rfl rfl]
  obtain ⟨w13, e13, l13⟩ := f13 (n := n) p1 p2 d1 d2
  have h13 := Wd.one (l13.mono hb2)
  have hp : p = 0 ∨ p = 1 ∨ p = 2 ∨ p = 3 := by omega
  have ha := hw.cut none (some p)
  have hb' := hw.cut (some (p + 1)) none
  have hc := hw.cut (some p) none
  have hd := hw.cut none (some (p + 1))
  have he := hw.cut none (some 2)
  have hf := hw.cut (some 2) none
  have la := ha.1; have lb := hb'.1; have lc := hc.1; have ld := hd.1; have le := he.1; have lf := hf.1
  have hk : k = 4 ∨ k = 5 ∨ k = 6 ∨ k = 7 ∨ k = 8 ∨ k = 9 ∨ k = 10 ∨ k = 11 ∨ k < 4 := by omega
  have s1 : (cutD ws none (some p)).length + 1 ≤ 1000000 := by omega
  have s2 : (cutD ws none (some p)).length + 1 + (cutD ws (some (p + 1)) none).length ≤ 1000000 := by omega
  have s3 : (cutD ws none (some p)).length + (cutD ws (some (p + 1)) none).length ≤ 1000000 := by omega
  have s4 : (cutD ws none (some p)).length + 1 + (cutD ws (some p) none).length ≤ 1000000 := by omega
  have jw := join_go (o := false) hw (by omega) (by omega)
  have jd := join_go (o := true) hd (by omega) (by omega)
  have jb := join_go (o := true) hb' (by omega) (by omega)
  have je := join_go (o := true) he (by omega) (by omega)
  have jf := join_go (o := true) hf (by omega) (by omega)
  have Lw := hw.join; have Ld := hd.join; have Lb := hb'.join; have Le := he.join; have Lf := hf.join
  have L1 : Ln 1 (Str.ofString " ") := Ln.sp
  have L2 : Ln 2 (Str.ofString "  ") := ⟨by decide +kernel, by decide +kernel⟩
  have sz : ∀ {x y : Str} {a b : Nat}, Ln a x → Ln b y → a + b ≤ 1000000 → x.length + y.length ≤ sizeLine := fun h g c => by have := h.1; have := g.1; rw [slz]; omega
  rcases hk with rfl | rfl | rfl | rfl | rfl | rfl | rfl | rfl | c
  · have W := ha.app hb'
    refine ⟨_, ?_, W.join.mono (by omega)⟩
    have j := join_go (o := true) W (by omega) (by omega)
    simp [cutD_map] at j
    simp [b14, cutD_map, j, s3]
  · obtain ⟨q, rfl⟩ := Int.eq_ofNat_of_zero_le p1
    have hq : q < ws.length := by omega
    have W := (ha.app (Wd.one (hw.2 _ (List.getElem_mem hq)))).app hc
    refine ⟨_, ?_, W.join.mono (by omega)⟩
    have j := join_go (o := true) W (by omega) (by omega)
    simp [cutD_map] at j
    simp [b14, cutD_map, j, s1, s4, hq]
  · refine ⟨_, ?_, (Lw.app L1).mono (by omega)⟩
    simp [b14, jw, sz Lw L1 (by omega)]
  · refine ⟨_, ?_, (L1.app Lw).mono (by omega)⟩
    simp [b14, jw, sz L1 Lw (by omega)]
  · refine ⟨_, ?_, ((Ld.app L2).app Lb).mono (by omega)⟩
    simp [b14, cutD_map, jd, jb, sz Ld L2 (by omega), sz (Ld.app L2) Lb (by omega)]
  · obtain ⟨w, m, e⟩ := pick ["\t", "_", ",", ":"] p1 p2
    simp only [List.length_cons, List.length_nil, List.map_cons, List.map_nil, Nat.reduceAdd] at e
    have L3 : Ln 1 w := (show ∀ w ∈ ([("\t" : Str), "_", ",", ":"]), w.length ≤ 1 ∧ 10 ∉ TL.tl w by decide +kernel) _ m
    refine ⟨_, ?_, ((Le.app L3).app Lf).mono (by omega)⟩
    simp [b14, cutD_map, je, jf, e, sz Le L3 (by omega), sz (Le.app L3) Lf (by omega)]
  · obtain ⟨w, m, e⟩ := pick ["", " ", "again ", "Again"] p1 p2
    simp only [List.length_cons, List.length_nil, List.map_cons, List.map_nil, Nat.reduceAdd] at e
    have L3 : Ln 20 w := (show ∀ w ∈ ([("" : Str), " ", "again ", "Again"]), w.length ≤ 20 ∧ 10 ∉ TL.tl w by decide +kernel) _ m
    exact ⟨w, by simp [b14, e], L3.mono (by omega)⟩
  · obtain ⟨w, m, e⟩ := pick ["again", "again again", " again", "keep"] p1 p2
    simp only [List.length_cons, List.length_nil, List.map_cons, List.map_nil, Nat.reduceAdd] at e
    have L3 : Ln 20 w := (show ∀ w ∈ ([("again" : Str), "again again", " again", "keep"]), w.length ≤ 20 ∧ 10 ∉ TL.tl w by decide +kernel) _ m
    exact ⟨w, by simp [b14, e], L3.mono (by omega)⟩
  · have W := (ha.app h13).app hb'
    refine ⟨_, ?_, W.join.mono (by omega)⟩
    have j := join_go (o := true) W (by omega) (by omega)
    simp [cutD_map] at j
    simp [b14, c, e13, cutD_map, j, s1, s2]
theorem Wd.mono {B C N M : Nat} {ys : List Str} (h : Wd B N ys) (hb : B ≤ C) (hn : N ≤ M) : Wd C M ys := ⟨Nat.le_trans h.1 hn, fun y hy => (h.2 y hy).mono hb⟩
theorem f15 {n B N : Nat} {ls : List Str} {k a c d e : Int} {rest : List D} (hne : ls ≠ []) (hw : Wd B N ls) (hb : B ≤ 2000) (hb2 : 8 ≤ B) (hN : N ≤ 60) (h : Dig [k, a, c, d, e] [16, 840, 12, 4, 12]) (hrest : D.frzL rest = rest) :
    ∃ out : List Str, (semN P (n + 3)).fn false 15 [.lst false (ls.map D.str), .lst false (.int k :: .int a :: .int c :: .int d :: .int e :: rest)] = some (.ret (.lst true (out.map D.str))) ∧ out ≠ [] ∧ Wd (9 * (B + 1) + 20) (2 * N + 30) out := by
  obtain ⟨⟨k1, k2⟩, ⟨a1, a2⟩, ⟨c1, c2⟩, ⟨d1, d2⟩, ⟨e1, e2⟩, -⟩ := h
  rw [fn_at (fd := b15) rfl rfl]
  have hp : 0 < ls.length := List.length_pos_iff.mpr hne
  have hl := hw.1
  -- the place
  have m1 := Int.emod_nonneg a (show (ls.length : Int) ≠ 0 by omega)
  have m2 := Int.emod_lt_of_pos a (show (0 : Int) < ls.length by omega)
  obtain ⟨q, hq⟩ := Int.eq_ofNat_of_zero_le m1
  rw [hq] at m2
  have hq2 : q < ls.length := by omega
  have hmod : binI .mod a (ls.length : Int) = some (q : Int) := by rw [binI_mod (by omega), hq]
  have hx := hw.2 _ (List.getElem_mem hq2)
  have hx1 : ls[q].length ≤ 1000000 := by have := hx.1; omega
  have hcnt := split_cnt (x := ls[q]) (s := " ")
  -- its words
  have hW : ∃ ws : List Str, ws.length = 4 ∧ Wd B 4 ws ∧ (if ((Txt.split ls[q] " ").length : Int) = 4 then Txt.split ls[q] " " else ["keep", "1", "most", "wins"]) = ws := by
    by_cases h4 : ((Txt.split ls[q] " ").length : Int) = 4
    · exact ⟨Txt.split ls[q] " ", by omega, ⟨by omega, fun y hy => hx.split hy⟩, by rw [if_pos h4]⟩
    · refine ⟨["keep", "1", "most", "wins"], rfl, ⟨by decide, fun y hy => ?_⟩, by rw [if_neg h4]⟩
      have : ∀ w ∈ ([("keep" : Str), "1", "most", "wins"]), w.length ≤ 8 ∧ 10 ∉ TL.tl w := by decide +kernel
      exact Ln.mono (this y hy) hb2
  obtain ⟨ws, hws, hWd, hif⟩ := hW
  obtain ⟨sp, esp, lsp⟩ := f14 (n := n) (rest := rest) hWd hws (by omega) hb2 c1 c2 d1 d2 e1 e2
  -- the head of the def
  have head : ∀ R : List Sx, evalSs (semN P (n + 2)) false (.set 2 (.idx (.var 1) (.int 0)) :: .set 3 (.bin .mod (.bi .int [.idx (.var 1) (.int 1)]) (.bi .len [.var 0])) :: .set 4 (.bm .split (.idx (.var 0) (.var 3)) [.str " "]) :: .ite (.e (.cmp .ne (.bi .len [.var 4]) (.int 4))) [.set 4 (.lst [.str "keep", .str "1", .str "most", .str "wins"])] [] :: R)
      [some (.lst false (ls.map D.str)), some (.lst false (.int k :: .int a :: .int c :: .int d :: .int e :: rest)), none, none, none, none, none] =
      evalSs (semN P (n + 2)) false R [some (.lst false (ls.map D.str)), some (.lst false (.int k :: .int a :: .int c :: .int d :: .int e :: rest)), some (.int k), some (.int q), some (.lst true (ws.map D.str)), none, none] := by
    intro R
    by_cases h4 : ((Txt.split ls[q] " ").length : Int) = 4
    · rw [if_pos h4] at hif
      have h5 : (ws.length : Int) = 4 := by omega
      simp [hmod, hq2, hx1, sp_len, h4, hif, h5]
    · rw [if_neg h4] at hif
      simp [hmod, hq2, hx1, sp_len, h4, ← hif]
  have ha := hw.cut none (some (q : Int))
  have hb' := hw.cut (some ((q : Int) + 1)) none
  have hc := hw.cut (some (q : Int)) none
  have la := ha.1; have lb := hb'.1; have lc := hc.1
  have hk : k < 8 ∨ k = 8 ∨ k = 9 ∨ k = 10 ∨ k = 11 ∨ k = 12 ∨ 13 ≤ k := by omega
  have s1 : (cutD ls none (some (q : Int))).length + 1 ≤ 1000000 := by omega
  have s2 : (cutD ls none (some (q : Int))).length + 1 + (cutD ls (some ((q : Int) + 1)) none).length ≤ 1000000 := by omega
  have s4 : (cutD ls none (some (q : Int))).length + 1 + (cutD ls (some (q : Int)) none).length ≤ 1000000 := by omega
  have s5 : ls.length + 1 ≤ 1000000 := by omega
  have Lag : Ln 8 (Str.ofString "again") := ⟨by decide +kernel, by decide +kernel⟩
  have Lem : Ln 8 (Str.ofString "") := ⟨by decide +kernel, by decide +kernel⟩
  have B1 : B ≤ 9 * (B + 1) + 20 := by omega
  have B8 : 8 ≤ 9 * (B + 1) + 20 := by omega
  have r2 : ∀ x y : D, D.frzL (cutD (x :: y :: .int c :: .int d :: .int e :: rest) (some 2) none) = .int c :: .int d :: .int e :: rest := by
    intro x y; rw [cutD_drop2]; simp [hrest]
  rcases hk with c0 | rfl | rfl | rfl | rfl | rfl | c0
  · have W := ((ha.mono B1 (Nat.le_refl _)).app (Wd.one lsp)).app (hb'.mono B1 (Nat.le_refl _))
    refine ⟨_, ?_, by simp, W.mono (Nat.le_refl _) (by omega)⟩
    simp [b15, head, c0, r2, esp, cutD_map, s1, s2]
  · refine ⟨_, ?_, by simp, ((ha.mono B1 (Nat.le_refl _)).app (Wd.one (Lag.mono B8))).app (hc.mono B1 (Nat.le_refl _)) |>.mono (Nat.le_refl _) (by omega)⟩
    simp [b15, head, cutD_map, s1, s4]
  · refine ⟨_, ?_, by simp, ((hw.mono B1 (Nat.le_refl _)).app (Wd.one (Lag.mono B8))).mono (Nat.le_refl _) (by omega)⟩
    simp [b15, head, s5]
  · refine ⟨_, ?_, by simp, ((hw.mono B1 (Nat.le_refl _)).app (Wd.one (Lem.mono B8))).mono (Nat.le_refl _) (by omega)⟩
    simp [b15, head, s5]
  · refine ⟨List.replicate (1 + d).toNat "again", ?_, by simp; omega, ⟨by rw [List.length_replicate]; omega, fun y hy => by rw [(List.mem_replicate.mp hy).2]; exact Lag.mono B8⟩⟩
    have z1 : -9000000000000000000 ≤ 1 + d ∧ 1 + d ≤ 9000000000000000000 := by omega
    have z2 : (1 + d).toNat ≤ 1000000 := by omega
    simp [b15, head, z1, z2]
  · refine ⟨_, ?_, by simp, ((ha.mono B1 (Nat.le_refl _)).app (Wd.one (Lem.mono B8))).app (hc.mono B1 (Nat.le_refl _)) |>.mono (Nat.le_refl _) (by omega)⟩
    simp [b15, head, cutD_map, s1, s4]
  · -- a longer row
    have jw := join_go (o := false) hWd (by omega) (by omega)
    have Lj : Ln (9 * (B + 1) + 20) (Txt.join " " ws) := hWd.join.mono (by omega)
    have lp : ∃ r, forL (fun _ => true) (Tg.nm 6) (evalSs (semN P (n + 2)) false b15_1) ((List.range (13 + d).toNat).map fun (k : Nat) => D.int k)
        [some (.lst false (ls.map D.str)), some (.lst false (.int k :: .int a :: .int c :: .int d :: .int e :: rest)), some (.int k), some (.int q), some (.lst true (ws.map D.str)), some (.lst true (ls.map D.str)), none] = some r ∧
        ∃ (lg : List Str) (t : Option D), lg ≠ [] ∧ Wd (9 * (B + 1) + 20) (N + 17) lg ∧ r = (.nx, [some (.lst false (ls.map D.str)), some (.lst false (.int k :: .int a :: .int c :: .int d :: .int e :: rest)), some (.int k), some (.int q), some (.lst true (ws.map D.str)), some (.lst true (lg.map D.str)), t]) := by
      refine forL_inv (fun _ ρ => ∃ (lg : List Str) (t : Option D), lg ≠ [] ∧ Wd (9 * (B + 1) + 20) (N + 17) lg ∧ ρ = [some (.lst false (ls.map D.str)), some (.lst false (.int k :: .int a :: .int c :: .int d :: .int e :: rest)), some (.int k), some (.int q), some (.lst true (ws.map D.str)), some (.lst true (lg.map D.str)), t]) _ (n := 0) ?_ ?_ ⟨ls, none, hne, hw.mono B1 (by omega), rfl⟩
      · rintro j x ρ hx ⟨lg, t, hlg, hWl, rfl⟩
        refine ⟨rfl, _, rfl, fun N' Q' hN' hQ' => ?_⟩
        obtain ⟨hj, rfl⟩ := range_get hx
        by_cases hc3 : (lg.length : Int) < 13 + d
        · have ll := hWl.1
          have v1 := hWl.cut none (some (q : Int)); have v2 := hWl.cut (some (q : Int)) none
          have l1 := v1.1; have l2 := v2.1
          have x1 : (cutD lg none (some (q : Int))).length + 1 ≤ 1000000 := by omega
          have x2 : (cutD lg none (some (q : Int))).length + 1 + (cutD lg (some (q : Int)) none).length ≤ 1000000 := by omega
          simp [b15_1, hc3, cutD_map, jw, x1, x2]
          refine hN' _ ⟨cutD lg none (some (q : Int)) ++ Txt.join " " ws :: cutD lg (some (q : Int)) none, _, by simp, ⟨?_, ?_⟩, by simp; rfl⟩
          · rw [cutD_take, cutD_drop]; simp; omega
          · intro y hy
            simp only [List.mem_append, List.mem_cons] at hy
            rcases hy with hy | rfl | hy
            · exact v1.2 _ hy
            · exact Lj
            · exact v2.2 _ hy
        · simp [b15_1, hc3]
          exact hN' _ ⟨lg, _, hlg, hWl, rfl⟩
      · rintro ρ ⟨lg, t, hlg, hWl, rfl⟩
        exact ⟨rfl, lg, t, hlg, hWl, rfl⟩
    obtain ⟨r, hr, lg, t, hlg, hWl, rfl⟩ := lp
    have n8 : ¬ k < 8 := by omega
    have n9 : ¬ k = 8 := by omega
    have n10 : ¬ k = 9 := by omega
    have n11 : ¬ k = 10 := by omega
    have n12 : ¬ k = 11 := by omega
    have n13 : ¬ k = 12 := by omega
    have hz : -4611686018427387904 ≤ 13 + d ∧ 13 + d < 4611686018427387904 := by omega
    have ht : cutD lg none (some 12) ≠ [] := by
      rw [show (some (12 : Int)) = some ((12 : Nat) : Int) from rfl, cutD_take]
      cases lg with
      | nil => exact absurd rfl hlg
      | cons x xs => simp
    have v := hWl.cut none (some 12)
    have lv := v.1
    have y1 : (cutD lg none (some 12)).length + 1 ≤ 1000000 := by omega
    have hk3 : k = 13 ∨ k = 14 ∨ k = 15 := by omega
    rcases hk3 with rfl | rfl | rfl
    · refine ⟨lg, ?_, hlg, hWl.mono (Nat.le_refl _) (by omega)⟩
      simp [b15, head, hz, hr]
    · refine ⟨_, ?_, ht, v.mono (Nat.le_refl _) (by omega)⟩
      simp [b15, head, hz, hr, cutD_map]
    · refine ⟨_, ?_, by simp, (v.app (Wd.one lsp)).mono (Nat.le_refl _) (by omega)⟩
      simp [b15, head, hz, hr, cutD_map, r2, esp, y1]
/-! ### what is read -/
theorem dep_le {α : Type} {f : α → D} {m : Nat} {l : List α} (h : ∀ a, (f a).dep ≤ m) : D.depL (l.map f) ≤ m := by
  induction l with
  | nil => simp
  | cons a l ih => rw [List.map_cons, depL_cons]; exact Nat.max_le.mpr ⟨h a, ih⟩
theorem py_some {α : Type} {f : α → D} {l : List α} (h : ∀ a, (f a).py.isSome = true) : (D.pyL (l.map f)).isSome = true := by
  induction l with
  | nil => simp
  | cons a l ih =>
    rw [List.map_cons, pyL_cons]
    obtain ⟨x, hx⟩ := Option.isSome_iff_exists.mp (h a)
    obtain ⟨y, hy⟩ := Option.isSome_iff_exists.mp ih
    rw [hx, hy]; rfl
theorem eqv_self_strs {ws : List Str} {o p : Bool} : (D.lst o (ws.map D.str)).eqv (.lst p (ws.map D.str)) = true := by rw [eqv_lst, eqvL_str]; simp
theorem eqvL_self {α : Type} {f g : α → D} {l : List α} (h : ∀ a, (f a).eqv (g a) = true) : D.eqvL (l.map f) (l.map g) = true := by
  induction l with
  | nil => simp
  | cons a l ih => rw [List.map_cons, List.map_cons, eqvL_cons, h, ih]; rfl
abbrev lstT (ws : List Str) : D := .lst true (ws.map D.str)
theorem ne_self {wss : List (List Str)} : cmpD .ne (.lst false (wss.map lstS)) (.lst true (wss.map lstT)) = some false := by
  have h1 : (D.pyL (wss.map lstS)).isSome = true := py_some fun a => by simp
  have h2 : (D.pyL (wss.map lstT)).isSome = true := py_some fun a => by simp
  have h3 : D.depL (wss.map lstS) ≤ 2 := dep_le fun a => by
    rw [dep_lst]; have : D.depL (a.map D.str) ≤ 1 := dep_le fun _ => by simp
    omega
  have h4 : D.eqvL (wss.map lstS) (wss.map lstT) = true := eqvL_self fun a => eqv_self_strs
  unfold cmpD
  simp only [isData_def, py_lst, Option.isSome_map, h1, h2, dep_lst, eqv_lst, h4]
  rw [if_pos (by simp; omega)]; rfl
theorem frz_lstT : ∀ {wss : List (List Str)}, D.frzL (wss.map lstT) = wss.map lstS
  | [] => by simp
  | w :: ws => by simp [frz_lstT (wss := ws)]
theorem sset00 {S : Sem} {a b c d e g : Option D} {w0 : Str} {wt : List Str} {wss wr : List (List Str)} (h : wss = (w0 :: wt) :: wr) : evalS S false (.sset 5 [.int 0, .int 0] (.str "spoilt")) [a, b, c, d, e, some (.lst true (wss.map lstT)), g] =
    some (.nx, [a, b, c, d, e, some (.lst true (lstT ("spoilt" :: wt) :: wr.map lstT)), g]) := by
  subst h
  simp [okL, okAt, getAt, atPath, SL.setItem]
theorem f17 {n B N : Nat} {ls : List Str} (hne : ls ≠ []) (hw : Wd B N ls) (hb : B ≤ 5000) (hN : N ≤ 150) (hf : fau ls = 0) :
    (semN P (n + 4)).fn false 17 [.lst false (ls.map D.str)] = some (.ret (.bl true)) := by
  rw [fn_at (fd := b17) rfl rfl]
  have hl := hw.1
  have hfit := bm_join (o := false) (hw.fits (by omega) (by omega) "\n" (by rw [nl_len]; exact Nat.le_refl 1))
  have hlen : (Txt.join "\n" ls).length ≤ 900000 := by
    have := join_len (s := "\n") fun y hy => (hw.2 y hy).1
    have h2 : ls.length * (B + (Str.ofString "\n").length) ≤ 150 * (5000 + 1) := Nat.mul_le_mul (by omega) (by rw [nl_len]; omega)
    omega
  have hsp : Txt.split (Txt.join "\n" ls) "\n" = ls := split_join_nl hne fun y hy => (hw.2 y hy).2
  have hs9 : ∀ l ∈ ls, l.length ≤ 9000 := fun l hl => by have := (hw.2 l hl).1; omega
  have r2 := f2 (n := n + 1) hlen hsp hs9
  rw [if_pos hf] at r2
  have r3 := f3 (n := n + 2) (ls := ls) (by omega) hs9
  have hlw : (wordsL ls).length ≤ 1000000 := by simp [wordsL]; omega
  have hlw2 : ∀ ws ∈ wordsL ls, ws.length ≤ 1000000 := fun ws hm => by
    obtain ⟨l, hl, rfl⟩ := List.mem_map.mp hm
    have := split_cnt (x := l) (s := " "); have := hs9 l hl; omega
  have r7 := f7st (n := n) hlw hlw2
  have r7s := f7s (n := n + 2) (x := Txt.join "\n" ls)
  have n7 := new7 (n := n + 2) hlw
  have n7t := new7t (n := n + 2) hlw
  have w1 : List.map (fun l => tupS (Txt.split l " ")) ls = (wordsL ls).map tupS := by simp [wordsL]
  have w2 : List.map (fun l => lstT (Txt.split l " ")) ls = (wordsL ls).map lstT := by simp [wordsL]
  have hz : ls.length ≤ sizeLine := by rw [slz]; omega
  have e1 : ∀ a c d e f : Option D, compL [2] (Tg.nm 2) (evalC (semN P (n + 3)) false []) (evalE (semN P (n + 3)) false (.bi .tuple [.bm .split (.var 2) [.str " "]])) (ls.map D.str) [] [some (.lst false (ls.map D.str)), a, none, c, d, e, f] = .ok ([] ++ (wordsL ls).map tupS) [some (.lst false (ls.map D.str)), a, none, c, d, e, f] := by
    intro a c d e f
    rw [← w1]
    refine compL_map _ _ (fun l hl => ⟨_, rfl, ?_⟩) (by simpa using hz)
    have : l.length ≤ 1000000 := by have := hs9 l hl; omega
    simp [this, sp_len]
  have e2 : ∀ a c d e f : Option D, compL [2] (Tg.nm 2) (evalC (semN P (n + 3)) false []) (evalE (semN P (n + 3)) false (.bm .split (.var 2) [.str " "])) (ls.map D.str) [] [some (.lst false (ls.map D.str)), a, none, c, d, e, f] = .ok ([] ++ (wordsL ls).map lstT) [some (.lst false (ls.map D.str)), a, none, c, d, e, f] := by
    intro a c d e f
    rw [← w2]
    refine compL_map _ _ (fun l hl => ⟨_, rfl, ?_⟩) (by simpa using hz)
    have : l.length ≤ 1000000 := by have := hs9 l hl; omega
    simp [this, sp_len]
  have hW : ∃ w0 wt wr, wordsL ls = (w0 :: wt) :: wr := by
    obtain ⟨l0, lt, hl0⟩ := List.exists_cons_of_ne_nil hne
    obtain ⟨w0, wt, hw0⟩ := List.exists_cons_of_ne_nil (split_ne (x := l0) (s := " "))
    exact ⟨w0, wt, wordsL lt, by rw [hl0]; simp [wordsL, hw0]⟩
  obtain ⟨w0, wt, wr, hW⟩ := hW
  have hS := fun a b c d e g => sset00 (S := semN P (n + 3)) (a := a) (b := b) (c := c) (d := d) (e := e) (g := g) hW
  have hwr : wr.length ≤ 999999 := by rw [hW] at hlw; simp at hlw; omega
  simp only [rule, steps] at r2 r3 r7 n7 n7t
  generalize hX : Txt.join "\n" ls = X at *
  simp [b17, hfit, e1, e2, r2, r3, r7, r7s, n7, n7t, ne_self, ↓hS, hwr, frz_lstT]
/-! ### the law -/
theorem fauF_zero {n : Nat} : ∀ {k : Nat} {ls : List Str}, (∀ l ∈ ls, goodL l = true) → k + ls.length ≤ 12 → fauF n k ls = 0
  | _, [], _, _ => rfl
  | k, l :: ls, h, hl => by
    rw [List.length_cons] at hl
    rw [fauF, if_neg (by omega), if_pos (.inl (h l List.mem_cons_self))]
    exact fauF_zero (fun x hx => h x (List.mem_cons_of_mem _ hx)) (by omega)
theorem fauF_again {n : Nat} : ∀ {k : Nat} {ls : List Str}, (∀ l ∈ ls, goodL l = true) → 0 < k + ls.length → k + ls.length + 1 = n → n ≤ 12 → fauF n k (ls ++ [("again" : Str)]) = 0
  | k, [], _, h0, hn, hl => by
    rw [List.length_nil] at h0 hn
    rw [List.nil_append, fauF, if_neg (by omega), if_pos (.inr ⟨rfl, by omega, by omega⟩)]; rfl
  | k, l :: ls, h, h0, hn, hl => by
    rw [List.length_cons] at hn
    rw [List.cons_append, fauF, if_neg (by omega), if_pos (.inl (h l List.mem_cons_self))]
    exact fauF_again (fun x hx => h x (List.mem_cons_of_mem _ hx)) (by omega) (by omega) hl
theorem fauF_all {n : Nat} : ∀ {k : Nat} {ls : List Str}, fauF n k ls = 0 → ∀ j l, ls[j]? = some l → goodL l = true ∨ (l = "again" ∧ k + j + 1 = n ∧ 0 < k + j)
  | k, [], _, j, l, hj => by simp at hj
  | k, x :: xs, h, j, l, hj => by
    rw [fauF] at h
    split at h
    · cases h
    · split at h
      · rename_i h1
        cases j with
        | zero => cases hj; exact h1.imp_right fun z => ⟨z.1, by omega, by omega⟩
        | succ j =>
          have := fauF_all h j l (by simpa using hj)
          exact this.imp_right fun z => ⟨z.1, by omega, by omega⟩
      · cases h
theorem fau_ne {ls : List Str} {j : Nat} {l : Str} (hj : ls[j]? = some l) (hg : goodL l = false) (hb : l = "again" → j + 1 ≠ ls.length ∨ j = 0) : fau ls ≠ 0 := fun h => by
  rcases fauF_all h j l hj with z | ⟨z1, z2, z3⟩
  · rw [hg] at z; cases z
  · rcases hb z1 with q | q <;> omega
def BadT (T : Str) : Prop := T.length ≤ 900000 ∧ (∀ l ∈ Txt.split T "\n", l.length ≤ 9000) ∧ fau (Txt.split T "\n") ≠ 0
theorem again_bad : goodL "again" = false := by decide +kernel
theorem empty_bad : goodL "" = false := by decide +kernel
theorem bad_lines {ls : List Str} {B N : Nat} (hne : ls ≠ []) (hw : Wd B N ls) (hb : B ≤ 5000) (hN : N ≤ 150) (h : fau ls ≠ 0) : BadT (Txt.join "\n" ls) := by
  have hsp : Txt.split (Txt.join "\n" ls) "\n" = ls := split_join_nl hne fun y hy => (hw.2 y hy).2
  refine ⟨?_, ?_, ?_⟩
  · have := join_len (s := "\n") fun y hy => (hw.2 y hy).1
    have h1 := hw.1
    have h2 : ls.length * (B + (Str.ofString "\n").length) ≤ 150 * (5000 + 1) := Nat.mul_le_mul (by omega) (by rw [nl_len]; omega)
    omega
  · rw [hsp]; intro l hl; have := (hw.2 l hl).1; omega
  · rw [hsp]; exact h
theorem join_snoc : ∀ {ls : List Str}, ls ≠ [] → Txt.join "\n" (ls ++ [("" : Str)]) = Txt.join "\n" ls ++ "\n" := by
  intro ls h
  refine TL.ext_tl ?_
  rw [TL.join_eq, TL.join_eq, TL.tl_append]
  induction ls with
  | nil => exact absurd rfl h
  | cons a l ih =>
    cases l with
    | nil =>
      show TL.tl (a ++ "\n" ++ Str.join "\n" [("" : Str)]) = _
      rw [TL.tl_append, TL.tl_append]
      simp only [Str.join]
      rw [show TL.tl (Str.ofString "") = [] from by decide +kernel, List.append_nil]
    | cons b l =>
      show TL.tl (a ++ "\n" ++ Str.join "\n" (b :: l ++ [("" : Str)])) = TL.tl (a ++ "\n" ++ Str.join "\n" (b :: l)) ++ _
      rw [TL.tl_append, TL.tl_append (a ++ "\n"), ih (by simp), List.append_assoc]
theorem join_cons {ls : List Str} (h : ls ≠ []) : Txt.join "\n" ("" :: ls) = "\n" ++ Txt.join "\n" ls := by
  obtain ⟨a, l, rfl⟩ := List.exists_cons_of_ne_nil h
  refine TL.ext_tl ?_
  rw [TL.join_eq, TL.join_eq]
  show TL.tl ("" ++ "\n" ++ Str.join "\n" (a :: l)) = _
  rw [TL.tl_append, TL.tl_append, TL.tl_append, show TL.tl (Str.ofString "") = [] from by decide +kernel, List.nil_append]
theorem bads {ls : List Str} (hne : ls ≠ []) (hw : Wd 30 12 ls) : BadT (Txt.join "\n" ls ++ "\n") ∧ BadT (Txt.join "\n" (ls ++ [("again" : Str), "again"])) ∧ BadT "" ∧ BadT "again" ∧ BadT ("\n" ++ Txt.join "\n" ls) := by
  have Lag : Ln 30 (Str.ofString "again") := ⟨by decide +kernel, by decide +kernel⟩
  have Lem : Ln 30 (Str.ofString "") := ⟨by decide +kernel, by decide +kernel⟩
  have hl : 0 < ls.length := List.length_pos_iff.mpr hne
  refine ⟨?_, ?_, ?_, ?_, ?_⟩
  · rw [← join_snoc hne]
    refine bad_lines (B := 30) (N := 13) (by simp) (hw.app (Wd.one Lem)) (by omega) (by omega) (fau_ne (j := ls.length) (l := "") (by simp) empty_bad fun z => ?_)
    exact absurd z (by decide +kernel)
  · have W := (hw.app (Wd.one Lag)).app (Wd.one Lag)
    rw [List.append_assoc] at W
    refine bad_lines (B := 30) (N := 14) (by simp) W (by omega) (by omega) (fau_ne (j := ls.length) (l := "again") (by simp) again_bad fun _ => .inl (by simp))
  · exact ⟨by decide +kernel, by decide +kernel, by decide +kernel⟩
  · exact ⟨by decide +kernel, by decide +kernel, by decide +kernel⟩
  · rw [← join_cons hne]
    exact bad_lines (by simp) ((Wd.one Lem).app hw) (by omega) (by omega) (fau_ne (j := 0) (l := "") (by simp) empty_bad fun _ => .inr rfl)
theorem dig6 {row : List Int} (h : Dig row [16, 840, 12, 4, 12, 5]) : ∃ a b c d e f : Int, row = [a, b, c, d, e, f] ∧ Dig [a, b, c, d, e] [16, 840, 12, 4, 12] := by
  match row, h with
  | [a, b, c, d, e, f], h => exact ⟨a, b, c, d, e, f, rfl, h.1, h.2.1, h.2.2.1, h.2.2.2.1, h.2.2.2.2.1, trivial⟩
theorem dig5 {row : List Int} (h : Dig row [16, 840, 12, 4, 12]) : ∃ a b c d e : Int, row = [a, b, c, d, e] ∧ Dig [a, b, c, d, e] [16, 840, 12, 4, 12] := by
  match row, h with
  | [a, b, c, d, e], h => exact ⟨a, b, c, d, e, rfl, h⟩
theorem dig4 {row : List Int} {s1 s2 s3 s4 : Int} (h : Dig row [s1, s2, s3, s4]) : ∃ a b c d : Int, row = [a, b, c, d] ∧ Dig [a, b, c, d] [s1, s2, s3, s4] := by
  match row, h with
  | [a, b, c, d], h => exact ⟨a, b, c, d, rfl, h⟩
theorem dig2 {row : List Int} {s1 s2 : Int} (h : Dig row [s1, s2]) : ∃ a b : Int, row = [a, b] ∧ (0 ≤ a ∧ a < s1) ∧ 0 ≤ b ∧ b < s2 := by
  match row, h with
  | [a, b], h => exact ⟨a, b, rfl, h.1, h.2.1⟩
theorem loop2 {n : Nat} {ns : List Int} {x y : Option D} {ls : List Str} (hne : ls ≠ []) (hw : Wd 30 12 ls) (c d e f g : Option D) :
    ∃ r, forL (fun _ => true) (Tg.nm 4) (evalSs (semN P (n + 4)) false b18_2) ((List.range 7).map fun (k : Nat) => D.int k) [some (.scr ns), x, y, some (.lst true (ls.map D.str)), c, d, e, f, g] = some r ∧
      ∃ c d e f g : Option D, r = (.nx, [some (.scr ns), x, y, some (.lst true (ls.map D.str)), c, d, e, f, g]) := by
  refine forL_inv (fun _ ρ => ∃ c d e f g : Option D, ρ = [some (.scr ns), x, y, some (.lst true (ls.map D.str)), c, d, e, f, g]) _ (n := 0) ?_ ?_ ⟨c, d, e, f, g, rfl⟩
  · rintro k v ρ hk ⟨c, d, e, f, g, rfl⟩
    obtain ⟨hk, rfl⟩ := range_get hk
    refine ⟨rfl, _, rfl, fun N' Q' hN' hQ' => ?_⟩
    obtain ⟨c1, e1⟩ := f5 (n := n + 3) ns (13 + (k : Int)) (by omega) (by omega)
    obtain ⟨row1, e2, hD1⟩ := f6 (n := n + 3) (c := c1) (ss := [16, 840, 12, 4, 12, 5]) ⟨by decide, by decide⟩
    obtain ⟨k1, a1, p1, q1, r1, t1, rfl, hd1⟩ := dig6 hD1
    obtain ⟨o1, e3, hne1, W1⟩ := f15 (n := n + 1) (rest := [.int t1]) hne hw (by omega) (by omega) (by omega) hd1 (by simp)
    obtain ⟨c2, e4⟩ := f5 (n := n + 3) ns (20 + (k : Int)) (by omega) (by omega)
    obtain ⟨row2, e5, hD2⟩ := f6 (n := n + 3) (c := c2) (ss := [16, 840, 12, 4, 12]) ⟨by decide, by decide⟩
    obtain ⟨k2, a2, p2, q2, r2, rfl, hd2⟩ := dig5 hD2
    obtain ⟨o2, e6, hne2, W2⟩ := f15 (n := n + 1) (rest := []) hne1 W1 (by omega) (by omega) (by omega) hd2 (by simp)
    have head : ∃ (o : List Str) (c : Option D), o ≠ [] ∧ Wd 5000 150 o ∧ ∀ R : List Sx, evalSs (semN P (n + 4)) false (.set 5 (.call 6 [.call 5 [.var 0, .bin .add (.int 13) (.var 4)], .lst [.int 16, .int 840, .int 12, .int 4, .int 12, .int 5]]) ::
        .set 6 (.call 15 [.var 3, .var 5]) :: .ite (.e (.cmp .eq (.idx (.var 5) (.int 5)) (.int 0))) [.set 6 (.call 15 [.var 6, .call 6 [.call 5 [.var 0, .bin .add (.int 20) (.var 4)], .lst [.int 16, .int 840, .int 12, .int 4, .int 12]]])] [] :: R)
        [some (.scr ns), x, y, some (.lst true (ls.map D.str)), some (.int k), d, e, f, g] = evalSs (semN P (n + 4)) false R [some (.scr ns), x, y, some (.lst true (ls.map D.str)), some (.int k), c, some (.lst true (o.map D.str)), f, g] := by
      simp only [List.map_cons, List.map_nil] at e2 e5
      by_cases ht : t1 = 0
      · subst ht
        refine ⟨o2, some (.lst true [.int k1, .int a1, .int p1, .int q1, .int r1, .int 0]), hne2, W2.mono (by omega) (by omega), fun R => ?_⟩
        simp [e1, e2, e3, e4, e5, e6]
      · refine ⟨o1, some (.lst true [.int k1, .int a1, .int p1, .int q1, .int r1, .int t1]), hne1, W1.mono (by omega) (by omega), fun R => ?_⟩
        simp [e1, e2, e3, ht]
    obtain ⟨o, c, hno, Wo, hd⟩ := head
    have hl := Wo.1
    have hfit := bm_join (o := false) (Wo.fits (by omega) (by omega) "\n" (by rw [nl_len]; exact Nat.le_refl 1))
    have hlen : (Txt.join "\n" o).length ≤ 900000 := by
      have := join_len (s := "\n") fun y hy => (Wo.2 y hy).1
      have h2 : o.length * (5000 + (Str.ofString "\n").length) ≤ 150 * (5000 + 1) := Nat.mul_le_mul (by omega) (by rw [nl_len]; omega)
      omega
    have hsp : Txt.split (Txt.join "\n" o) "\n" = o := split_join_nl hno fun y hy => (Wo.2 y hy).2
    have hs9 : ∀ l ∈ o, l.length ≤ 9000 := fun l hl => by have := (Wo.2 l hl).1; omega
    have g12 := f12 (n := n + 1) hlen hsp fun l hl => by have := hs9 l hl; omega
    have g16 := f16 (n := n + 1) hlen hsp hs9
    show Wp (evalSs (semN P (n + 4)) false b18_2 [some (.scr ns), x, y, some (.lst true (ls.map D.str)), some (.int k), d, e, f, g]) N' Q'
    unfold b18_2
    rw [hd]
    by_cases hf : fau o = 0
    · have g17 := f17 (n := n) hno Wo (by omega) (by omega) hf
      rw [hf] at g12 g16
      simp [hfit, g12, g16, g17]
      exact hN' _ ⟨_, _, _, _, _, rfl⟩
    · have hf2 : ¬ ((fau o : Int) = 0) := by omega
      simp [hfit, g12, g16, hf]
      exact hN' _ ⟨_, _, _, _, _, rfl⟩
  · rintro ρ ⟨c, d, e, f, g, rfl⟩
    exact ⟨rfl, c, d, e, f, g, rfl⟩
theorem loop3 {n : Nat} {x y z u v w g k t0 : Option D} {ts : List Str} (h : ∀ T ∈ ts, BadT T) :
    ∃ r, forL (fun _ => true) (Tg.nm 7) (evalSs (semN P (n + 3)) false b18_3) (ts.map D.str) [x, y, z, u, v, w, g, t0, k] = some r ∧ ∃ t, r = (.nx, [x, y, z, u, v, w, g, t, k]) := by
  refine forL_inv (fun _ ρ => ∃ t, ρ = [x, y, z, u, v, w, g, t, k]) _ (n := 0) ?_ ?_ ⟨t0, rfl⟩
  · rintro j d ρ hd ⟨t, rfl⟩
    obtain ⟨T, hT, rfl⟩ := strs_get hd
    obtain ⟨b1, b2, b3⟩ := h T (List.mem_of_getElem? hT)
    refine ⟨rfl, _, rfl, fun N' Q' hN' hQ' => ?_⟩
    have g12 := f12 (n := n) b1 rfl fun l hl => by have := b2 l hl; omega
    have g16 := f16 (n := n) b1 rfl b2
    simp [b18_3, g12, g16, b3]
    exact hN' _ ⟨_, rfl⟩
  · rintro ρ ⟨t, rfl⟩
    exact ⟨rfl, t, rfl⟩
def sizesL : List Int := [1, 2, 3, 1, 12, 4, 2, 3, 11, 1, 5, 2, 8, 3, 1, 12, 6, 2, 4, 10, 3, 9, 7, 2]
theorem loop1 {n : Nat} {ns : List Int} {x y : Option D} {m : Nat} (hm : m ≤ 12) :
    ∃ r, forL (fun _ => true) (Tg.nm 4) (evalSs (semN P (n + 4)) false b18_1) ((List.range m).map fun (k : Nat) => D.int k) [some (.scr ns), x, y, some (.lst true []), none, none, none, none, none] = some r ∧
      ∃ (ls : List Str) (c : Option D), ls.length = m ∧ (∀ l ∈ ls, goodL l = true) ∧ Wd 30 m ls ∧ r = (.nx, [some (.scr ns), x, y, some (.lst true (ls.map D.str)), c, none, none, none, none]) := by
  refine forL_inv (fun k ρ => ∃ (ls : List Str) (c : Option D), ls.length = k ∧ (∀ l ∈ ls, goodL l = true) ∧ (∀ l ∈ ls, Ln 30 l) ∧ ρ = [some (.scr ns), x, y, some (.lst true (ls.map D.str)), c, none, none, none, none]) _ (n := 0) ?_ ?_ ⟨[], none, rfl, by simp, by simp, rfl⟩
  · rintro k v ρ hk ⟨ls, c, hl, hg, hL, rfl⟩
    obtain ⟨hk, rfl⟩ := range_get hk
    refine ⟨rfl, _, rfl, fun N' Q' hN' hQ' => ?_⟩
    obtain ⟨c1, e1⟩ := f5 (n := n + 3) ns (1 + (k : Int)) (by omega) (by omega)
    obtain ⟨row1, e2, hD1⟩ := f6 (n := n + 3) (c := c1) (ss := [2, 9, 2, 5]) ⟨by decide, by decide⟩
    obtain ⟨a, b, c', d, rfl, hd⟩ := dig4 hD1
    obtain ⟨ws, e3, hgood, hne, hws, hwl⟩ := f10 (n := n + 2) hd
    have Wd4 : Wd 6 4 ws := ⟨by omega, fun w hw => (hws w hw).1⟩
    have j := join_go (o := true) Wd4 (by omega) (by omega)
    simp only [List.map_cons, List.map_nil] at e2
    have hll : ls.length ≤ 1000000 := by omega
    have hj : goodL (Txt.join " " ws) = true := by
      unfold goodL; rw [split_join_sp hne fun w hw => (hws w hw).2]; exact hgood
    simp [b18_1, e1, e2, e3, j, hll]
    refine hN' _ ⟨ls ++ [Txt.join " " ws], _, by simp; omega, ?_, ?_, by simp; rfl⟩
    · intro l hl
      rcases List.mem_append.mp hl with h | h
      · exact hg l h
      · rw [List.mem_singleton.mp h]; exact hj
    · intro l hl
      rcases List.mem_append.mp hl with h | h
      · exact hL l h
      · rw [List.mem_singleton.mp h]; exact Wd4.join.mono (by omega)
  · rintro ρ ⟨ls, c, hl, hg, hL, rfl⟩
    rw [Nat.zero_add, List.length_map, List.length_range] at hl
    exact ⟨rfl, ls, c, hl, hg, ⟨by omega, hL⟩, rfl⟩
theorem tail {n : Nat} {ns : List Int} {x y c : Option D} {ls : List Str} (hne : ls ≠ []) (hw : Wd 30 12 ls) (hf : fau ls = 0) :
    outOf (evalSs (semN P (n + 4)) false (b18.body.drop 5) [some (.scr ns), x, y, some (.lst true (ls.map D.str)), c, none, none, none, none]) = some (.ret (.bl true)) := by
  have hl := hw.1
  have hfit := bm_join (o := false) (hw.fits (by omega) (by omega) "\n" (by rw [nl_len]; exact Nat.le_refl 1))
  have hlen : (Txt.join "\n" ls).length ≤ 900000 := by
    have := join_len (s := "\n") fun y hy => (hw.2 y hy).1
    have h2 : ls.length * (30 + (Str.ofString "\n").length) ≤ 150 * (5000 + 1) := Nat.mul_le_mul (by omega) (by rw [nl_len]; omega)
    omega
  have hsp : Txt.split (Txt.join "\n" ls) "\n" = ls := split_join_nl hne fun y hy => (hw.2 y hy).2
  have hs9 : ∀ l ∈ ls, l.length ≤ 9000 := fun l hl => by have := (hw.2 l hl).1; omega
  have g12 := f12 (n := n + 1) hlen hsp fun l hl => by have := hs9 l hl; omega
  rw [hf] at g12
  have g17 := f17 (n := n) hne hw (by omega) (by omega) hf
  obtain ⟨r2, h2, c2, d2, e2, k2, g2, rfl⟩ := loop2 (n := n) (ns := ns) (x := x) (y := y) hne hw c none none none none
  have Lag : Ln 30 (Str.ofString "again") := ⟨by decide +kernel, by decide +kernel⟩
  have W2 := (hw.app (Wd.one Lag)).app (Wd.one Lag)
  rw [List.append_assoc] at W2
  have hfit2 := bm_join (o := true) (W2.fits (by omega) (by omega) "\n" (by rw [nl_len]; exact Nat.le_refl 1))
  obtain ⟨t1, t2, t3, t4, t5⟩ := bads hne hw
  obtain ⟨r3, h3, t, rfl⟩ := loop3 (n := n + 1) (x := some (.scr ns)) (y := x) (z := y) (u := some (.lst true (ls.map D.str))) (v := c2) (w := d2) (g := e2) (t0 := k2) (k := g2) (ts := [Txt.join "\n" ls ++ "\n", Txt.join "\n" (ls ++ [("again" : Str), "again"]), "", "again", "\n" ++ Txt.join "\n" ls]) (by
    intro T hT
    simp only [List.mem_cons, List.not_mem_nil, or_false] at hT
    rcases hT with rfl | rfl | rfl | rfl | rfl <;> assumption)
  have a1 : (Txt.join "\n" ls).length + (Str.ofString "\n").length ≤ 1000000 := by rw [nl_len]; omega
  have a2 : (Str.ofString "\n").length + (Txt.join "\n" ls).length ≤ 1000000 := by rw [nl_len]; omega
  have a3 : ls.length + 2 ≤ 1000000 := by omega
  have n7a := new7 (n := n + 3) (wss := []) (by simp)
  have n7b := new7 (n := n + 3) (wss := [["x"], []]) (by simp)
  have s7a := f7st (n := n + 1) (wss := []) (by simp) (by simp)
  have s7b := f7st (n := n + 1) (wss := [["x"], []]) (by simp) (by simp)
  simp only [rule, steps, lstS, tupS, List.map_cons, List.map_nil] at n7a n7b s7a s7b h3
  simp at hfit2
  simp [b18, hfit, hfit2, g12, g17, h2, h3, a1, a2, a3, n7a, n7b, s7a, s7b]
theorem law_at {n : Nat} (ns : List Int) (hns : ns.length ≤ 63) : (semN P (n + 5)).fn false 18 [.scr ns] = some (.ret (.bl true)) := by
  rw [fn_at (fd := b18) rfl rfl]
  obtain ⟨c1, e1⟩ := f5 (n := n + 3) ns 0 (by omega) (by omega)
  obtain ⟨row1, e2, hD1⟩ := f6 (n := n + 3) (c := c1) (ss := [24, 2]) ⟨by decide, by decide⟩
  obtain ⟨r0, r1, rfl, ⟨a1, a2⟩, b1, b2⟩ := dig2 hD1
  obtain ⟨s, hs, e3⟩ := pick_int sizesL (i := r0) a1 a2
  have hs2 := (show ∀ s ∈ sizesL, 1 ≤ s ∧ s ≤ 12 by decide) s hs
  simp only [sizesL, List.length_cons, List.length_nil, List.map_cons, List.map_nil, Nat.reduceAdd] at e2 e3
  -- the number of lines
  obtain ⟨m, hm⟩ : ∃ m : Nat, (m : Int) = s - r1 * (if 1 < s then 1 else 0) := by
    have hb : r1 = 0 ∨ r1 = 1 := by omega
    refine ⟨(s - r1 * (if 1 < s then 1 else 0)).toNat, ?_⟩
    rcases hb with rfl | rfl <;> split <;> omega
  have hm2 : 1 ≤ m ∧ m ≤ 12 ∧ (r1 = 1 ∧ 1 < s → m ≤ 11) := by
    have hb : r1 = 0 ∨ r1 = 1 := by omega
    rcases hb with rfl | rfl <;> split at hm <;> omega
  obtain ⟨r, h1, ls, c, hl, hg, hw, rfl⟩ := loop1 (n := n) (ns := ns) (x := some (.lst true [.int r0, .int r1])) (y := some (.lst true (sizesL.map D.int))) hm2.2.1
  have hz : Sm m := sm_of (by omega)
  have hk1 : mulOk r1 (if 1 < s then 1 else 0) = true := by
    unfold mulOk; rw [decide_eq_true_eq]; refine .inl ?_; omega
  have body : b18.body = b18.body.take 5 ++ b18.body.drop 5 := (List.take_append_drop 5 _).symm
  simp only [sizesL, List.map_cons, List.map_nil] at h1
  have hne : ls ≠ [] := fun z => by rw [z] at hl; simp at hl; omega
  by_cases hc : r1 = 1 ∧ 1 < s
  · have hll : ls.length ≤ 1000000 := by omega
    have Lag : Ln 30 (Str.ofString "again") := ⟨by decide +kernel, by decide +kernel⟩
    have key := tail (n := n) (ns := ns) (x := some (.lst true [.int r0, .int r1])) (y := some (.lst true (sizesL.map D.int))) (c := c) (ls := ls ++ [("again" : Str)]) (by simp) ((hw.app (Wd.one Lag)).mono (Nat.le_refl _) (by have := hm2.2.2 hc; omega))
      (fauF_again hg (by omega) (by simp) (by simp; have := hm2.2.2 hc; omega))
    obtain ⟨rfl, hc2⟩ := hc
    have hc3 : s - 1 = (m : Int) := by rw [if_pos hc2] at hm; omega
    simp only [sizesL, List.map_cons, List.map_nil] at key
    simp [b18] at key
    simp [b18, e1, e2, e3, hc2, h1, hz, hc3, hll, mulOk, key]
  · have key := tail (n := n) (ns := ns) (x := some (.lst true [.int r0, .int r1])) (y := some (.lst true (sizesL.map D.int))) (c := c) (ls := ls) hne (hw.mono (Nat.le_refl _) hm2.2.1) (fauF_zero hg (by omega))
    simp only [sizesL, List.map_cons, List.map_nil] at key
    simp [b18] at key
    have hb : r1 = 0 ∨ r1 = 1 := by omega
    rcases hb with rfl | rfl
    · have hc3 : s = (m : Int) := by rw [hm]; split <;> omega
      subst hc3
      simp [b18, e1, e2, e3, h1, hz, mulOk, key]
    · have hc2 : ¬ 1 < s := fun z => hc ⟨rfl, z⟩
      have hc3 : s = (m : Int) := by rw [hm, if_neg hc2]; omega
      subst hc3
      have hc4 : ¬ 1 < m := by omega
      simp [b18, e1, e2, e3, h1, hz, mulOk, hc2, hc4, key]
theorem law_true : ∀ ns : List Int, ns.length ≤ 63 → (semN P (10 + 1)).fn false 18 [.scr ns] = some (.ret (.bl true)) := fun ns h => law_at (n := 6) ns h
end K80
set_option Elab.async false
set_option linter.all false
set_option maxRecDepth 100000
set_option maxHeartbeats 4000000
/-! K80H: the head of law_k80_rule_texts, printed by gen.py. -/
open PySem PySem.W PyProof.Rows
set_option maxRecDepth 100000 in
set_option maxHeartbeats 0 in
theorem PySem.Challenge.cw_anymap_k80_rule_texts_holds : PySem.Challenge.rw_anymap_k80_rule_texts.Holds := by
  w_on; o_law; k_head; (case hw => w_witness2)
  k_fill
  refine SL.walk_law (l := PySem.Challenge.rw_anymap_k80_rule_texts) (k := 2 * (10 + 1) + 1) rfl rfl ⟨rfl, by decide, by decide⟩ (fun w h Y => PySem.W.kIn_of Y) ?F
  case F =>
    intro w mg fa h KX G hmg
    refine' K80.all_mk (l := PySem.Challenge.rw_anymap_k80_rule_texts) K80.law_true KX G hmg ?nc0 ?nc1 ?nc2 ?nc3 ?nc4 ?nc5 ?nc6 ?nc7 ?a0 ?d0 ?a1 ?d1 ?a2 ?d2 ?a3 ?d3 ?a4 ?d4 ?a5 ?d5 ?a6 ?d6 ?a7 ?d7 ?a8 ?d8 ?a9 ?d9 ?a10 ?d10 ?a11 ?d11 ?a12 ?d12 ?a13 ?d13 ?a14 ?d14 ?a15 ?d15 ?a16 ?d16 ?a17 ?d17 ?a18 ?d18 ?k4 ?k7 ?mk7 ?xa4 ?xd4 ?xl4 ?xr4 ?xb4 ?ki0 ?ki1 ?ki2 ?ki3 ?ki4 ?ki5 ?ki6 ?xk0 ?xk1 ?xk2 ?xk3 ?xk4 ?xk5 ?xk6 ?xk7 ?ex0 ?gm0 ?gm1 ?gm2 ?gm3 ?gm4 ?gl0 ?gz0 ?gv0 ?gl1 ?gz1 ?gv1 ?gl2 ?gz2 ?gv2 ?gl3 ?gz3 ?gv3 ?nb
    (case nc0 => k_is)
    (case nc1 => k_is)
    (case nc2 => k_is)
    (case nc3 => k_is)
    (case nc4 => k_is)
    (case nc5 => k_is)
    (case nc6 => k_is)
    (case nc7 => k_is)
    (case a0 => k_is)
    (case d0 => refine' SL.defK ?l ?c ?k; (case l => k_is); (case c => k_is); (case k => k_is))
    (case a1 => k_is)
    (case d1 => refine' SL.defK ?l ?c ?k; (case l => k_is); (case c => k_is); (case k => k_is))
    (case a2 => k_is)
    (case d2 => refine' SL.defK ?l ?c ?k; (case l => k_is); (case c => k_is); (case k => k_is))
    (case a3 => k_is)
    (case d3 => refine' SL.defK ?l ?c ?k; (case l => k_is); (case c => k_is); (case k => k_is))
    (case a4 => k_is)
    (case d4 => refine' SL.defK ?l ?c ?k; (case l => k_is); (case c => k_is); (case k => k_is))
    (case a5 => k_is)
    (case d5 => refine' SL.defK ?l ?c ?k; (case l => k_is); (case c => k_is); (case k => k_is))
    (case a6 => k_is)
    (case d6 => refine' SL.defK ?l ?c ?k; (case l => k_is); (case c => k_is); (case k => k_is))
    (case a7 => k_is)
    (case d7 => refine' SL.defK ?l ?c ?k; (case l => k_is); (case c => k_is); (case k => k_is))
    (case a8 => k_is)
    (case d8 => refine' SL.defK ?l ?c ?k; (case l => k_is); (case c => k_is); (case k => k_is))
    (case a9 => k_is)
    (case d9 => refine' SL.defK ?l ?c ?k; (case l => k_is); (case c => k_is); (case k => k_is))
    (case a10 => k_is)
    (case d10 => refine' SL.defK ?l ?c ?k; (case l => k_is); (case c => k_is); (case k => k_is))
    (case a11 => k_is)
    (case d11 => refine' SL.defK ?l ?c ?k; (case l => k_is); (case c => k_is); (case k => k_is))
    (case a12 => k_is)
    (case d12 => refine' SL.defK ?l ?c ?k; (case l => k_is); (case c => k_is); (case k => k_is))
    (case a13 => k_is)
    (case d13 => refine' SL.defK ?l ?c ?k; (case l => k_is); (case c => k_is); (case k => k_is))
    (case a14 => k_is)
    (case d14 => refine' SL.defK ?l ?c ?k; (case l => k_is); (case c => k_is); (case k => k_is))
    (case a15 => k_is)
    (case d15 => refine' SL.defK ?l ?c ?k; (case l => k_is); (case c => k_is); (case k => k_is))
    (case a16 => k_is)
    (case d16 => refine' SL.defK ?l ?c ?k; (case l => k_is); (case c => k_is); (case k => k_is))
    (case a17 => k_is)
    (case d17 => refine' SL.defK ?l ?c ?k; (case l => k_is); (case c => k_is); (case k => k_is))
    (case a18 => k_is)
    (case d18 => refine' SL.defK ?l ?c ?k; (case l => k_is); (case c => k_is); (case k => k_is))
    (case k4 => kernel_rfl)
    (case k7 => kernel_rfl)
    (case mk7 => kernel_rfl)
    (case xa4 => k_is)
    (case xd4 => refine' SL.defK ?l ?c ?k; (case l => k_is); (case c => k_is); (case k => k_is))
    (case xl4 => k_is)
    (case xr4 => kernel_rfl)
    (case xb4 => kernel_rfl)
    (case ki0 => kernel_rfl)
    (case ki1 => kernel_rfl)
    (case ki2 => kernel_rfl)
    (case ki3 => kernel_rfl)
    (case ki4 => kernel_rfl)
    (case ki5 => kernel_rfl)
    (case ki6 => kernel_rfl)
    (case xk0 => kernel_rfl)
    (case xk1 => kernel_rfl)
    (case xk2 => kernel_rfl)
    (case xk3 => kernel_rfl)
    (case xk4 => kernel_rfl)
    (case xk5 => kernel_rfl)
    (case xk6 => kernel_rfl)
    (case xk7 => kernel_rfl)
    (case ex0 => kernel_rfl)
    (case gm0 => k_is)
    (case gm1 => k_is)
    (case gm2 => k_is)
    (case gm3 => k_is)
    (case gm4 => k_is)
    (case gl0 => k_is)
    (case gz0 => show _ ≤ _; decide)
    (case gv0 => repeat (first | exact .nil | refine SL.vals_str ?_ | refine SL.vals_int ?_ | refine .cons rfl ?_))
    (case gl1 => k_is)
    (case gz1 => show _ ≤ _; decide)
    (case gv1 => repeat (first | exact .nil | refine SL.vals_str ?_ | refine SL.vals_int ?_ | refine .cons rfl ?_))
    (case gl2 => k_is)
    (case gz2 => show _ ≤ _; decide)
    (case gv2 => repeat (first | exact .nil | refine SL.vals_str ?_ | refine SL.vals_int ?_ | refine .cons rfl ?_))
    (case gl3 => k_is)
    (case gz3 => show _ ≤ _; decide)
    (case gv3 => repeat (first | exact .nil | refine SL.vals_str ?_ | refine SL.vals_int ?_ | refine .cons rfl ?_))
    (case nb => kernel_rfl)
